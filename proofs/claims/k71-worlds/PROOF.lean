import PyProof.Rows.All
import Wide.All
import OpenK.AllK
import Wide.FinOn
import HandS.ForMost
import HandS.Flt
import HandS.RaiseMore
import HandS.Wide
import HandS.TupAny
import HandS.Codes
import HandS.Conv
import PyProof.ListStr
import HandS.SortInts
import PySem.Challenge.RW_everycoin_k71_faults_of_worlds
set_option Elab.async false
set_option linter.all false
set_option maxRecDepth 100000
namespace Go
open PySem PySem.Spec PyProof.Rows L2
/-- kept but for st -/
def Kp (st : Addr) (H H' : Hp) : Prop := ∀ b o, b ≠ st → H b = some o → H' b = some o
theorem Kp.refl (st : Addr) (H : Hp) : Kp st H H := fun _ _ _ h => h
theorem Kp.trans {st : Addr} {H H1 H2 : Hp} (a : Kp st H H1) (b : Kp st H1 H2) : Kp st H H2 := fun c o n h => b c o n (a c o n h)
theorem Kp.new {st p : Addr} {H H1 : Hp} {o : HO} (a : Kp st H H1) (h : H1 p = none) : Kp st H (upd H1 p o) := fun b u n e => by
  rw [upd_ne (ne_of_none (a b u n e) h)]; exact a b u n e
theorem Kp.at {st : Addr} {H H1 : Hp} {o : HO} (a : Kp st H H1) : Kp st H (upd H1 st o) := fun b u n e => by
  rw [upd_ne n]; exact a b u n e
theorem Kp.mut {st p : Addr} {H H1 : Hp} {o : HO} (a : Kp st H H1) (h : H p = none) : Kp st H (upd H1 p o) := fun b u n e => by
  rw [upd_ne (ne_of_none e h)]; exact a b u n e
theorem Kp.of_same {st : Addr} {H H1 : Hp} (a : Same H H1) : Kp st H H1 := fun b u _ e => a b u e
theorem Same.new {p : Addr} {H H1 : Hp} {o : HO} (a : Same H H1) (h : H1 p = none) : Same H (upd H1 p o) := fun b u e => by
  rw [upd_ne (ne_of_none (a b u e) h)]; exact a b u e
theorem Same.mut {p : Addr} {H H1 : Hp} {o : HO} (a : Same H H1) (h : H p = none) : Same H (upd H1 p o) := fun b u e => by
  rw [upd_ne (ne_of_none e h)]; exact a b u e
theorem ne_fr {H : Hp} {a b : Addr} {o : HO} (h : H b = none) (e : H a = some o) : a ≠ b := ne_of_none e h
theorem free_upd {H : Hp} {p q : Addr} {o : HO} (h : upd H p o q = none) : H q = none ∧ q ≠ p := by
  by_cases e : q = p
  · rw [e, upd_same] at h; cases h
  · rw [upd_ne e] at h; exact ⟨h, e⟩
theorem at_upd {H : Hp} {p q : Addr} {o : HO} {u : Option HO} (n : q ≠ p) (h : H q = u) : upd H p o q = u := by rw [upd_ne n]; exact h
section
variable {K : PySem.W.Frag} {H H1 : Hp} {a p st : Addr} {o : HO} {xs : List V}
theorem sqL_ext (k : ∀ u, H a = some u → H1 a = some u) (h : SqL K H a xs) : SqL K H1 a xs := by
  rcases h with (h | ⟨o, h⟩) | h
  · exact .inl (.inl (k _ h))
  · exact .inl (.inr ⟨o, k _ h⟩)
  · exact .inr h
theorem sqT_ext (k : ∀ u, H a = some u → H1 a = some u) (h : SqT K H a xs) : SqT K H1 a xs := by
  rcases h with (h | ⟨o, h⟩) | h
  · exact .inl (.inl (k _ h))
  · exact .inl (.inr ⟨o, k _ h⟩)
  · exact .inr h
theorem sqL_new (n : H p = none) (h : SqL K H a xs) : SqL K (upd H p o) a xs := sqL_ext (fun u e => at_upd (ne_of_none e n) e) h
theorem sqT_new (n : H p = none) (h : SqT K H a xs) : SqT K (upd H p o) a xs := sqT_ext (fun u e => at_upd (ne_of_none e n) e) h
theorem sqL_ne (n : a ≠ p) (h : SqL K H a xs) : SqL K (upd H p o) a xs := sqL_ext (fun u e => at_upd n e) h
theorem sqT_ne (n : a ≠ p) (h : SqT K H a xs) : SqT K (upd H p o) a xs := sqT_ext (fun u e => at_upd n e) h
theorem sqL_same (s : Same H H1) (h : SqL K H a xs) : SqL K H1 a xs := sqL_ext (fun u e => s _ _ e) h
theorem sqT_same (s : Same H H1) (h : SqT K H a xs) : SqT K H1 a xs := sqT_ext (fun u e => s _ _ e) h
theorem sqL_kp (s : Kp st H H1) (n : a ≠ st) (h : SqL K H a xs) : SqL K H1 a xs := sqL_ext (fun u e => s _ _ n e) h
theorem sqT_kp (s : Kp st H H1) (n : a ≠ st) (h : SqT K H a xs) : SqT K H1 a xs := sqT_ext (fun u e => s _ _ n e) h
end
theorem atI_some {α : Type} {xs : List α} {i : Int} (h0 : 0 ≤ i) (h1 : i < xs.length) : atI xs i = some (xs[i.toNat]'(by omega)) := by
  obtain ⟨j, rfl⟩ := Int.eq_ofNat_of_zero_le h0
  exact atI_nat (List.getElem?_eq_getElem (by omega))
theorem atI_map {α β : Type} {f : α → β} {xs : List α} {i : Int} (h0 : 0 ≤ i) (h1 : i < xs.length) : atI (xs.map f) i = some (f (xs[i.toNat]'(by omega))) := by
  rw [atI_some h0 (by rw [List.length_map]; exact h1), List.getElem_map]
theorem ixN_some {n : Nat} {i : Int} (h0 : 0 ≤ i) (h1 : i < n) : ixN n i = some i.toNat := by
  unfold ixN; rw [if_pos h0, if_pos h1]
/-- what is frozen stays -/
def Fz (H H' : Hp) : Prop := ∀ b o u, H b = some (.frz o u) → H' b = some (.frz o u)
theorem Fz.refl (H : Hp) : Fz H H := fun _ _ _ h => h
theorem Fz.trans {H H1 H2 : Hp} (a : Fz H H1) (b : Fz H1 H2) : Fz H H2 := fun c o u h => b c o u (a c o u h)
theorem Fz.new {H : Hp} {p : Addr} {o : HO} (h : H p = none) : Fz H (upd H p o) := fun b x u e => at_upd (ne_of_none e h) e
theorem Fz.set {H : Hp} {p : Addr} {o o' : HO} (h : H p = some o) (n : ∀ x u, o ≠ .frz x u) : Fz H (upd H p o') := fun b x u e => at_upd (fun z => by subst z; rw [h] at e; exact n _ _ (Option.some.inj e)) e
theorem Fz.setL {H : Hp} {p : Addr} {xs : List V} {o' : HO} (h : H p = some (.lst xs)) : Fz H (upd H p o') := Fz.set h fun _ _ z => nomatch z
theorem Fz.of_same {H H1 : Hp} (s : Same H H1) : Fz H H1 := fun b o u e => s b _ e
theorem Fz.of_kp {H H1 : Hp} {st : Addr} {xs : List V} (h : H st = some (.lst xs)) (k : Kp st H H1) : Fz H H1 := fun b o u e => k b _ (fun z => by subst z; rw [h] at e; cases e) e
/-- the state of the draws: [turns, rest] at st; the script may be read while what is frozen stays -/
def St (K : PySem.W.Frag) (H : Hp) (st sc : Addr) (ns : List Int) : Prop :=
  (∃ n s : Int, H st = some (.lst [.int n, .int s])) ∧ (∀ H', Fz H H' → SqL K H' sc (ns.map V.int)) ∧ ns.length ≤ 63
section
variable {K : PySem.W.Frag} {H H1 : Hp} {st sc l : Addr} {ns : List Int} {o : HO}
theorem St.to (S : St K H st sc ns) (f : Fz H H1) (e : H1 st = H st) : St K H1 st sc ns := by
  obtain ⟨⟨n, s, h⟩, h1, h3⟩ := S
  exact ⟨⟨n, s, by rw [e]; exact h⟩, fun H' k => h1 _ (f.trans k), h3⟩
theorem St.ne (S : St K H st sc ns) (h : H l = none) : l ≠ st := by
  obtain ⟨⟨n, s, e⟩, _⟩ := S
  exact (ne_of_none e h).symm
theorem St.new (S : St K H st sc ns) (h : H l = none) : St K (upd H l o) st sc ns := S.to (Fz.new h) (upd_ne (S.ne h).symm)
theorem St.same (S : St K H st sc ns) (s : Same H H1) : St K H1 st sc ns := by
  obtain ⟨n, x, e⟩ := S.1
  exact S.to (Fz.of_same s) (by rw [e]; exact s _ _ e)
theorem St.setL (S : St K H st sc ns) {xs : List V} (h : H l = some (.lst xs)) (n : l ≠ st) : St K (upd H l o) st sc ns := S.to (Fz.setL h) (upd_ne n.symm)
theorem St.kp (S : St K H st sc ns) (k : Kp st H H1) (e : ∃ n s : Int, H1 st = some (.lst [.int n, .int s])) : St K H1 st sc ns := by
  obtain ⟨n, s, h⟩ := S.1
  exact ⟨e, fun H' f => S.2.1 _ ((Fz.of_kp h k).trans f), S.2.2⟩
/-- the law's start: the script -/
theorem St.start (hl : ns.length ≤ 63) (hS : (∃ o, H sc = some (.frz o (.lst (ns.map V.int)))) ∨ ∀ H', SqL K H' sc (ns.map V.int)) (n : H st = none) : St K (upd H st (.lst [.int 0, .int 0])) st sc ns := by
  refine ⟨⟨0, 0, upd_same⟩, fun H' f => ?_, hl⟩
  rcases hS with ⟨o, h⟩ | h
  · exact .inl (.inr ⟨o, f _ _ _ (at_upd (ne_of_none h n) h)⟩)
  · exact h H'
end
/-- the promise of a law over a script -/
def spL (K : PySem.W.Frag) : Sp := fun vs H Q _ => ∃ (sc : Addr) (ns : List Int), vs = [.ref sc] ∧ ((∃ o, H sc = some (.frz o (.lst (ns.map V.int)))) ∨ ∀ H', SqL K H' sc (ns.map V.int)) ∧ ns.length ≤ 63 ∧ ∀ H', Q (.bl true) H'
theorem spL_start {K : PySem.W.Frag} {H : Hp} {a : Addr} {ns : List Int} (hl : ns.length ≤ 63) (hO : Only H) (hS : SqL K H a (ns.map V.int)) : spL K [.ref a] H (fun v _ => v = .bl true) fun _ _ _ => False := by
  refine ⟨a, ns, rfl, ?_, hl, fun _ => rfl⟩
  rcases hS with (h | ⟨o, h⟩) | h
  · rcases hO a with z | ⟨o, xs, z⟩
    · rw [h] at z; cases z
    · rw [h] at z; cases z
  · exact .inl ⟨o, h⟩
  · exact .inr fun H' => .inr h
/-! ### one step of a reading -/
section
variable {σ : L2.St} {H : Hp}
theorem g_seq {t u : TS} {D : Ends} (h : t { D with nx := u D } σ H) : tSeq t u D σ H := h
theorem g_asg {te : TE} {g : TG} {D : Ends} (h : te σ H fun x H1 => g x σ H1 D.nx) : tAsg te g D σ H := h
theorem g_name {i : Nat} {v : V} {Q : L2.St → Hp → Prop} (h : Q (σ.set i (some v)) H) : gName i v σ H Q := h
theorem g_sub {to ti : TE} {t : TSet} {v : V} {Q : L2.St → Hp → Prop} (h : to σ H fun o H1 => ti σ H1 fun i H2 => t o i v H2 fun H3 => Q σ H3) : gSub to ti t v σ H Q := h
theorem g_op {r : R2} {ta tb : TE} {Q : VK} (h : ta σ H fun x H1 => tb σ H1 fun y H2 => r x y H2 Q) : tOp r ta tb σ H Q := h
theorem g_un {r : V → Hp → VK → Prop} {ta : TE} {Q : VK} (h : ta σ H fun x H1 => r x H1 Q) : tUn r ta σ H Q := h
theorem g_c {v : V} {Q : VK} (h : Q v H) : tC v σ H Q := h
theorem g_cb {r : List V → Hp → VK → Prop} {t : TA} {Q : VK} (h : t σ H fun vs H1 => r vs H1 Q) : tCB r t σ H Q := h
theorem g_call {sp : Sp} {dvs : List V} {E : XK} {t : TA} {Q : VK} (h : t σ H fun vs H1 => sp (vs ++ dvs) H1 Q E) : tCall sp dvs E t σ H Q := h
theorem g_cons {ta : TE} {tr : TA} {Q : List V → Hp → Prop} (h : ta σ H fun x H1 => tr σ H1 fun xs H2 => Q (x :: xs) H2) : tCons ta tr σ H Q := h
theorem g_nil {Q : List V → Hp → Prop} (h : Q [] H) : tNil σ H Q := h
theorem g_test {t : TE} {Q : Bool → Hp → Prop} (h : t σ H fun x H' => ∃ k, x = .bl k ∧ Q k H') : tTest t σ H Q := h
theorem g_tB {t : TE} {Q : Bool → Hp → Prop} (h : t σ H fun x H' => ∃ k, x = .bl k ∧ Q k H') : tB t σ H Q := h
theorem g_bl {b : Bool} {Q : Bool → Hp → Prop} (h : Q b H) : ∃ k, V.bl b = .bl k ∧ Q k H := ⟨b, rfl, h⟩
theorem g_ifs {c : TT} {t u : TS} {D : Ends} (h : c σ H fun b H1 => if b = true then t D σ H1 else u D σ H1) : tIfS c t u D σ H := h
theorem g_if {c : TT} {t u : TE} {Q : VK} (h : c σ H fun b H1 => if b = true then t σ H1 Q else u σ H1 Q) : tIf c t u σ H Q := h
theorem g_and {t u : TT} {Q : Bool → Hp → Prop} (h : t σ H fun c H1 => if c = true then u σ H1 Q else Q false H1) : tAnd t u σ H Q := h
theorem g_or {t u : TT} {Q : Bool → Hp → Prop} (h : t σ H fun c H1 => if c = true then Q true H1 else u σ H1 Q) : tOr t u σ H Q := h
theorem g_not {t : TT} {Q : Bool → Hp → Prop} (h : t σ H fun c H1 => Q (!c) H1) : tNot t σ H Q := h
theorem g_ret {te : TE} {D : Ends} (h : te σ H D.rt) : tRet te D σ H := h
theorem g_next {D : Ends} (h : D.nx σ H) : tNext D σ H := h
theorem g_drop {te : TE} {D : Ends} (h : te σ H fun _ H1 => D.nx σ H1) : tDrop te D σ H := h
theorem g_sl {r : V → Option Int → Option Int → Hp → VK → Prop} {te : TE} {tl th : TO} {Q : VK} (h : te σ H fun x H1 => tl σ H1 fun l H2 => th σ H2 fun u H3 => r x l u H3 Q) : tSl r te tl th σ H Q := h
theorem g_nopart {Q : Option Int → Hp → Prop} (h : Q none H) : tNoPart σ H Q := h
theorem g_part {t : TE} {Q : Option Int → Hp → Prop} (h : t σ H fun x H1 => ∃ i, x = .int i ∧ Q (some i) H1) : tPart t σ H Q := h
theorem g_int {i : Int} {Q : Int → Hp → Prop} (h : Q i H) : ∃ k, V.int i = .int k ∧ Q k H := ⟨i, rfl, h⟩
theorem g_bm {K : PySem.W.Frag} {T : String} {r : V → List V → Hp → VK → Prop} {to : TE} {t : TA} {Q : VK} (h : to σ H fun x H1 => tyV K T x H1 ∧ t σ H1 fun xs H2 => r x xs H2 Q) : tBM K T r to t σ H Q := h
theorem g_yes {Q : Bool → Hp → Prop} (h : Q true H) : tYes σ H Q := h
theorem g_ixL {K : PySem.W.Frag} {p : Addr} {xs : List V} {i : Int} {v : V} {Q : VK} (h : SqL K H p xs) (e : atI xs i = some v) (q : Q v H) : rIxL K (.ref p) (.int i) H Q := ⟨_, _, _, _, rfl, rfl, h, e, q⟩
theorem g_ixT {K : PySem.W.Frag} {p : Addr} {xs : List V} {i : Int} {v : V} {Q : VK} (h : SqT K H p xs) (e : atI xs i = some v) (q : Q v H) : rIxT K (.ref p) (.int i) H Q := ⟨_, _, _, _, rfl, rfl, h, e, q⟩
theorem g_setL {p : Addr} {xs : List V} {k : Int} {j : Nat} {v : V} {Q : Hp → Prop} (h : H p = some (.lst xs)) (e : ixN xs.length k = some j) (q : Q (upd H p (.lst (xs.set j v)))) : rSetL (.ref p) (.int k) v H Q := ⟨_, _, _, _, rfl, rfl, h, e, q⟩
/-- a for's turns, over what it walks -/
def ForW (J : It) (g : TG) (tb : TS) (D : Ends) (σ : L2.St) (H1 : Hp) : Prop := ∃ W : Nat → Nat → L2.St → Hp → Prop, (∃ m, W 0 m σ H1) ∧ ∀ i m σ H, W i m σ H →
  (J.stop i H ∧ D.nx σ H) ∨ (J.go i H ∧ ∃ N : L2.St → Hp → Prop, (∀ σ' H', N σ' H' → ∃ m', m' < m ∧ W (i + 1) m' σ' H') ∧ ∀ x H', J.yld i H x H' → g x σ H' fun σ2 H2 => tb { D with nx := N, ct := N, bk := D.nx } σ2 H2)
theorem g_for {wi : TI} {g : TG} {tb : TS} {D : Ends} (h : wi σ H fun J H1 => ForW J g tb D σ H1) : tFor wi g tb D σ H := h
theorem g_rng1 {ta : TA} {R : It → Hp → Prop} (h : ta σ H fun vs H1 => ∃ j : Int, vs = [.int j] ∧ -(2 ^ 62) ≤ j ∧ j < 2 ^ 62 ∧ R (Itr 0 j.toNat) H1) : iRng1 ta σ H R := h
theorem g_rng2 {ta : TA} {R : It → Hp → Prop} (h : ta σ H fun vs H1 => ∃ i j : Int, vs = [.int i, .int j] ∧ (-(2 ^ 62) ≤ i ∧ i < 2 ^ 62 ∧ -(2 ^ 62) ≤ j ∧ j < 2 ^ 62) ∧ R (Itr i (j - i).toNat) H1) : iRng2 ta σ H R := h
theorem g_rng3 {ta : TA} {R : It → Hp → Prop} (h : ta σ H fun vs H1 => ∃ (i j c : Int) (n : Nat), vs = [.int i, .int j, .int c] ∧ RgC i j c n ∧ R (Itc i c n) H1) : iRng3 ta σ H R := h
theorem g_list {K : PySem.W.Frag} {tl : TE} {R : It → Hp → Prop} (h : tl σ H fun x H1 => ∃ a, x = .ref a ∧ (∃ xs, SqL K H1 a xs) ∧ R (Itl K a) H1) : iList K tl σ H R := h
theorem g_itup {K : PySem.W.Frag} {tl : TE} {R : It → Hp → Prop} (h : tl σ H fun x H1 => ∃ a, x = .ref a ∧ (∃ xs, SqT K H1 a xs) ∧ R (Itt K a) H1) : iTup K tl σ H R := h
theorem forW_list {K : PySem.W.Frag} {a : Addr} (xs : List V) {g : TG} {tb : TS} {D : Ends} (Pv : Nat → L2.St → Hp → Prop) (h0 : Pv 0 σ H) (hl : ∀ i σ H, i ≤ xs.length → Pv i σ H → SqL K H a xs)
    (hs : ∀ i x σ H, xs[i]? = some x → Pv i σ H → g x σ H fun σ2 H2 => tb { D with nx := Pv (i + 1), ct := Pv (i + 1), bk := D.nx } σ2 H2) (hd : ∀ σ H, Pv xs.length σ H → D.nx σ H) : ForW (Itl K a) g tb D σ H := for_list Pv h0 hl hs hd
theorem forW_tup {K : PySem.W.Frag} {a : Addr} (xs : List V) {g : TG} {tb : TS} {D : Ends} (Pv : Nat → L2.St → Hp → Prop) (h0 : Pv 0 σ H) (hl : ∀ i σ H, i ≤ xs.length → Pv i σ H → SqT K H a xs)
    (hs : ∀ i x σ H, xs[i]? = some x → Pv i σ H → g x σ H fun σ2 H2 => tb { D with nx := Pv (i + 1), ct := Pv (i + 1), bk := D.nx } σ2 H2) (hd : ∀ σ H, Pv xs.length σ H → D.nx σ H) : ForW (Itt K a) g tb D σ H := for_tup Pv h0 hl hs hd
theorem forW_range {lo : Int} {n : Nat} {g : TG} {tb : TS} {D : Ends} (Pv : Nat → L2.St → Hp → Prop) (h0 : Pv 0 σ H)
    (hs : ∀ i σ H, i < n → Pv i σ H → g (.int (lo + i)) σ H fun σ2 H2 => tb { D with nx := Pv (i + 1), ct := Pv (i + 1), bk := D.nx } σ2 H2) (hd : ∀ σ H, Pv n σ H → D.nx σ H) : ForW (Itr lo n) g tb D σ H := for_range Pv h0 hs hd
theorem forW_rangeC {lo c : Int} {n : Nat} {g : TG} {tb : TS} {D : Ends} (Pv : Nat → L2.St → Hp → Prop) (h0 : Pv 0 σ H)
    (hs : ∀ i σ H, i < n → Pv i σ H → g (.int (lo + (i : Nat) * c)) σ H fun σ2 H2 => tb { D with nx := Pv (i + 1), ct := Pv (i + 1), bk := D.nx } σ2 H2) (hd : ∀ σ H, Pv n σ H → D.nx σ H) : ForW (Itc lo c n) g tb D σ H := for_rangeC Pv h0 hs hd
theorem forW_enum {K : PySem.W.Frag} {a : Addr} (xs : List V) {g : TG} {tb : TS} {D : Ends} (Pv : Nat → L2.St → Hp → Prop) (h0 : Pv 0 σ H) (hl : ∀ i σ H, i ≤ xs.length → Pv i σ H → SqL K H a xs)
    (hs : ∀ i x T σ H, xs[i]? = some x → H T = none → Pv i σ H → g (.ref T) σ (upd H T (.tup [.int (i : Nat), x])) fun σ2 H2 => tb { D with nx := Pv (i + 1), ct := Pv (i + 1), bk := D.nx } σ2 H2) (hd : ∀ σ H, Pv xs.length σ H → D.nx σ H) :
    ForW (Ite K a) g tb D σ H := by
  refine ⟨fun i m σ H => m = xs.length - i ∧ i ≤ xs.length ∧ Pv i σ H, ⟨xs.length, by simp, Nat.zero_le _, h0⟩, ?_⟩
  rintro i m σ H ⟨rfl, hi, p⟩
  have q := hl i σ H hi p
  by_cases e : i = xs.length
  · subst e
    exact .inl ⟨⟨xs, q, Nat.le_refl _⟩, hd σ H p⟩
  · have lt : i < xs.length := by omega
    refine .inr ⟨⟨xs, _, q, List.getElem?_eq_getElem lt⟩, Pv (i + 1), fun σ' H' p' => ⟨_, by omega, rfl, lt, p'⟩, ?_⟩
    rintro v H' ⟨T, x, rfl, nT, rfl, at_i⟩
    exact hs i x T σ H (at_i xs q) nT p
/-- a comprehension's turns -/
def LcW (J : It) (g : TG) (tt : TT) (te : TE) (vs : List Nat) (σ : L2.St) (H1 : Hp) (D : Addr) (Qd : Hp → Prop) : Prop := ∃ W : Nat → Nat → Hp → Prop, (∃ m, W 0 m (upd H1 D (.lst []))) ∧ ∀ i m H, W i m H →
  (J.stop i H ∧ Qd H) ∨ (J.go i H ∧ ∃ Nx : Hp → Prop, (∀ H', Nx H' → ∃ m', m' < m ∧ W (i + 1) m' H') ∧ ∀ x H', J.yld i H x H' → g x (wipe σ vs) H' fun σ2 H2 => wipe σ2 vs = wipe σ vs ∧ tt σ2 H2 fun b H3 =>
    if b = true then te σ2 H3 fun y H4 => ∃ acc, H4 D = some (.lst acc) ∧ acc.length < sizeLine ∧ Nx (upd H4 D (.lst (acc ++ [y]))) else Nx H3)
theorem g_lc {wi : TI} {g : TG} {tt : TT} {te : TE} {vs : List Nat} {Q : VK} (h : wi σ H fun J H1 => ∀ D, H1 D = none → LcW J g tt te vs σ H1 D fun H' => Q (.ref D) H') : tLc wi g tt te vs σ H Q := h
theorem lcW_list {K : PySem.W.Frag} {a : Addr} (xs : List V) {g : TG} {tt : TT} {te : TE} {vs : List Nat} {H1 : Hp} {D : Addr} {Qd : Hp → Prop} (Pv : Nat → Hp → Prop) (h0 : Pv 0 (upd H1 D (.lst []))) (hl : ∀ i H, i ≤ xs.length → Pv i H → SqL K H a xs)
    (hs : ∀ i x H, xs[i]? = some x → Pv i H → g x (wipe σ vs) H fun σ2 H2 => wipe σ2 vs = wipe σ vs ∧ tt σ2 H2 fun b H3 =>
      if b = true then te σ2 H3 fun y H4 => ∃ acc, H4 D = some (.lst acc) ∧ acc.length < sizeLine ∧ Pv (i + 1) (upd H4 D (.lst (acc ++ [y]))) else Pv (i + 1) H3) (hd : ∀ H, Pv xs.length H → Qd H) : LcW (Itl K a) g tt te vs σ H1 D Qd := lc_list Pv h0 hl hs hd
theorem lcW_range {lo : Int} {n : Nat} {g : TG} {tt : TT} {te : TE} {vs : List Nat} {H1 : Hp} {D : Addr} {Qd : Hp → Prop} (Pv : Nat → Hp → Prop) (h0 : Pv 0 (upd H1 D (.lst [])))
    (hs : ∀ i H, i < n → Pv i H → g (.int (lo + i)) (wipe σ vs) H fun σ2 H2 => wipe σ2 vs = wipe σ vs ∧ tt σ2 H2 fun b H3 =>
      if b = true then te σ2 H3 fun y H4 => ∃ acc, H4 D = some (.lst acc) ∧ acc.length < sizeLine ∧ Pv (i + 1) (upd H4 D (.lst (acc ++ [y]))) else Pv (i + 1) H3) (hd : ∀ H, Pv n H → Qd H) : LcW (Itr lo n) g tt te vs σ H1 D Qd := lc_range Pv h0 hs hd
/-- a comprehension over a list, no test, an element that changes nothing -/
theorem lcW_pure {K : PySem.W.Frag} {a : Addr} (xs : List V) (f : Nat → V) {g : TG} {te : TE} {vs : List Nat} {H1 : Hp} {D : Addr} {Qd : Hp → Prop} (nD : H1 D = none) (hA : SqL K H1 a xs) (hlen : xs.length ≤ 1000)
    (hs : ∀ i x H (R : VK) (Z : Hp → Prop), xs[i]? = some x → Same H1 H → R (f i) H → g x (wipe σ vs) H fun σ2 H2 => wipe σ2 vs = wipe σ vs ∧ tYes σ2 H2 fun b H3 => if b = true then te σ2 H3 R else Z H3)
    (hd : ∀ H, Same H1 H → H D = some (.lst ((List.range xs.length).map f)) → Qd H) : LcW (Itl K a) g tYes te vs σ H1 D Qd := by
  refine lcW_list xs (fun i H => Same H1 H ∧ H D = some (.lst ((List.range i).map f))) ⟨Same.new (Same.refl H1) nD, upd_same⟩ (fun i H _ h => sqL_same h.1 hA) ?_ (fun H h => hd H h.1 h.2)
  rintro i x H hx ⟨s, e⟩
  have hi : i < xs.length := (List.getElem?_eq_some_iff.mp hx).1
  refine hs i x H _ _ hx s ⟨_, e, by rw [List.length_map, List.length_range]; exact small1000 (by omega), Same.mut s nD, ?_⟩
  rw [upd_same, List.range_succ, List.map_append]; rfl
theorem g_gtup {K : PySem.W.Frag} {a : Addr} {xs : List V} {n : Nat} {t : TGs} {Q : L2.St → Hp → Prop} (h : SqT K H a xs) (e : xs.length = n) (q : t xs σ H Q) : gTup K n t (.ref a) σ H Q := ⟨_, _, rfl, h, e, q⟩
theorem g_enum {K : PySem.W.Frag} {ta : TA} {R : It → Hp → Prop} (h : ta σ H fun vs H1 => ∃ a xs, vs = [.ref a] ∧ SqL K H1 a xs ∧ R (Ite K a) H1) : iEnum K ta σ H R := h
theorem g_lst {t : TA} {Q : VK} (h : t σ H fun xs H1 => xs.length ≤ sizeLine ∧ ∀ p, H1 p = none → Q (.ref p) (upd H1 p (.lst xs))) : tLst t σ H Q := h
theorem g_tup {t : TA} {Q : VK} (h : t σ H fun xs H1 => xs.length ≤ sizeLine ∧ ∀ p, H1 p = none → Q (.ref p) (upd H1 p (.tup xs))) : tTup t σ H Q := h
theorem g_cut {t u : TS} {D : Ends} (Mid : L2.St → Hp → Prop) (h1 : t { D with nx := Mid } σ H) (h2 : ∀ σ' H', Mid σ' H' → u D σ' H') : C8.tCut t u D σ H := ⟨Mid, h1, h2⟩
theorem g_aug {i : Nat} {te : TE} {ti : TIp} {D : Ends} {x : V} (e : σ[i]? = some (some x)) (h : te σ H fun y H1 => ti x y H1 fun z H2 => D.nx (σ.set i (some z)) H2) : tAug i te ti D σ H := ⟨x, e, h⟩
theorem g_ite {b : Bool} {A B : Prop} (h1 : b = true → A) (h2 : b = false → B) : if b = true then A else B := by
  cases b
  · exact iteF (h2 rfl)
  · exact iteT (h1 rfl)
theorem g_itd {c : Prop} [Decidable c] {A B : Prop} (h1 : c → A) (h2 : ¬ c → B) : if decide c = true then A else B := by
  by_cases h : c
  · rw [decide_eq_true h]; exact iteT (h1 h)
  · rw [decide_eq_false h]; exact iteF (h2 h)
theorem g_itnd {c : Prop} [Decidable c] {A B : Prop} (h1 : ¬ c → A) (h2 : c → B) : if (!decide c) = true then A else B := by
  by_cases h : c
  · rw [decide_eq_true h]; exact iteF (h2 h)
  · rw [decide_eq_false h]; exact iteT (h1 h)
end
/-- len of a list or tuple -/
def rLenS (K : PySem.W.Frag) : List V → Hp → VK → Prop := fun xs H Q => ∃ p ys, xs = [.ref p] ∧ (SqL K H p ys ∨ SqT K H p ys) ∧ Q (.int ys.length) H
theorem call_lenS {X : Cx} : CallR X (.builtin "len") (rLenS X.K) := call_len_seq
theorem g_lenL {K : PySem.W.Frag} {H : Hp} {p : Addr} {ys : List V} {Q : VK} (h : SqL K H p ys) (q : Q (.int ys.length) H) : rLenS K [.ref p] H Q := ⟨_, _, rfl, .inl h, q⟩
/-- list(list or tuple) -/
def rListOf (K : PySem.W.Frag) : List V → Hp → VK → Prop := fun xs H Q => ∃ p ys, xs = [.ref p] ∧ (SqL K H p ys ∨ SqT K H p ys) ∧ ∀ l, H l = none → Q (.ref l) (upd H l (.lst ys))
theorem call_listS {X : Cx} : CallR X (.type "list") (rListOf X.K) := call_list_of
theorem g_listL {K : PySem.W.Frag} {H : Hp} {p : Addr} {ys : List V} {Q : VK} (h : SqL K H p ys) (q : ∀ l, H l = none → Q (.ref l) (upd H l (.lst ys))) : rListOf K [.ref p] H Q := ⟨_, _, rfl, .inl h, q⟩
/-- a test, what follows shown once -/
def tCutT (t : TT) : TT := fun σ H Q => ∃ M : Bool → Hp → Prop, t σ H M ∧ ∀ b H', M b H' → Q b H'
theorem pt_cutT {X : Cx} {e : Expr} {t : TT} (h : PT X e t) : PT X e (tCutT t) := ⟨fun pins s σ H Q I hq => by
  obtain ⟨M, h1, h2⟩ := hq
  exact thn (h.run pins s σ H M I h1) fun b s' ⟨H', I', q⟩ => ⟨H', I', h2 _ _ q⟩⟩
/-- an expression, what follows shown once -/
def tCutE (t : TE) : TE := fun σ H Q => ∃ M : VK, t σ H M ∧ ∀ b H', M b H' → Q b H'
theorem pe_cutE {X : Cx} {e : Expr} {t : TE} (h : PE X e t) : PE X e (tCutE t) := ⟨fun pins s σ H Q I hq => by
  obtain ⟨M, h1, h2⟩ := hq
  exact thn (h.run pins s σ H M I h1) fun u s' ⟨v, H', I', r, q⟩ => ⟨v, H', I', r, h2 _ _ q⟩⟩
/-- list(text) -/
theorem call_list_strV {X : Cx} (hc : X.calm = true) : CallR X (.type "list") (fun xs H Q => ∃ z : Str, xs = [.str z] ∧ z.length ≤ sizeLine ∧ ∀ l, H l = none → Q (.ref l) (upd H l (.lst (z.cps.toList.map fun c => V.str ⟨#[c]⟩)))) := by
  intro pins s σ H xs us Q I r h
  obtain ⟨z, rfl, hz, q⟩ := h
  obtain ⟨u, rfl, t, rfl⟩ := vals1 r
  refine PySem.call_list_str (I.ok.hd hc) z t (fun h' tk acc' c' hk e hi => ?_) hz
  refine ⟨.ref s.heap.objs.size, upd H s.heap.objs.size (.lst (z.cps.toList.map fun c => V.str ⟨#[c]⟩)), I.laid hk (Nat.le_refl _) (show ObjOk X.prog X.w _ _ _ (.lst (z.cps.toList.map fun c => V.str ⟨#[c]⟩)) from ⟨?_, acc'.toList, c', ?_, ?_⟩), rfl, q _ (I.hok.fresh (Nat.le_refl _))⟩
  · rw [List.length_map]; exact hz
  · refine vals_of_at (by rw [List.length_map, Array.length_toList, Array.length_toList, hi.1]) fun j x w h1 h2 => ?_
    obtain ⟨c, u, hcj, rfl⟩ := hi.2 j w (by rw [← Array.getElem?_toList]; exact h2)
    rw [List.getElem?_map, Array.getElem?_toList, hcj] at h1
    cases h1
    exact ⟨u, rfl⟩
  · exact e
end Go
namespace Grd
open PySem PySem.Spec PyProof.Rows L2 Go
/-- a def's promise where no repr is under way -/
structure FnG (P : Program) (w : World) (K : PySem.W.Frag) (mg : Str → Option Value) (base : Heap) (k : Nat) (f : Addr) (fd : FuncData) (ps : List Str) (sp : Sp) : Prop where
  size : ∀ vs H Q E, sp vs H Q E → vs.length = ps.length
  goes : ∀ (A : Around) (outer : List Env) (s : Shared) (H : Hp) (args : Args) (us : List Value) (vs : List V) (Q : VK) (E : XK),
    A.guards = some [] → Room k A → Env0 P w K mg base A outer s H → BindsTo s fd args (ps.zip us) → Vals vs us → sp vs H Q E →
      codeAny (model P w) A (.call (.ref f) args) (CR CX0 outer P w H s Q E) s
theorem FnG.of {P : Program} {w : World} {K : PySem.W.Frag} {mg : Str → Option Value} {base : Heap} {k : Nat} {f : Addr} {fd : FuncData} {ps : List Str} {sp : Sp}
    (F : FnOk P w K mg base CX0 k f fd ps sp) : FnG P w K mg base k f fd ps sp :=
  ⟨F.len, fun A outer s H args us vs Q E _ => F.run A outer s H args us vs Q E⟩
section
variable {P : Program} {w : World} {K : PySem.W.Frag} {mg : Str → Option Value} {base : Heap}
theorem ok_of {x qual : Str} {st : Stmt} {f : Addr} {fd : FuncData} {N ps : List Str} {k : Nat} {sp : Sp} (F : Fun K x qual st f fd) (S : FnScope N ps (defScope st))
    (size : ∀ vs H Q E, sp vs H Q E → vs.length = ps.length)
    (walk : ∀ (cdv : Value) (A : Around) (outer : List Env) (s : Shared) (H : Hp) (vs : List V) (Q : VK) (E : XK),
      A.guards = some [] → Room k (A.deeper (envOfC qual (defScope st) s.heap.objs.size f cdv)) → sp vs H Q E →
      ∃ t, PSs (cxOf CX0 P w K mg base N qual (defScope st) f cdv A outer s H E).nox (defBody st) t ∧ t { nx := fun _ H' => Q .non H', rt := Q } (L2.start N vs) H) :
    FnG P w K mg base (k + 1) f fd ps sp := by
  obtain ⟨oc, od, kV, doc, pm, an, cdv, ct, osl, rfl, at_f, code_f⟩ := F.ex
  refine ⟨size, ?_⟩
  intro A outer s H args us vs Q E gA room env bind vals pr
  have same := env.bs
  have inK : K.In s.heap := env.mod.kin.keeps (fun b o e => (same b o e).1)
  have slots : ∀ y ∈ ps.zip us, (defScope st).names.lookup y.1 = some .local ∨
      ((defScope st).names.lookup y.1 = some .cell ∧ ((cellsFrom (s.heap.objs.size + 1) (defScope st).names []).lookup y.1).isSome = true) := by
    rintro ⟨n, v⟩ hy
    rcases S.par n (List.of_mem_zip hy).1 with q | q
    · left; exact q
    · right; exact ⟨q, PySem.W.cellsFrom_some _ _ _ (Or.inl q)⟩
  apply codeAny_call_function room.depth (inK _ _ at_f) rfl S.co S.gen rfl (PySem.W.codeRec_of inK code_f)
  apply bind
  apply wpAny_newFunctionEnv_cells S.kind slots
  intro env' he s1 made
  subst he
  refine ⟨(env.mod.nolimit.keeps (fun b o e => (same b o e).1)).keeps made.toInCall.keep, codeAny_func ?_⟩
  obtain ⟨t, body, wish⟩ := walk cdv A outer s H vs Q E gA (room.deeper _) pr
  have begun := inv_start (CX := CX0) (E := E) S room.hd env (size _ _ _ _ pr) vals made
  refine wpAny_mono (body.nox.run [] s1 _ H _ begun wish) (fun fl s' done => ?_) (fun e s' bad => bad)
  have leave : ∀ {σ' : L2.St} {H' : Hp} {v : V} {u : Value}, Inv (cxOf CX0 P w K mg base N qual (defScope st) f cdv A outer s H E) [] σ' H' s' → RelV v u → Q v H' →
      CE outer P w H s Q u s' := by
    intro σ' H' v u J rv q
    exact ⟨v, H', J.os, J.bare, J.base, J.hok, rv, q⟩
  cases fl with
  | next => obtain ⟨σ', H', J, q⟩ := done; exact leave (v := V.non) (u := Value.none) J rfl q
  | ret u => obtain ⟨v, σ', H', J, rv, q⟩ := done; exact leave J rv q
  | brk => obtain ⟨_, _, _, q⟩ := done; exact False.elim q
  | cont => obtain ⟨_, _, _, q⟩ := done; exact False.elim q
end
/-! ### a call of such a def -/
section
variable {X : Cx} {k : Nat} {f : Addr} {fd : FuncData} {ps : List Str} {sp : Sp} {x : Str} {p pos : Pos} {e : Expr} {es : List Expr} {t : TA}
theorem run_g {pins : List (Addr × Obj)} {σ : L2.St} {H : Hp} {s : Shared} {Q : VK} {us : List Value} {vs : List V} (F : FnG X.prog X.w X.K X.mg X.base k f fd ps sp) (gA : X.A.guards = some []) (hr : Room k X.A)
    (hb : Binds X.K fd ps []) (I : Inv X pins σ H s) (r : Vals vs us) (h : sp vs H Q E0) : wpAny (model X.prog X.w) X.A (call (.ref f) us) (EP X pins σ Q) X.xe s := by
  have len : us.length = ps.length := by rw [← r.length]; exact F.size _ _ _ _ h
  have bind := hb s us I.kIn (by rw [List.append_nil]; exact len)
  rw [List.append_nil] at bind
  apply wpAny_call
  refine codeAny_mono (F.goes X.A X.stack s H ⟨us, []⟩ us vs Q E0 gA hr I.env0 bind r h) ?_
  intro res s' hq
  match res, hq with
  | .error e, hq => exact False.elim hq
  | .ok (.ret u), hq => exact I.after hq
  | .ok .next, hq => exact False.elim hq
  | .ok .brk, hq => exact False.elim hq
  | .ok .cont, hq => exact False.elim hq
theorem pe_callG (F : FnG X.prog X.w X.K X.mg X.base k f fd ps sp) (gA : X.A.guards = some []) (hr : Room k X.A) (hg : Gl X x) (hm : X.mg x = some (.ref f)) (hk : PySem.W.keepIn X.K (.ref f) = true) (hb : Binds X.K fd ps [])
    (ha : PA X (e :: es) t) (hdb : (x == ("__debug__" : Str)) = false := by decide)
    (he : starEach (e :: es) X.env = (false, eval e X.env) :: starEach es X.env := by rfl) (hpl : (backTo pos (starEach es X.env)).any (·.1) = false := by rfl) :
    PE X (.Call (.Name x p) (e :: es) [] pos) (tCall sp [] E0 t) := by
  constructor
  intro pins s σ H Q I h
  apply wpAny_Call_Name_kw
  refine ld_glob I hg hm ?_ hdb
  refine PySem.W.callWith_K (h₀ := X.base) I.ok.mod.kin hk ?_ he hpl
  refine thn (ha.run pos pins s σ H _ I h) ?_
  rintro us s1 ⟨vs, H1, I1, r, q⟩
  exact ⟨I1.kIn, run_g F gA hr hb I1 r (by rw [← List.append_nil vs]; exact q)⟩
end
/-! ### data with dicts, repr -/
def kD : Key → PyData
  | .inl i => .int i
  | .inr x => .str x
mutual
inductive Dq (K : PySem.W.Frag) (H : Hp) : V → PyData → Prop
  | non : Dq K H .non .none
  | bl (b : Bool) : Dq K H (.bl b) (.bool b)
  | int (i : Int) : Dq K H (.int i) (.int i)
  | str (x : Str) : Dq K H (.str x) (.str x)
  | lst {a : Addr} {xs : List V} {ds : List PyData} : SqL K H a xs → DqAll K H xs ds → Dq K H (.ref a) (.list ds)
  | tup {a : Addr} {xs : List V} {ds : List PyData} : SqT K H a xs → DqAll K H xs ds → Dq K H (.ref a) (.tuple ds)
  | dct {a : Addr} {kvs : List (Key × V)} {ds : List PyData} : H a = some (.dK kvs) → DqAll K H (kvs.map (·.2)) ds → Dq K H (.ref a) (.dict ((kvs.map fun p => kD p.1).zip ds))
inductive DqAll (K : PySem.W.Frag) (H : Hp) : List V → List PyData → Prop
  | nil : DqAll K H [] []
  | cons {v : V} {vs : List V} {d : PyData} {ds : List PyData} : Dq K H v d → DqAll K H vs ds → DqAll K H (v :: vs) (d :: ds)
end
section
variable {X : Cx} {pins : List (Addr × Obj)} {σ : L2.St} {H : Hp} {s : Shared}
/-- what stands at sys.modules is no list -/
def NoSys (h : Heap) : Prop := ∀ o, h.get? sysModules = some o → o.cls ≠ .type "list"
theorem keys_read {h : Heap} {P : Program} {w : World} : ∀ {kvs : List (Key × V)} {vs : List (Key × Value)} {es : List DictEntry}, KV kvs vs → Pairs (mixKind P w) es vs →
    ReadsAll h (es.map (·.key)) (kvs.map fun p => kD p.1) [] ∧ Vals (kvs.map (·.2)) (es.map (·.val))
  | [], _, _, .nil, .nil => ⟨.nil, .nil⟩
  | (k, x) :: kvs, _, _, .cons (b := (k', u)) r rs, .cons (e := e) h1 h2 h3 => by
    obtain ⟨a, b⟩ := keys_read (h := h) rs h3
    obtain ⟨r1, r2⟩ := r
    have r1 : k = k' := r1
    subst r1
    refine ⟨?_, .cons (by show RelV x e.val; rw [h2]; exact r2) b⟩
    have hk : keyIs k e.key = true := h1
    rcases keyIs_shape hk with ⟨n, t, e1, e2⟩ | ⟨z, t, e1, e2⟩
    · subst e1
      show ReadsAll h (e.key :: _) (PyData.int n :: _) ([] ++ [])
      rw [e2]; exact .cons (.int n t) a
    · subst e1
      show ReadsAll h (e.key :: _) (PyData.str z :: _) ([] ++ [])
      rw [e2]; exact .cons (.str z t) a
theorem DqAll.len {K : PySem.W.Frag} {H : Hp} : ∀ {vs : List V} {ds : List PyData}, DqAll K H vs ds → vs.length = ds.length
  | _, _, .nil => rfl
  | _, _, .cons _ h => by rw [List.length_cons, List.length_cons, h.len]
theorem zip_fst {α β : Type} : ∀ {a : List α} {b : List β}, a.length = b.length → (a.zip b).map (·.1) = a
  | [], [], _ => rfl
  | x :: a, y :: b, h => by rw [List.zip_cons_cons, List.map_cons, zip_fst (by simpa using h)]
theorem zip_snd {α β : Type} : ∀ {a : List α} {b : List β}, a.length = b.length → (a.zip b).map (·.2) = b
  | [], [], _ => rfl
  | x :: a, y :: b, h => by rw [List.zip_cons_cons, List.map_cons, zip_snd (by simpa using h)]
mutual
theorem Dq.reads (I : Inv X pins σ H s) : ∀ {v : V} {d : PyData} {u : Value}, Dq X.K H v d → RelV v u → ∃ as, Reads s.heap u d as ∧ (NoSys s.heap → sysModules ∉ as)
  | _, _, _, .non, r => by cases r; exact ⟨_, .none, fun _ h => nomatch h⟩
  | _, _, _, .bl b, r => by cases r; exact ⟨_, .bool b, fun _ h => nomatch h⟩
  | _, _, _, .int i, r => by obtain ⟨t, rfl⟩ := r; exact ⟨_, .int i t, fun _ h => nomatch h⟩
  | _, _, _, .str x, r => by obtain ⟨t, rfl⟩ := r; exact ⟨_, .str x t, fun _ h => nomatch h⟩
  | _, _, _, .lst (a := a) hs ha, r => by
    cases r
    obtain ⟨its, rv, ⟨o, n, ho, hc, _, hd⟩, _⟩ := I.list hs
    obtain ⟨as, hr, hn⟩ := DqAll.reads I ha rv
    refine ⟨_, .list ho hc hd hr, fun ns hm => ?_⟩
    rcases List.mem_cons.mp hm with e | e
    · subst e; exact ns o ho hc
    · exact hn ns e
  | _, _, _, .tup hs ha, r => by
    cases r
    obtain ⟨its, rv, ⟨o, ho, hc, n, hd⟩, _⟩ := I.tuple hs
    obtain ⟨as, hr, hn⟩ := DqAll.reads I ha rv
    exact ⟨_, .tuple ho hc hd hr, hn⟩
  | _, _, _, .dct (a := a) (kvs := kvs) (ds := ds) hs ha, r => by
    cases r
    obtain ⟨_, ny, vs, kv, o, es, ep, ho, ex, hd, _, pr, _⟩ := (show ObjOk X.prog X.w H s.heap a (.dK kvs) from I.hok a _ hs)
    obtain ⟨rk, rv⟩ := keys_read (h := s.heap) kv pr
    obtain ⟨as, hr, hn⟩ := DqAll.reads I ha rv
    have el : (kvs.map fun p => kD p.1).length = ds.length := by rw [List.length_map]; have := ha.len; rw [List.length_map] at this; exact this
    refine ⟨_, .dict ho ex.1 hd (as := []) (by rw [zip_fst el]; exact rk) (by rw [zip_snd el]; exact hr), fun ns hm => ?_⟩
    rcases List.mem_cons.mp hm with e | e
    · subst e; simp at ny
    · exact hn ns e
theorem DqAll.reads (I : Inv X pins σ H s) : ∀ {vs : List V} {ds : List PyData} {us : List Value}, DqAll X.K H vs ds → Vals vs us → ∃ as, ReadsAll s.heap us ds as ∧ (NoSys s.heap → sysModules ∉ as)
  | _, _, _, .nil, r => by cases r; exact ⟨_, .nil, fun _ h => nomatch h⟩
  | _, _, _, .cons h1 h2, r => by
    cases r with
    | cons r1 r2 =>
      obtain ⟨as, q1, n1⟩ := Dq.reads I h1 r1
      obtain ⟨bs, q2, n2⟩ := DqAll.reads I h2 r2
      refine ⟨_, .cons q1 q2, fun ns hm => ?_⟩
      rcases List.mem_append.mp hm with e | e
      · exact n1 ns e
      · exact n2 ns e
end
end
/-- repr(x) of data; hd: sys.modules is a written dict (asked only of data with dicts) -/
theorem call_reprQ {X : Cx} (gA : X.A.guards = some []) (hu : X.A.units + 64 < cLine) : CallR X (.builtin "repr") (fun xs H Q => ∃ (x : V) (d : PyData), xs = [x] ∧ Dq X.K H x d ∧ d.showable = true ∧ d.depth ≤ 60 ∧
    (d.hasDict = true → ∃ o, X.K.lookup sysModules = some o ∧ o.cls = .type "dict") ∧ d.shown.length ≤ sizeLine ∧ Q (.str d.shown) H) := by
  intro pins s σ H xs us Q I r h
  obtain ⟨x, d, rfl, hq, hs, hdp, hsy, hz, q⟩ := h
  obtain ⟨u, rfl, rx⟩ := vals1 r
  obtain ⟨as, rd, hn⟩ := Dq.reads I hq rx
  have ns : d.hasDict = true → sysModules ∉ as := fun e => hn fun o ho hc => by
    obtain ⟨o', h1, h2⟩ := hsy e
    have := I.kIn _ _ h1
    rw [ho] at this
    cases this
    rw [hc] at h2
    exact absurd (Value.type.inj h2) (by decide)
  cases hq with
  | non => cases rx; exact PySem.P.repr_of_none ⟨.str _, H, I.tok _, ⟨_, rfl⟩, q⟩
  | bl b => cases rx; exact PySem.P.repr_of_bool ⟨.str _, H, I.tok _, ⟨_, rfl⟩, q⟩
  | int i =>
    obtain ⟨t, rfl⟩ := rx
    have hs : i.natAbs.log2 < 1920 := by simpa [PyData.showable] using hs
    exact PySem.P.repr_of_int hs ⟨.str _, H, I.tok _, ⟨_, rfl⟩, q⟩
  | str z =>
    obtain ⟨t, rfl⟩ := rx
    exact PySem.P.repr_of_str ⟨.str _, H, I.tok _, ⟨_, rfl⟩, q⟩ hz
  | lst h1 h2 =>
    cases rx
    exact repr_of_reads' rd hs ns gA (by omega) (fun _ _ e => e) (fun h' u tk hk => ⟨.str _, H, I.kept hk, ⟨_, rfl⟩, q⟩) hz
  | tup h1 h2 =>
    cases rx
    exact repr_of_reads' rd hs ns gA (by omega) (fun _ _ e => e) (fun h' u tk hk => ⟨.str _, H, I.kept hk, ⟨_, rfl⟩, q⟩) hz
  | dct h1 h2 =>
    cases rx
    exact repr_of_reads' rd hs ns gA (by omega) (fun _ _ e => e) (fun h' u tk hk => ⟨.str _, H, I.kept hk, ⟨_, rfl⟩, q⟩) hz
/-! ### the end of a law whose own def asks repr -/
section
variable {P : Program} {w : World} {K : PySem.W.Frag} {mg mb : Str → Option Value} {k : Nat} {fa a : Addr} {fd : FuncData} {x : Str} {sp : Sp} {s : Shared} {vs : List Value} {ns : List Int}
/-- the law's call, from a heap in which at most the script is tracked -/
theorem end_core (inK : K.In s.heap) (gl : s.heap.Ns mainGlobals mg) (bl : s.heap.Ns builtinsNs mb) (bb : ∀ y : Str, y ≠ "__name__" → mb y = bootBuiltins y) (nl : s.heap.NoLimit) (ng : s.gens = #[])
    (lst : s.heap.get? a = some { cls := .type "list", data := .seq vs.toArray }) (hr : Room k callerA)
    (F : ∀ base : Heap, K.In base → base.Ns mainGlobals mg → FnG P w K mg base k fa fd [x] sp) (bind : ∀ (s : Shared) (u : Value), BindsTo s fd ⟨[u], []⟩ [(x, u)])
    (H : Hp) (only : Only H) (pr : sp [.ref a] H (fun v _ => v = .bl true) fun _ _ _ => False) (ok : HOk P w H s.heap) (one : ∀ b, H b ≠ none → b = a) (out : H a ≠ none → K.lookup a = none) :
    codeAny (model P w) callerA (.call (.ref fa) ⟨[.ref a], []⟩) (fun r s' => r = .ok (.ret (.bool true)) ∧ OldK s.heap s'.heap ∧ s'.os = s.os ∧ AllBare s'.gens) s := by
  have dictFree : ∀ {b : Addr} {o : Obj} {es : Array DictEntry} {ep : Nat}, s.heap.get? b = some o → o.data = .dict es ep → H b = none := by
    intro b o es ep ho hd
    by_cases e : H b = none
    · exact e
    · have := one b e
      subst this
      rw [lst] at ho
      cases ho
      cases (show Data.seq vs.toArray _ = Data.dict es ep from hd)
  have ns_hid : ∀ {b : Addr} {m : Str → Option Value}, s.heap.Ns b m → (hidT s.heap H).Ns b m := by
    rintro b m ⟨o, es, ep, ho, hd, rest⟩
    exact ⟨o, es, ep, hidT_get ho (dictFree ho hd), hd, rest⟩
  have kin : K.In (hidT s.heap H) := by
    intro b o ho
    refine hidT_get (inK b o ho) ?_
    by_cases e : H b = none
    · exact e
    · have := one b e
      subst this
      rw [out e] at ho
      cases ho
  obtain ⟨mc, l1, l2⟩ := nl
  have md : Mod K mg (hidT s.heap H) := ⟨kin, ns_hid gl, ⟨mb, ns_hid bl, bb⟩, ⟨mc, ns_hid l1, l2⟩⟩
  have env : Env0 P w K mg (hidT s.heap H) callerA [] s H := {
    frames := rfl
    mod := md
    bs := fun b o e => of_hidT e
    bsz := Nat.le_of_eq (hidT_size _ _)
    funs := trivial
    frf := fun b hb => absurd (show b ∈ ([] : List Addr) from hb) (by simp)
    hok := ok
    bare := .of_eq ng }
  have run := (F _ kin (ns_hid gl)).goes callerA [] s H ⟨[.ref a], []⟩ [.ref a] [.ref a] _ _ rfl hr env (bind s (.ref a)) (.cons rfl .nil) pr
  refine codeAny_mono run ?_
  intro r s' res
  match r, res with
  | .error e, res => exact False.elim res
  | .ok .next, res => exact False.elim res
  | .ok .brk, res => exact False.elim res
  | .ok .cont, res => exact False.elim res
  | .ok (.ret u), res =>
    obtain ⟨v, H', os, bare, un, ok', rv, q⟩ := res
    cases (show v = V.bl true from q)
    cases (show u = Value.bool true from rv)
    refine ⟨rfl, OldK.of_keep ?_, os, bare⟩
    intro b o ho
    rcases only b with n | ⟨ob, xs, n⟩
    · exact un.keep b o ho n (by intro z; exact absurd (show b ∈ ([] : List Addr) from z) (by simp)) (by simp)
    · have e1 := (ok b _ n).1
      have e2 := (ok' b _ (un.frzs b ob _ n)).1
      rw [ho] at e1
      cases e1
      exact e2
theorem end_call (inK : K.In s.heap) (gl : s.heap.Ns mainGlobals mg) (bl : s.heap.Ns builtinsNs mb) (bb : ∀ y : Str, y ≠ "__name__" → mb y = bootBuiltins y) (nl : s.heap.NoLimit) (ng : s.gens = #[])
    (lst : s.heap.get? a = some { cls := .type "list", data := .seq vs.toArray }) (inums : IntsAre vs ns) (hl : ns.length ≤ sizeLine) (hr : Room k callerA)
    (F : ∀ base : Heap, K.In base → base.Ns mainGlobals mg → FnG P w K mg base k fa fd [x] sp) (bind : ∀ (s : Shared) (u : Value), BindsTo s fd ⟨[u], []⟩ [(x, u)])
    (pr : ∀ H : Hp, Only H → SqL K H a (ns.map V.int) → sp [.ref a] H (fun v _ => v = .bl true) fun _ _ _ => False) :
    codeAny (model P w) callerA (.call (.ref fa) ⟨[.ref a], []⟩) (fun r s' => r = .ok (.ret (.bool true)) ∧ OldK s.heap s'.heap ∧ s'.os = s.os ∧ AllBare s'.gens) s := by
  have rel := vals_ints inums
  have len := inums.length
  by_cases hk : K.lookup a = none
  · let H : Hp := fun b => if b = a then some (.frz { cls := .type "list", data := .seq vs.toArray } (.lst (ns.map V.int))) else none
    have at_a : H a = some (.frz { cls := .type "list", data := .seq vs.toArray } (.lst (ns.map V.int))) := if_pos rfl
    have off : ∀ b, b ≠ a → H b = none := fun b n => if_neg n
    have only : Only H := by
      intro b
      by_cases e : b = a
      · subst e; exact .inr ⟨_, _, at_a⟩
      · exact .inl (off b e)
    refine end_core inK gl bl bb nl ng lst hr F bind H only (pr H only (.inl (.inr ⟨_, at_a⟩))) ?_ ?_ fun _ => hk
    · intro b u hu
      by_cases e : b = a
      · subst e
        rw [at_a] at hu
        cases hu
        exact ⟨lst, by rw [List.length_map]; exact hl, vs, _, rel, lst⟩
      · rw [off b e] at hu; cases hu
    · intro b hb
      by_cases e : b = a
      · exact e
      · exact absurd (off b e) hb
  · obtain ⟨o, ho⟩ := Option.ne_none_iff_exists'.mp hk
    have e := inK a o ho
    rw [lst] at e
    cases e
    have only : Only (fun _ => none) := fun _ => .inl rfl
    refine end_core inK gl bl bb nl ng lst hr F bind (fun _ => none) only (pr _ only (.inr ⟨_, vs.toArray, _, ho, rfl, rfl, rfl, ?_, ?_⟩)) ?_ ?_ fun n => absurd rfl n
    · rw [List.size_toArray, len]; exact hl
    · simpa using rel
    · intro b u z; cases z
    · intro b n; exact absurd rfl n
end
theorem end_of {l : PySem.W.OpenLaw} {n k : Nat} {q : Program} {loose : List Str} {XP : (Str → Option Value) → Heap → Prop} {YP : World → Heap → Prop} {d : DefRec} {K : Params → PySem.W.Frag} {sp : World → Sp} {x : Str}
    (hn : l.most = some n) (hn2 : n ≤ sizeLine) (hdf : d.params.defaults = []) (hr : Room k callerA) (hY : ∀ (w : World) (h : Heap), YP w h → (K w.params).In h)
    (F : ∀ (w : World) (mg : Str → Option Value) (fa : Addr) (h : Heap), (K w.params).In h → h.Ns mainGlobals mg → mg d.name = some (.ref fa) →
      ∃ fd : FuncData, (∀ (s : Shared) (u : Value), BindsTo s fd ⟨[u], []⟩ [(x, u)]) ∧ ∀ base : Heap, (K w.params).In base → base.Ns mainGlobals mg → FnG l.prog w (K w.params) mg base k fa fd [x] (sp w))
    (pr : ∀ (w : World) (H : Hp) (a : Addr) (ns : List Int), ns.length ≤ n → Only H → SqL (K w.params) H a (ns.map V.int) → sp w [.ref a] H (fun v _ => v = .bl true) fun _ _ _ => False) :
    PySem.W.WalkO q loose XP YP l.row.toRowW d [] (fun f vs => PySem.call f vs) := by
  refine Att.attach_call hn hdf ?_
  intro w s0 s1 mg mb fa o pm cd doc a vs ns G Y ho hd hcd hmg hobj hints hlen hg
  have inK := hY w _ Y
  obtain ⟨fd, bind, goes⟩ := F w mg fa _ inK G.T.g hmg
  exact end_call inK G.T.g G.T.b G.T.builtins G.T.nolimit hg hobj hints (Nat.le_trans hlen hn2) hr goes bind fun H hO hS => pr w H a ns hlen hO hS
end Grd

namespace K71
open PySem PySem.Spec PyProof.Rows L2 Go
def topS (i : Nat) : Stmt := PySem.Challenge.pw_everycoin_k71_faults_of_worlds.main.body.getD i (.Pass ⟨0, 0, 0, 0⟩)
abbrev s_world_fault : Stmt := topS 1
theorem sc_world_fault : FnScope ["cents", "hidden", "totals", "y", "z", "other", "scale", "amounts", "k", "t", "members"] ["cents", "hidden", "totals", "y", "z", "other"] (defScope s_world_fault) := ⟨rfl, rfl, rfl, by decide +kernel, rfl, by decide +kernel, by decide +kernel⟩
abbrev s__law_draw : Stmt := topS 3
theorem sc__law_draw : FnScope ["state", "script", "size", "cell", "mixed", "digit"] ["state", "script", "size"] (defScope s__law_draw) := ⟨rfl, rfl, rfl, by decide +kernel, rfl, by decide +kernel, by decide +kernel⟩
abbrev s__law_fault : Stmt := topS 5
theorem sc__law_fault : FnScope ["cents", "hidden", "totals", "y", "z", "scale", "amounts", "k", "same", "t"] ["cents", "hidden", "totals", "y", "z", "scale", "amounts"] (defScope s__law_fault) := ⟨rfl, rfl, rfl, by decide +kernel, rfl, by decide +kernel, by decide +kernel⟩
abbrev s__law_pick : Stmt := topS 4
theorem sc__law_pick : FnScope ["state", "script", "items"] ["state", "script", "items"] (defScope s__law_pick) := ⟨rfl, rfl, rfl, by decide +kernel, rfl, by decide +kernel, by decide +kernel⟩
abbrev s__law_spoilt : Stmt := topS 6
theorem sc__law_spoilt : FnScope ["state", "script", "scale", "amounts", "kind", "k"] ["state", "script", "scale", "amounts"] (defScope s__law_spoilt) := ⟨rfl, rfl, rfl, by decide +kernel, rfl, by decide +kernel, by decide +kernel⟩
abbrev s_law : Stmt := topS 7
theorem sc_law : FnScope ["script", "state", "size", "cents", "_", "first", "hidden", "k", "totals", "members", "y", "z", "scale", "amounts", "x", "turn", "other", "due", "told", "row"] ["script"] (defScope s_law) := ⟨rfl, rfl, rfl, by decide +kernel, rfl, by decide +kernel, by decide +kernel⟩
/-- what the top has left -/
structure Txt (K : PySem.W.Frag) (mg : Str → Option Value) where
  a_world_fault : Addr
  fd_world_fault : FuncData
  F_world_fault : Fun K "world_fault" "world_fault" s_world_fault a_world_fault fd_world_fault
  b_world_fault : Binds K fd_world_fault ["cents", "hidden", "totals", "y", "z", "other"] []
  g_world_fault : mg "world_fault" = some (.ref a_world_fault)
  a__law_draw : Addr
  fd__law_draw : FuncData
  F__law_draw : Fun K "_law_draw" "_law_draw" s__law_draw a__law_draw fd__law_draw
  b__law_draw : Binds K fd__law_draw ["state", "script", "size"] []
  g__law_draw : mg "_law_draw" = some (.ref a__law_draw)
  a__law_fault : Addr
  fd__law_fault : FuncData
  F__law_fault : Fun K "_law_fault" "_law_fault" s__law_fault a__law_fault fd__law_fault
  b__law_fault : Binds K fd__law_fault ["cents", "hidden", "totals", "y", "z", "scale", "amounts"] []
  g__law_fault : mg "_law_fault" = some (.ref a__law_fault)
  a__law_pick : Addr
  fd__law_pick : FuncData
  F__law_pick : Fun K "_law_pick" "_law_pick" s__law_pick a__law_pick fd__law_pick
  b__law_pick : Binds K fd__law_pick ["state", "script", "items"] []
  g__law_pick : mg "_law_pick" = some (.ref a__law_pick)
  a__law_spoilt : Addr
  fd__law_spoilt : FuncData
  F__law_spoilt : Fun K "_law_spoilt" "_law_spoilt" s__law_spoilt a__law_spoilt fd__law_spoilt
  b__law_spoilt : Binds K fd__law_spoilt ["state", "script", "scale", "amounts"] []
  g__law_spoilt : mg "_law_spoilt" = some (.ref a__law_spoilt)
  a_law : Addr
  fd_law : FuncData
  F_law : Fun K "law" "law" s_law a_law fd_law
  b_law : Binds K fd_law ["script"] []
  g_law : mg "law" = some (.ref a_law)
  n_enumerate : mg "enumerate" = none
  n_int : mg "int" = none
  n_len : mg "len" = none
  n_list : mg "list" = none
  n_range : mg "range" = none
  n_repr : mg "repr" = none
  n_sorted : mg "sorted" = none
  n_sum : mg "sum" = none

end K71

namespace K71
open PySem PySem.Spec PyProof.Rows L2 Go
set_option maxHeartbeats 8000000
local macro_rules | `(tactic| walk_at "ne") => `(tactic| first
  | assumption
  | (refine Ne.symm ?_; assumption)
  | exact (Go.free_upd (by assumption)).2
  | exact (Go.free_upd (by assumption)).2.symm
  | exact Go.ne_fr (by assumption) (by walk_at "hp")
  | exact (Go.ne_fr (by assumption) (by walk_at "hp")).symm)
local macro_rules | `(tactic| walk_at "fr") => `(tactic| first
  | assumption
  | exact (Go.free_upd (by assumption)).1
  | exact (Go.free_upd (Go.free_upd (by assumption)).1).1
  | exact Same.free (by assumption) (by walk_at "fr"))
local macro_rules | `(tactic| walk_at "hp") => `(tactic| first
  | assumption
  | with_reducible exact upd_same
  | ((with_reducible show upd _ _ _ _ = _); exact Go.at_upd (by walk_at "ne") (by walk_at "hp"))
  | exact (by assumption : Same _ _) _ _ (by walk_at "hp")
  | exact (by assumption : Go.Kp _ _ _) _ _ (by walk_at "ne") (by walk_at "hp"))
local macro_rules | `(tactic| walk_at "sq") => `(tactic| first
  | assumption
  | ((with_reducible show SqL _ (upd _ _ _) _ _); exact (by assumption : ∀ o, SqL _ (upd _ _ o) _ _) _)
  | ((with_reducible show SqL _ _ _ _); exact SqL.of (by walk_at "hp"))
  | ((with_reducible show SqT _ _ _ _); exact SqT.of (by walk_at "hp"))
  | ((with_reducible show SqL _ (upd _ _ _) _ _); exact Go.sqL_new (by walk_at "fr") (by walk_at "sq"))
  | ((with_reducible show SqT _ (upd _ _ _) _ _); exact Go.sqT_new (by walk_at "fr") (by walk_at "sq"))
  | ((with_reducible show SqL _ (upd _ _ _) _ _); exact Go.sqL_ne (by walk_at "ne") (by walk_at "sq"))
  | exact Go.sqL_same (by assumption) (by walk_at "sq")
  | exact Go.sqT_same (by assumption) (by walk_at "sq")
  | exact Go.sqL_kp (by assumption) (by walk_at "ne") (by walk_at "sq")
  | exact Go.sqT_kp (by assumption) (by walk_at "ne") (by walk_at "sq"))
local macro_rules | `(tactic| walk_at "ci") => `(tactic| first
  | exact .inr ⟨by decide, by decide⟩
  | exact .inl ⟨by decide, by decide⟩
  | exact ⟨by decide, by decide, by decide⟩
  | decide
  | omega
  | exact ⟨by omega, by omega⟩
  | exact .inl ⟨by omega, by omega⟩
  | exact .inr ⟨by omega, by omega⟩)
local macro_rules | `(tactic| walk_at "g0") => `(tactic| first
  | with_reducible refine Go.g_seq ?_
  | ((with_reducible show tVar _ _ _ _); refine ⟨_, rfl, ?_⟩)
  | with_reducible refine Go.g_c ?_
  | with_reducible refine Go.g_op ?_
  | with_reducible refine Go.g_asg ?_
  | with_reducible refine Go.g_name ?_
  | with_reducible refine Go.g_cons ?_
  | with_reducible refine Go.g_lst ?_
  | with_reducible refine Go.g_tup ?_
  | with_reducible refine Go.g_for ?_
  | with_reducible refine Go.g_rng1 ?_
  | with_reducible refine Go.g_rng2 ?_
  | with_reducible refine Go.g_rng3 ?_
  | with_reducible refine Go.g_list ?_
  | with_reducible refine Go.g_itup ?_
  | with_reducible refine Go.g_enum ?_
  | with_reducible refine Go.g_lc ?_
  | with_reducible refine Go.g_nil ?_
  | with_reducible refine Go.g_cb ?_
  | with_reducible refine Go.g_call ?_
  | with_reducible refine Go.g_ret ?_
  | with_reducible refine Go.g_next ?_
  | with_reducible refine Go.g_drop ?_
  | with_reducible refine Go.g_un ?_
  | with_reducible refine Go.g_test ?_
  | with_reducible refine Go.g_tB ?_
  | with_reducible refine Go.g_ifs ?_
  | with_reducible refine Go.g_if ?_
  | with_reducible refine Go.g_and ?_
  | with_reducible refine Go.g_or ?_
  | with_reducible refine Go.g_not ?_
  | with_reducible refine Go.g_sl ?_
  | with_reducible refine Go.g_nopart ?_
  | with_reducible refine Go.g_part ?_
  | ((with_reducible show ∃ k, V.bl _ = V.bl k ∧ _); refine ⟨_, rfl, ?_⟩)
  | ((with_reducible show ∃ k, V.int _ = V.int k ∧ _); refine ⟨_, rfl, ?_⟩)
  | with_reducible refine Go.g_bm ?_
  | with_reducible refine Go.g_yes ?_
  | ((with_reducible show rI0 _ _ _ _ _); refine ⟨_, _, rfl, rfl, ?_⟩)
  | ((with_reducible show rI _ _ _ _ _ _); refine ⟨_, _, rfl, rfl, ?_, ?_⟩; (focus walk_at "ci"))
  | ((with_reducible show rU _ _ _ _); refine ⟨_, rfl, ?_⟩)
  | ((with_reducible show rEq _ _ _ _); refine ⟨rfl, ?_⟩)
  | ((with_reducible show rNe _ _ _ _); refine ⟨rfl, ?_⟩)
  | ((with_reducible show rIxL _ _ _ _ _); refine Go.g_ixL (by walk_at "sq") (by rfl) ?_)
  | ((with_reducible show rIxT _ _ _ _ _); refine Go.g_ixT (by walk_at "sq") (by rfl) ?_)
  | ((with_reducible show rSetL _ _ _ _ _); refine Go.g_setL (by walk_at "hp") (by rfl) ?_)
  | ((with_reducible show ∃ p ys, [V.ref _] = [V.ref p] ∧ (SqL _ _ _ _ ∨ SqT _ _ _ _) ∧ _); refine ⟨_, _, rfl, .inl (by walk_at "sq"), ?_⟩)
  | ((with_reducible show (∃ i, [V.int _] = [V.int i] ∧ _) ∨ _); refine .inl ⟨_, rfl, ?_⟩)
  | ((with_reducible show ∃ (c : Nat) (z : Str), V.str _ = V.str ⟨#[c]⟩ ∧ V.str _ = V.str z ∧ _); refine ⟨_, _, rfl, rfl, ?_⟩)
  | ((with_reducible show ∃ x : Str, [V.str _] = [V.str x] ∧ Str.length x = 1 ∧ _); refine ⟨_, rfl, rfl, ?_⟩)
  | ((with_reducible show ∃ z : Str, [V.str _] = [V.str z] ∧ Str.length z ≤ sizeLine ∧ _); refine ⟨_, rfl, by assumption, ?_⟩)
  | ((with_reducible show rSlS _ _ _ _ _); refine ⟨_, rfl, by assumption, ?_⟩)
  | ((with_reducible show gTup _ _ _ _ _ _ _); refine Go.g_gtup (by walk_at "sq") (by rfl) ?_)
  | ((with_reducible show gCons _ _ _ _ _ _); refine ⟨_, _, rfl, ?_⟩)
  | ((with_reducible show gNil _ _ _ _); refine ⟨rfl, ?_⟩)
  | ((with_reducible show rLenS _ _ _ _); refine Go.g_lenL (by walk_at "sq") ?_)
  | ((with_reducible show rListOf _ _ _ _); refine Go.g_listL (by walk_at "sq") ?_)
  | ((with_reducible show wipe _ _ = wipe _ _ ∧ _); refine ⟨rfl, ?_⟩)
  | ((with_reducible show if true = true then _ else _); refine iteT ?_)
  | ((with_reducible show if false = true then _ else _); refine iteF ?_)
  | ((with_reducible show ∃ a xs, [V.ref _] = [V.ref a] ∧ SqL _ _ a xs ∧ _); refine ⟨_, _, rfl, by walk_at "sq", ?_⟩)
  | ((with_reducible show ∃ a, V.ref _ = V.ref a ∧ (∃ xs, SqL _ _ a xs) ∧ _); refine ⟨_, rfl, ⟨_, by walk_at "sq"⟩, ?_⟩)
  | ((with_reducible show ∃ a, V.ref _ = V.ref a ∧ (∃ xs, SqT _ _ a xs) ∧ _); refine ⟨_, rfl, ⟨_, by walk_at "sq"⟩, ?_⟩)
  | ((with_reducible show ∃ j : Int, [V.int _] = [V.int j] ∧ _ ≤ j ∧ j < _ ∧ _); refine ⟨_, rfl, by omega, by omega, ?_⟩)
  | ((with_reducible show ∃ i j : Int, [V.int _, V.int _] = [V.int i, V.int j] ∧ (_ ≤ i ∧ i < _ ∧ _ ≤ j ∧ j < _) ∧ _); refine ⟨_, _, rfl, ⟨by omega, by omega, by omega, by omega⟩, ?_⟩)
  | ((with_reducible show ∃ i j : Int, [V.int _, V.int _] = [V.int i, V.int j] ∧ _); refine ⟨_, _, rfl, ?_⟩)
  | ((with_reducible show _ ≤ sizeLine ∧ _); refine ⟨by first | decide | (simp only [List.length_cons, List.length_nil]; decide), ?_⟩))
local macro_rules | `(tactic| walk_at "g1") => `(tactic| first | walk_at "g0" | with_reducible refine Go.g_sub ?_)
local macro_rules | `(tactic| walk_at "g") => `(tactic| repeat walk_at "g1")
local macro_rules | `(tactic| walk_at "v") => `(tactic| repeat walk_at "g0")
local macro_rules | `(tactic| walk_at "if") => `(tactic| first
  | with_reducible refine @Go.g_itd _ _ _ _ ?_ ?_
  | with_reducible refine @Go.g_itnd _ _ _ _ ?_ ?_
  | with_reducible refine Go.g_ite ?_ ?_)

section
variable {P : Program} {w : World} {K : PySem.W.Frag} {mg : Str → Option Value} {base : Heap}
def sp__law_draw (K : PySem.W.Frag) : Sp := fun vs H Q _ => ∃ (st sc : Addr) (ns : List Int) (size : Int), vs = [.ref st, .ref sc, .int size] ∧ St K H st sc ns ∧
  1 ≤ size ∧ size < 1000000 ∧ ∀ H' d, Kp st H H' → St K H' st sc ns → 0 ≤ d → d < size → Q (.int d) H'
theorem ok__law_draw (T : Txt K mg) : FnOk P w K mg base CX0 1 T.a__law_draw T.fd__law_draw ["state", "script", "size"] (sp__law_draw K) := by
  refine T.F__law_draw.ok sc__law_draw (fun vs H Q E h => ?_) (fun cdv A outer s H vs Q E hr h => ?_)
  · obtain ⟨st, sc, ns, size, rfl, _⟩ := h; rfl
  · obtain ⟨st, sc, ns, size, rfl, hS, h1, h2, q⟩ := h
    obtain ⟨⟨n, s, hst⟩, hsq, hlen⟩ := hS
    have hsc := hsq _ (Fz.refl _)
    refine ⟨_, C8.pss_cut (ps_if (pt_cmpR op_eq (pe_ix ix_list (pv 0) pe_int (fun _ _ => rfl)) pe_int (nomark _))
        (pss_cons (ps_set (i := 3) sc__law_draw.nd rfl (.inl rfl) pe_int)
        (C8.pss_cut (ps_if (pt_cmpR op_gt (pe_callB call_lenS (by rfl) T.n_len PySem.boot_len (pa_cons (pv 1) pa_nil)) pe_int (nomark _))
          (pss_one (ps_set (i := 3) sc__law_draw.nd rfl (.inl rfl) (pe_ix ix_list (pv 1) (pe_op op_mod (pe_ix ix_list (pv 0) pe_int (fun _ _ => rfl)) (pe_callB call_lenS (by rfl) T.n_len PySem.boot_len (pa_cons (pv 1) pa_nil))) (fun _ _ => rfl))))
          (pss_nil))
        (C8.pss_cut (ps_if (pt_cmpR op_lt (pv 3) pe_int (nomark _))
          (pss_one (ps_set (i := 3) sc__law_draw.nd rfl (.inl rfl) (pe_op op_sub pe_int (pe_op op_mul pe_int (pv 3)))))
          (pss_nil))
        (pss_cons (ps_set (i := 4) sc__law_draw.nd rfl (.inl rfl) (pe_op op_mod (pe_callTy call_int1 (by rfl) T.n_int (by decide +kernel) (pa_cons (pe_op op_mul (pe_op op_add (pe_op op_add (pv 3) (pe_op op_mul (pe_ix ix_list (pv 0) pe_int (fun _ _ => rfl)) pe_int)) pe_int) pe_int) pa_nil)) pe_int))
        (pss_cons (ps_asg (pe_op op_mod (pe_callTy call_int1 (by rfl) T.n_int (by decide +kernel) (pa_cons (pe_op op_add (pe_op op_mul (pv 4) pe_int) (pe_op op_mul (pe_ix ix_list (pv 0) pe_int (fun _ _ => rfl)) pe_int)) pa_nil)) pe_int) (pg_sub (pv 0) pe_int set_list))
        (C8.pss_cut (ps_if (PW.pt (pw_and (pt_cmpR op_ge (pv 3) (pe_op op_pow pe_int pe_int) (nomark _)) (pw_and1 (pt_cmpR op_lt (pe_ix ix_list (pv 0) pe_int (fun _ _ => rfl)) (pe_callB call_lenS (by rfl) T.n_len PySem.boot_len (pa_cons (pv 1) pa_nil)) (nomark _)))))
          (pss_one (ps_asg (pv 3) (pg_sub (pv 0) pe_int set_list)))
          (pss_nil))
        (pss_one (ps_asg (pe_op op_add (pe_ix ix_list (pv 0) pe_int (fun _ _ => rfl)) pe_int) (pg_sub (pv 0) pe_int set_list)))))))))
        (pss_nil))
      (pss_cons (ps_set (i := 5) sc__law_draw.nd rfl (.inl rfl) (pe_op op_mod (pe_callTy call_int1 (by rfl) T.n_int (by decide +kernel) (pa_cons (pe_ix ix_list (pv 0) pe_int (fun _ _ => rfl)) pa_nil)) (pv 2)))
      (pss_cons (ps_asg (pe_op op_fdiv (pe_ix ix_list (pv 0) pe_int (fun _ _ => rfl)) (pv 2)) (pg_sub (pv 0) pe_int set_list))
      (pss_one (ps_ret (pv 5))))), ?_⟩
    refine ⟨fun σ' H' => ∃ n s y3 y4, σ' = [some (.ref st), some (.ref sc), some (.int size), y3, y4, none] ∧ Kp st H H' ∧ H' st = some (.lst [.int n, .int s]), ?_, ?_⟩
    · walk_at "g"
      walk_at "if" <;> intro e
      · walk_at "g"
        refine ⟨fun σ' H' => ∃ c : Int, σ' = [some (.ref st), some (.ref sc), some (.int size), some (.int c), none, none] ∧ H = H', ?_, ?_⟩
        · walk_at "g"
          walk_at "if" <;> intro e
          · walk_at "g"
            refine ⟨_, _, _, _, rfl, rfl, hsc, atI_map (Int.emod_nonneg _ (by omega)) ?_, ?_⟩
            · rw [List.length_map] at e ⊢
              exact Int.emod_lt_of_pos _ e
            · exact ⟨_, rfl, rfl⟩
          · exact ⟨_, rfl, rfl⟩
        · rintro _ _ ⟨c, rfl, rfl⟩
          refine ⟨fun σ' H' => ∃ c : Int, σ' = [some (.ref st), some (.ref sc), some (.int size), some (.int c), none, none] ∧ H = H', ?_, ?_⟩
          · walk_at "g"
            walk_at "if" <;> intro e
            · walk_at "g"
              exact ⟨_, rfl, rfl⟩
            · exact ⟨_, rfl, rfl⟩
          · rintro _ _ ⟨c, rfl, rfl⟩
            walk_at "g"
            refine ⟨fun σ' H' => ∃ n s c m : Int, σ' = [some (.ref st), some (.ref sc), some (.int size), some (.int c), some (.int m), none] ∧ Kp st H H' ∧ H' st = some (.lst [.int n, .int s]), ?_, ?_⟩
            · walk_at "g"
              walk_at "if" <;> intro e
              · have hsc1 : ∀ o, SqL K (upd H st o) sc (ns.map V.int) := fun o => hsq _ (Fz.setL hst)
                walk_at "g"
                walk_at "if" <;> intro e
                · walk_at "g"
                  exact ⟨_, _, _, _, rfl, (Kp.refl _ _).at.at, upd_same⟩
                · walk_at "g"
                  exact ⟨_, _, _, _, rfl, (Kp.refl _ _).at, upd_same⟩
              · walk_at "g"
                exact ⟨_, _, _, _, rfl, (Kp.refl _ _).at, upd_same⟩
            · rintro _ H1 ⟨n, s, c, m, rfl, k1, hs1⟩
              walk_at "g"
              exact ⟨_, _, _, _, rfl, k1.at, upd_same⟩
      · walk_at "g"
        exact ⟨_, _, _, _, rfl, Kp.refl _ _, hst⟩
    · rintro _ H1 ⟨n, s, y3, y4, rfl, k1, hs1⟩
      walk_at "g"
      exact q _ _ k1.at ⟨⟨_, _, upd_same⟩, fun H' k => hsq _ ((Fz.of_kp hst k1.at).trans k), hlen⟩ (Int.emod_nonneg _ (by omega)) (Int.emod_lt_of_pos _ (by omega))

end
end K71

namespace K71
open PySem PySem.Spec PyProof.Rows L2 Go Grd
set_option maxHeartbeats 8000000
local macro_rules | `(tactic| walk_at "ne") => `(tactic| first
  | assumption
  | (refine Ne.symm ?_; assumption)
  | exact (Go.free_upd (by assumption)).2
  | exact (Go.free_upd (by assumption)).2.symm
  | exact Go.ne_fr (by assumption) (by walk_at "hp")
  | exact (Go.ne_fr (by assumption) (by walk_at "hp")).symm)
local macro_rules | `(tactic| walk_at "fr") => `(tactic| first
  | assumption
  | exact (Go.free_upd (by assumption)).1
  | exact (Go.free_upd (Go.free_upd (by assumption)).1).1
  | exact Same.free (by assumption) (by walk_at "fr"))
local macro_rules | `(tactic| walk_at "hp") => `(tactic| first
  | assumption
  | with_reducible exact upd_same
  | ((with_reducible show upd _ _ _ _ = _); exact Go.at_upd (by walk_at "ne") (by walk_at "hp"))
  | exact (by assumption : Same _ _) _ _ (by walk_at "hp")
  | exact (by assumption : Go.Kp _ _ _) _ _ (by walk_at "ne") (by walk_at "hp"))
local macro_rules | `(tactic| walk_at "sq") => `(tactic| first
  | assumption
  | ((with_reducible show SqL _ (upd _ _ _) _ _); exact (by assumption : ∀ o, SqL _ (upd _ _ o) _ _) _)
  | ((with_reducible show SqL _ _ _ _); exact SqL.of (by walk_at "hp"))
  | ((with_reducible show SqT _ _ _ _); exact SqT.of (by walk_at "hp"))
  | ((with_reducible show SqL _ (upd _ _ _) _ _); exact Go.sqL_new (by walk_at "fr") (by walk_at "sq"))
  | ((with_reducible show SqT _ (upd _ _ _) _ _); exact Go.sqT_new (by walk_at "fr") (by walk_at "sq"))
  | ((with_reducible show SqL _ (upd _ _ _) _ _); exact Go.sqL_ne (by walk_at "ne") (by walk_at "sq"))
  | exact Go.sqL_same (by assumption) (by walk_at "sq")
  | exact Go.sqT_same (by assumption) (by walk_at "sq")
  | exact Go.sqL_kp (by assumption) (by walk_at "ne") (by walk_at "sq")
  | exact Go.sqT_kp (by assumption) (by walk_at "ne") (by walk_at "sq"))
local macro_rules | `(tactic| walk_at "ci") => `(tactic| first
  | exact .inr ⟨by decide, by decide⟩
  | exact .inl ⟨by decide, by decide⟩
  | exact ⟨by decide, by decide, by decide⟩
  | decide
  | omega
  | exact ⟨by omega, by omega⟩
  | exact .inl ⟨by omega, by omega⟩
  | exact .inr ⟨by omega, by omega⟩)
local macro_rules | `(tactic| walk_at "g0") => `(tactic| first
  | with_reducible refine Go.g_seq ?_
  | ((with_reducible show tVar _ _ _ _); refine ⟨_, rfl, ?_⟩)
  | with_reducible refine Go.g_c ?_
  | with_reducible refine Go.g_op ?_
  | with_reducible refine Go.g_asg ?_
  | with_reducible refine Go.g_name ?_
  | with_reducible refine Go.g_cons ?_
  | with_reducible refine Go.g_lst ?_
  | with_reducible refine Go.g_tup ?_
  | with_reducible refine Go.g_for ?_
  | with_reducible refine Go.g_rng1 ?_
  | with_reducible refine Go.g_rng2 ?_
  | with_reducible refine Go.g_rng3 ?_
  | with_reducible refine Go.g_list ?_
  | with_reducible refine Go.g_itup ?_
  | with_reducible refine Go.g_enum ?_
  | with_reducible refine Go.g_lc ?_
  | with_reducible refine Go.g_nil ?_
  | with_reducible refine Go.g_cb ?_
  | with_reducible refine Go.g_call ?_
  | with_reducible refine Go.g_ret ?_
  | with_reducible refine Go.g_next ?_
  | with_reducible refine Go.g_drop ?_
  | with_reducible refine Go.g_un ?_
  | with_reducible refine Go.g_test ?_
  | with_reducible refine Go.g_tB ?_
  | with_reducible refine Go.g_ifs ?_
  | with_reducible refine Go.g_if ?_
  | with_reducible refine Go.g_and ?_
  | with_reducible refine Go.g_or ?_
  | with_reducible refine Go.g_not ?_
  | with_reducible refine Go.g_sl ?_
  | with_reducible refine Go.g_nopart ?_
  | with_reducible refine Go.g_part ?_
  | ((with_reducible show ∃ k, V.bl _ = V.bl k ∧ _); refine ⟨_, rfl, ?_⟩)
  | ((with_reducible show ∃ k, V.int _ = V.int k ∧ _); refine ⟨_, rfl, ?_⟩)
  | with_reducible refine Go.g_bm ?_
  | with_reducible refine Go.g_yes ?_
  | ((with_reducible show rI0 _ _ _ _ _); refine ⟨_, _, rfl, rfl, ?_⟩)
  | ((with_reducible show rI _ _ _ _ _ _); refine ⟨_, _, rfl, rfl, ?_, ?_⟩; (focus walk_at "ci"))
  | ((with_reducible show rU _ _ _ _); refine ⟨_, rfl, ?_⟩)
  | ((with_reducible show rEq _ _ _ _); refine ⟨rfl, ?_⟩)
  | ((with_reducible show rNe _ _ _ _); refine ⟨rfl, ?_⟩)
  | ((with_reducible show rIxL _ _ _ _ _); refine Go.g_ixL (by walk_at "sq") (by rfl) ?_)
  | ((with_reducible show rIxT _ _ _ _ _); refine Go.g_ixT (by walk_at "sq") (by rfl) ?_)
  | ((with_reducible show rSetL _ _ _ _ _); refine Go.g_setL (by walk_at "hp") (by rfl) ?_)
  | ((with_reducible show ∃ p ys, [V.ref _] = [V.ref p] ∧ (SqL _ _ _ _ ∨ SqT _ _ _ _) ∧ _); refine ⟨_, _, rfl, .inl (by walk_at "sq"), ?_⟩)
  | ((with_reducible show (∃ i, [V.int _] = [V.int i] ∧ _) ∨ _); refine .inl ⟨_, rfl, ?_⟩)
  | ((with_reducible show ∃ (c : Nat) (z : Str), V.str _ = V.str ⟨#[c]⟩ ∧ V.str _ = V.str z ∧ _); refine ⟨_, _, rfl, rfl, ?_⟩)
  | ((with_reducible show ∃ x : Str, [V.str _] = [V.str x] ∧ Str.length x = 1 ∧ _); refine ⟨_, rfl, rfl, ?_⟩)
  | ((with_reducible show ∃ z : Str, [V.str _] = [V.str z] ∧ Str.length z ≤ sizeLine ∧ _); refine ⟨_, rfl, by assumption, ?_⟩)
  | ((with_reducible show rSlS _ _ _ _ _); refine ⟨_, rfl, by assumption, ?_⟩)
  | ((with_reducible show gTup _ _ _ _ _ _ _); refine Go.g_gtup (by walk_at "sq") (by rfl) ?_)
  | ((with_reducible show gCons _ _ _ _ _ _); refine ⟨_, _, rfl, ?_⟩)
  | ((with_reducible show gNil _ _ _ _); refine ⟨rfl, ?_⟩)
  | ((with_reducible show rLenS _ _ _ _); refine Go.g_lenL (by walk_at "sq") ?_)
  | ((with_reducible show rListOf _ _ _ _); refine Go.g_listL (by walk_at "sq") ?_)
  | ((with_reducible show wipe _ _ = wipe _ _ ∧ _); refine ⟨rfl, ?_⟩)
  | ((with_reducible show if true = true then _ else _); refine iteT ?_)
  | ((with_reducible show if false = true then _ else _); refine iteF ?_)
  | ((with_reducible show ∃ a xs, [V.ref _] = [V.ref a] ∧ SqL _ _ a xs ∧ _); refine ⟨_, _, rfl, by walk_at "sq", ?_⟩)
  | ((with_reducible show ∃ a, V.ref _ = V.ref a ∧ (∃ xs, SqL _ _ a xs) ∧ _); refine ⟨_, rfl, ⟨_, by walk_at "sq"⟩, ?_⟩)
  | ((with_reducible show ∃ a, V.ref _ = V.ref a ∧ (∃ xs, SqT _ _ a xs) ∧ _); refine ⟨_, rfl, ⟨_, by walk_at "sq"⟩, ?_⟩)
  | ((with_reducible show ∃ j : Int, [V.int _] = [V.int j] ∧ _ ≤ j ∧ j < _ ∧ _); refine ⟨_, rfl, by omega, by omega, ?_⟩)
  | ((with_reducible show ∃ i j : Int, [V.int _, V.int _] = [V.int i, V.int j] ∧ (_ ≤ i ∧ i < _ ∧ _ ≤ j ∧ j < _) ∧ _); refine ⟨_, _, rfl, ⟨by omega, by omega, by omega, by omega⟩, ?_⟩)
  | ((with_reducible show ∃ i j : Int, [V.int _, V.int _] = [V.int i, V.int j] ∧ _); refine ⟨_, _, rfl, ?_⟩)
  | ((with_reducible show _ ≤ sizeLine ∧ _); refine ⟨by first | decide | (simp only [List.length_cons, List.length_nil]; decide), ?_⟩))
local macro_rules | `(tactic| walk_at "g1") => `(tactic| first | walk_at "g0" | with_reducible refine Go.g_sub ?_)
local macro_rules | `(tactic| walk_at "g") => `(tactic| repeat walk_at "g1")
local macro_rules | `(tactic| walk_at "v") => `(tactic| repeat walk_at "g0")
local macro_rules | `(tactic| walk_at "if") => `(tactic| first
  | with_reducible refine @Go.g_itd _ _ _ _ ?_ ?_
  | with_reducible refine @Go.g_itnd _ _ _ _ ?_ ?_
  | with_reducible refine Go.g_ite ?_ ?_)

section
variable {P : Program} {w : World} {K : PySem.W.Frag} {mg : Str → Option Value} {base : Heap}
/-! the plain law: the first fault -/
def at0 (l : List Int) (k : Nat) : Int := l.getD k 0
def bad (cents hidden : List Int) (z : Option Int) (scale : Int) (amounts : List Int) (k : Nat) : Bool :=
  decide (at0 amounts k < 1) || ((!hidden.contains (k : Int) || decide (z = some (k : Int))) && decide (at0 amounts k ≠ scale * at0 cents k))
def sumAt (l : List Int) (ks : List Int) : Int := (ks.map fun k => at0 l k.toNat).sum
def off (cents : List Int) (totals : List (List Int)) (scale : Int) (amounts : List Int) (t : Nat) : Bool :=
  decide (sumAt amounts (totals.getD t []) ≠ scale * sumAt cents (totals.getD t []))
def fault (cents hidden : List Int) (totals : List (List Int)) (y : Int) (z : Option Int) (scale : Int) (amounts : List Int) : PyData :=
  if scale < 1 ∨ amounts.length ≠ cents.length then .tuple [.str "form"]
  else match (List.range cents.length).find? (bad cents hidden z scale amounts) with
    | some k => .tuple [.str "gift", .int k]
    | none => if at0 amounts y.toNat = scale * at0 cents y.toNat then .tuple [.str "same"]
      else match (List.range totals.length).find? (off cents totals scale amounts) with
        | some t => .tuple [.str "total", .int t]
        | none => .none
def zV : Option Int → V
  | none => .non
  | some i => .int i
theorem zV_eq (k : Nat) (z : Option Int) : (V.int (k : Int) = zV z) ↔ z = some (k : Int) := by
  cases z with
  | none => simp [zV]
  | some i => simp [zV]; exact eq_comm
theorem zV_scal (k : Int) (z : Option Int) : scal (.int k) (zV z) = true := by cases z <;> rfl
theorem at0_at {l : List Int} {i : Int} {k : Nat} (e : i = (k : Int)) (h : k < l.length) : atI (l.map V.int) i = some (.int (at0 l k)) := by
  subst e
  refine atI_nat ?_
  rw [List.getElem?_map, List.getElem?_eq_getElem h]
  unfold at0
  rw [List.getD_eq_getElem?_getD, List.getElem?_eq_getElem h]; rfl
theorem ints_flat (l : List Int) : (l.map V.int).all flatV = true := by
  rw [List.all_map]; exact List.all_eq_true.mpr fun _ _ => rfl
theorem inV_int (k : Int) (l : List Int) : inV (.int k) (l.map V.int) = l.contains k := by
  unfold inV
  rw [List.any_map, List.contains_eq_any_beq]
  induction l with
  | nil => rfl
  | cons a r ih =>
    simp only [List.any_cons, Function.comp]
    rw [show eqV (V.int a) (V.int k) = (k == a) by show (a == k) = (k == a); exact Bool.beq_comm, ← ih]
/-- the data that the judged function reads -/
structure In (K : PySem.W.Frag) (H : Hp) (c h t m : Addr) (rs : List Addr) (cents hidden amounts : List Int) (totals : List (List Int)) : Prop where
  hc : SqL K H c (cents.map V.int)
  hh : SqL K H h (hidden.map V.int)
  ht : SqL K H t (rs.map V.ref)
  hm : SqL K H m (amounts.map V.int)
  len : rs.length = totals.length
  row : ∀ i (h1 : i < rs.length) (h2 : i < totals.length), SqL K H rs[i] (totals[i].map V.int)
  ok : ∀ row ∈ totals, ∀ k ∈ row, 0 ≤ k ∧ k < cents.length
  short : cents.length ≤ 20
  shortT : ∀ row ∈ totals, row.length ≤ 100
  manyT : totals.length ≤ 100
theorem In.same {K : PySem.W.Frag} {H H1 : Hp} {c h t m : Addr} {rs : List Addr} {cents hidden amounts : List Int} {totals : List (List Int)} (I : In K H c h t m rs cents hidden amounts totals) (s : Same H H1) :
    In K H1 c h t m rs cents hidden amounts totals :=
  ⟨sqL_same s I.hc, sqL_same s I.hh, sqL_same s I.ht, sqL_same s I.hm, I.len, fun i h1 h2 => sqL_same s (I.row i h1 h2), I.ok, I.short, I.shortT, I.manyT⟩
theorem find_at {n k : Nat} {p : Nat → Bool} (h : p k = true) (hk : k < n) (hb : ∀ j, j < k → p j = false) : (List.range n).find? p = some k := by
  rw [List.find?_range_eq_some]
  exact ⟨h, List.mem_range.mpr hk, fun j hj => by rw [hb j hj]; rfl⟩
theorem find_no {n : Nat} {p : Nat → Bool} (hb : ∀ j, j < n → p j = false) : (List.range n).find? p = none := by
  rw [List.find?_range_eq_none]
  exact fun j hj => by rw [hb j hj]; rfl
theorem sum_at (l ks : List Int) : ((List.range ks.length).map fun i => at0 l (ks.getD i 0).toNat).sum = sumAt l ks := by
  unfold sumAt
  congr 1
  refine List.ext_getElem? fun i => ?_
  rw [List.getElem?_map, List.getElem?_map]
  by_cases h : i < ks.length
  · rw [List.getElem?_range h, List.getElem?_eq_getElem h, Option.map_some, Option.map_some, List.getD_eq_getElem?_getD, List.getElem?_eq_getElem h]; rfl
  · rw [List.getElem?_eq_none (by simp; omega), List.getElem?_eq_none (by omega)] <;> rfl
theorem dq_tup1 {K : PySem.W.Frag} {H : Hp} {p : Addr} {x : Str} : Dq K (upd H p (.tup [.str x])) (.ref p) (.tuple [.str x]) := .tup (.inl (.inl upd_same)) (.cons (.str _) .nil)
theorem dq_tup2 {K : PySem.W.Frag} {H : Hp} {p : Addr} {x : Str} {i : Int} : Dq K (upd H p (.tup [.str x, .int i])) (.ref p) (.tuple [.str x, .int i]) := .tup (.inl (.inl upd_same)) (.cons (.str _) (.cons (.int _) .nil))
def sp_world_fault (K : PySem.W.Frag) : Sp := fun vs H Q _ => ∃ (c h t m o : Addr) (rs : List Addr) (cents hidden amounts : List Int) (totals : List (List Int)) (y : Int) (z : Option Int) (scale : Int),
  vs = [.ref c, .ref h, .ref t, .int y, zV z, .ref o] ∧ In K H c h t m rs cents hidden amounts totals ∧ SqT K H o [.int scale, .ref m] ∧ 0 ≤ y ∧ y < cents.length ∧ -100 ≤ scale ∧ scale ≤ 100 ∧
  ∀ H' v, Same H H' → Dq K H' v (fault cents hidden totals y z scale amounts) → Q v H'
theorem ok_world_fault (T : Txt K mg) : FnOk P w K mg base CX0 1 T.a_world_fault T.fd_world_fault ["cents", "hidden", "totals", "y", "z", "other"] (sp_world_fault K) := by
  refine T.F_world_fault.ok sc_world_fault (fun vs H Q E h => ?_) (fun cdv A outer s H vs Q E hr h => ?_)
  · obtain ⟨c, h, t, m, o, rs, cents, hidden, amounts, totals, y, z, scale, rfl, _⟩ := h; rfl
  · obtain ⟨c, h, t, m, o, rs, cents, hidden, amounts, totals, y, z, scale, rfl, I, ho, hy0, hy1, hs0, hs1, q⟩ := h
    have hc := I.hc
    have hh := I.hh
    have ht := I.ht
    have hm := I.hm
    have short := I.short
    have lc : (cents.map V.int).length = cents.length := List.length_map ..
    have lm : (amounts.map V.int).length = amounts.length := List.length_map ..
    refine ⟨_, pss_cons (ps_asg (pv 5) (pg_tup rfl (pgs_cons (pg_name (i := 6) sc_world_fault.nd rfl (.inl rfl)) (pgs_cons (pg_name (i := 7) sc_world_fault.nd rfl (.inr rfl)) pgs_nil))))
      (pss_cons (ps_if (pt_cutT (PW.pt (pw_or (pt_cmpR op_lt (pv 6) pe_int (nomark _)) (pw_or1 (pt_cmpR op_ne (pe_callB call_lenS (by rfl) T.n_len PySem.boot_len (pa_cons (pv 7) pa_nil)) (pe_callB call_lenS (by rfl) T.n_len PySem.boot_len (pa_cons (pv 0) pa_nil)) (nomark _))))))
        (pss_one (ps_ret (pe_tup (pa_cons pe_str pa_nil))))
        (pss_nil))
      (pss_cons (ps_for PassesOwn.never rfl (pi_range1 (by rfl) T.n_range (pa_cons (pe_callB call_lenS (by rfl) T.n_len PySem.boot_len (pa_cons (pv 0) pa_nil)) pa_nil)) (pg_name (i := 8) sc_world_fault.nd rfl (.inl rfl))
        (pss_one (ps_if (pt_cutT (PW.pt (pw_or (pt_cmpR op_lt (pe_ix ix_list (pv 7) (pv 8) (fun _ _ => rfl)) pe_int (nomark _)) (pw_or1 (PW.pt (pw_and (PW.pt (pw_or (pt_cmpR op_notIn_seq (pv 8) (pv 1) rfl) (pw_or1 (pt_cmpR op_eq (pv 8) (pv 4) (nomark _))))) (pw_and1 (pt_cmpR op_ne (pe_ix ix_list (pv 7) (pv 8) (fun _ _ => rfl)) (pe_op op_mul (pv 6) (pe_ix ix_list (pv 0) (pv 8) (fun _ _ => rfl))) (nomark _)))))))))
          (pss_one (ps_ret (pe_tup (pa_cons pe_str (pa_cons (pv 8) pa_nil)))))
          (pss_nil))))
      (pss_cons (ps_if (pt_cmpR op_eq (pe_ix ix_list (pv 7) (pv 3) (fun _ _ => rfl)) (pe_op op_mul (pv 6) (pe_ix ix_list (pv 0) (pv 3) (fun _ _ => rfl))) (nomark _))
        (pss_one (ps_ret (pe_tup (pa_cons pe_str pa_nil))))
        (pss_nil))
      (pss_cons (ps_for PassesOwn.never rfl (pi_enum (by rfl) T.n_enumerate (pa_cons (pv 2) pa_nil)) (pg_tup rfl (pgs_cons (pg_name (i := 9) sc_world_fault.nd rfl (.inl rfl)) (pgs_cons (pg_name (i := 10) sc_world_fault.nd rfl (.inl rfl)) pgs_nil)))
        (pss_one (ps_if (pt_cmpR op_ne (pe_callB (cr_sum rfl) (by rfl) T.n_sum (by decide +kernel) (pa_cons (pe_lc (own := [("k", 8)]) (g := gName 8) (by rfl) sc_world_fault.nd (pi_list (pv 10)) (blkOk_by (own := [("k", 8)]) (N := ["cents", "hidden", "totals", "y", "z", "other", "scale", "amounts", "k", "t", "members"]) (sc := defScope s_world_fault) (by decide +kernel)) (fun _ _ _ _ _ => pg_name (i := 8) sc_world_fault.nd rfl (Or.inl rfl)) (fun _ _ _ _ _ => pts_nil) (fun _ _ _ _ _ => (pe_ix (r := rIxL K) ix_list (pv 7) (pv 8) (fun _ _ => rfl)))) pa_nil)) (pe_op op_mul (pv 6) (pe_callB (cr_sum rfl) (by rfl) T.n_sum (by decide +kernel) (pa_cons (pe_lc (own := [("k", 8)]) (g := gName 8) (by rfl) sc_world_fault.nd (pi_list (pv 10)) (blkOk_by (own := [("k", 8)]) (N := ["cents", "hidden", "totals", "y", "z", "other", "scale", "amounts", "k", "t", "members"]) (sc := defScope s_world_fault) (by decide +kernel)) (fun _ _ _ _ _ => pg_name (i := 8) sc_world_fault.nd rfl (Or.inl rfl)) (fun _ _ _ _ _ => pts_nil) (fun _ _ _ _ _ => (pe_ix (r := rIxL K) ix_list (pv 0) (pv 8) (fun _ _ => rfl)))) pa_nil))) (nomark _))
          (pss_one (ps_ret (pe_tup (pa_cons pe_str (pa_cons (pv 9) pa_nil)))))
          (pss_nil))))
      (pss_one (ps_ret pe_non)))))), ?_⟩
    walk_at "g"
    refine ⟨fun b H' => H = H' ∧ (b = true ↔ (scale < 1 ∨ amounts.length ≠ cents.length)), ?_, ?_⟩
    · walk_at "g"
      walk_at "if" <;> intro e
      · exact ⟨rfl, by simp [e]⟩
      · walk_at "g"
        refine ⟨rfl, ?_⟩
        rw [lm, lc]
        simp [e]
        omega
    rintro b _ ⟨rfl, hb⟩
    walk_at "if" <;> intro e
    · have hb := hb.mp e
      walk_at "g"
      intro p np
      refine q _ _ (Go.Same.new (Same.refl _) np) ?_
      unfold fault
      rw [if_pos hb]
      exact dq_tup1
    have hb : ¬ (scale < 1 ∨ amounts.length ≠ cents.length) := fun z => by rw [hb.mpr z] at e; cases e
    have hl : amounts.length = cents.length := by omega
    unfold fault at q
    rw [if_neg hb] at q
    walk_at "g"
    refine forW_range (fun i σ' H' => (∃ y8 y9 y10, σ' = [some (.ref c), some (.ref h), some (.ref t), some (.int y), some (zV z), some (.ref o), some (.int scale), some (.ref m), y8, y9, y10]) ∧ H = H' ∧ ∀ j, j < i → bad cents hidden z scale amounts j = false)
      ⟨⟨_, _, _, rfl⟩, rfl, fun j h => by omega⟩ ?_ ?_
    · rintro i σ' _ hi ⟨⟨y8, y9, y10, rfl⟩, rfl, hj⟩
      have hi : i < cents.length := by omega
      walk_at "g"
      refine ⟨fun b H' => H = H' ∧ b = bad cents hidden z scale amounts i, ?_, ?_⟩
      · walk_at "g"
        refine g_ixL (by walk_at "sq") (at0_at (k := i) (by omega) (by omega)) ?_
        walk_at "g"
        walk_at "if" <;> intro e1
        · exact ⟨rfl, by unfold bad; simp [e1]⟩
        walk_at "g"
        refine ⟨_, _, rfl, .inl hh, rfl, ints_flat _, ?_⟩
        rw [show V.int (0 + (i : Int)) = V.int (i : Int) by rw [Int.zero_add], inV_int]
        walk_at "g"
        have fin : ∀ b0 : Bool, b0 = (!hidden.contains (i : Int) || decide (z = some (i : Int))) → b0 = true → ∀ Q' : Bool → Prop, Q' (decide (at0 amounts i ≠ scale * at0 cents i)) → True := fun _ _ _ _ _ => trivial
        clear fin
        walk_at "if" <;> intro e2
        · have e2 : hidden.contains (i : Int) = false := by simpa using e2
          walk_at "g"
          refine g_ixL (by walk_at "sq") (at0_at (k := i) (by omega) (by omega)) ?_
          walk_at "g"
          refine g_ixL (by walk_at "sq") (at0_at (k := i) (by omega) (by omega)) ?_
          walk_at "g"
          refine ⟨rfl, ?_⟩
          unfold bad
          rw [e2]
          simp [e1]
        · have e2 : hidden.contains (i : Int) = true := by simpa using e2
          walk_at "g"
          refine ⟨zV_scal _ _, ?_⟩
          walk_at "g"
          walk_at "if" <;> intro e3
          · rw [zV_eq] at e3
            walk_at "g"
            refine g_ixL (by walk_at "sq") (at0_at (k := i) (by omega) (by omega)) ?_
            walk_at "g"
            refine g_ixL (by walk_at "sq") (at0_at (k := i) (by omega) (by omega)) ?_
            walk_at "g"
            refine ⟨rfl, ?_⟩
            unfold bad
            rw [e2]
            simp [e1, e3]
          · rw [zV_eq] at e3
            walk_at "g"
            refine ⟨rfl, ?_⟩
            unfold bad
            rw [e2]
            simp [e1, e3]
      rintro b _ ⟨rfl, rfl⟩
      walk_at "if" <;> intro e1
      · walk_at "g"
        intro p np
        refine q _ _ (Go.Same.new (Same.refl _) np) ?_
        rw [find_at e1 hi hj, Int.zero_add]
        exact dq_tup2
      · walk_at "g"
        refine ⟨⟨_, _, _, rfl⟩, rfl, fun j hj2 => ?_⟩
        by_cases e : j = i
        · subst e; exact e1
        · exact hj j (by omega)
    · rintro σ' _ ⟨⟨y8, y9, y10, rfl⟩, rfl, hj⟩
      rw [find_no (fun j h => hj j (by omega))] at q
      walk_at "g"
      refine g_ixL (by walk_at "sq") (at0_at (k := y.toNat) (by omega) (by omega)) ?_
      walk_at "g"
      refine g_ixL (by walk_at "sq") (at0_at (k := y.toNat) (by omega) (by omega)) ?_
      walk_at "g"
      walk_at "if" <;> intro e1
      · have e1 := V.int.inj e1
        walk_at "g"
        intro p np
        refine q _ _ (Go.Same.new (Same.refl _) np) ?_
        show Dq _ _ _ (if _ then _ else _)
        rw [if_pos e1]
        exact dq_tup1
      have e1 : ¬ at0 amounts y.toNat = scale * at0 cents y.toNat := fun z => e1 (by rw [z])
      have q : ∀ (H' : Hp) (v : V), Same H H' → Dq K H' v (match (List.range totals.length).find? (off cents totals scale amounts) with
        | some t => .tuple [.str "total", .int t]
        | none => .none) → Q v H' := fun H' v s d => q H' v s (by show Dq _ _ _ (if _ then _ else _); rw [if_neg e1]; exact d)
      walk_at "g"
      refine forW_enum (rs.map V.ref) (fun i σ' H' => (∃ y8 y9 y10, σ' = [some (.ref c), some (.ref h), some (.ref t), some (.int y), some (zV z), some (.ref o), some (.int scale), some (.ref m), y8, y9, y10]) ∧ Same H H' ∧ ∀ j, j < i → off cents totals scale amounts j = false)
        ⟨⟨_, _, _, rfl⟩, Same.refl _, fun j h => by omega⟩ (fun i σ' H' _ h => sqL_same h.2.1 ht) ?_ ?_
      · rintro i x T σ' H1 hx nT ⟨⟨y8, y9, y10, rfl⟩, s1, hj⟩
        rw [List.getElem?_map] at hx
        obtain ⟨r, hr', rfl⟩ := Option.map_eq_some_iff.mp hx
        obtain ⟨hi, er⟩ := List.getElem?_eq_some_iff.mp hr'
        have hi2 : i < totals.length := by rw [← I.len]; exact hi
        have I1 := I.same (Go.Same.new (o := .tup [.int (i : Nat), .ref r]) s1 nT)
        have hrow := I1.row i hi hi2
        rw [er] at hrow
        have hk := I.ok _ (List.getElem_mem hi2)
        have hks := I.shortT _ (List.getElem_mem hi2)
        have eg : totals.getD i [] = totals[i] := by rw [List.getD_eq_getElem?_getD, List.getElem?_eq_getElem hi2]; rfl
        have sT := Go.Same.new (o := .tup [.int (i : Nat), .ref r]) s1 nT
        generalize eH : upd H1 T (.tup [.int (i : Nat), .ref r]) = H2 at *
        have hT : SqT K H2 T [.int (i : Nat), .ref r] := by rw [← eH]; exact SqT.of upd_same
        generalize totals[i] = row at *
        have comp : ∀ (l : List Int) (a : Addr) (H3 : Hp) (D : Addr) (ii : Nat) (y8 : Option V) (Qd : Hp → Prop), l.length = cents.length → H3 D = none → Same H2 H3 → SqL K H2 a (l.map V.int) →
            (ii = 0 ∧ a = c ∨ ii = 7 ∧ a = m) → (∀ H', Same H3 H' → (∃ ns : List Int, ns.sum = sumAt l row ∧ H' D = some (.lst (ns.map V.int))) → Qd H') →
            LcW (Itl K r) (gName 8) tYes (tOp (rIxL K) (tVar ii) (tVar 8)) [8] [some (.ref c), some (.ref h), some (.ref t), some (.int y), some (zV z), some (.ref o), some (.int scale), some (.ref m), y8, some (.int (i : Nat)), some (.ref r)] H3 D Qd := by
          intro l a H3 D ii y8 Qd hl nD s3 ha hii hd
          refine lcW_pure (row.map V.int) (fun j => .int (at0 l (row.getD j 0).toNat)) nD (sqL_same s3 hrow) (by rw [List.length_map]; omega) ?_ ?_
          · intro j x H4 R Z hx s4 hR
            rw [List.getElem?_map] at hx
            obtain ⟨kk, hkj, rfl⟩ := Option.map_eq_some_iff.mp hx
            obtain ⟨hj1, hj2⟩ := List.getElem?_eq_some_iff.mp hkj
            obtain ⟨k0, k1⟩ := hk kk (hj2 ▸ List.getElem_mem hj1)
            rw [List.getD_eq_getElem?_getD, hkj] at hR
            have ha4 := sqL_same s4 (sqL_same s3 ha)
            rcases hii with ⟨rfl, rfl⟩ | ⟨rfl, rfl⟩
            · walk_at "g"
              refine g_ixL ha4 (at0_at (k := kk.toNat) (by omega) (by omega)) ?_
              exact hR
            · walk_at "g"
              refine g_ixL ha4 (at0_at (k := kk.toNat) (by omega) (by omega)) ?_
              exact hR
          · intro H4 s4 e4
            rw [List.length_map] at e4
            exact hd H4 s4 ⟨_, sum_at l row, by rw [e4, List.map_map]; rfl⟩
        walk_at "g"
        intro D nD
        refine comp amounts m H2 D 7 y8 _ hl nD (Same.refl _) I1.hm (.inr ⟨rfl, rfl⟩) ?_
        rintro H3 s3 ⟨ns, ens, eD⟩
        walk_at "g"
        refine ⟨D, ns, rfl, SqL.of eD, ?_⟩
        walk_at "g"
        intro D2 nD2
        refine comp cents c H3 D2 0 y8 _ rfl nD2 s3 I1.hc (.inl ⟨rfl, rfl⟩) ?_
        rintro H4 s4 ⟨ns2, ens2, eD2⟩
        walk_at "g"
        refine ⟨D2, ns2, rfl, SqL.of eD2, ?_⟩
        walk_at "g"
        have sall := sT.trans (s3.trans s4)
        rw [ens, ens2]
        walk_at "if" <;> intro e2
        · have e2 : off cents totals scale amounts i = true := by
            unfold off
            rw [eg]
            exact decide_eq_true fun z => e2 (by rw [z])
          walk_at "g"
          intro p np
          refine q _ _ (Go.Same.new sall np) ?_
          rw [find_at e2 hi2 hj]
          exact dq_tup2
        · have e2 : off cents totals scale amounts i = false := by
            unfold off
            rw [eg]
            exact decide_eq_false fun z => z (V.int.inj e2)
          walk_at "g"
          refine ⟨⟨_, _, _, rfl⟩, sall, fun j hj2 => ?_⟩
          by_cases e : j = i
          · subst e; exact e2
          · exact hj j (by omega)
      · rintro σ' H1 ⟨⟨y8, y9, y10, rfl⟩, s1, hj⟩
        have lt : (rs.map V.ref).length = totals.length := by rw [List.length_map, I.len]
        rw [find_no (fun j h => hj j (by omega))] at q
        walk_at "g"
        exact q _ _ s1 .non

end
end K71

namespace K71
open PySem PySem.Spec PyProof.Rows L2 Go Grd
set_option maxHeartbeats 8000000
local macro_rules | `(tactic| walk_at "ne") => `(tactic| first
  | assumption
  | (refine Ne.symm ?_; assumption)
  | exact (Go.free_upd (by assumption)).2
  | exact (Go.free_upd (by assumption)).2.symm
  | exact Go.ne_fr (by assumption) (by walk_at "hp")
  | exact (Go.ne_fr (by assumption) (by walk_at "hp")).symm)
local macro_rules | `(tactic| walk_at "fr") => `(tactic| first
  | assumption
  | exact (Go.free_upd (by assumption)).1
  | exact (Go.free_upd (Go.free_upd (by assumption)).1).1
  | exact Same.free (by assumption) (by walk_at "fr"))
local macro_rules | `(tactic| walk_at "hp") => `(tactic| first
  | assumption
  | with_reducible exact upd_same
  | ((with_reducible show upd _ _ _ _ = _); exact Go.at_upd (by walk_at "ne") (by walk_at "hp"))
  | exact (by assumption : Same _ _) _ _ (by walk_at "hp")
  | exact (by assumption : Go.Kp _ _ _) _ _ (by walk_at "ne") (by walk_at "hp"))
local macro_rules | `(tactic| walk_at "sq") => `(tactic| first
  | assumption
  | ((with_reducible show SqL _ (upd _ _ _) _ _); exact (by assumption : ∀ o, SqL _ (upd _ _ o) _ _) _)
  | ((with_reducible show SqL _ _ _ _); exact SqL.of (by walk_at "hp"))
  | ((with_reducible show SqT _ _ _ _); exact SqT.of (by walk_at "hp"))
  | ((with_reducible show SqL _ (upd _ _ _) _ _); exact Go.sqL_new (by walk_at "fr") (by walk_at "sq"))
  | ((with_reducible show SqT _ (upd _ _ _) _ _); exact Go.sqT_new (by walk_at "fr") (by walk_at "sq"))
  | ((with_reducible show SqL _ (upd _ _ _) _ _); exact Go.sqL_ne (by walk_at "ne") (by walk_at "sq"))
  | exact Go.sqL_same (by assumption) (by walk_at "sq")
  | exact Go.sqT_same (by assumption) (by walk_at "sq")
  | exact Go.sqL_kp (by assumption) (by walk_at "ne") (by walk_at "sq")
  | exact Go.sqT_kp (by assumption) (by walk_at "ne") (by walk_at "sq"))
local macro_rules | `(tactic| walk_at "ci") => `(tactic| first
  | exact .inr ⟨by decide, by decide⟩
  | exact .inl ⟨by decide, by decide⟩
  | exact ⟨by decide, by decide, by decide⟩
  | decide
  | omega
  | exact ⟨by omega, by omega⟩
  | exact .inl ⟨by omega, by omega⟩
  | exact .inr ⟨by omega, by omega⟩)
local macro_rules | `(tactic| walk_at "g0") => `(tactic| first
  | with_reducible refine Go.g_seq ?_
  | ((with_reducible show tVar _ _ _ _); refine ⟨_, rfl, ?_⟩)
  | with_reducible refine Go.g_c ?_
  | with_reducible refine Go.g_op ?_
  | with_reducible refine Go.g_asg ?_
  | with_reducible refine Go.g_name ?_
  | with_reducible refine Go.g_cons ?_
  | with_reducible refine Go.g_lst ?_
  | with_reducible refine Go.g_tup ?_
  | with_reducible refine Go.g_for ?_
  | with_reducible refine Go.g_rng1 ?_
  | with_reducible refine Go.g_rng2 ?_
  | with_reducible refine Go.g_rng3 ?_
  | with_reducible refine Go.g_list ?_
  | with_reducible refine Go.g_itup ?_
  | with_reducible refine Go.g_enum ?_
  | with_reducible refine Go.g_lc ?_
  | with_reducible refine Go.g_nil ?_
  | with_reducible refine Go.g_cb ?_
  | with_reducible refine Go.g_call ?_
  | with_reducible refine Go.g_ret ?_
  | with_reducible refine Go.g_next ?_
  | with_reducible refine Go.g_drop ?_
  | with_reducible refine Go.g_un ?_
  | with_reducible refine Go.g_test ?_
  | with_reducible refine Go.g_tB ?_
  | with_reducible refine Go.g_ifs ?_
  | with_reducible refine Go.g_if ?_
  | with_reducible refine Go.g_and ?_
  | with_reducible refine Go.g_or ?_
  | with_reducible refine Go.g_not ?_
  | with_reducible refine Go.g_sl ?_
  | with_reducible refine Go.g_nopart ?_
  | with_reducible refine Go.g_part ?_
  | ((with_reducible show ∃ k, V.bl _ = V.bl k ∧ _); refine ⟨_, rfl, ?_⟩)
  | ((with_reducible show ∃ k, V.int _ = V.int k ∧ _); refine ⟨_, rfl, ?_⟩)
  | with_reducible refine Go.g_bm ?_
  | with_reducible refine Go.g_yes ?_
  | ((with_reducible show rI0 _ _ _ _ _); refine ⟨_, _, rfl, rfl, ?_⟩)
  | ((with_reducible show rI _ _ _ _ _ _); refine ⟨_, _, rfl, rfl, ?_, ?_⟩; (focus walk_at "ci"))
  | ((with_reducible show rU _ _ _ _); refine ⟨_, rfl, ?_⟩)
  | ((with_reducible show rEq _ _ _ _); refine ⟨rfl, ?_⟩)
  | ((with_reducible show rNe _ _ _ _); refine ⟨rfl, ?_⟩)
  | ((with_reducible show rIxL _ _ _ _ _); refine Go.g_ixL (by walk_at "sq") (by rfl) ?_)
  | ((with_reducible show rIxT _ _ _ _ _); refine Go.g_ixT (by walk_at "sq") (by rfl) ?_)
  | ((with_reducible show rSetL _ _ _ _ _); refine Go.g_setL (by walk_at "hp") (by rfl) ?_)
  | ((with_reducible show ∃ p ys, [V.ref _] = [V.ref p] ∧ (SqL _ _ _ _ ∨ SqT _ _ _ _) ∧ _); refine ⟨_, _, rfl, .inl (by walk_at "sq"), ?_⟩)
  | ((with_reducible show (∃ i, [V.int _] = [V.int i] ∧ _) ∨ _); refine .inl ⟨_, rfl, ?_⟩)
  | ((with_reducible show ∃ (c : Nat) (z : Str), V.str _ = V.str ⟨#[c]⟩ ∧ V.str _ = V.str z ∧ _); refine ⟨_, _, rfl, rfl, ?_⟩)
  | ((with_reducible show ∃ x : Str, [V.str _] = [V.str x] ∧ Str.length x = 1 ∧ _); refine ⟨_, rfl, rfl, ?_⟩)
  | ((with_reducible show ∃ z : Str, [V.str _] = [V.str z] ∧ Str.length z ≤ sizeLine ∧ _); refine ⟨_, rfl, by assumption, ?_⟩)
  | ((with_reducible show rSlS _ _ _ _ _); refine ⟨_, rfl, by assumption, ?_⟩)
  | ((with_reducible show gTup _ _ _ _ _ _ _); refine Go.g_gtup (by walk_at "sq") (by rfl) ?_)
  | ((with_reducible show gCons _ _ _ _ _ _); refine ⟨_, _, rfl, ?_⟩)
  | ((with_reducible show gNil _ _ _ _); refine ⟨rfl, ?_⟩)
  | ((with_reducible show rLenS _ _ _ _); refine Go.g_lenL (by walk_at "sq") ?_)
  | ((with_reducible show rListOf _ _ _ _); refine Go.g_listL (by walk_at "sq") ?_)
  | ((with_reducible show wipe _ _ = wipe _ _ ∧ _); refine ⟨rfl, ?_⟩)
  | ((with_reducible show if true = true then _ else _); refine iteT ?_)
  | ((with_reducible show if false = true then _ else _); refine iteF ?_)
  | ((with_reducible show ∃ a xs, [V.ref _] = [V.ref a] ∧ SqL _ _ a xs ∧ _); refine ⟨_, _, rfl, by walk_at "sq", ?_⟩)
  | ((with_reducible show ∃ a, V.ref _ = V.ref a ∧ (∃ xs, SqL _ _ a xs) ∧ _); refine ⟨_, rfl, ⟨_, by walk_at "sq"⟩, ?_⟩)
  | ((with_reducible show ∃ a, V.ref _ = V.ref a ∧ (∃ xs, SqT _ _ a xs) ∧ _); refine ⟨_, rfl, ⟨_, by walk_at "sq"⟩, ?_⟩)
  | ((with_reducible show ∃ j : Int, [V.int _] = [V.int j] ∧ _ ≤ j ∧ j < _ ∧ _); refine ⟨_, rfl, by omega, by omega, ?_⟩)
  | ((with_reducible show ∃ i j : Int, [V.int _, V.int _] = [V.int i, V.int j] ∧ (_ ≤ i ∧ i < _ ∧ _ ≤ j ∧ j < _) ∧ _); refine ⟨_, _, rfl, ⟨by omega, by omega, by omega, by omega⟩, ?_⟩)
  | ((with_reducible show ∃ i j : Int, [V.int _, V.int _] = [V.int i, V.int j] ∧ _); refine ⟨_, _, rfl, ?_⟩)
  | ((with_reducible show _ ≤ sizeLine ∧ _); refine ⟨by first | decide | (simp only [List.length_cons, List.length_nil]; decide), ?_⟩))
local macro_rules | `(tactic| walk_at "g1") => `(tactic| first | walk_at "g0" | with_reducible refine Go.g_sub ?_)
local macro_rules | `(tactic| walk_at "g") => `(tactic| repeat walk_at "g1")
local macro_rules | `(tactic| walk_at "v") => `(tactic| repeat walk_at "g0")
local macro_rules | `(tactic| walk_at "if") => `(tactic| first
  | with_reducible refine @Go.g_itd _ _ _ _ ?_ ?_
  | with_reducible refine @Go.g_itnd _ _ _ _ ?_ ?_
  | with_reducible refine Go.g_ite ?_ ?_)

section
variable {P : Program} {w : World} {K : PySem.W.Frag} {mg : Str → Option Value} {base : Heap}
def sp__law_fault (K : PySem.W.Frag) : Sp := fun vs H Q _ => ∃ (c h t m : Addr) (rs : List Addr) (cents hidden amounts : List Int) (totals : List (List Int)) (y : Int) (z : Option Int) (scale : Int),
  vs = [.ref c, .ref h, .ref t, .int y, zV z, .int scale, .ref m] ∧ In K H c h t m rs cents hidden amounts totals ∧ 0 ≤ y ∧ y < cents.length ∧ -100 ≤ scale ∧ scale ≤ 100 ∧
  ∀ H' v, Same H H' → Dq K H' v (fault cents hidden totals y z scale amounts) → Q v H'
theorem ok__law_fault (T : Txt K mg) : FnOk P w K mg base CX0 1 T.a__law_fault T.fd__law_fault ["cents", "hidden", "totals", "y", "z", "scale", "amounts"] (sp__law_fault K) := by
  refine T.F__law_fault.ok sc__law_fault (fun vs H Q E h => ?_) (fun cdv A outer s H vs Q E hr h => ?_)
  · obtain ⟨c, h, t, m, rs, cents, hidden, amounts, totals, y, z, scale, rfl, _⟩ := h; rfl
  · obtain ⟨c, h, t, m, rs, cents, hidden, amounts, totals, y, z, scale, rfl, I, hy0, hy1, hs0, hs1, q⟩ := h
    have hc := I.hc
    have hh := I.hh
    have ht := I.ht
    have hm := I.hm
    have short := I.short
    have lc : (cents.map V.int).length = cents.length := List.length_map ..
    have lm : (amounts.map V.int).length = amounts.length := List.length_map ..
    have lt : (rs.map V.ref).length = totals.length := by rw [List.length_map, I.len]
    have mt := I.manyT
    refine ⟨_, pss_cons (ps_if (pt_cutT (PW.pt (pw_or (pt_cmpR op_lt (pv 5) pe_int (nomark _)) (pw_or1 (pt_cmpR op_ne (pe_callB call_lenS (by rfl) T.n_len PySem.boot_len (pa_cons (pv 6) pa_nil)) (pe_callB call_lenS (by rfl) T.n_len PySem.boot_len (pa_cons (pv 0) pa_nil)) (nomark _))))))
        (pss_one (ps_ret (pe_tup (pa_cons pe_str pa_nil))))
        (pss_nil))
      (pss_cons (ps_for PassesOwn.never rfl (pi_range1 (by rfl) T.n_range (pa_cons (pe_callB call_lenS (by rfl) T.n_len PySem.boot_len (pa_cons (pv 0) pa_nil)) pa_nil)) (pg_name (i := 7) sc__law_fault.nd rfl (.inl rfl))
        (pss_cons (ps_set (i := 8) sc__law_fault.nd rfl (.inl rfl) (pe_cmpR op_eq (pe_ix ix_list (pv 6) (pv 7) (fun _ _ => rfl)) (pe_op op_mul (pv 5) (pe_ix ix_list (pv 0) (pv 7) (fun _ _ => rfl))) (nomark _)))
        (pss_one (ps_if (pt_cutT (PW.pt (pw_or (pt_cmpR op_lt (pe_ix ix_list (pv 6) (pv 7) (fun _ _ => rfl)) pe_int (nomark _)) (pw_or1 (PW.pt (pw_and (pt_not (pt_val (pv 8))) (pw_and1 (PW.pt (pw_or (pt_cmpR op_notIn_seq (pv 7) (pv 1) rfl) (pw_or1 (pt_cmpR op_eq (pv 7) (pv 4) (nomark _))))))))))))
          (pss_one (ps_ret (pe_tup (pa_cons pe_str (pa_cons (pv 7) pa_nil)))))
          (pss_nil)))))
      (pss_cons (ps_if (pt_cmpR op_eq (pe_ix ix_list (pv 6) (pv 3) (fun _ _ => rfl)) (pe_op op_mul (pv 5) (pe_ix ix_list (pv 0) (pv 3) (fun _ _ => rfl))) (nomark _))
        (pss_one (ps_ret (pe_tup (pa_cons pe_str pa_nil))))
        (pss_nil))
      (pss_cons (ps_for PassesOwn.never rfl (pi_range1 (by rfl) T.n_range (pa_cons (pe_callB call_lenS (by rfl) T.n_len PySem.boot_len (pa_cons (pv 2) pa_nil)) pa_nil)) (pg_name (i := 9) sc__law_fault.nd rfl (.inl rfl))
        (pss_one (ps_if (pt_cmpR op_ne (pe_callB (cr_sum rfl) (by rfl) T.n_sum (by decide +kernel) (pa_cons (pe_lc (own := [("k", 7)]) (g := gName 7) (by rfl) sc__law_fault.nd (pi_list (pe_ix ix_list (pv 2) (pv 9) (fun _ _ => rfl))) (blkOk_by (own := [("k", 7)]) (N := ["cents", "hidden", "totals", "y", "z", "scale", "amounts", "k", "same", "t"]) (sc := defScope s__law_fault) (by decide +kernel)) (fun _ _ _ _ _ => pg_name (i := 7) sc__law_fault.nd rfl (Or.inl rfl)) (fun _ _ _ _ _ => pts_nil) (fun _ _ _ _ _ => (pe_ix (r := rIxL K) ix_list (pv 6) (pv 7) (fun _ _ => rfl)))) pa_nil)) (pe_op op_mul (pv 5) (pe_callB (cr_sum rfl) (by rfl) T.n_sum (by decide +kernel) (pa_cons (pe_lc (own := [("k", 7)]) (g := gName 7) (by rfl) sc__law_fault.nd (pi_list (pe_ix ix_list (pv 2) (pv 9) (fun _ _ => rfl))) (blkOk_by (own := [("k", 7)]) (N := ["cents", "hidden", "totals", "y", "z", "scale", "amounts", "k", "same", "t"]) (sc := defScope s__law_fault) (by decide +kernel)) (fun _ _ _ _ _ => pg_name (i := 7) sc__law_fault.nd rfl (Or.inl rfl)) (fun _ _ _ _ _ => pts_nil) (fun _ _ _ _ _ => (pe_ix (r := rIxL K) ix_list (pv 0) (pv 7) (fun _ _ => rfl)))) pa_nil))) (nomark _))
          (pss_one (ps_ret (pe_tup (pa_cons pe_str (pa_cons (pv 9) pa_nil)))))
          (pss_nil))))
      (pss_one (ps_ret pe_non))))), ?_⟩
    walk_at "g"
    refine ⟨fun b H' => H = H' ∧ (b = true ↔ (scale < 1 ∨ amounts.length ≠ cents.length)), ?_, ?_⟩
    · walk_at "g"
      walk_at "if" <;> intro e
      · exact ⟨rfl, by simp [e]⟩
      · walk_at "g"
        refine ⟨rfl, ?_⟩
        rw [lm, lc]
        simp [e]
        omega
    rintro b _ ⟨rfl, hb⟩
    walk_at "if" <;> intro e
    · have hb := hb.mp e
      walk_at "g"
      intro p np
      refine q _ _ (Go.Same.new (Same.refl _) np) ?_
      unfold fault
      rw [if_pos hb]
      exact dq_tup1
    have hb : ¬ (scale < 1 ∨ amounts.length ≠ cents.length) := fun z => by rw [hb.mpr z] at e; cases e
    have hl : amounts.length = cents.length := by omega
    unfold fault at q
    rw [if_neg hb] at q
    walk_at "g"
    refine forW_range (fun i σ' H' => (∃ y7 y8 y9, σ' = [some (.ref c), some (.ref h), some (.ref t), some (.int y), some (zV z), some (.int scale), some (.ref m), y7, y8, y9]) ∧ H = H' ∧ ∀ j, j < i → bad cents hidden z scale amounts j = false)
      ⟨⟨_, _, _, rfl⟩, rfl, fun j h => by omega⟩ ?_ ?_
    · rintro i σ' _ hi ⟨⟨y7, y8, y9, rfl⟩, rfl, hj⟩
      have hi : i < cents.length := by omega
      walk_at "g"
      refine g_ixL (by walk_at "sq") (at0_at (k := i) (by omega) (by omega)) ?_
      walk_at "g"
      refine g_ixL (by walk_at "sq") (at0_at (k := i) (by omega) (by omega)) ?_
      walk_at "g"
      refine ⟨fun b H' => H = H' ∧ b = bad cents hidden z scale amounts i, ?_, ?_⟩
      · walk_at "g"
        refine g_ixL (by walk_at "sq") (at0_at (k := i) (by omega) (by omega)) ?_
        walk_at "g"
        walk_at "if" <;> intro e1
        · exact ⟨rfl, by unfold bad; simp [e1]⟩
        walk_at "g"
        walk_at "if" <;> intro e0
        · have e0 : ¬ at0 amounts i = scale * at0 cents i := fun z => e0 (by rw [z])
          walk_at "g"
          refine ⟨_, _, rfl, .inl hh, rfl, ints_flat _, ?_⟩
          rw [show V.int (0 + (i : Int)) = V.int (i : Int) by rw [Int.zero_add], inV_int]
          walk_at "g"
          walk_at "if" <;> intro e2
          · have e2 : hidden.contains (i : Int) = false := by simpa using e2
            refine ⟨rfl, ?_⟩
            unfold bad
            rw [e2]
            simp [e1, e0]
          · have e2 : hidden.contains (i : Int) = true := by simpa using e2
            walk_at "g"
            refine ⟨zV_scal _ _, ?_⟩
            walk_at "g"
            refine ⟨rfl, ?_⟩
            unfold bad
            rw [e2]
            simp [e1, e0, zV_eq]
        · have e0 := V.int.inj e0
          walk_at "g"
          refine ⟨rfl, ?_⟩
          unfold bad
          rw [e0] at e1
          rw [e0, decide_eq_false e1]
          simp
      rintro b _ ⟨rfl, rfl⟩
      walk_at "if" <;> intro e1
      · walk_at "g"
        intro p np
        refine q _ _ (Go.Same.new (Same.refl _) np) ?_
        rw [find_at e1 hi hj, Int.zero_add]
        exact dq_tup2
      · walk_at "g"
        refine ⟨⟨_, _, _, rfl⟩, rfl, fun j hj2 => ?_⟩
        by_cases e : j = i
        · subst e; exact e1
        · exact hj j (by omega)
    · rintro σ' _ ⟨⟨y7, y8, y9, rfl⟩, rfl, hj⟩
      rw [find_no (fun j h => hj j (by omega))] at q
      walk_at "g"
      refine g_ixL (by walk_at "sq") (at0_at (k := y.toNat) (by omega) (by omega)) ?_
      walk_at "g"
      refine g_ixL (by walk_at "sq") (at0_at (k := y.toNat) (by omega) (by omega)) ?_
      walk_at "g"
      walk_at "if" <;> intro e1
      · have e1 := V.int.inj e1
        walk_at "g"
        intro p np
        refine q _ _ (Go.Same.new (Same.refl _) np) ?_
        show Dq _ _ _ (if _ then _ else _)
        rw [if_pos e1]
        exact dq_tup1
      have e1 : ¬ at0 amounts y.toNat = scale * at0 cents y.toNat := fun z => e1 (by rw [z])
      have q : ∀ (H' : Hp) (v : V), Same H H' → Dq K H' v (match (List.range totals.length).find? (off cents totals scale amounts) with
        | some t => .tuple [.str "total", .int t]
        | none => .none) → Q v H' := fun H' v s d => q H' v s (by show Dq _ _ _ (if _ then _ else _); rw [if_neg e1]; exact d)
      walk_at "g"
      refine forW_range (fun i σ' H' => (∃ y7 y8 y9, σ' = [some (.ref c), some (.ref h), some (.ref t), some (.int y), some (zV z), some (.int scale), some (.ref m), y7, y8, y9]) ∧ Same H H' ∧ ∀ j, j < i → off cents totals scale amounts j = false)
        ⟨⟨_, _, _, rfl⟩, Same.refl _, fun j h => by omega⟩ ?_ ?_
      · rintro i σ' H1 hi ⟨⟨y7, y8, y9, rfl⟩, s1, hj⟩
        have hi2 : i < totals.length := by omega
        have hi : i < rs.length := by rw [I.len]; exact hi2
        have I1 := I.same s1
        have hrow := I1.row i hi hi2
        have htot := I1.ht
        have hk := I.ok _ (List.getElem_mem hi2)
        have hks := I.shortT _ (List.getElem_mem hi2)
        have eg : totals.getD i [] = totals[i] := by rw [List.getD_eq_getElem?_getD, List.getElem?_eq_getElem hi2]; rfl
        have er : atI (rs.map V.ref) (0 + (i : Int)) = some (.ref rs[i]) := by
          rw [Int.zero_add]
          exact atI_nat (by rw [List.getElem?_map, List.getElem?_eq_getElem hi]; rfl)
        generalize totals[i] = row at *
        generalize rs[i] = r at *
        have comp : ∀ (l : List Int) (a : Addr) (H3 : Hp) (D : Addr) (ii : Nat) (y7 : Option V) (y8 : Option V) (Qd : Hp → Prop), l.length = cents.length → H3 D = none → Same H1 H3 → SqL K H1 a (l.map V.int) →
            (ii = 0 ∧ a = c ∨ ii = 6 ∧ a = m) → (∀ H', Same H3 H' → (∃ ns : List Int, ns.sum = sumAt l row ∧ H' D = some (.lst (ns.map V.int))) → Qd H') →
            LcW (Itl K r) (gName 7) tYes (tOp (rIxL K) (tVar ii) (tVar 7)) [7] [some (.ref c), some (.ref h), some (.ref t), some (.int y), some (zV z), some (.int scale), some (.ref m), y7, y8, some (.int (0 + (i : Nat)))] H3 D Qd := by
          intro l a H3 D ii y7 y8 Qd hl nD s3 ha hii hd
          refine lcW_pure (row.map V.int) (fun j => .int (at0 l (row.getD j 0).toNat)) nD (sqL_same s3 hrow) (by rw [List.length_map]; omega) ?_ ?_
          · intro j x H4 R Z hx s4 hR
            rw [List.getElem?_map] at hx
            obtain ⟨kk, hkj, rfl⟩ := Option.map_eq_some_iff.mp hx
            obtain ⟨hj1, hj2⟩ := List.getElem?_eq_some_iff.mp hkj
            obtain ⟨k0, k1⟩ := hk kk (hj2 ▸ List.getElem_mem hj1)
            rw [List.getD_eq_getElem?_getD, hkj] at hR
            have ha4 := sqL_same s4 (sqL_same s3 ha)
            rcases hii with ⟨rfl, rfl⟩ | ⟨rfl, rfl⟩
            · walk_at "g"
              refine g_ixL ha4 (at0_at (k := kk.toNat) (by omega) (by omega)) ?_
              exact hR
            · walk_at "g"
              refine g_ixL ha4 (at0_at (k := kk.toNat) (by omega) (by omega)) ?_
              exact hR
          · intro H4 s4 e4
            rw [List.length_map] at e4
            exact hd H4 s4 ⟨_, sum_at l row, by rw [e4, List.map_map]; rfl⟩
        walk_at "g"
        refine g_ixL htot er ?_
        walk_at "g"
        intro D nD
        refine comp amounts m H1 D 6 y7 y8 _ hl nD (Same.refl _) I1.hm (.inr ⟨rfl, rfl⟩) ?_
        rintro H3 s3 ⟨ns, ens, eD⟩
        walk_at "g"
        refine ⟨D, ns, rfl, SqL.of eD, ?_⟩
        walk_at "g"
        refine g_ixL (sqL_same s3 htot) er ?_
        walk_at "g"
        intro D2 nD2
        refine comp cents c H3 D2 0 y7 y8 _ rfl nD2 s3 I1.hc (.inl ⟨rfl, rfl⟩) ?_
        rintro H4 s4 ⟨ns2, ens2, eD2⟩
        walk_at "g"
        refine ⟨D2, ns2, rfl, SqL.of eD2, ?_⟩
        walk_at "g"
        have sall := s1.trans (s3.trans s4)
        rw [ens, ens2]
        walk_at "if" <;> intro e2
        · have e2 : off cents totals scale amounts i = true := by
            unfold off
            rw [eg]
            exact decide_eq_true fun z => e2 (by rw [z])
          walk_at "g"
          intro p np
          refine q _ _ (Go.Same.new sall np) ?_
          rw [find_at e2 hi2 hj, Int.zero_add]
          exact dq_tup2
        · have e2 : off cents totals scale amounts i = false := by
            unfold off
            rw [eg]
            exact decide_eq_false fun z => z (V.int.inj e2)
          walk_at "g"
          refine ⟨⟨_, _, _, rfl⟩, sall, fun j hj2 => ?_⟩
          by_cases e : j = i
          · subst e; exact e2
          · exact hj j (by omega)
      · rintro σ' H1 ⟨⟨y7, y8, y9, rfl⟩, s1, hj⟩
        rw [find_no (fun j h => hj j (by omega))] at q
        walk_at "g"
        exact q _ _ s1 .non
def sp__law_pick (K : PySem.W.Frag) : Sp := fun vs H Q _ => ∃ (st sc l : Addr) (ns : List Int) (xs : List V), vs = [.ref st, .ref sc, .ref l] ∧ St K H st sc ns ∧ l ≠ st ∧ H l = some (.lst xs) ∧
  1 ≤ xs.length ∧ xs.length ≤ 1000 ∧ ∀ H' x, Kp st H H' → St K H' st sc ns → x ∈ xs → Q x H'
theorem ok__law_pick (T : Txt K mg) : FnOk P w K mg base CX0 2 T.a__law_pick T.fd__law_pick ["state", "script", "items"] (sp__law_pick K) := by
  refine T.F__law_pick.ok sc__law_pick (fun vs H Q E h => ?_) (fun cdv A outer s H vs Q E hr h => ?_)
  · obtain ⟨st, sc, l, ns, xs, rfl, _⟩ := h; rfl
  · obtain ⟨st, sc, l, ns, xs, rfl, hS, hl, hL, h1, h2, q⟩ := h
    refine ⟨_, pss_one (ps_ret (pe_ix ix_list (pv 2) (pe_call (ok__law_draw T) hr (by rfl) T.g__law_draw T.F__law_draw.kp T.b__law_draw .nil pass0 (pa_cons (pv 0) (pa_cons (pv 1) (pa_cons (pe_callB call_lenS (by rfl) T.n_len PySem.boot_len (pa_cons (pv 2) pa_nil)) pa_nil)))) (fun _ _ => rfl))), ?_⟩
    walk_at "g"
    refine ⟨st, sc, ns, _, rfl, hS, by omega, by omega, fun H1 d k1 S1 d0 d1 => ?_⟩
    refine g_ixL (by walk_at "sq") (atI_some d0 d1) ?_
    exact q _ _ k1 S1 (List.getElem_mem _)

end
end K71

namespace K71
open PySem PySem.Spec PyProof.Rows L2 Go Grd
set_option maxHeartbeats 8000000
local macro_rules | `(tactic| walk_at "ne") => `(tactic| first
  | assumption
  | (refine Ne.symm ?_; assumption)
  | exact (Go.free_upd (by assumption)).2
  | exact (Go.free_upd (by assumption)).2.symm
  | exact Go.ne_fr (by assumption) (by walk_at "hp")
  | exact (Go.ne_fr (by assumption) (by walk_at "hp")).symm)
local macro_rules | `(tactic| walk_at "fr") => `(tactic| first
  | assumption
  | exact (Go.free_upd (by assumption)).1
  | exact (Go.free_upd (Go.free_upd (by assumption)).1).1
  | exact Same.free (by assumption) (by walk_at "fr"))
local macro_rules | `(tactic| walk_at "hp") => `(tactic| first
  | assumption
  | with_reducible exact upd_same
  | ((with_reducible show upd _ _ _ _ = _); exact Go.at_upd (by walk_at "ne") (by walk_at "hp"))
  | exact (by assumption : Same _ _) _ _ (by walk_at "hp")
  | exact (by assumption : Go.Kp _ _ _) _ _ (by walk_at "ne") (by walk_at "hp"))
local macro_rules | `(tactic| walk_at "sq") => `(tactic| first
  | assumption
  | ((with_reducible show SqL _ (upd _ _ _) _ _); exact (by assumption : ∀ o, SqL _ (upd _ _ o) _ _) _)
  | ((with_reducible show SqL _ _ _ _); exact SqL.of (by walk_at "hp"))
  | ((with_reducible show SqT _ _ _ _); exact SqT.of (by walk_at "hp"))
  | ((with_reducible show SqL _ (upd _ _ _) _ _); exact Go.sqL_new (by walk_at "fr") (by walk_at "sq"))
  | ((with_reducible show SqT _ (upd _ _ _) _ _); exact Go.sqT_new (by walk_at "fr") (by walk_at "sq"))
  | ((with_reducible show SqL _ (upd _ _ _) _ _); exact Go.sqL_ne (by walk_at "ne") (by walk_at "sq"))
  | exact Go.sqL_same (by assumption) (by walk_at "sq")
  | exact Go.sqT_same (by assumption) (by walk_at "sq")
  | exact Go.sqL_kp (by assumption) (by walk_at "ne") (by walk_at "sq")
  | exact Go.sqT_kp (by assumption) (by walk_at "ne") (by walk_at "sq"))
local macro_rules | `(tactic| walk_at "ci") => `(tactic| first
  | exact .inr ⟨by decide, by decide⟩
  | exact .inl ⟨by decide, by decide⟩
  | exact ⟨by decide, by decide, by decide⟩
  | decide
  | omega
  | exact ⟨by omega, by omega⟩
  | exact .inl ⟨by omega, by omega⟩
  | exact .inr ⟨by omega, by omega⟩)
local macro_rules | `(tactic| walk_at "g0") => `(tactic| first
  | with_reducible refine Go.g_seq ?_
  | ((with_reducible show tVar _ _ _ _); refine ⟨_, rfl, ?_⟩)
  | with_reducible refine Go.g_c ?_
  | with_reducible refine Go.g_op ?_
  | with_reducible refine Go.g_asg ?_
  | with_reducible refine Go.g_name ?_
  | with_reducible refine Go.g_cons ?_
  | with_reducible refine Go.g_lst ?_
  | with_reducible refine Go.g_tup ?_
  | with_reducible refine Go.g_for ?_
  | with_reducible refine Go.g_rng1 ?_
  | with_reducible refine Go.g_rng2 ?_
  | with_reducible refine Go.g_rng3 ?_
  | with_reducible refine Go.g_list ?_
  | with_reducible refine Go.g_itup ?_
  | with_reducible refine Go.g_enum ?_
  | with_reducible refine Go.g_lc ?_
  | with_reducible refine Go.g_nil ?_
  | with_reducible refine Go.g_cb ?_
  | with_reducible refine Go.g_call ?_
  | with_reducible refine Go.g_ret ?_
  | with_reducible refine Go.g_next ?_
  | with_reducible refine Go.g_drop ?_
  | with_reducible refine Go.g_un ?_
  | with_reducible refine Go.g_test ?_
  | with_reducible refine Go.g_tB ?_
  | with_reducible refine Go.g_ifs ?_
  | with_reducible refine Go.g_if ?_
  | with_reducible refine Go.g_and ?_
  | with_reducible refine Go.g_or ?_
  | with_reducible refine Go.g_not ?_
  | with_reducible refine Go.g_sl ?_
  | with_reducible refine Go.g_nopart ?_
  | with_reducible refine Go.g_part ?_
  | ((with_reducible show ∃ k, V.bl _ = V.bl k ∧ _); refine ⟨_, rfl, ?_⟩)
  | ((with_reducible show ∃ k, V.int _ = V.int k ∧ _); refine ⟨_, rfl, ?_⟩)
  | with_reducible refine Go.g_bm ?_
  | with_reducible refine Go.g_yes ?_
  | ((with_reducible show rI0 _ _ _ _ _); refine ⟨_, _, rfl, rfl, ?_⟩)
  | ((with_reducible show rI _ _ _ _ _ _); refine ⟨_, _, rfl, rfl, ?_, ?_⟩; (focus walk_at "ci"))
  | ((with_reducible show rU _ _ _ _); refine ⟨_, rfl, ?_⟩)
  | ((with_reducible show rEq _ _ _ _); refine ⟨rfl, ?_⟩)
  | ((with_reducible show rNe _ _ _ _); refine ⟨rfl, ?_⟩)
  | ((with_reducible show rIxL _ _ _ _ _); refine Go.g_ixL (by walk_at "sq") (by rfl) ?_)
  | ((with_reducible show rIxT _ _ _ _ _); refine Go.g_ixT (by walk_at "sq") (by rfl) ?_)
  | ((with_reducible show rSetL _ _ _ _ _); refine Go.g_setL (by walk_at "hp") (by rfl) ?_)
  | ((with_reducible show ∃ p ys, [V.ref _] = [V.ref p] ∧ (SqL _ _ _ _ ∨ SqT _ _ _ _) ∧ _); refine ⟨_, _, rfl, .inl (by walk_at "sq"), ?_⟩)
  | ((with_reducible show (∃ i, [V.int _] = [V.int i] ∧ _) ∨ _); refine .inl ⟨_, rfl, ?_⟩)
  | ((with_reducible show ∃ (c : Nat) (z : Str), V.str _ = V.str ⟨#[c]⟩ ∧ V.str _ = V.str z ∧ _); refine ⟨_, _, rfl, rfl, ?_⟩)
  | ((with_reducible show ∃ x : Str, [V.str _] = [V.str x] ∧ Str.length x = 1 ∧ _); refine ⟨_, rfl, rfl, ?_⟩)
  | ((with_reducible show ∃ z : Str, [V.str _] = [V.str z] ∧ Str.length z ≤ sizeLine ∧ _); refine ⟨_, rfl, by assumption, ?_⟩)
  | ((with_reducible show rSlS _ _ _ _ _); refine ⟨_, rfl, by assumption, ?_⟩)
  | ((with_reducible show gTup _ _ _ _ _ _ _); refine Go.g_gtup (by walk_at "sq") (by rfl) ?_)
  | ((with_reducible show gCons _ _ _ _ _ _); refine ⟨_, _, rfl, ?_⟩)
  | ((with_reducible show gNil _ _ _ _); refine ⟨rfl, ?_⟩)
  | ((with_reducible show rLenS _ _ _ _); refine Go.g_lenL (by walk_at "sq") ?_)
  | ((with_reducible show rListOf _ _ _ _); refine Go.g_listL (by walk_at "sq") ?_)
  | ((with_reducible show wipe _ _ = wipe _ _ ∧ _); refine ⟨rfl, ?_⟩)
  | ((with_reducible show if true = true then _ else _); refine iteT ?_)
  | ((with_reducible show if false = true then _ else _); refine iteF ?_)
  | ((with_reducible show ∃ a xs, [V.ref _] = [V.ref a] ∧ SqL _ _ a xs ∧ _); refine ⟨_, _, rfl, by walk_at "sq", ?_⟩)
  | ((with_reducible show ∃ a, V.ref _ = V.ref a ∧ (∃ xs, SqL _ _ a xs) ∧ _); refine ⟨_, rfl, ⟨_, by walk_at "sq"⟩, ?_⟩)
  | ((with_reducible show ∃ a, V.ref _ = V.ref a ∧ (∃ xs, SqT _ _ a xs) ∧ _); refine ⟨_, rfl, ⟨_, by walk_at "sq"⟩, ?_⟩)
  | ((with_reducible show ∃ j : Int, [V.int _] = [V.int j] ∧ _ ≤ j ∧ j < _ ∧ _); refine ⟨_, rfl, by omega, by omega, ?_⟩)
  | ((with_reducible show ∃ i j : Int, [V.int _, V.int _] = [V.int i, V.int j] ∧ (_ ≤ i ∧ i < _ ∧ _ ≤ j ∧ j < _) ∧ _); refine ⟨_, _, rfl, ⟨by omega, by omega, by omega, by omega⟩, ?_⟩)
  | ((with_reducible show ∃ i j : Int, [V.int _, V.int _] = [V.int i, V.int j] ∧ _); refine ⟨_, _, rfl, ?_⟩)
  | ((with_reducible show _ ≤ sizeLine ∧ _); refine ⟨by first | decide | (simp only [List.length_cons, List.length_nil]; decide), ?_⟩))
local macro_rules | `(tactic| walk_at "g1") => `(tactic| first | walk_at "g0" | with_reducible refine Go.g_sub ?_)
local macro_rules | `(tactic| walk_at "g") => `(tactic| repeat walk_at "g1")
local macro_rules | `(tactic| walk_at "v") => `(tactic| repeat walk_at "g0")
local macro_rules | `(tactic| walk_at "if") => `(tactic| first
  | with_reducible refine @Go.g_itd _ _ _ _ ?_ ?_
  | with_reducible refine @Go.g_itnd _ _ _ _ ?_ ?_
  | with_reducible refine Go.g_ite ?_ ?_)

section
variable {P : Program} {w : World} {K : PySem.W.Frag} {mg : Str → Option Value} {base : Heap}
/-- kept but for st and m -/
def Kp2 (st m : Addr) (H H' : Hp) : Prop := ∀ b o, b ≠ st → b ≠ m → H b = some o → H' b = some o
theorem Kp2.of {st m : Addr} {H H1 : Hp} (k : Kp st H H1) : Kp2 st m H H1 := fun b o h _ e => k b o h e
theorem Kp2.trans {st m : Addr} {H H1 H2 : Hp} (a : Kp2 st m H H1) (b : Kp2 st m H1 H2) : Kp2 st m H H2 := fun c o h1 h2 e => b c o h1 h2 (a c o h1 h2 e)
theorem Kp2.at {st m : Addr} {H H1 : Hp} {o : HO} (a : Kp2 st m H H1) : Kp2 st m H (upd H1 m o) := fun b u h1 h2 e => at_upd h2 (a b u h1 h2 e)
def sp__law_spoilt (K : PySem.W.Frag) : Sp := fun vs H Q _ => ∃ (st sc m : Addr) (ns : List Int) (scale : Int) (am : List Int), vs = [.ref st, .ref sc, .int scale, .ref m] ∧ St K H st sc ns ∧ m ≠ st ∧ H m = some (.lst (am.map V.int)) ∧ am.length ≤ 100 ∧
  ∀ (H' : Hp) (s' : Int) (am' : List Int), Kp2 st m H H' → St K H' st sc ns → H' m = some (.lst (am'.map V.int)) → am'.length ≤ am.length + 1 → scale - 1 ≤ s' → s' ≤ scale → Q (.int s') H'
theorem set_map {xs : List Int} {j : Nat} {v : Int} : (xs.map V.int).set j (.int v) = (xs.set j v).map V.int := by rw [List.map_set]
theorem ok__law_spoilt (T : Txt K mg) : FnOk P w K mg base CX0 2 T.a__law_spoilt T.fd__law_spoilt ["state", "script", "scale", "amounts"] (sp__law_spoilt K) := by
  refine T.F__law_spoilt.ok sc__law_spoilt (fun vs H Q E h => ?_) (fun cdv A outer s H vs Q E hr h => ?_)
  · obtain ⟨st, sc, m, ns, scale, am, rfl, _⟩ := h; rfl
  · obtain ⟨st, sc, m, ns, scale, am, rfl, hS, hm, eM, hlen, q⟩ := h
    have lm : (am.map V.int).length = am.length := List.length_map ..
    refine ⟨_, pss_cons (ps_set (i := 4) sc__law_spoilt.nd rfl (.inl rfl) (pe_call (ok__law_draw T) hr (by rfl) T.g__law_draw T.F__law_draw.kp T.b__law_draw .nil pass0 (pa_cons (pv 0) (pa_cons (pv 1) (pa_cons pe_int pa_nil)))))
      (C8.pss_cut (ps_if (pt_cutT (PW.pt (pw_and (pt_cmpR op_eq (pv 4) pe_int (nomark _)) (pw_and1 (pt_cmpR op_gt (pe_callB call_lenS (by rfl) T.n_len PySem.boot_len (pa_cons (pv 3) pa_nil)) pe_int (nomark _))))))
        (pss_cons (ps_set (i := 5) sc__law_spoilt.nd rfl (.inl rfl) (pe_call (ok__law_draw T) hr (by rfl) T.g__law_draw T.F__law_draw.kp T.b__law_draw .nil pass0 (pa_cons (pv 0) (pa_cons (pv 1) (pa_cons (pe_callB call_lenS (by rfl) T.n_len PySem.boot_len (pa_cons (pv 3) pa_nil)) pa_nil)))))
        (pss_one (ps_asg (pe_op op_sub (pe_op op_add (pe_ix ix_list (pv 3) (pv 5) (fun _ _ => rfl)) (pe_call (ok__law_draw T) hr (by rfl) T.g__law_draw T.F__law_draw.kp T.b__law_draw .nil pass0 (pa_cons (pv 0) (pa_cons (pv 1) (pa_cons pe_int pa_nil))))) pe_int) (pg_sub (pv 3) (pv 5) set_list))))
        (pss_one (ps_if (pt_cutT (PW.pt (pw_and (pt_cmpR op_eq (pv 4) pe_int (nomark _)) (pw_and1 (pt_cmpR op_gt (pe_callB call_lenS (by rfl) T.n_len PySem.boot_len (pa_cons (pv 3) pa_nil)) pe_int (nomark _))))))
          (pss_one (ps_asg (pe_op op_sub pe_int (pe_call (ok__law_draw T) hr (by rfl) T.g__law_draw T.F__law_draw.kp T.b__law_draw .nil pass0 (pa_cons (pv 0) (pa_cons (pv 1) (pa_cons pe_int pa_nil))))) (pg_sub (pv 3) (pe_call (ok__law_draw T) hr (by rfl) T.g__law_draw T.F__law_draw.kp T.b__law_draw .nil pass0 (pa_cons (pv 0) (pa_cons (pv 1) (pa_cons (pe_callB call_lenS (by rfl) T.n_len PySem.boot_len (pa_cons (pv 3) pa_nil)) pa_nil)))) set_list)))
          (pss_one (ps_if (pt_cmpR op_eq (pv 4) pe_int (nomark _))
            (pss_one (ps_ret (pe_op op_sub (pv 2) pe_int)))
            (pss_one (ps_if (pt_cutT (PW.pt (pw_and (pt_cmpR op_eq (pv 4) pe_int (nomark _)) (pw_and1 (pt_cmpR op_eq (pe_call (ok__law_draw T) hr (by rfl) T.g__law_draw T.F__law_draw.kp T.b__law_draw .nil pass0 (pa_cons (pv 0) (pa_cons (pv 1) (pa_cons pe_int pa_nil)))) pe_int (nomark _))))))
              (pss_one (ps_expr (pe_bm PySem.F.plainAttrs_list PySem.F.slot_list_append PySem.F.type_list_append mt_append (pv 3) (pa_cons pe_int pa_nil))))
              (pss_nil))))))))
      (pss_one (ps_ret (pv 2)))), ?_⟩
    walk_at "g"
    refine ⟨st, sc, ns, _, rfl, hS, by decide, by decide, fun H1 d1 k1 S1 d10 d11 => ?_⟩
    have eM1 : H1 m = some (.lst (am.map V.int)) := k1 _ _ hm eM
    walk_at "g"
    refine g_cut (fun σ' H' => ∃ (x4 x5 : Option V) (am' : List Int), σ' = [some (.ref st), some (.ref sc), some (.int scale), some (.ref m), x4, x5] ∧ Kp2 st m H H' ∧ St K H' st sc ns ∧ H' m = some (.lst (am'.map V.int)) ∧ am'.length ≤ am.length + 1) ?_ ?_
    · walk_at "g"
      refine ⟨fun b H' => H1 = H' ∧ (b = true → 0 < am.length), ?_, ?_⟩
      · walk_at "g"
        walk_at "if" <;> intro e
        · walk_at "g"
          refine ⟨rfl, fun e => ?_⟩
          have := of_decide_eq_true e
          omega
        · exact ⟨rfl, fun e => nomatch e⟩
      rintro b _ ⟨rfl, hb⟩
      walk_at "if" <;> intro e
      · have hb := hb e
        walk_at "g"
        refine ⟨st, sc, ns, _, rfl, S1, by omega, by omega, fun H2 d2 k2 S2 d20 d21 => ?_⟩
        have eM2 : H2 m = some (.lst (am.map V.int)) := k2 _ _ hm eM1
        have k2 := k1.trans k2
        walk_at "g"
        refine g_ixL (by walk_at "sq") (atI_map d20 (by omega)) ?_
        walk_at "g"
        refine ⟨st, sc, ns, _, rfl, S2, by decide, by decide, fun H3 d3 k3 S3 d30 d31 => ?_⟩
        have eM3 : H3 m = some (.lst (am.map V.int)) := k3 _ _ hm eM2
        have k3 := k2.trans k3
        walk_at "g"
        refine g_setL eM3 (ixN_some d20 (by omega)) ?_
        rw [set_map]
        exact ⟨_, _, _, rfl, (Kp2.of k3).at, S3.setL eM3 hm, upd_same, by rw [List.length_set]; omega⟩
      clear hb e
      walk_at "g"
      refine ⟨fun b H' => H1 = H' ∧ (b = true → 0 < am.length), ?_, ?_⟩
      · walk_at "g"
        walk_at "if" <;> intro e
        · walk_at "g"
          refine ⟨rfl, fun e => ?_⟩
          have := of_decide_eq_true e
          omega
        · exact ⟨rfl, fun e => nomatch e⟩
      rintro b _ ⟨rfl, hb⟩
      walk_at "if" <;> intro e
      · have hb := hb e
        walk_at "g"
        refine ⟨st, sc, ns, _, rfl, S1, by decide, by decide, fun H2 d2 k2 S2 d20 d21 => ?_⟩
        have eM2 : H2 m = some (.lst (am.map V.int)) := k2 _ _ hm eM1
        have k2 := k1.trans k2
        walk_at "g"
        refine ⟨st, sc, ns, _, rfl, S2, by omega, by omega, fun H3 d3 k3 S3 d30 d31 => ?_⟩
        have eM3 : H3 m = some (.lst (am.map V.int)) := k3 _ _ hm eM2
        have k3 := k2.trans k3
        refine g_setL eM3 (ixN_some d30 (by omega)) ?_
        rw [set_map]
        exact ⟨_, _, _, rfl, (Kp2.of k3).at, S3.setL eM3 hm, upd_same, by rw [List.length_set]; omega⟩
      clear hb e
      walk_at "g"
      walk_at "if" <;> intro e
      · walk_at "g"
        exact q _ _ _ (Kp2.of k1) S1 eM1 (by omega) (by omega) (by omega)
      walk_at "g"
      refine ⟨fun b H' => St K H' st sc ns ∧ Kp st H H', ?_, ?_⟩
      · walk_at "g"
        walk_at "if" <;> intro e
        · walk_at "g"
          refine ⟨st, sc, ns, _, rfl, S1, by decide, by decide, fun H2 d2 k2 S2 d20 d21 => ?_⟩
          walk_at "g"
          exact ⟨S2, k1.trans k2⟩
        · exact ⟨S1, k1⟩
      rintro b H2 ⟨S2, k2⟩
      have eM2 : H2 m = some (.lst (am.map V.int)) := k2 _ _ hm eM
      walk_at "if" <;> intro e
      · walk_at "g"
        refine ⟨.inl ⟨rfl, _, by walk_at "sq"⟩, ?_⟩
        walk_at "g"
        refine ⟨_, _, _, rfl, rfl, eM2, by rw [lm]; exact small1000 (by omega), ?_⟩
        exact ⟨_, _, am ++ [1], rfl, (Kp2.of k2).at, S2.setL eM2 hm, by rw [upd_same, List.map_append]; rfl, by simp⟩
      · walk_at "g"
        exact ⟨_, _, am, rfl, Kp2.of k2, S2, eM2, by omega⟩
    · rintro σ' H2 ⟨x4, x5, am', rfl, k2, S2, e2, l2⟩
      walk_at "g"
      exact q _ _ _ k2 S2 e2 l2 (by omega) (by omega)
theorem fault_fine {cents hidden : List Int} {totals : List (List Int)} {y : Int} {z : Option Int} {scale : Int} {amounts : List Int} (h1 : cents.length ≤ 20) (h2 : totals.length ≤ 100) :
    (fault cents hidden totals y z scale amounts).showable = true ∧ (fault cents hidden totals y z scale amounts).depth ≤ 60 ∧ (fault cents hidden totals y z scale amounts).hasDict = false ∧ (fault cents hidden totals y z scale amounts).shown.length ≤ sizeLine := by
  have one : ∀ x : Str, x.cps.toList.all (fun c => decide (c < 16 ^ 8)) = true → x.cps.size ≤ 100 → (PyData.tuple [.str x]).shown.length ≤ sizeLine := fun x h h' =>
    PyData.shown_fits (B := 13) (by decide) (by decide) (by simp only [PyData.leavesShort, PyData.leavesShortAll, h, Bool.and_self]) (by simp only [PyData.weight, PyData.weightAll]; omega)
  have two : ∀ (x : Str) (k : Nat), k < 200 → x.cps.toList.all (fun c => decide (c < 16 ^ 8)) = true → x.cps.size ≤ 100 → (PyData.tuple [.str x, .int k]).showable = true ∧ (PyData.tuple [.str x, .int k]).shown.length ≤ sizeLine := fun x k hk h h' => by
    have hl : (k : Int).natAbs.log2 ≤ 200 := Nat.le_trans (Nat.log2_le_self _) (by omega)
    refine ⟨by simp only [PyData.showable, PyData.showableAll, Bool.and_true, Bool.true_and, decide_eq_true_eq]; omega, ?_⟩
    refine PyData.shown_fits (B := 13) (by decide) (by decide) ?_ ?_
    · have : (PyData.shown (.int (k : Int))).length ≤ 13 := PyData.shown_int_le (by omega)
      simp only [PyData.leavesShort, PyData.leavesShortAll, h, decide_eq_true this, Bool.and_self]
    · have hw : PyData.weight (.int (k : Int)) ≤ 201 := by
        simp only [PyData.weight]
        split
        · omega
        · omega
      simp only [PyData.weight, PyData.weightAll] at hw ⊢
      omega
  unfold fault
  split
  · exact ⟨rfl, by decide, rfl, one _ (by decide) (by decide)⟩
  split
  · rename_i k hk
    have := (List.find?_range_eq_some.mp hk).2.1
    have hk' : k < 200 := by have := List.mem_range.mp this; omega
    exact ⟨(two _ k hk' (by decide) (by decide)).1, by simp [PyData.depth, PyData.depthAll], rfl, (two _ k hk' (by decide) (by decide)).2⟩
  split
  · exact ⟨rfl, by decide, rfl, one _ (by decide) (by decide)⟩
  split
  · rename_i k hk
    have := (List.find?_range_eq_some.mp hk).2.1
    have hk' : k < 200 := by have := List.mem_range.mp this; omega
    exact ⟨(two _ k hk' (by decide) (by decide)).1, by simp [PyData.depth, PyData.depthAll], rfl, (two _ k hk' (by decide) (by decide)).2⟩
  · exact ⟨rfl, by decide, rfl, by decide⟩

end
end K71

namespace K71
open PySem PySem.Spec PyProof.Rows L2 Go Grd
set_option maxHeartbeats 8000000
local macro_rules | `(tactic| walk_at "ne") => `(tactic| first
  | assumption
  | (refine Ne.symm ?_; assumption)
  | exact (Go.free_upd (by assumption)).2
  | exact (Go.free_upd (by assumption)).2.symm
  | exact Go.ne_fr (by assumption) (by walk_at "hp")
  | exact (Go.ne_fr (by assumption) (by walk_at "hp")).symm)
local macro_rules | `(tactic| walk_at "fr") => `(tactic| first
  | assumption
  | exact (Go.free_upd (by assumption)).1
  | exact (Go.free_upd (Go.free_upd (by assumption)).1).1
  | exact Same.free (by assumption) (by walk_at "fr"))
local macro_rules | `(tactic| walk_at "hp") => `(tactic| first
  | assumption
  | with_reducible exact upd_same
  | ((with_reducible show upd _ _ _ _ = _); exact Go.at_upd (by walk_at "ne") (by walk_at "hp"))
  | exact (by assumption : Same _ _) _ _ (by walk_at "hp")
  | exact (by assumption : Go.Kp _ _ _) _ _ (by walk_at "ne") (by walk_at "hp"))
local macro_rules | `(tactic| walk_at "sq") => `(tactic| first
  | assumption
  | ((with_reducible show SqL _ (upd _ _ _) _ _); exact (by assumption : ∀ o, SqL _ (upd _ _ o) _ _) _)
  | ((with_reducible show SqL _ _ _ _); exact SqL.of (by walk_at "hp"))
  | ((with_reducible show SqT _ _ _ _); exact SqT.of (by walk_at "hp"))
  | ((with_reducible show SqL _ (upd _ _ _) _ _); exact Go.sqL_new (by walk_at "fr") (by walk_at "sq"))
  | ((with_reducible show SqT _ (upd _ _ _) _ _); exact Go.sqT_new (by walk_at "fr") (by walk_at "sq"))
  | ((with_reducible show SqL _ (upd _ _ _) _ _); exact Go.sqL_ne (by walk_at "ne") (by walk_at "sq"))
  | exact Go.sqL_same (by assumption) (by walk_at "sq")
  | exact Go.sqT_same (by assumption) (by walk_at "sq")
  | exact Go.sqL_kp (by assumption) (by walk_at "ne") (by walk_at "sq")
  | exact Go.sqT_kp (by assumption) (by walk_at "ne") (by walk_at "sq"))
local macro_rules | `(tactic| walk_at "ci") => `(tactic| first
  | exact .inr ⟨by decide, by decide⟩
  | exact .inl ⟨by decide, by decide⟩
  | exact ⟨by decide, by decide, by decide⟩
  | decide
  | omega
  | exact ⟨by omega, by omega⟩
  | exact .inl ⟨by omega, by omega⟩
  | exact .inr ⟨by omega, by omega⟩)
local macro_rules | `(tactic| walk_at "g0") => `(tactic| first
  | with_reducible refine Go.g_seq ?_
  | ((with_reducible show tVar _ _ _ _); refine ⟨_, rfl, ?_⟩)
  | with_reducible refine Go.g_c ?_
  | with_reducible refine Go.g_op ?_
  | with_reducible refine Go.g_asg ?_
  | with_reducible refine Go.g_name ?_
  | with_reducible refine Go.g_cons ?_
  | with_reducible refine Go.g_lst ?_
  | with_reducible refine Go.g_tup ?_
  | with_reducible refine Go.g_for ?_
  | with_reducible refine Go.g_rng1 ?_
  | with_reducible refine Go.g_rng2 ?_
  | with_reducible refine Go.g_rng3 ?_
  | with_reducible refine Go.g_list ?_
  | with_reducible refine Go.g_itup ?_
  | with_reducible refine Go.g_enum ?_
  | with_reducible refine Go.g_lc ?_
  | with_reducible refine Go.g_nil ?_
  | with_reducible refine Go.g_cb ?_
  | with_reducible refine Go.g_call ?_
  | with_reducible refine Go.g_ret ?_
  | with_reducible refine Go.g_next ?_
  | with_reducible refine Go.g_drop ?_
  | with_reducible refine Go.g_un ?_
  | with_reducible refine Go.g_test ?_
  | with_reducible refine Go.g_tB ?_
  | with_reducible refine Go.g_ifs ?_
  | with_reducible refine Go.g_if ?_
  | with_reducible refine Go.g_and ?_
  | with_reducible refine Go.g_or ?_
  | with_reducible refine Go.g_not ?_
  | with_reducible refine Go.g_sl ?_
  | with_reducible refine Go.g_nopart ?_
  | with_reducible refine Go.g_part ?_
  | ((with_reducible show ∃ k, V.bl _ = V.bl k ∧ _); refine ⟨_, rfl, ?_⟩)
  | ((with_reducible show ∃ k, V.int _ = V.int k ∧ _); refine ⟨_, rfl, ?_⟩)
  | with_reducible refine Go.g_bm ?_
  | with_reducible refine Go.g_yes ?_
  | ((with_reducible show rI0 _ _ _ _ _); refine ⟨_, _, rfl, rfl, ?_⟩)
  | ((with_reducible show rI _ _ _ _ _ _); refine ⟨_, _, rfl, rfl, ?_, ?_⟩; (focus walk_at "ci"))
  | ((with_reducible show rU _ _ _ _); refine ⟨_, rfl, ?_⟩)
  | ((with_reducible show rEq _ _ _ _); refine ⟨rfl, ?_⟩)
  | ((with_reducible show rNe _ _ _ _); refine ⟨rfl, ?_⟩)
  | ((with_reducible show rIxL _ _ _ _ _); refine Go.g_ixL (by walk_at "sq") (by rfl) ?_)
  | ((with_reducible show rIxT _ _ _ _ _); refine Go.g_ixT (by walk_at "sq") (by rfl) ?_)
  | ((with_reducible show rSetL _ _ _ _ _); refine Go.g_setL (by walk_at "hp") (by rfl) ?_)
  | ((with_reducible show ∃ p ys, [V.ref _] = [V.ref p] ∧ (SqL _ _ _ _ ∨ SqT _ _ _ _) ∧ _); refine ⟨_, _, rfl, .inl (by walk_at "sq"), ?_⟩)
  | ((with_reducible show (∃ i, [V.int _] = [V.int i] ∧ _) ∨ _); refine .inl ⟨_, rfl, ?_⟩)
  | ((with_reducible show ∃ (c : Nat) (z : Str), V.str _ = V.str ⟨#[c]⟩ ∧ V.str _ = V.str z ∧ _); refine ⟨_, _, rfl, rfl, ?_⟩)
  | ((with_reducible show ∃ x : Str, [V.str _] = [V.str x] ∧ Str.length x = 1 ∧ _); refine ⟨_, rfl, rfl, ?_⟩)
  | ((with_reducible show ∃ z : Str, [V.str _] = [V.str z] ∧ Str.length z ≤ sizeLine ∧ _); refine ⟨_, rfl, by assumption, ?_⟩)
  | ((with_reducible show rSlS _ _ _ _ _); refine ⟨_, rfl, by assumption, ?_⟩)
  | ((with_reducible show gTup _ _ _ _ _ _ _); refine Go.g_gtup (by walk_at "sq") (by rfl) ?_)
  | ((with_reducible show gCons _ _ _ _ _ _); refine ⟨_, _, rfl, ?_⟩)
  | ((with_reducible show gNil _ _ _ _); refine ⟨rfl, ?_⟩)
  | ((with_reducible show rLenS _ _ _ _); refine Go.g_lenL (by walk_at "sq") ?_)
  | ((with_reducible show rListOf _ _ _ _); refine Go.g_listL (by walk_at "sq") ?_)
  | ((with_reducible show wipe _ _ = wipe _ _ ∧ _); refine ⟨rfl, ?_⟩)
  | ((with_reducible show if true = true then _ else _); refine iteT ?_)
  | ((with_reducible show if false = true then _ else _); refine iteF ?_)
  | ((with_reducible show ∃ a xs, [V.ref _] = [V.ref a] ∧ SqL _ _ a xs ∧ _); refine ⟨_, _, rfl, by walk_at "sq", ?_⟩)
  | ((with_reducible show ∃ a, V.ref _ = V.ref a ∧ (∃ xs, SqL _ _ a xs) ∧ _); refine ⟨_, rfl, ⟨_, by walk_at "sq"⟩, ?_⟩)
  | ((with_reducible show ∃ a, V.ref _ = V.ref a ∧ (∃ xs, SqT _ _ a xs) ∧ _); refine ⟨_, rfl, ⟨_, by walk_at "sq"⟩, ?_⟩)
  | ((with_reducible show ∃ j : Int, [V.int _] = [V.int j] ∧ _ ≤ j ∧ j < _ ∧ _); refine ⟨_, rfl, by omega, by omega, ?_⟩)
  | ((with_reducible show ∃ i j : Int, [V.int _, V.int _] = [V.int i, V.int j] ∧ (_ ≤ i ∧ i < _ ∧ _ ≤ j ∧ j < _) ∧ _); refine ⟨_, _, rfl, ⟨by omega, by omega, by omega, by omega⟩, ?_⟩)
  | ((with_reducible show ∃ i j : Int, [V.int _, V.int _] = [V.int i, V.int j] ∧ _); refine ⟨_, _, rfl, ?_⟩)
  | ((with_reducible show _ ≤ sizeLine ∧ _); refine ⟨by first | decide | (simp only [List.length_cons, List.length_nil]; decide), ?_⟩))
local macro_rules | `(tactic| walk_at "g1") => `(tactic| first | walk_at "g0" | with_reducible refine Go.g_sub ?_)
local macro_rules | `(tactic| walk_at "g") => `(tactic| repeat walk_at "g1")
local macro_rules | `(tactic| walk_at "v") => `(tactic| repeat walk_at "g0")
local macro_rules | `(tactic| walk_at "if") => `(tactic| first
  | with_reducible refine @Go.g_itd _ _ _ _ ?_ ?_
  | with_reducible refine @Go.g_itnd _ _ _ _ ?_ ?_
  | with_reducible refine Go.g_ite ?_ ?_)

section
variable {P : Program} {w : World} {K : PySem.W.Frag} {mg : Str → Option Value} {base : Heap}
theorem sz {n : Nat} (h : n ≤ 1000) : n ≤ sizeLine := Nat.le_trans h (by decide)
mutual
theorem Dq.same {K : PySem.W.Frag} {H H1 : Hp} (s : Same H H1) : ∀ {v : V} {d : PyData}, Dq K H v d → Dq K H1 v d
  | _, _, .non => .non
  | _, _, .bl b => .bl b
  | _, _, .int i => .int i
  | _, _, .str x => .str x
  | _, _, .lst h a => .lst (sqL_same s h) (DqAll.same s a)
  | _, _, .tup h a => .tup (sqT_same s h) (DqAll.same s a)
  | _, _, .dct h a => .dct (s _ _ h) (DqAll.same s a)
theorem DqAll.same {K : PySem.W.Frag} {H H1 : Hp} (s : Same H H1) : ∀ {vs : List V} {ds : List PyData}, DqAll K H vs ds → DqAll K H1 vs ds
  | _, _, .nil => .nil
  | _, _, .cons h a => .cons (Dq.same s h) (DqAll.same s a)
end
/-- what the law has made -/
structure Wo (K : PySem.W.Frag) (H : Hp) (st sc : Addr) (ns : List Int) (c h t : Addr) (rs : List Addr) (size : Int) (cents hidden : List Int) (totals : List (List Int)) : Prop where
  S : St K H st sc ns
  ec : H c = some (.lst (cents.map V.int))
  eh : H h = some (.lst (hidden.map V.int))
  et : H t = some (.lst (rs.map V.ref))
  len : rs.length = totals.length
  row : ∀ i (h1 : i < rs.length) (h2 : i < totals.length), H rs[i] = some (.lst (totals[i].map V.int))
  ncs : c ≠ st
  nhs : h ≠ st
  nts : t ≠ st
  nct : c ≠ t
  nht : h ≠ t
  nr : ∀ r ∈ rs, r ≠ st ∧ r ≠ t
  lc : (cents.length : Int) = size
  hs : 2 ≤ size ∧ size ≤ 8
  hh : ∀ k ∈ hidden, 0 ≤ k ∧ k < size
  h0 : hidden ≠ []
  hl : hidden.length ≤ 8
  rb : ∀ row ∈ totals, (∀ k ∈ row, 0 ≤ k ∧ k < size) ∧ row.length ≤ 20
section
variable {K : PySem.W.Frag} {H H1 : Hp} {st sc c h t : Addr} {ns : List Int} {rs : List Addr} {size : Int} {cents hidden : List Int} {totals : List (List Int)}
/-- kept but for st and other lists that are none of these -/
theorem Wo.to (W : Wo K H st sc ns c h t rs size cents hidden totals) (S1 : St K H1 st sc ns) (k : ∀ b u, (b = c ∨ b = h ∨ b = t ∨ b ∈ rs) → H b = some u → H1 b = some u) : Wo K H1 st sc ns c h t rs size cents hidden totals :=
  ⟨S1, k _ _ (.inl rfl) W.ec, k _ _ (.inr (.inl rfl)) W.eh, k _ _ (.inr (.inr (.inl rfl))) W.et, W.len, fun i h1 h2 => k _ _ (.inr (.inr (.inr (List.getElem_mem h1)))) (W.row i h1 h2),
    W.ncs, W.nhs, W.nts, W.nct, W.nht, W.nr, W.lc, W.hs, W.hh, W.h0, W.hl, W.rb⟩
theorem Wo.kp (W : Wo K H st sc ns c h t rs size cents hidden totals) (k : Kp st H H1) (S1 : St K H1 st sc ns) : Wo K H1 st sc ns c h t rs size cents hidden totals := by
  refine W.to S1 fun b u hb e => k _ _ ?_ e
  rcases hb with rfl | rfl | rfl | hb
  · exact W.ncs
  · exact W.nhs
  · exact W.nts
  · exact (W.nr b hb).1
theorem Wo.same (W : Wo K H st sc ns c h t rs size cents hidden totals) (s : Same H H1) : Wo K H1 st sc ns c h t rs size cents hidden totals := W.to (W.S.same s) fun b u _ e => s _ _ e
theorem Wo.new {p : Addr} {o : HO} (W : Wo K H st sc ns c h t rs size cents hidden totals) (n : H p = none) : Wo K (upd H p o) st sc ns c h t rs size cents hidden totals :=
  W.same (Go.Same.new (Same.refl H) n)
/-- a list of its own is changed -/
theorem Wo.set {p : Addr} {xs : List V} {o : HO} (W : Wo K H st sc ns c h t rs size cents hidden totals) (e : H p = some (.lst xs)) (n : p ≠ st) (nn : p ≠ c ∧ p ≠ h ∧ p ≠ t ∧ p ∉ rs) : Wo K (upd H p o) st sc ns c h t rs size cents hidden totals := by
  refine W.to (W.S.setL e n) fun b u hb eb => at_upd ?_ eb
  rcases hb with rfl | rfl | rfl | hb
  · exact nn.1.symm
  · exact nn.2.1.symm
  · exact nn.2.2.1.symm
  · exact fun z => nn.2.2.2 (z ▸ hb)
/-- a new address is none of these -/
theorem Wo.apart {p : Addr} (W : Wo K H st sc ns c h t rs size cents hidden totals) (n : H p = none) : p ≠ st ∧ p ≠ c ∧ p ≠ h ∧ p ≠ t ∧ p ∉ rs := by
  refine ⟨W.S.ne n, (ne_of_none W.ec n).symm, (ne_of_none W.eh n).symm, (ne_of_none W.et n).symm, fun hm => ?_⟩
  obtain ⟨i, hi, e⟩ := List.getElem_of_mem hm
  have := W.row i hi (by rw [← W.len]; exact hi)
  rw [e, n] at this
  cases this
/-- one more total -/
theorem Wo.app {p : Addr} {row : List Int} (W : Wo K H st sc ns c h t rs size cents hidden totals) (e : H p = some (.lst (row.map V.int))) (n : p ≠ st ∧ p ≠ t) (hr : (∀ k ∈ row, 0 ≤ k ∧ k < size) ∧ row.length ≤ 20) :
    Wo K (upd H t (.lst ((rs ++ [p]).map V.ref))) st sc ns c h t (rs ++ [p]) size cents hidden (totals ++ [row]) := by
  refine ⟨W.S.setL W.et W.nts, at_upd W.nct W.ec, at_upd W.nht W.eh, upd_same, by rw [List.length_append, List.length_append, W.len]; rfl, fun i h1 h2 => ?_, W.ncs, W.nhs, W.nts, W.nct, W.nht, fun r hm => ?_, W.lc, W.hs, W.hh, W.h0, W.hl, fun r hm => ?_⟩
  · by_cases hi : i < rs.length
    · rw [List.getElem_append_left hi, List.getElem_append_left (by rw [← W.len]; exact hi)]
      exact at_upd (W.nr _ (List.getElem_mem hi)).2 (W.row i hi (by rw [← W.len]; exact hi))
    · have ei : i = rs.length := by rw [List.length_append, List.length_singleton] at h1; omega
      have e1 : (rs ++ [p])[i] = p := by subst ei; simp
      have e2 : (totals ++ [row])[i] = row := by
        have : i = totals.length := by rw [ei, W.len]
        subst this; simp
      rw [e1, e2]
      exact at_upd n.2 e
  · rcases List.mem_append.mp hm with z | z
    · exact W.nr r z
    · rw [List.mem_singleton.mp z]; exact n
  · rcases List.mem_append.mp hm with z | z
    · exact W.rb r z
    · rw [List.mem_singleton.mp z]; exact hr
/-- the last total is another list -/
theorem Wo.last {p : Addr} {row : List Int} (W : Wo K H st sc ns c h t rs size cents hidden totals) (e : H p = some (.lst (row.map V.int))) (n : p ≠ st ∧ p ≠ t) (hr : (∀ k ∈ row, 0 ≤ k ∧ k < size) ∧ row.length ≤ 20) (j : Nat) :
    Wo K (upd H t (.lst ((rs.set j p).map V.ref))) st sc ns c h t (rs.set j p) size cents hidden (totals.set j row) := by
  refine ⟨W.S.setL W.et W.nts, at_upd W.nct W.ec, at_upd W.nht W.eh, upd_same, by rw [List.length_set, List.length_set, W.len], fun i h1 h2 => ?_, W.ncs, W.nhs, W.nts, W.nct, W.nht, fun r hm => ?_, W.lc, W.hs, W.hh, W.h0, W.hl, fun r hm => ?_⟩
  · rw [List.getElem_set, List.getElem_set]
    by_cases hj : j = i
    · rw [if_pos hj, if_pos hj]; exact at_upd n.2 e
    · rw [if_neg hj, if_neg hj]
      rw [List.length_set] at h1 h2
      exact at_upd (W.nr _ (List.getElem_mem h1)).2 (W.row i h1 h2)
  · rcases List.mem_or_eq_of_mem_set hm with z | z
    · exact W.nr r z
    · rw [z]; exact n
  · rcases List.mem_or_eq_of_mem_set hm with z | z
    · exact W.rb r z
    · rw [z]; exact hr
theorem Wo.inn {m : Addr} {am : List Int} (W : Wo K H st sc ns c h t rs size cents hidden totals) (hm : SqL K H m (am.map V.int)) (ht : totals.length ≤ 100) : In K H c h t m rs cents hidden am totals :=
  ⟨SqL.of W.ec, SqL.of W.eh, SqL.of W.et, hm, W.len, fun i h1 h2 => SqL.of (W.row i h1 h2), fun row hr k hk => by have := (W.rb row hr).1 k hk; have := W.lc; omega, by have := W.lc; have := W.hs; omega, fun row hr => by have := (W.rb row hr).2; omega, ht⟩
end

end
end K71

namespace K71
open PySem PySem.Spec PyProof.Rows L2 Go Grd
set_option maxHeartbeats 8000000
local macro_rules | `(tactic| walk_at "ne") => `(tactic| first
  | assumption
  | (refine Ne.symm ?_; assumption)
  | exact (Go.free_upd (by assumption)).2
  | exact (Go.free_upd (by assumption)).2.symm
  | exact Go.ne_fr (by assumption) (by walk_at "hp")
  | exact (Go.ne_fr (by assumption) (by walk_at "hp")).symm)
local macro_rules | `(tactic| walk_at "fr") => `(tactic| first
  | assumption
  | exact (Go.free_upd (by assumption)).1
  | exact (Go.free_upd (Go.free_upd (by assumption)).1).1
  | exact Same.free (by assumption) (by walk_at "fr"))
local macro_rules | `(tactic| walk_at "hp") => `(tactic| first
  | assumption
  | with_reducible exact upd_same
  | ((with_reducible show upd _ _ _ _ = _); exact Go.at_upd (by walk_at "ne") (by walk_at "hp"))
  | exact (by assumption : Same _ _) _ _ (by walk_at "hp")
  | exact (by assumption : Go.Kp _ _ _) _ _ (by walk_at "ne") (by walk_at "hp"))
local macro_rules | `(tactic| walk_at "sq") => `(tactic| first
  | assumption
  | ((with_reducible show SqL _ (upd _ _ _) _ _); exact (by assumption : ∀ o, SqL _ (upd _ _ o) _ _) _)
  | ((with_reducible show SqL _ _ _ _); exact SqL.of (by walk_at "hp"))
  | ((with_reducible show SqT _ _ _ _); exact SqT.of (by walk_at "hp"))
  | ((with_reducible show SqL _ (upd _ _ _) _ _); exact Go.sqL_new (by walk_at "fr") (by walk_at "sq"))
  | ((with_reducible show SqT _ (upd _ _ _) _ _); exact Go.sqT_new (by walk_at "fr") (by walk_at "sq"))
  | ((with_reducible show SqL _ (upd _ _ _) _ _); exact Go.sqL_ne (by walk_at "ne") (by walk_at "sq"))
  | exact Go.sqL_same (by assumption) (by walk_at "sq")
  | exact Go.sqT_same (by assumption) (by walk_at "sq")
  | exact Go.sqL_kp (by assumption) (by walk_at "ne") (by walk_at "sq")
  | exact Go.sqT_kp (by assumption) (by walk_at "ne") (by walk_at "sq"))
local macro_rules | `(tactic| walk_at "ci") => `(tactic| first
  | exact .inr ⟨by decide, by decide⟩
  | exact .inl ⟨by decide, by decide⟩
  | exact ⟨by decide, by decide, by decide⟩
  | decide
  | omega
  | exact ⟨by omega, by omega⟩
  | exact .inl ⟨by omega, by omega⟩
  | exact .inr ⟨by omega, by omega⟩)
local macro_rules | `(tactic| walk_at "g0") => `(tactic| first
  | with_reducible refine Go.g_seq ?_
  | ((with_reducible show tVar _ _ _ _); refine ⟨_, rfl, ?_⟩)
  | with_reducible refine Go.g_c ?_
  | with_reducible refine Go.g_op ?_
  | with_reducible refine Go.g_asg ?_
  | with_reducible refine Go.g_name ?_
  | with_reducible refine Go.g_cons ?_
  | with_reducible refine Go.g_lst ?_
  | with_reducible refine Go.g_tup ?_
  | with_reducible refine Go.g_for ?_
  | with_reducible refine Go.g_rng1 ?_
  | with_reducible refine Go.g_rng2 ?_
  | with_reducible refine Go.g_rng3 ?_
  | with_reducible refine Go.g_list ?_
  | with_reducible refine Go.g_itup ?_
  | with_reducible refine Go.g_enum ?_
  | with_reducible refine Go.g_lc ?_
  | with_reducible refine Go.g_nil ?_
  | with_reducible refine Go.g_cb ?_
  | with_reducible refine Go.g_call ?_
  | with_reducible refine Go.g_ret ?_
  | with_reducible refine Go.g_next ?_
  | with_reducible refine Go.g_drop ?_
  | with_reducible refine Go.g_un ?_
  | with_reducible refine Go.g_test ?_
  | with_reducible refine Go.g_tB ?_
  | with_reducible refine Go.g_ifs ?_
  | with_reducible refine Go.g_if ?_
  | with_reducible refine Go.g_and ?_
  | with_reducible refine Go.g_or ?_
  | with_reducible refine Go.g_not ?_
  | with_reducible refine Go.g_sl ?_
  | with_reducible refine Go.g_nopart ?_
  | with_reducible refine Go.g_part ?_
  | ((with_reducible show ∃ k, V.bl _ = V.bl k ∧ _); refine ⟨_, rfl, ?_⟩)
  | ((with_reducible show ∃ k, V.int _ = V.int k ∧ _); refine ⟨_, rfl, ?_⟩)
  | with_reducible refine Go.g_bm ?_
  | with_reducible refine Go.g_yes ?_
  | ((with_reducible show rI0 _ _ _ _ _); refine ⟨_, _, rfl, rfl, ?_⟩)
  | ((with_reducible show rI _ _ _ _ _ _); refine ⟨_, _, rfl, rfl, ?_, ?_⟩; (focus walk_at "ci"))
  | ((with_reducible show rU _ _ _ _); refine ⟨_, rfl, ?_⟩)
  | ((with_reducible show rEq _ _ _ _); refine ⟨rfl, ?_⟩)
  | ((with_reducible show rNe _ _ _ _); refine ⟨rfl, ?_⟩)
  | ((with_reducible show rIxL _ _ _ _ _); refine Go.g_ixL (by walk_at "sq") (by rfl) ?_)
  | ((with_reducible show rIxT _ _ _ _ _); refine Go.g_ixT (by walk_at "sq") (by rfl) ?_)
  | ((with_reducible show rSetL _ _ _ _ _); refine Go.g_setL (by walk_at "hp") (by rfl) ?_)
  | ((with_reducible show ∃ p ys, [V.ref _] = [V.ref p] ∧ (SqL _ _ _ _ ∨ SqT _ _ _ _) ∧ _); refine ⟨_, _, rfl, .inl (by walk_at "sq"), ?_⟩)
  | ((with_reducible show (∃ i, [V.int _] = [V.int i] ∧ _) ∨ _); refine .inl ⟨_, rfl, ?_⟩)
  | ((with_reducible show ∃ (c : Nat) (z : Str), V.str _ = V.str ⟨#[c]⟩ ∧ V.str _ = V.str z ∧ _); refine ⟨_, _, rfl, rfl, ?_⟩)
  | ((with_reducible show ∃ x : Str, [V.str _] = [V.str x] ∧ Str.length x = 1 ∧ _); refine ⟨_, rfl, rfl, ?_⟩)
  | ((with_reducible show ∃ z : Str, [V.str _] = [V.str z] ∧ Str.length z ≤ sizeLine ∧ _); refine ⟨_, rfl, by assumption, ?_⟩)
  | ((with_reducible show rSlS _ _ _ _ _); refine ⟨_, rfl, by assumption, ?_⟩)
  | ((with_reducible show gTup _ _ _ _ _ _ _); refine Go.g_gtup (by walk_at "sq") (by rfl) ?_)
  | ((with_reducible show gCons _ _ _ _ _ _); refine ⟨_, _, rfl, ?_⟩)
  | ((with_reducible show gNil _ _ _ _); refine ⟨rfl, ?_⟩)
  | ((with_reducible show rLenS _ _ _ _); refine Go.g_lenL (by walk_at "sq") ?_)
  | ((with_reducible show rListOf _ _ _ _); refine Go.g_listL (by walk_at "sq") ?_)
  | ((with_reducible show wipe _ _ = wipe _ _ ∧ _); refine ⟨rfl, ?_⟩)
  | ((with_reducible show if true = true then _ else _); refine iteT ?_)
  | ((with_reducible show if false = true then _ else _); refine iteF ?_)
  | ((with_reducible show ∃ a xs, [V.ref _] = [V.ref a] ∧ SqL _ _ a xs ∧ _); refine ⟨_, _, rfl, by walk_at "sq", ?_⟩)
  | ((with_reducible show ∃ a, V.ref _ = V.ref a ∧ (∃ xs, SqL _ _ a xs) ∧ _); refine ⟨_, rfl, ⟨_, by walk_at "sq"⟩, ?_⟩)
  | ((with_reducible show ∃ a, V.ref _ = V.ref a ∧ (∃ xs, SqT _ _ a xs) ∧ _); refine ⟨_, rfl, ⟨_, by walk_at "sq"⟩, ?_⟩)
  | ((with_reducible show ∃ j : Int, [V.int _] = [V.int j] ∧ _ ≤ j ∧ j < _ ∧ _); refine ⟨_, rfl, by omega, by omega, ?_⟩)
  | ((with_reducible show ∃ i j : Int, [V.int _, V.int _] = [V.int i, V.int j] ∧ (_ ≤ i ∧ i < _ ∧ _ ≤ j ∧ j < _) ∧ _); refine ⟨_, _, rfl, ⟨by omega, by omega, by omega, by omega⟩, ?_⟩)
  | ((with_reducible show ∃ i j : Int, [V.int _, V.int _] = [V.int i, V.int j] ∧ _); refine ⟨_, _, rfl, ?_⟩)
  | ((with_reducible show _ ≤ sizeLine ∧ _); refine ⟨by first | decide | (simp only [List.length_cons, List.length_nil]; decide), ?_⟩))
local macro_rules | `(tactic| walk_at "g1") => `(tactic| first | walk_at "g0" | with_reducible refine Go.g_sub ?_)
local macro_rules | `(tactic| walk_at "g") => `(tactic| repeat walk_at "g1")
local macro_rules | `(tactic| walk_at "v") => `(tactic| repeat walk_at "g0")
local macro_rules | `(tactic| walk_at "if") => `(tactic| first
  | with_reducible refine @Go.g_itd _ _ _ _ ?_ ?_
  | with_reducible refine @Go.g_itnd _ _ _ _ ?_ ?_
  | with_reducible refine Go.g_ite ?_ ?_)

section
variable {P : Program} {w : World} {K : PySem.W.Frag} {mg : Str → Option Value} {base : Heap}
abbrev sp_law (K : PySem.W.Frag) : Sp := spL K
theorem law_start {K : PySem.W.Frag} {H : Hp} {a : Addr} {ns : List Int} (hl : ns.length ≤ 63) (hO : Only H) (hS : SqL K H a (ns.map V.int)) : sp_law K [.ref a] H (fun v _ => v = .bl true) fun _ _ _ => False := spL_start hl hO hS
theorem ok_law (T : Txt K mg) : FnG P w K mg base 3 T.a_law T.fd_law ["script"] (sp_law K) := by
  refine Grd.ok_of T.F_law sc_law (fun vs H Q E h => ?_) (fun cdv A outer s H vs Q E gA hr h => ?_)
  · obtain ⟨sc, ns, rfl, _⟩ := h; rfl
  · obtain ⟨sc, ns, rfl, hS, hlen, q⟩ := h
    refine ⟨_, pss_cons (ps_set (i := 1) sc_law.nd rfl (.inr rfl) (pe_lst (pa_cons pe_int (pa_cons pe_int pa_nil))))
      (pss_cons (ps_set (i := 2) sc_law.nd rfl (.inl rfl) (pe_op op_add pe_int (pe_call (ok__law_draw T) (hr.mono (by decide)) (by rfl) T.g__law_draw T.F__law_draw.kp T.b__law_draw .nil pass0 (pa_cons (pv 1) (pa_cons (pv 0) (pa_cons pe_int pa_nil))))))
      (pss_cons (ps_setLc (i := 3) (own := [("_", 4)]) (g := gName 4) (by rfl) sc_law.nd rfl rfl (sw_true rfl rfl rfl (by decide +kernel)) (pi_range1 (by rfl) T.n_range (pa_cons (pv 2) pa_nil)) (blkOk_by (own := [("_", 4)]) (N := ["script", "state", "size", "cents", "_", "first", "hidden", "k", "totals", "members", "y", "z", "scale", "amounts", "x", "turn", "other", "due", "told", "row"]) (sc := defScope s_law) (by decide +kernel)) (fun _ _ _ _ _ => pg_name (i := 4) sc_law.nd rfl (Or.inl rfl)) (fun _ _ _ _ _ => pts_nil) (fun _ _ _ _ _ => (pe_op op_add pe_int (pe_call (ok__law_draw T) (hr.mono (by decide)) (by rfl) T.g__law_draw T.F__law_draw.kp T.b__law_draw .nil pass0 (pa_cons (pv 1) (pa_cons (pv 0) (pa_cons pe_int pa_nil)))))))
      (pss_cons (ps_set (i := 5) sc_law.nd rfl (.inr rfl) (pe_call (ok__law_draw T) (hr.mono (by decide)) (by rfl) T.g__law_draw T.F__law_draw.kp T.b__law_draw .nil pass0 (pa_cons (pv 1) (pa_cons (pv 0) (pa_cons (pv 2) pa_nil)))))
      (pss_cons (ps_set (i := 6) sc_law.nd rfl (.inr rfl) (pe_lc (own := [("k", 7)]) (g := gName 7) (by rfl) sc_law.nd (pi_range1 (by rfl) T.n_range (pa_cons (pv 2) pa_nil)) (blkOk_by (own := [("k", 7)]) (N := ["script", "state", "size", "cents", "_", "first", "hidden", "k", "totals", "members", "y", "z", "scale", "amounts", "x", "turn", "other", "due", "told", "row"]) (sc := defScope s_law) (by decide +kernel)) (fun _ _ _ _ _ => pg_name (i := 7) sc_law.nd rfl (Or.inl rfl)) (fun _ _ _ _ _ => pts_one (PW.pt (pw_or (pt_cmpR op_eq (pv 7) (pv 5) (nomark _)) (pw_or1 (pt_cmpR op_gt (pe_call (ok__law_draw T) (hr.mono (by decide)) (by rfl) T.g__law_draw T.F__law_draw.kp T.b__law_draw .nil pass0 (pa_cons (pv 1) (pa_cons (pv 0) (pa_cons pe_int pa_nil)))) pe_int (nomark _)))))) (fun _ _ _ _ _ => (pv 7))))
      (pss_cons (ps_set (i := 8) sc_law.nd rfl (.inl rfl) (pe_lst pa_nil))
      (pss_cons (ps_for PassesOwn.never rfl (pi_range1 (by rfl) T.n_range (pa_cons (pe_call (ok__law_draw T) (hr.mono (by decide)) (by rfl) T.g__law_draw T.F__law_draw.kp T.b__law_draw .nil pass0 (pa_cons (pv 1) (pa_cons (pv 0) (pa_cons pe_int pa_nil)))) pa_nil)) (pg_name (i := 4) sc_law.nd rfl (.inl rfl))
        (pss_cons (ps_setLc (i := 9) (own := [("k", 7)]) (g := gName 7) (by rfl) sc_law.nd rfl rfl (sw_true rfl rfl rfl (by decide +kernel)) (pi_range1 (by rfl) T.n_range (pa_cons (pv 2) pa_nil)) (blkOk_by (own := [("k", 7)]) (N := ["script", "state", "size", "cents", "_", "first", "hidden", "k", "totals", "members", "y", "z", "scale", "amounts", "x", "turn", "other", "due", "told", "row"]) (sc := defScope s_law) (by decide +kernel)) (fun _ _ _ _ _ => pg_name (i := 7) sc_law.nd rfl (Or.inl rfl)) (fun _ _ _ _ _ => pts_one (pt_cmpR op_eq (pe_call (ok__law_draw T) (hr.mono (by decide)) (by rfl) T.g__law_draw T.F__law_draw.kp T.b__law_draw .nil pass0 (pa_cons (pv 1) (pa_cons (pv 0) (pa_cons pe_int pa_nil)))) pe_int (nomark _))) (fun _ _ _ _ _ => (pv 7)))
        (pss_cons (ps_expr (pe_bm PySem.F.plainAttrs_list PySem.F.slot_list_append PySem.F.type_list_append mt_append (pv 8) (pa_cons (pe_callB cr_sortedI (by rfl) T.n_sorted (by decide +kernel) (pa_cons (pe_op op_cat (pv 6) (pe_lc (own := [("k", 7)]) (g := gName 7) (by rfl) sc_law.nd (pi_list (pv 9)) (blkOk_by (own := [("k", 7)]) (N := ["script", "state", "size", "cents", "_", "first", "hidden", "k", "totals", "members", "y", "z", "scale", "amounts", "x", "turn", "other", "due", "told", "row"]) (sc := defScope s_law) (by decide +kernel)) (fun _ _ _ _ _ => pg_name (i := 7) sc_law.nd rfl (Or.inl rfl)) (fun _ _ _ _ _ => pts_one (pt_cmpR (r := rIn K true) op_notIn_seq (pv 7) (pv 6) rfl)) (fun _ _ _ _ _ => (pv 7)))) pa_nil)) pa_nil)))
        (pss_one (ps_if (pt_cutT (PW.pt (pw_and (pt_cmpR op_eq (pe_call (ok__law_draw T) (hr.mono (by decide)) (by rfl) T.g__law_draw T.F__law_draw.kp T.b__law_draw .nil pass0 (pa_cons (pv 1) (pa_cons (pv 0) (pa_cons pe_int pa_nil)))) pe_int (nomark _)) (pw_and1 (pt_cmpR op_gt (pe_callB call_lenS (by rfl) T.n_len PySem.boot_len (pa_cons (pv 9) pa_nil)) pe_int (nomark _))))))
          (pss_one (ps_asg (pv 9) (pg_sub (pv 8) (pe_un un_neg pe_int) set_list)))
          (pss_nil))))))
      (pss_cons (ps_for PassesOwn.never rfl (pi_range1 (by rfl) T.n_range (pa_cons pe_int pa_nil)) (pg_name (i := 4) sc_law.nd rfl (.inl rfl))
        (pss_cons (ps_set (i := 10) sc_law.nd rfl (.inr rfl) (pe_call (ok__law_pick T) hr (by rfl) T.g__law_pick T.F__law_pick.kp T.b__law_pick .nil pass0 (pa_cons (pv 1) (pa_cons (pv 0) (pa_cons (pv 6) pa_nil)))))
        (pss_cons (ps_set (i := 11) sc_law.nd rfl (.inl rfl) (pe_call (ok__law_pick T) hr (by rfl) T.g__law_pick T.F__law_pick.kp T.b__law_pick .nil pass0 (pa_cons (pv 1) (pa_cons (pv 0) (pa_cons (pe_op op_cat (pe_lst (pa_cons pe_non pa_nil)) (pe_lc (own := [("k", 7)]) (g := gName 7) (by rfl) sc_law.nd (pi_list (pv 6)) (blkOk_by (own := [("k", 7)]) (N := ["script", "state", "size", "cents", "_", "first", "hidden", "k", "totals", "members", "y", "z", "scale", "amounts", "x", "turn", "other", "due", "told", "row"]) (sc := defScope s_law) (by decide +kernel)) (fun _ _ _ _ _ => pg_name (i := 7) sc_law.nd rfl (Or.inl rfl)) (fun _ _ _ _ _ => pts_one (pt_cmpR op_ne (pv 7) (pv 10) (nomark _))) (fun _ _ _ _ _ => (pv 7)))) pa_nil)))))
        (pss_cons (ps_set (i := 12) sc_law.nd rfl (.inr rfl) (pe_op op_add pe_int (pe_call (ok__law_draw T) (hr.mono (by decide)) (by rfl) T.g__law_draw T.F__law_draw.kp T.b__law_draw .nil pass0 (pa_cons (pv 1) (pa_cons (pv 0) (pa_cons pe_int pa_nil))))))
        (pss_cons (ps_setLc (i := 13) (own := [("x", 14)]) (g := gName 14) (by rfl) sc_law.nd rfl rfl (sw_true rfl rfl rfl (by decide +kernel)) (pi_list (pv 3)) (blkOk_by (own := [("x", 14)]) (N := ["script", "state", "size", "cents", "_", "first", "hidden", "k", "totals", "members", "y", "z", "scale", "amounts", "x", "turn", "other", "due", "told", "row"]) (sc := defScope s_law) (by decide +kernel)) (fun _ _ _ _ _ => pg_name (i := 14) sc_law.nd rfl (Or.inl rfl)) (fun _ _ _ _ _ => pts_nil) (fun _ _ _ _ _ => (pe_op op_mul (pv 12) (pv 14))))
        (pss_cons (ps_set (i := 15) sc_law.nd rfl (.inl rfl) (pe_op op_sub (pe_call (ok__law_draw T) (hr.mono (by decide)) (by rfl) T.g__law_draw T.F__law_draw.kp T.b__law_draw .nil pass0 (pa_cons (pv 1) (pa_cons (pv 0) (pa_cons pe_int pa_nil)))) pe_int))
        (pss_cons (ps_set (i := 16) sc_law.nd rfl (.inl rfl) (pe_call (ok__law_pick T) hr (by rfl) T.g__law_pick T.F__law_pick.kp T.b__law_pick .nil pass0 (pa_cons (pv 1) (pa_cons (pv 0) (pa_cons (pv 6) pa_nil)))))
        (pss_cons (ps_asg (pe_op op_add (pe_ix ix_list (pv 13) (pv 10) (fun _ _ => rfl)) (pv 15)) (pg_sub (pv 13) (pv 10) set_list))
        (pss_cons (ps_asg (pe_op op_sub (pe_ix ix_list (pv 13) (pv 16) (fun _ _ => rfl)) (pv 15)) (pg_sub (pv 13) (pv 16) set_list))
        (pss_cons (ps_for PassesOwn.never rfl (pi_range1 (by rfl) T.n_range (pa_cons (pe_call (ok__law_draw T) (hr.mono (by decide)) (by rfl) T.g__law_draw T.F__law_draw.kp T.b__law_draw .nil pass0 (pa_cons (pv 1) (pa_cons (pv 0) (pa_cons pe_int pa_nil)))) pa_nil)) (pg_name (i := 4) sc_law.nd rfl (.inl rfl))
          (pss_one (ps_set (i := 12) sc_law.nd rfl (.inr rfl) (pe_call (ok__law_spoilt T) hr (by rfl) T.g__law_spoilt T.F__law_spoilt.kp T.b__law_spoilt .nil pass0 (pa_cons (pv 1) (pa_cons (pv 0) (pa_cons (pv 12) (pa_cons (pv 13) pa_nil))))))))
        (pss_cons (ps_set (i := 17) sc_law.nd rfl (.inl rfl) (pe_call (ok__law_fault T) (hr.mono (by decide)) (by rfl) T.g__law_fault T.F__law_fault.kp T.b__law_fault .nil pass0 (pa_cons (pv 3) (pa_cons (pv 6) (pa_cons (pv 8) (pa_cons (pv 10) (pa_cons (pv 11) (pa_cons (pv 12) (pa_cons (pv 13) pa_nil)))))))))
        (pss_cons (ps_set (i := 18) sc_law.nd rfl (.inl rfl) (pe_call (ok_world_fault T) (hr.mono (by decide)) (by rfl) T.g_world_fault T.F_world_fault.kp T.b_world_fault .nil pass0 (pa_cons (pe_callTy call_listS (by rfl) T.n_list (by decide +kernel) (pa_cons (pv 3) pa_nil)) (pa_cons (pe_callTy call_listS (by rfl) T.n_list (by decide +kernel) (pa_cons (pv 6) pa_nil)) (pa_cons (pe_lc (own := [("row", 19)]) (g := gName 19) (by rfl) sc_law.nd (pi_list (pv 8)) (blkOk_by (own := [("row", 19)]) (N := ["script", "state", "size", "cents", "_", "first", "hidden", "k", "totals", "members", "y", "z", "scale", "amounts", "x", "turn", "other", "due", "told", "row"]) (sc := defScope s_law) (by decide +kernel)) (fun _ _ _ _ _ => pg_name (i := 19) sc_law.nd rfl (Or.inl rfl)) (fun _ _ _ _ _ => pts_nil) (fun _ _ _ _ _ => (pe_callTy (r := rListOf K) call_listS (by rfl) T.n_list (by decide +kernel) (pa_cons (pv 19) pa_nil)))) (pa_cons (pv 10) (pa_cons (pv 11) (pa_cons (pe_tup (pa_cons (pv 12) (pa_cons (pe_callTy call_listS (by rfl) T.n_list (by decide +kernel) (pa_cons (pv 13) pa_nil)) pa_nil))) pa_nil))))))))
        (pss_one (ps_if (pt_cmpR op_ne (pe_callB (call_reprQ gA hr.units) (by rfl) T.n_repr (by decide +kernel) (pa_cons (pv 18) pa_nil)) (pe_callB (call_reprQ gA hr.units) (by rfl) T.n_repr (by decide +kernel) (pa_cons (pv 17) pa_nil)) (nomark _))
          (pss_one (ps_ret pe_bl))
          (pss_nil)))))))))))))))
      (pss_one (ps_ret pe_bl))))))))), ?_⟩
    walk_at "g"
    intro st nst
    have S0 := St.start hlen hS nst
    clear hS
    walk_at "g"
    refine ⟨st, sc, ns, _, rfl, S0, by decide, by decide, fun H1 d1 _ S1 d10 d11 => ?_⟩
    obtain ⟨size, esz⟩ : ∃ size : Int, size = 2 + d1 := ⟨_, rfl⟩
    have sz0 : 2 ≤ size := by omega
    have sz1 : size ≤ 8 := by omega
    walk_at "g"
    rw [← esz]
    intro c nc
    have cst : c ≠ st := S1.ne nc
    refine lcW_range (fun i H' => St K H' st sc ns ∧ ∃ cs : List Int, H' c = some (.lst (cs.map V.int)) ∧ cs.length = i) ⟨S1.new nc, [], upd_same, rfl⟩ ?_ ?_
    · rintro i H2 hi ⟨S2, cs, ec, lc⟩
      walk_at "g"
      refine ⟨st, sc, ns, _, rfl, S2, by decide, by decide, fun H3 d3 k3 S3 d30 d31 => ?_⟩
      have ec3 := k3 _ _ cst ec
      walk_at "g"
      refine ⟨_, ec3, by rw [List.length_map]; exact small1000 (by omega), S3.setL ec3 cst, cs ++ [1 + d3], by rw [upd_same, List.map_append]; rfl, by simp [lc]⟩
    rintro H2 ⟨S2, cents, ec, lc⟩
    have lc : (cents.length : Int) = size := by omega
    walk_at "g"
    refine ⟨st, sc, ns, _, rfl, S2, by omega, by omega, fun H3 first k3 S3 f0 f1 => ?_⟩
    have ec := k3 _ _ cst ec
    clear k3
    walk_at "g"
    intro h nh
    have hst : h ≠ st := S3.ne nh
    have hc : h ≠ c := (ne_of_none ec nh).symm
    refine lcW_range (fun i H' => St K H' st sc ns ∧ H' c = some (.lst (cents.map V.int)) ∧ ∃ hs : List Int, H' h = some (.lst (hs.map V.int)) ∧ (∀ k ∈ hs, 0 ≤ k ∧ k < i) ∧ hs.length ≤ i ∧ (first < i → hs ≠ []))
      ⟨S3.new nh, at_upd hc.symm ec, [], upd_same, (fun k h => nomatch h), Nat.le_refl _, fun z => by omega⟩ ?_ ?_
    · rintro i H4 hi ⟨S4, ec4, hs, eh, bh, lh, fh⟩
      have app : ∀ H5, St K H5 st sc ns → H5 c = some (.lst (cents.map V.int)) → H5 h = some (.lst (hs.map V.int)) → ∃ acc, H5 h = some (.lst acc) ∧ acc.length < sizeLine ∧
          (St K (upd H5 h (.lst (acc ++ [.int (0 + (i : Nat))]))) st sc ns ∧ (upd H5 h (.lst (acc ++ [.int (0 + (i : Nat))]))) c = some (.lst (cents.map V.int)) ∧
            ∃ hs : List Int, (upd H5 h (.lst (acc ++ [.int (0 + (i : Nat))]))) h = some (.lst (hs.map V.int)) ∧ (∀ k ∈ hs, 0 ≤ k ∧ k < ((i + 1 : Nat) : Int)) ∧ hs.length ≤ i + 1 ∧ (first < ((i + 1 : Nat) : Int) → hs ≠ [])) := by
        intro H5 S5 ec5 eh5
        refine ⟨_, eh5, by rw [List.length_map]; exact small1000 (by omega), S5.setL eh5 hst, at_upd hc.symm ec5, hs ++ [0 + ((i : Nat) : Int)], by rw [upd_same, List.map_append]; rfl, fun k hk => ?_, by simp; omega, fun _ => by simp⟩
        rcases List.mem_append.mp hk with z | z
        · have := bh k z; omega
        · rw [List.mem_singleton.mp z]; omega
      walk_at "g"
      walk_at "if" <;> intro e
      · walk_at "g"
        exact app H4 S4 ec4 eh
      · walk_at "g"
        refine ⟨st, sc, ns, _, rfl, S4, by decide, by decide, fun H5 d5 k5 S5 d50 d51 => ?_⟩
        have ec5 := k5 _ _ cst ec4
        have eh5 := k5 _ _ hst eh
        walk_at "g"
        walk_at "if" <;> intro e2
        · walk_at "g"
          exact app H5 S5 ec5 eh5
        · refine ⟨S5, ec5, hs, eh5, fun k hk => by have := bh k hk; omega, by omega, fun hf => ?_⟩
          have : first ≠ i := fun z => e (by rw [z, Int.zero_add])
          exact fh (by omega)
    rintro H4 ⟨S4, ec, hidden, eh, bh, lh, fh⟩
    have bh : ∀ k ∈ hidden, 0 ≤ k ∧ k < size := fun k hk => by have := bh k hk; omega
    have h0 : hidden ≠ [] := fh (by omega)
    have lh : hidden.length ≤ 8 := by omega
    clear fh
    walk_at "g"
    intro t nt
    have W0 : Wo K (upd H4 t (.lst [])) st sc ns c h t [] size cents hidden [] :=
      ⟨S4.new nt, at_upd (ne_of_none ec nt) ec, at_upd (ne_of_none eh nt) eh, upd_same, rfl, (fun i h1 _ => nomatch h1), cst, hst, S4.ne nt, ne_of_none ec nt, ne_of_none eh nt, (fun r hr => nomatch hr), lc, ⟨sz0, sz1⟩, bh, h0, lh, (fun r hr => nomatch hr)⟩
    clear S4 eh ec cst hst hc nt nh
    walk_at "g"
    refine ⟨st, sc, ns, _, rfl, W0.S, by decide, by decide, fun H5 d5 k5 S5 d50 d51 => ?_⟩
    have W5 := W0.kp k5 S5
    clear W0 k5 S5
    walk_at "g"
    refine forW_range (fun i σ' H' => (∃ y4 y5 y7 y9 y10 y11 y12 y13 y14 y15 y16 y17 y18 y19, σ' = [some (.ref sc), some (.ref st), some (.int size), some (.ref c), y4, y5, some (.ref h), y7, some (.ref t), y9, y10, y11, y12, y13, y14, y15, y16, y17, y18, y19]) ∧
        ∃ rs totals, Wo K H' st sc ns c h t rs size cents hidden totals ∧ totals.length = i)
      ⟨⟨_, _, _, _, _, _, _, _, _, _, _, _, _, _, by rw [esz]; rfl⟩, _, _, W5, rfl⟩ ?_ ?_
    · rintro i σ' H6 hi ⟨⟨y4, y5, y7, y9, y10, y11, y12, y13, y14, y15, y16, y17, y18, y19, rfl⟩, rs, totals, W6, lt⟩
      walk_at "g"
      intro m nm
      obtain ⟨ms1, ms2, ms3, ms4, ms5⟩ := W6.apart nm
      refine lcW_range (fun i H' => Wo K H' st sc ns c h t rs size cents hidden totals ∧ ∃ xs : List Int, H' m = some (.lst (xs.map V.int)) ∧ (∀ k ∈ xs, 0 ≤ k ∧ k < i) ∧ xs.length ≤ i)
        ⟨W6.new nm, [], upd_same, (fun k h => nomatch h), Nat.le_refl _⟩ ?_ ?_
      · rintro j H7 hj ⟨W7, xs, eX, bX, lX⟩
        walk_at "g"
        refine ⟨st, sc, ns, _, rfl, W7.S, by decide, by decide, fun H8 d8 k8 S8 d80 d81 => ?_⟩
        have eX8 := k8 _ _ ms1 eX
        have W8 := W7.kp k8 S8
        walk_at "g"
        walk_at "if" <;> intro e
        · walk_at "g"
          refine ⟨_, eX8, by rw [List.length_map]; exact small1000 (by omega), W8.set eX8 ms1 ⟨ms2, ms3, ms4, ms5⟩, xs ++ [0 + ((j : Nat) : Int)], by rw [upd_same, List.map_append]; rfl, fun k hk => ?_, by simp; omega⟩
          rcases List.mem_append.mp hk with z | z
          · have := bX k z; omega
          · rw [List.mem_singleton.mp z]; omega
        · exact ⟨W8, xs, eX8, fun k hk => by have := bX k hk; omega, by omega⟩
      rintro H7 ⟨W7, members, eX, bX, lX⟩
      have bX : ∀ k ∈ members, 0 ≤ k ∧ k < size := fun k hk => by have := bX k hk; omega
      have eH7 := W7.eh
      have eT7 := W7.et
      walk_at "g"
      refine ⟨.inl ⟨rfl, _, by walk_at "sq"⟩, ?_⟩
      walk_at "g"
      intro D nD
      obtain ⟨D1, D2, D3, D4, D5⟩ := W7.apart nD
      have Dm : D ≠ m := (ne_of_none eX nD).symm
      refine lcW_list (members.map V.int) (fun i H' => Same H7 H' ∧ ∃ xs : List Int, H' D = some (.lst (xs.map V.int)) ∧ (∀ k ∈ xs, 0 ≤ k ∧ k < size) ∧ xs.length ≤ i)
        ⟨Go.Same.new (Same.refl _) nD, [], upd_same, (fun k h => nomatch h), Nat.le_refl _⟩ (fun i H' _ h => sqL_same h.1 (SqL.of eX)) ?_ ?_
      · rintro j x H8 hx ⟨s8, xs, e8, b8, l8⟩
        rw [List.getElem?_map] at hx
        obtain ⟨k, hk, rfl⟩ := Option.map_eq_some_iff.mp hx
        have hkm : k ∈ members := List.mem_of_getElem? hk
        have hjm := (List.getElem?_eq_some_iff.mp hk).1
        walk_at "g"
        refine ⟨_, _, rfl, .inl (SqL.of (s8 _ _ eH7)), rfl, ints_flat _, ?_⟩
        walk_at "g"
        walk_at "if" <;> intro e
        · walk_at "g"
          refine ⟨_, e8, by rw [List.length_map]; exact small1000 (by omega), Go.Same.mut s8 nD, xs ++ [k], by rw [upd_same, List.map_append]; rfl, fun k' hk' => ?_, by simp; omega⟩
          rcases List.mem_append.mp hk' with z | z
          · exact b8 k' z
          · rw [List.mem_singleton.mp z]; exact bX k hkm
        · exact ⟨s8, xs, e8, b8, by omega⟩
      rintro H8 ⟨s8, xs, e8, b8, l8⟩
      rw [List.length_map] at l8
      have W8 := W7.same s8
      have eH8 := W8.eh
      walk_at "g"
      refine ⟨h, D, _, _, rfl, rfl, eH8, e8, ?_, fun p np => ?_⟩
      · rw [List.length_map, List.length_map]; have := W8.hl; exact sz (by omega)
      walk_at "g"
      refine ⟨p, hidden ++ xs, rfl, SqL.of (by rw [upd_same, List.map_append]), fun ns' p2 hp _ np2 => ?_⟩
      have W9 := (W8.new (o := .lst (hidden.map V.int ++ xs.map V.int)) np).new (o := .lst (ns'.map V.int)) np2
      have s9 : Same H7 (upd (upd H8 p (.lst (hidden.map V.int ++ xs.map V.int))) p2 (.lst (ns'.map V.int))) := s8.trans (Go.Same.new (Go.Same.new (Same.refl _) np) np2)
      have eX9 := s9 _ _ eX
      have eP9 : (upd (upd H8 p (.lst (hidden.map V.int ++ xs.map V.int))) p2 (.lst (ns'.map V.int))) p2 = some (.lst (ns'.map V.int)) := upd_same
      have ap2 : p2 ≠ st ∧ p2 ≠ t := by
        have a1 := (W8.new (o := .lst (hidden.map V.int ++ xs.map V.int)) np).apart np2
        exact ⟨a1.1, a1.2.2.2.1⟩
      have hrow : (∀ k ∈ ns', 0 ≤ k ∧ k < size) ∧ ns'.length ≤ 20 := by
        refine ⟨fun k hk => ?_, ?_⟩
        · rcases List.mem_append.mp (hp.mem_iff.mp hk) with z | z
          · exact bh k z
          · exact b8 k z
        · rw [hp.length_eq, List.length_append]; omega
      have tl : rs.length ≤ 4 := by rw [W9.len, lt]; omega
      generalize (upd (upd H8 p (.lst (hidden.map V.int ++ xs.map V.int))) p2 (.lst (ns'.map V.int))) = H9 at *
      have W10 := W9.app eP9 ap2 hrow
      have eX10 : (upd H9 t (.lst ((rs ++ [p2]).map V.ref))) m = some (.lst (members.map V.int)) := at_upd ms4 eX9
      clear W8 s8 W7 W6 eT7 eH7 eH8 e8
      walk_at "g"
      refine ⟨_, _, _, rfl, rfl, W9.et, by rw [List.length_map]; exact small1000 (by omega), ?_⟩
      rw [show rs.map V.ref ++ [V.ref p2] = (rs ++ [p2]).map V.ref by rw [List.map_append]; rfl]
      walk_at "g"
      refine ⟨fun b H' => Wo K H' st sc ns c h t (rs ++ [p2]) size cents hidden (totals ++ [ns']) ∧ H' m = some (.lst (members.map V.int)), ?_, ?_⟩
      · walk_at "g"
        refine ⟨st, sc, ns, _, rfl, W10.S, by decide, by decide, fun H11 d11 k11 S11 _ _ => ?_⟩
        have W11 := W10.kp k11 S11
        have eX11 := k11 _ _ ms1 eX10
        walk_at "g"
        walk_at "if" <;> intro e
        · walk_at "g"
          exact ⟨W11, eX11⟩
        · exact ⟨W11, eX11⟩
      rintro b H11 ⟨W11, eX11⟩
      have eT11 := W11.et
      walk_at "if" <;> intro e
      · walk_at "g"
        refine g_setL eT11 (j := rs.length) ?_ ?_
        · rw [List.length_map, List.length_append, List.length_singleton]
          unfold ixN
          rw [if_neg (by omega), if_pos (by omega)]
          congr 1
          omega
        have W12 := W11.last eX11 ⟨ms1, ms4⟩ ⟨bX, by omega⟩ rs.length
        rw [List.map_set] at W12
        exact ⟨⟨_, _, _, _, _, _, _, _, _, _, _, _, _, _, rfl⟩, _, _, W12, by rw [List.length_set, List.length_append, lt]; rfl⟩
      · walk_at "g"
        exact ⟨⟨_, _, _, _, _, _, _, _, _, _, _, _, _, _, rfl⟩, _, _, W11, by rw [List.length_append, lt]; rfl⟩
    rintro σ' H6 ⟨⟨y4, y5, y7, y9, y10, y11, y12, y13, y14, y15, y16, y17, y18, y19, rfl⟩, rs, totals, W6, lt⟩
    have lt : totals.length ≤ 100 := by omega
    clear W5
    walk_at "g"
    refine forW_range (fun i σ' H' => (∃ y4 y5 y7 y9 y10 y11 y12 y13 y14 y15 y16 y17 y18 y19, σ' = [some (.ref sc), some (.ref st), some (.int size), some (.ref c), y4, y5, some (.ref h), y7, some (.ref t), y9, y10, y11, y12, y13, y14, y15, y16, y17, y18, y19]) ∧
        Wo K H' st sc ns c h t rs size cents hidden totals)
      ⟨⟨_, _, _, _, _, _, _, _, _, _, _, _, _, _, rfl⟩, W6⟩ ?_ ?_
    · rintro i σ' H7 hi ⟨⟨y4, y5, y7, y9, y10, y11, y12, y13, y14, y15, y16, y17, y18, y19, rfl⟩, W7⟩
      have lh1 : 1 ≤ (hidden.map V.int).length := by
        rw [List.length_map]
        cases hidden with
        | nil => exact absurd rfl h0
        | cons _ _ => simp
      have lh2 : (hidden.map V.int).length ≤ 1000 := by rw [List.length_map]; omega
      walk_at "g"
      refine ⟨st, sc, h, ns, _, rfl, W7.S, W7.nhs, W7.eh, lh1, lh2, fun H8 x k8 S8 hx => ?_⟩
      obtain ⟨y, hy, rfl⟩ := List.mem_map.mp hx
      obtain ⟨yb0, yb1⟩ := bh y hy
      have W8 := W7.kp k8 S8
      clear W7 k8 S8 hx
      walk_at "g"
      intro p0 np0
      have W9 := W8.new (o := .lst [.non]) np0
      have e9 : (upd H8 p0 (.lst [.non])) p0 = some (.lst [.non]) := upd_same
      generalize (upd H8 p0 (.lst [.non])) = H9 at *
      clear W8 np0
      have eH9 := W9.eh
      walk_at "g"
      intro D nD
      refine lcW_list (hidden.map V.int) (fun i H' => Same H9 H' ∧ ∃ xs : List Int, H' D = some (.lst (xs.map V.int)) ∧ xs.length ≤ i)
        ⟨Go.Same.new (Same.refl _) nD, [], upd_same, Nat.le_refl _⟩ (fun i H' _ h => SqL.of (h.1 _ _ eH9)) ?_ ?_
      · rintro j x H10 hx ⟨s10, xs, e10, l10⟩
        rw [List.getElem?_map] at hx
        obtain ⟨k, hk, rfl⟩ := Option.map_eq_some_iff.mp hx
        have hjm := (List.getElem?_eq_some_iff.mp hk).1
        walk_at "g"
        walk_at "if" <;> intro e
        · walk_at "g"
          exact ⟨_, e10, by rw [List.length_map]; exact small1000 (by omega), Go.Same.mut s10 nD, xs ++ [k], by rw [upd_same, List.map_append]; rfl, by simp; omega⟩
        · exact ⟨s10, xs, e10, by omega⟩
      rintro H10 ⟨s10, xs, e10, l10⟩
      rw [List.length_map] at l10
      have W10 := W9.same s10
      have e9' := s10 _ _ e9
      clear W9 s10 e9 eH9 nD
      walk_at "g"
      refine ⟨p0, D, _, _, rfl, rfl, e9', e10, by rw [List.length_map, List.length_singleton]; exact sz (by omega), fun p1 np1 => ?_⟩
      have W11 := W10.new (o := .lst ([V.non] ++ xs.map V.int)) np1
      have ap1 := W10.apart np1
      walk_at "g"
      refine ⟨st, sc, p1, ns, _, rfl, W11.S, ap1.1, upd_same, by simp, by rw [List.length_append, List.length_map, List.length_singleton]; omega, fun H12 x k12 S12 hx => ?_⟩
      obtain ⟨z, rfl⟩ : ∃ z : Option Int, x = zV z := by
        rcases List.mem_append.mp hx with q | q
        · exact ⟨none, List.mem_singleton.mp q⟩
        · obtain ⟨zi, _, e⟩ := List.mem_map.mp q
          exact ⟨some zi, e.symm⟩
      have W12 := W11.kp k12 S12
      clear W11 k12 S12 hx W10 e9' e10 np1 ap1
      walk_at "g"
      refine ⟨st, sc, ns, _, rfl, W12.S, by decide, by decide, fun H13 ds k13 S13 s0 s1 => ?_⟩
      have W13 := W12.kp k13 S13
      clear W12 k13 S13
      have eC13 := W13.ec
      walk_at "g"
      intro m nm
      obtain ⟨ms1, ms2, ms3, ms4, ms5⟩ := W13.apart nm
      have mm : m ≠ st ∧ (m ≠ c ∧ m ≠ h ∧ m ≠ t ∧ m ∉ rs) := ⟨ms1, ms2, ms3, ms4, ms5⟩
      refine lcW_pure (cents.map V.int) (fun j => .int ((1 + ds) * cents.getD j 0)) nm (SqL.of eC13) (by rw [List.length_map]; omega) ?_ ?_
      · intro j x H14 R Z hx s14 hR
        rw [List.getElem?_map] at hx
        obtain ⟨k, hk, rfl⟩ := Option.map_eq_some_iff.mp hx
        rw [List.getD_eq_getElem?_getD, hk] at hR
        walk_at "g"
        exact hR
      intro H14 s14 e14
      have W14 := W13.same s14
      obtain ⟨am, eam, lam⟩ : ∃ am : List Int, H14 m = some (.lst (am.map V.int)) ∧ am.length = cents.length :=
        ⟨(List.range (cents.map V.int).length).map fun j => (1 + ds) * cents.getD j 0, by rw [e14, List.map_map]; rfl, by simp⟩
      clear e14 s14 W13 eC13 nm
      walk_at "g"
      refine ⟨st, sc, ns, _, rfl, W14.S, by decide, by decide, fun H15 dt k15 S15 _ _ => ?_⟩
      have W15 := W14.kp k15 S15
      have eam := k15 _ _ ms1 eam
      clear W14 k15 S15
      walk_at "g"
      refine ⟨st, sc, h, ns, _, rfl, W15.S, W15.nhs, W15.eh, lh1, lh2, fun H16 x k16 S16 hx => ?_⟩
      obtain ⟨o, ho, rfl⟩ := List.mem_map.mp hx
      obtain ⟨ob0, ob1⟩ := bh o ho
      have W16 := W15.kp k16 S16
      have eam := k16 _ _ ms1 eam
      clear W15 k16 S16 hx
      walk_at "g"
      refine g_ixL (by walk_at "sq") (atI_map yb0 (by omega)) ?_
      walk_at "g"
      refine g_setL eam (ixN_some yb0 (by rw [List.length_map]; omega)) ?_
      rw [set_map]
      have W17 := W16.set (o := .lst ((am.set y.toNat (am[y.toNat]'(by omega) + (dt - 1))).map V.int)) eam ms1 mm.2
      obtain ⟨am1, e1, lam1, ea⟩ : ∃ am1 : List Int, am1 = am.set y.toNat (am[y.toNat]'(by omega) + (dt - 1)) ∧ am1.length = cents.length ∧ True := ⟨_, rfl, by rw [List.length_set, lam], trivial⟩
      rw [← e1] at W17 ⊢
      have eam1 : (upd H16 m (.lst (am1.map V.int))) m = some (.lst (am1.map V.int)) := upd_same
      generalize (upd H16 m (.lst (am1.map V.int))) = H17 at *
      clear W16 eam e1 lam ea
      walk_at "g"
      refine g_ixL (by walk_at "sq") (atI_map ob0 (by omega)) ?_
      walk_at "g"
      refine g_setL eam1 (ixN_some ob0 (by rw [List.length_map]; omega)) ?_
      rw [set_map]
      have W18 := W17.set (o := .lst ((am1.set o.toNat (am1[o.toNat]'(by omega) - (dt - 1))).map V.int)) eam1 ms1 mm.2
      obtain ⟨am2, e2, lam2⟩ : ∃ am2 : List Int, am2 = am1.set o.toNat (am1[o.toNat]'(by omega) - (dt - 1)) ∧ am2.length = cents.length := ⟨_, rfl, by rw [List.length_set, lam1]⟩
      rw [← e2] at W18 ⊢
      have eam2 : (upd H17 m (.lst (am2.map V.int))) m = some (.lst (am2.map V.int)) := upd_same
      generalize (upd H17 m (.lst (am2.map V.int))) = H18 at *
      clear W17 eam1 e2 lam1
      walk_at "g"
      refine ⟨st, sc, ns, _, rfl, W18.S, by decide, by decide, fun H19 d19 k19 S19 n0 n1 => ?_⟩
      have W19 := W18.kp k19 S19
      have eam2 := k19 _ _ ms1 eam2
      clear W18 k19 S19
      walk_at "g"
      refine forW_range (fun i σ' H' => ∃ (s : Int) (am : List Int), (∃ y4 y5 y7 y9 y14 y15 y16 y17 y18 y19, σ' = [some (.ref sc), some (.ref st), some (.int size), some (.ref c), y4, y5, some (.ref h), y7, some (.ref t), y9, some (.int y), some (zV z), some (.int s), some (.ref m), y14, y15, y16, y17, y18, y19]) ∧
          Wo K H' st sc ns c h t rs size cents hidden totals ∧ H' m = some (.lst (am.map V.int)) ∧ am.length ≤ cents.length + i ∧ 1 - (i : Int) ≤ s ∧ s ≤ 5)
        ⟨1 + ds, am2, ⟨_, _, _, _, _, _, _, _, _, _, rfl⟩, W19, eam2, by omega, by omega, by omega⟩ ?_ ?_
      · rintro j σ' H20 hj ⟨s, am, ⟨y4, y5, y7, y9, y14, y15, y16, y17, y18, y19, rfl⟩, W20, e20, l20, s20, s21⟩
        walk_at "g"
        refine ⟨st, sc, m, ns, s, am, rfl, W20.S, ms1, e20, by omega, fun H21 s' am' k21 S21 e21 l21 a1 a2 => ?_⟩
        have W21 : Wo K H21 st sc ns c h t rs size cents hidden totals := W20.to S21 fun b u hb e => by
          refine k21 b u ?_ ?_ e
          · rcases hb with rfl | rfl | rfl | hb
            · exact W20.ncs
            · exact W20.nhs
            · exact W20.nts
            · exact (W20.nr b hb).1
          · rcases hb with rfl | rfl | rfl | hb
            · exact ms2.symm
            · exact ms3.symm
            · exact ms4.symm
            · exact fun z => ms5 (z ▸ hb)
        walk_at "g"
        exact ⟨s', am', ⟨_, _, _, _, _, _, _, _, _, _, rfl⟩, W21, e21, by omega, by omega, by omega⟩
      rintro σ' H20 ⟨s, am, ⟨y4, y5, y7, y9, y14, y15, y16, y17, y18, y19, rfl⟩, W20, e20, l20, s20, s21⟩
      clear W19 eam2
      have fine := fault_fine (cents := cents) (hidden := hidden) (totals := totals) (y := y) (z := z) (scale := s) (amounts := am) (by omega) lt
      walk_at "g"
      refine ⟨c, h, t, m, rs, cents, hidden, am, totals, y, z, s, rfl, W20.inn (SqL.of e20) lt, yb0, by omega, by omega, by omega, fun H21 v1 s21' dq1 => ?_⟩
      have W21 := W20.same s21'
      have e21 := s21' _ _ e20
      clear W20 e20
      have eC := W21.ec
      have eH := W21.eh
      have eT := W21.et
      walk_at "g"
      intro c2 nc2
      have s22 : Same H21 (upd H21 c2 (.lst (cents.map V.int))) := Go.Same.new (Same.refl _) nc2
      have eC2 : (upd H21 c2 (.lst (cents.map V.int))) c2 = some (.lst (cents.map V.int)) := upd_same
      generalize (upd H21 c2 (.lst (cents.map V.int))) = H22 at *
      have W22 := W21.same s22
      have eH22 := W22.eh
      walk_at "g"
      intro h2 nh2
      have s23 : Same H22 (upd H22 h2 (.lst (hidden.map V.int))) := Go.Same.new (Same.refl _) nh2
      have eH2 : (upd H22 h2 (.lst (hidden.map V.int))) h2 = some (.lst (hidden.map V.int)) := upd_same
      have eC2 := s23 _ _ eC2
      generalize (upd H22 h2 (.lst (hidden.map V.int))) = H23 at *
      have W23 := W22.same s23
      have eT23 := W23.et
      walk_at "g"
      intro t2 nt2
      refine lcW_list (rs.map V.ref) (fun i H' => Same H23 H' ∧ ∃ rs2 : List Addr, H' t2 = some (.lst (rs2.map V.ref)) ∧ rs2.length = i ∧ (∀ r ∈ rs2, r ≠ t2) ∧ ∀ j (h1 : j < rs2.length) (h2 : j < totals.length), H' rs2[j] = some (.lst (totals[j].map V.int)))
        ⟨Go.Same.new (Same.refl _) nt2, [], upd_same, rfl, (fun r h => nomatch h), (fun j h _ => nomatch h)⟩ (fun i H' _ h => SqL.of (h.1 _ _ eT23)) ?_ ?_
      · rintro j x H24 hx ⟨s24, rs2, e24, l24, n24, r24⟩
        rw [List.getElem?_map] at hx
        obtain ⟨r, hr', rfl⟩ := Option.map_eq_some_iff.mp hx
        obtain ⟨hj, er⟩ := List.getElem?_eq_some_iff.mp hr'
        have hj2 : j < totals.length := by rw [← W23.len]; exact hj
        have eR := s24 _ _ (W23.row j hj hj2)
        rw [er] at eR
        walk_at "g"
        intro r2 nr2
        have nrt : r2 ≠ t2 := (ne_of_none e24 nr2).symm
        refine ⟨_, at_upd nrt.symm e24, by rw [List.length_map]; exact small1000 (by omega), Go.Same.mut (Go.Same.new s24 nr2) nt2, rs2 ++ [r2], by rw [upd_same, List.map_append]; rfl, by simp [l24], fun r hm => ?_, fun i h1 h2 => ?_⟩
        · rcases List.mem_append.mp hm with z | z
          · exact n24 r z
          · rw [List.mem_singleton.mp z]; exact nrt
        · by_cases hi : i < rs2.length
          · rw [List.getElem_append_left hi]
            have e := r24 i hi h2
            exact at_upd (n24 _ (List.getElem_mem hi)) (at_upd (ne_of_none e nr2) e)
          · have ei : i = rs2.length := by rw [List.length_append, List.length_singleton] at h1; omega
            have ei2 : i = j := by omega
            have e1 : (rs2 ++ [r2])[i] = r2 := by subst ei; simp
            subst ei2
            rw [e1]
            exact at_upd nrt upd_same
      rintro H24 ⟨s24, rs2, e24, l24, _, r24⟩
      rw [List.length_map] at l24
      have eM24 : H24 m = some (.lst (am.map V.int)) := s24 _ _ (s23 _ _ (s22 _ _ e21))
      walk_at "g"
      intro m2 nm2
      have s25 : Same H24 (upd H24 m2 (.lst (am.map V.int))) := Go.Same.new (Same.refl _) nm2
      have eM2 : (upd H24 m2 (.lst (am.map V.int))) m2 = some (.lst (am.map V.int)) := upd_same
      generalize (upd H24 m2 (.lst (am.map V.int))) = H25 at *
      walk_at "g"
      intro o2 no2
      have s26 : Same H25 (upd H25 o2 (.tup [.int s, .ref m2])) := Go.Same.new (Same.refl _) no2
      have eO2 : (upd H25 o2 (.tup [.int s, .ref m2])) o2 = some (.tup [.int s, .ref m2]) := upd_same
      generalize (upd H25 o2 (.tup [.int s, .ref m2])) = H26 at *
      have s46 := s25.trans s26
      have s36 := s24.trans s46
      have In2 : In K H26 c2 h2 t2 m2 rs2 cents hidden am totals :=
        ⟨SqL.of (s36 _ _ eC2), SqL.of (s36 _ _ eH2), SqL.of (s46 _ _ e24), SqL.of (s26 _ _ eM2), by rw [l24, W23.len], fun i h1 h2 => SqL.of (s46 _ _ (r24 i h1 h2)),
          fun row hr k hk => by have := (W23.rb row hr).1 k hk; omega, by omega, fun row hr => by have := (W23.rb row hr).2; omega, lt⟩
      walk_at "g"
      refine ⟨c2, h2, t2, m2, o2, rs2, cents, hidden, am, totals, y, z, s, rfl, In2, SqT.of eO2, yb0, by omega, by omega, by omega, fun H27 v2 s27 dq2 => ?_⟩
      have sall := (s22.trans (s23.trans s36)).trans s27
      have W27 := W21.same sall
      have dq1' := Dq.same sall dq1
      walk_at "g"
      refine ⟨v2, _, rfl, dq2, fine.1, fine.2.1, fun e => by (rw [fine.2.2.1] at e; cases e), fine.2.2.2, ?_⟩
      walk_at "g"
      refine ⟨v1, _, rfl, dq1', fine.1, fine.2.1, fun e => by (rw [fine.2.2.1] at e; cases e), fine.2.2.2, ?_⟩
      walk_at "g"
      walk_at "if" <;> intro e
      · exact (e rfl).elim
      walk_at "g"
      exact ⟨⟨_, _, _, _, _, _, _, _, _, _, _, _, _, _, rfl⟩, W27⟩
    · rintro σ' H7 ⟨⟨y4, y5, y7, y9, y10, y11, y12, y13, y14, y15, y16, y17, y18, y19, rfl⟩, W7⟩
      walk_at "g"
      exact q _

end
end K71

namespace K71
open PySem PySem.Spec PyProof.Rows L2 Go Grd
set_option maxHeartbeats 8000000
theorem all_end {P : Program} {w : World} {K : PySem.W.Frag} {h : Heap} {mg : Str → Option Value} {fa : Addr} (X : K.In h) (G : h.Ns mainGlobals mg) (hfa : mg "law" = some (.ref fa))
    {f0 : Addr} {od0 an0 : Option Addr} {sl0 : Array (Option Value)} {oc0 kV0 dc0 pm0 cd0 ct0 : Value}
    (a0 : PySem.W.nsIn K mainGlobals "world_fault" = some (some (.ref f0))) (l0 : K.lookup f0 = some ⟨oc0, od0, .func (PySem.W.fnOf "world_fault" "world_fault" (defArgs s_world_fault) (defBody s_world_fault) (defScope s_world_fault) .none kV0 dc0 pm0 an0 cd0 ct0), sl0⟩) (c0 : PySem.W.codeIn K cd0 "world_fault" = true) (k0 : PySem.W.keepIn K (.ref f0) = true)
    {f1 : Addr} {od1 an1 : Option Addr} {sl1 : Array (Option Value)} {oc1 kV1 dc1 pm1 cd1 ct1 : Value}
    (a1 : PySem.W.nsIn K mainGlobals "_law_draw" = some (some (.ref f1))) (l1 : K.lookup f1 = some ⟨oc1, od1, .func (PySem.W.fnOf "_law_draw" "_law_draw" (defArgs s__law_draw) (defBody s__law_draw) (defScope s__law_draw) .none kV1 dc1 pm1 an1 cd1 ct1), sl1⟩) (c1 : PySem.W.codeIn K cd1 "_law_draw" = true) (k1 : PySem.W.keepIn K (.ref f1) = true)
    {f2 : Addr} {od2 an2 : Option Addr} {sl2 : Array (Option Value)} {oc2 kV2 dc2 pm2 cd2 ct2 : Value}
    (a2 : PySem.W.nsIn K mainGlobals "_law_fault" = some (some (.ref f2))) (l2 : K.lookup f2 = some ⟨oc2, od2, .func (PySem.W.fnOf "_law_fault" "_law_fault" (defArgs s__law_fault) (defBody s__law_fault) (defScope s__law_fault) .none kV2 dc2 pm2 an2 cd2 ct2), sl2⟩) (c2 : PySem.W.codeIn K cd2 "_law_fault" = true) (k2 : PySem.W.keepIn K (.ref f2) = true)
    {f3 : Addr} {od3 an3 : Option Addr} {sl3 : Array (Option Value)} {oc3 kV3 dc3 pm3 cd3 ct3 : Value}
    (a3 : PySem.W.nsIn K mainGlobals "_law_pick" = some (some (.ref f3))) (l3 : K.lookup f3 = some ⟨oc3, od3, .func (PySem.W.fnOf "_law_pick" "_law_pick" (defArgs s__law_pick) (defBody s__law_pick) (defScope s__law_pick) .none kV3 dc3 pm3 an3 cd3 ct3), sl3⟩) (c3 : PySem.W.codeIn K cd3 "_law_pick" = true) (k3 : PySem.W.keepIn K (.ref f3) = true)
    {f4 : Addr} {od4 an4 : Option Addr} {sl4 : Array (Option Value)} {oc4 kV4 dc4 pm4 cd4 ct4 : Value}
    (a4 : PySem.W.nsIn K mainGlobals "_law_spoilt" = some (some (.ref f4))) (l4 : K.lookup f4 = some ⟨oc4, od4, .func (PySem.W.fnOf "_law_spoilt" "_law_spoilt" (defArgs s__law_spoilt) (defBody s__law_spoilt) (defScope s__law_spoilt) .none kV4 dc4 pm4 an4 cd4 ct4), sl4⟩) (c4 : PySem.W.codeIn K cd4 "_law_spoilt" = true) (k4 : PySem.W.keepIn K (.ref f4) = true)
    {f5 : Addr} {od5 an5 : Option Addr} {sl5 : Array (Option Value)} {oc5 kV5 dc5 pm5 cd5 ct5 : Value}
    (a5 : PySem.W.nsIn K mainGlobals "law" = some (some (.ref f5))) (l5 : K.lookup f5 = some ⟨oc5, od5, .func (PySem.W.fnOf "law" "law" (defArgs s_law) (defBody s_law) (defScope s_law) .none kV5 dc5 pm5 an5 cd5 ct5), sl5⟩) (c5 : PySem.W.codeIn K cd5 "law" = true) (k5 : PySem.W.keepIn K (.ref f5) = true)
    (z0 : PySem.W.nsIn K mainGlobals "enumerate" = some none)
    (z1 : PySem.W.nsIn K mainGlobals "int" = some none)
    (z2 : PySem.W.nsIn K mainGlobals "len" = some none)
    (z3 : PySem.W.nsIn K mainGlobals "list" = some none)
    (z4 : PySem.W.nsIn K mainGlobals "range" = some none)
    (z5 : PySem.W.nsIn K mainGlobals "repr" = some none)
    (z6 : PySem.W.nsIn K mainGlobals "sorted" = some none)
    (z7 : PySem.W.nsIn K mainGlobals "sum" = some none)
    : ∃ fd : FuncData, (∀ (s : Shared) (v : Value), BindsTo s fd ⟨[v], []⟩ [("script", v)]) ∧ ∀ base : Heap, K.In base → base.Ns mainGlobals mg → FnG P w K mg base 3 fa fd ["script"] (sp_law K) := by
  have e := hfa.symm.trans (PySem.W.mg_of X G a5)
  cases e
  have F0 := fun_mk (st := s_world_fault) l0 c0 k0
  have F1 := fun_mk (st := s__law_draw) l1 c1 k1
  have F2 := fun_mk (st := s__law_fault) l2 c2 k2
  have F3 := fun_mk (st := s__law_pick) l3 c3 k3
  have F4 := fun_mk (st := s__law_spoilt) l4 c4 k4
  have F5 := fun_mk (st := s_law) l5 c5 k5
  exact ⟨PySem.W.fnOf "law" "law" (defArgs s_law) (defBody s_law) (defScope s_law) .none kV5 dc5 pm5 an5 cd5 ct5, fun s v => .of_eq rfl, fun base _ _ => ok_law (P := P) (w := w) (base := base) { a_world_fault := f0, fd_world_fault := _, F_world_fault := F0, b_world_fault := F0.binds (ps := ["cents", "hidden", "totals", "y", "z", "other"]) (fun _ _ _ _ _ _ us hl => match us, hl with | [_, _, _, _, _, _], _ => rfl), g_world_fault := PySem.W.mg_of X G a0, a__law_draw := f1, fd__law_draw := _, F__law_draw := F1, b__law_draw := F1.binds (ps := ["state", "script", "size"]) (fun _ _ _ _ _ _ us hl => match us, hl with | [_, _, _], _ => rfl), g__law_draw := PySem.W.mg_of X G a1, a__law_fault := f2, fd__law_fault := _, F__law_fault := F2, b__law_fault := F2.binds (ps := ["cents", "hidden", "totals", "y", "z", "scale", "amounts"]) (fun _ _ _ _ _ _ us hl => match us, hl with | [_, _, _, _, _, _, _], _ => rfl), g__law_fault := PySem.W.mg_of X G a2, a__law_pick := f3, fd__law_pick := _, F__law_pick := F3, b__law_pick := F3.binds (ps := ["state", "script", "items"]) (fun _ _ _ _ _ _ us hl => match us, hl with | [_, _, _], _ => rfl), g__law_pick := PySem.W.mg_of X G a3, a__law_spoilt := f4, fd__law_spoilt := _, F__law_spoilt := F4, b__law_spoilt := F4.binds (ps := ["state", "script", "scale", "amounts"]) (fun _ _ _ _ _ _ us hl => match us, hl with | [_, _, _, _], _ => rfl), g__law_spoilt := PySem.W.mg_of X G a4, a_law := fa, fd_law := _, F_law := F5, b_law := F5.binds (ps := ["script"]) (fun _ _ _ _ _ _ us hl => match us, hl with | [_], _ => rfl), g_law := PySem.W.mg_of X G a5, n_enumerate := PySem.W.mg_none_of X G z0, n_int := PySem.W.mg_none_of X G z1, n_len := PySem.W.mg_none_of X G z2, n_list := PySem.W.mg_none_of X G z3, n_range := PySem.W.mg_none_of X G z4, n_repr := PySem.W.mg_none_of X G z5, n_sorted := PySem.W.mg_none_of X G z6, n_sum := PySem.W.mg_none_of X G z7 }⟩

end K71
open PySem PySem.W PyProof.Rows
set_option maxHeartbeats 0 in
theorem PySem.Challenge.cw_everycoin_k71_faults_of_worlds_holds : PySem.Challenge.rw_everycoin_k71_faults_of_worlds.Holds := by
  w_on; o_law; k_head; (case hw => w_witness2)
  k_fill
  refine Grd.end_of (l := PySem.Challenge.rw_everycoin_k71_faults_of_worlds) (n := 63) (k := 3) (x := "script") (sp := fun w => K71.sp_law _) rfl (by decide) rfl ⟨rfl, by decide, by decide⟩ (fun w h Y => PySem.W.kIn_of Y) ?F (fun _ _ a ns hl hO hS => K71.law_start hl hO hS)
  case F =>
    intro w mg fa h KX G hmg
    refine' K71.all_end KX G hmg ?a0 ?l0 ?c0 ?k0 ?a1 ?l1 ?c1 ?k1 ?a2 ?l2 ?c2 ?k2 ?a3 ?l3 ?c3 ?k3 ?a4 ?l4 ?c4 ?k4 ?a5 ?l5 ?c5 ?k5 ?z0 ?z1 ?z2 ?z3 ?z4 ?z5 ?z6 ?z7
    (case a0 => k_is); (case l0 => k_is); (case c0 => k_is); (case k0 => k_is); (case a1 => k_is); (case l1 => k_is); (case c1 => k_is); (case k1 => k_is); (case a2 => k_is); (case l2 => k_is); (case c2 => k_is); (case k2 => k_is); (case a3 => k_is); (case l3 => k_is); (case c3 => k_is); (case k3 => k_is); (case a4 => k_is); (case l4 => k_is); (case c4 => k_is); (case k4 => k_is); (case a5 => k_is); (case l5 => k_is); (case c5 => k_is); (case k5 => k_is); (case z0 => k_is); (case z1 => k_is); (case z2 => k_is); (case z3 => k_is); (case z4 => k_is); (case z5 => k_is); (case z6 => k_is); (case z7 => k_is)
