import PyProof.Rows.All
import Wide.All
import OpenK.AllK
import Wide.FinOn
import HandS.ForMost
import HandS.Flt
import HandS.RaiseMore
import HandS.Wide
import HandS.TupAny
import HandS.Codes
import HandS.Conv
import PyProof.ListStr
import PySem.Challenge.RW_everycoin_k62_gaps_of_names
set_option Elab.async false
set_option linter.all false
set_option maxRecDepth 100000
namespace Go
open PySem PySem.Spec PyProof.Rows L2
/-- kept but for st -/
def Kp (st : Addr) (H H' : Hp) : Prop := ∀ b o, b ≠ st → H b = some o → H' b = some o
theorem Kp.refl (st : Addr) (H : Hp) : Kp st H H := fun _ _ _ h => h
theorem Kp.trans {st : Addr} {H H1 H2 : Hp} (a : Kp st H H1) (b : Kp st H1 H2) : Kp st H H2 := fun c o n h => b c o n (a c o n h)
theorem Kp.new {st p : Addr} {H H1 : Hp} {o : HO} (a : Kp st H H1) (h : H1 p = none) : Kp st H (upd H1 p o) := fun b u n e => by
  rw [upd_ne (ne_of_none (a b u n e) h)]; exact a b u n e
theorem Kp.at {st : Addr} {H H1 : Hp} {o : HO} (a : Kp st H H1) : Kp st H (upd H1 st o) := fun b u n e => by
  rw [upd_ne n]; exact a b u n e
theorem Kp.mut {st p : Addr} {H H1 : Hp} {o : HO} (a : Kp st H H1) (h : H p = none) : Kp st H (upd H1 p o) := fun b u n e => by
  rw [upd_ne (ne_of_none e h)]; exact a b u n e
theorem Kp.of_same {st : Addr} {H H1 : Hp} (a : Same H H1) : Kp st H H1 := fun b u _ e => a b u e
theorem Same.new {p : Addr} {H H1 : Hp} {o : HO} (a : Same H H1) (h : H1 p = none) : Same H (upd H1 p o) := fun b u e => by
  rw [upd_ne (ne_of_none (a b u e) h)]; exact a b u e
theorem Same.mut {p : Addr} {H H1 : Hp} {o : HO} (a : Same H H1) (h : H p = none) : Same H (upd H1 p o) := fun b u e => by
  rw [upd_ne (ne_of_none e h)]; exact a b u e
theorem ne_fr {H : Hp} {a b : Addr} {o : HO} (h : H b = none) (e : H a = some o) : a ≠ b := ne_of_none e h
theorem free_upd {H : Hp} {p q : Addr} {o : HO} (h : upd H p o q = none) : H q = none ∧ q ≠ p := by
  by_cases e : q = p
  · rw [e, upd_same] at h; cases h
  · rw [upd_ne e] at h; exact ⟨h, e⟩
theorem at_upd {H : Hp} {p q : Addr} {o : HO} {u : Option HO} (n : q ≠ p) (h : H q = u) : upd H p o q = u := by rw [upd_ne n]; exact h
section
variable {K : PySem.W.Frag} {H H1 : Hp} {a p st : Addr} {o : HO} {xs : List V}
theorem sqL_ext (k : ∀ u, H a = some u → H1 a = some u) (h : SqL K H a xs) : SqL K H1 a xs := by
  rcases h with (h | ⟨o, h⟩) | h
  · exact .inl (.inl (k _ h))
  · exact .inl (.inr ⟨o, k _ h⟩)
  · exact .inr h
theorem sqT_ext (k : ∀ u, H a = some u → H1 a = some u) (h : SqT K H a xs) : SqT K H1 a xs := by
  rcases h with (h | ⟨o, h⟩) | h
  · exact .inl (.inl (k _ h))
  · exact .inl (.inr ⟨o, k _ h⟩)
  · exact .inr h
theorem sqL_new (n : H p = none) (h : SqL K H a xs) : SqL K (upd H p o) a xs := sqL_ext (fun u e => at_upd (ne_of_none e n) e) h
theorem sqT_new (n : H p = none) (h : SqT K H a xs) : SqT K (upd H p o) a xs := sqT_ext (fun u e => at_upd (ne_of_none e n) e) h
theorem sqL_ne (n : a ≠ p) (h : SqL K H a xs) : SqL K (upd H p o) a xs := sqL_ext (fun u e => at_upd n e) h
theorem sqT_ne (n : a ≠ p) (h : SqT K H a xs) : SqT K (upd H p o) a xs := sqT_ext (fun u e => at_upd n e) h
theorem sqL_same (s : Same H H1) (h : SqL K H a xs) : SqL K H1 a xs := sqL_ext (fun u e => s _ _ e) h
theorem sqT_same (s : Same H H1) (h : SqT K H a xs) : SqT K H1 a xs := sqT_ext (fun u e => s _ _ e) h
theorem sqL_kp (s : Kp st H H1) (n : a ≠ st) (h : SqL K H a xs) : SqL K H1 a xs := sqL_ext (fun u e => s _ _ n e) h
theorem sqT_kp (s : Kp st H H1) (n : a ≠ st) (h : SqT K H a xs) : SqT K H1 a xs := sqT_ext (fun u e => s _ _ n e) h
end
theorem atI_some {α : Type} {xs : List α} {i : Int} (h0 : 0 ≤ i) (h1 : i < xs.length) : atI xs i = some (xs[i.toNat]'(by omega)) := by
  obtain ⟨j, rfl⟩ := Int.eq_ofNat_of_zero_le h0
  exact atI_nat (List.getElem?_eq_getElem (by omega))
theorem atI_map {α β : Type} {f : α → β} {xs : List α} {i : Int} (h0 : 0 ≤ i) (h1 : i < xs.length) : atI (xs.map f) i = some (f (xs[i.toNat]'(by omega))) := by
  rw [atI_some h0 (by rw [List.length_map]; exact h1), List.getElem_map]
theorem ixN_some {n : Nat} {i : Int} (h0 : 0 ≤ i) (h1 : i < n) : ixN n i = some i.toNat := by
  unfold ixN; rw [if_pos h0, if_pos h1]
/-- what is frozen stays -/
def Fz (H H' : Hp) : Prop := ∀ b o u, H b = some (.frz o u) → H' b = some (.frz o u)
theorem Fz.refl (H : Hp) : Fz H H := fun _ _ _ h => h
theorem Fz.trans {H H1 H2 : Hp} (a : Fz H H1) (b : Fz H1 H2) : Fz H H2 := fun c o u h => b c o u (a c o u h)
theorem Fz.new {H : Hp} {p : Addr} {o : HO} (h : H p = none) : Fz H (upd H p o) := fun b x u e => at_upd (ne_of_none e h) e
theorem Fz.set {H : Hp} {p : Addr} {o o' : HO} (h : H p = some o) (n : ∀ x u, o ≠ .frz x u) : Fz H (upd H p o') := fun b x u e => at_upd (fun z => by subst z; rw [h] at e; exact n _ _ (Option.some.inj e)) e
theorem Fz.setL {H : Hp} {p : Addr} {xs : List V} {o' : HO} (h : H p = some (.lst xs)) : Fz H (upd H p o') := Fz.set h fun _ _ z => nomatch z
theorem Fz.of_same {H H1 : Hp} (s : Same H H1) : Fz H H1 := fun b o u e => s b _ e
theorem Fz.of_kp {H H1 : Hp} {st : Addr} {xs : List V} (h : H st = some (.lst xs)) (k : Kp st H H1) : Fz H H1 := fun b o u e => k b _ (fun z => by subst z; rw [h] at e; cases e) e
/-- the state of the draws: [turns, rest] at st; the script may be read while what is frozen stays -/
def St (K : PySem.W.Frag) (H : Hp) (st sc : Addr) (ns : List Int) : Prop :=
  (∃ n s : Int, H st = some (.lst [.int n, .int s])) ∧ (∀ H', Fz H H' → SqL K H' sc (ns.map V.int)) ∧ ns.length ≤ 63
section
variable {K : PySem.W.Frag} {H H1 : Hp} {st sc l : Addr} {ns : List Int} {o : HO}
theorem St.to (S : St K H st sc ns) (f : Fz H H1) (e : H1 st = H st) : St K H1 st sc ns := by
  obtain ⟨⟨n, s, h⟩, h1, h3⟩ := S
  exact ⟨⟨n, s, by rw [e]; exact h⟩, fun H' k => h1 _ (f.trans k), h3⟩
theorem St.ne (S : St K H st sc ns) (h : H l = none) : l ≠ st := by
  obtain ⟨⟨n, s, e⟩, _⟩ := S
  exact (ne_of_none e h).symm
theorem St.new (S : St K H st sc ns) (h : H l = none) : St K (upd H l o) st sc ns := S.to (Fz.new h) (upd_ne (S.ne h).symm)
theorem St.same (S : St K H st sc ns) (s : Same H H1) : St K H1 st sc ns := by
  obtain ⟨n, x, e⟩ := S.1
  exact S.to (Fz.of_same s) (by rw [e]; exact s _ _ e)
theorem St.setL (S : St K H st sc ns) {xs : List V} (h : H l = some (.lst xs)) (n : l ≠ st) : St K (upd H l o) st sc ns := S.to (Fz.setL h) (upd_ne n.symm)
theorem St.kp (S : St K H st sc ns) (k : Kp st H H1) (e : ∃ n s : Int, H1 st = some (.lst [.int n, .int s])) : St K H1 st sc ns := by
  obtain ⟨n, s, h⟩ := S.1
  exact ⟨e, fun H' f => S.2.1 _ ((Fz.of_kp h k).trans f), S.2.2⟩
/-- the law's start: the script -/
theorem St.start (hl : ns.length ≤ 63) (hS : (∃ o, H sc = some (.frz o (.lst (ns.map V.int)))) ∨ ∀ H', SqL K H' sc (ns.map V.int)) (n : H st = none) : St K (upd H st (.lst [.int 0, .int 0])) st sc ns := by
  refine ⟨⟨0, 0, upd_same⟩, fun H' f => ?_, hl⟩
  rcases hS with ⟨o, h⟩ | h
  · exact .inl (.inr ⟨o, f _ _ _ (at_upd (ne_of_none h n) h)⟩)
  · exact h H'
end
/-- the promise of a law over a script -/
def spL (K : PySem.W.Frag) : Sp := fun vs H Q _ => ∃ (sc : Addr) (ns : List Int), vs = [.ref sc] ∧ ((∃ o, H sc = some (.frz o (.lst (ns.map V.int)))) ∨ ∀ H', SqL K H' sc (ns.map V.int)) ∧ ns.length ≤ 63 ∧ ∀ H', Q (.bl true) H'
theorem spL_start {K : PySem.W.Frag} {H : Hp} {a : Addr} {ns : List Int} (hl : ns.length ≤ 63) (hO : Only H) (hS : SqL K H a (ns.map V.int)) : spL K [.ref a] H (fun v _ => v = .bl true) fun _ _ _ => False := by
  refine ⟨a, ns, rfl, ?_, hl, fun _ => rfl⟩
  rcases hS with (h | ⟨o, h⟩) | h
  · rcases hO a with z | ⟨o, xs, z⟩
    · rw [h] at z; cases z
    · rw [h] at z; cases z
  · exact .inl ⟨o, h⟩
  · exact .inr fun H' => .inr h
/-! ### one step of a reading -/
section
variable {σ : L2.St} {H : Hp}
theorem g_seq {t u : TS} {D : Ends} (h : t { D with nx := u D } σ H) : tSeq t u D σ H := h
theorem g_asg {te : TE} {g : TG} {D : Ends} (h : te σ H fun x H1 => g x σ H1 D.nx) : tAsg te g D σ H := h
theorem g_name {i : Nat} {v : V} {Q : L2.St → Hp → Prop} (h : Q (σ.set i (some v)) H) : gName i v σ H Q := h
theorem g_sub {to ti : TE} {t : TSet} {v : V} {Q : L2.St → Hp → Prop} (h : to σ H fun o H1 => ti σ H1 fun i H2 => t o i v H2 fun H3 => Q σ H3) : gSub to ti t v σ H Q := h
theorem g_op {r : R2} {ta tb : TE} {Q : VK} (h : ta σ H fun x H1 => tb σ H1 fun y H2 => r x y H2 Q) : tOp r ta tb σ H Q := h
theorem g_un {r : V → Hp → VK → Prop} {ta : TE} {Q : VK} (h : ta σ H fun x H1 => r x H1 Q) : tUn r ta σ H Q := h
theorem g_c {v : V} {Q : VK} (h : Q v H) : tC v σ H Q := h
theorem g_cb {r : List V → Hp → VK → Prop} {t : TA} {Q : VK} (h : t σ H fun vs H1 => r vs H1 Q) : tCB r t σ H Q := h
theorem g_call {sp : Sp} {dvs : List V} {E : XK} {t : TA} {Q : VK} (h : t σ H fun vs H1 => sp (vs ++ dvs) H1 Q E) : tCall sp dvs E t σ H Q := h
theorem g_cons {ta : TE} {tr : TA} {Q : List V → Hp → Prop} (h : ta σ H fun x H1 => tr σ H1 fun xs H2 => Q (x :: xs) H2) : tCons ta tr σ H Q := h
theorem g_nil {Q : List V → Hp → Prop} (h : Q [] H) : tNil σ H Q := h
theorem g_test {t : TE} {Q : Bool → Hp → Prop} (h : t σ H fun x H' => ∃ k, x = .bl k ∧ Q k H') : tTest t σ H Q := h
theorem g_tB {t : TE} {Q : Bool → Hp → Prop} (h : t σ H fun x H' => ∃ k, x = .bl k ∧ Q k H') : tB t σ H Q := h
theorem g_bl {b : Bool} {Q : Bool → Hp → Prop} (h : Q b H) : ∃ k, V.bl b = .bl k ∧ Q k H := ⟨b, rfl, h⟩
theorem g_ifs {c : TT} {t u : TS} {D : Ends} (h : c σ H fun b H1 => if b = true then t D σ H1 else u D σ H1) : tIfS c t u D σ H := h
theorem g_if {c : TT} {t u : TE} {Q : VK} (h : c σ H fun b H1 => if b = true then t σ H1 Q else u σ H1 Q) : tIf c t u σ H Q := h
theorem g_and {t u : TT} {Q : Bool → Hp → Prop} (h : t σ H fun c H1 => if c = true then u σ H1 Q else Q false H1) : tAnd t u σ H Q := h
theorem g_or {t u : TT} {Q : Bool → Hp → Prop} (h : t σ H fun c H1 => if c = true then Q true H1 else u σ H1 Q) : tOr t u σ H Q := h
theorem g_not {t : TT} {Q : Bool → Hp → Prop} (h : t σ H fun c H1 => Q (!c) H1) : tNot t σ H Q := h
theorem g_ret {te : TE} {D : Ends} (h : te σ H D.rt) : tRet te D σ H := h
theorem g_next {D : Ends} (h : D.nx σ H) : tNext D σ H := h
theorem g_drop {te : TE} {D : Ends} (h : te σ H fun _ H1 => D.nx σ H1) : tDrop te D σ H := h
theorem g_sl {r : V → Option Int → Option Int → Hp → VK → Prop} {te : TE} {tl th : TO} {Q : VK} (h : te σ H fun x H1 => tl σ H1 fun l H2 => th σ H2 fun u H3 => r x l u H3 Q) : tSl r te tl th σ H Q := h
theorem g_nopart {Q : Option Int → Hp → Prop} (h : Q none H) : tNoPart σ H Q := h
theorem g_part {t : TE} {Q : Option Int → Hp → Prop} (h : t σ H fun x H1 => ∃ i, x = .int i ∧ Q (some i) H1) : tPart t σ H Q := h
theorem g_int {i : Int} {Q : Int → Hp → Prop} (h : Q i H) : ∃ k, V.int i = .int k ∧ Q k H := ⟨i, rfl, h⟩
theorem g_bm {K : PySem.W.Frag} {T : String} {r : V → List V → Hp → VK → Prop} {to : TE} {t : TA} {Q : VK} (h : to σ H fun x H1 => tyV K T x H1 ∧ t σ H1 fun xs H2 => r x xs H2 Q) : tBM K T r to t σ H Q := h
theorem g_yes {Q : Bool → Hp → Prop} (h : Q true H) : tYes σ H Q := h
theorem g_ixL {K : PySem.W.Frag} {p : Addr} {xs : List V} {i : Int} {v : V} {Q : VK} (h : SqL K H p xs) (e : atI xs i = some v) (q : Q v H) : rIxL K (.ref p) (.int i) H Q := ⟨_, _, _, _, rfl, rfl, h, e, q⟩
theorem g_ixT {K : PySem.W.Frag} {p : Addr} {xs : List V} {i : Int} {v : V} {Q : VK} (h : SqT K H p xs) (e : atI xs i = some v) (q : Q v H) : rIxT K (.ref p) (.int i) H Q := ⟨_, _, _, _, rfl, rfl, h, e, q⟩
theorem g_setL {p : Addr} {xs : List V} {k : Int} {j : Nat} {v : V} {Q : Hp → Prop} (h : H p = some (.lst xs)) (e : ixN xs.length k = some j) (q : Q (upd H p (.lst (xs.set j v)))) : rSetL (.ref p) (.int k) v H Q := ⟨_, _, _, _, rfl, rfl, h, e, q⟩
/-- a for's turns, over what it walks -/
def ForW (J : It) (g : TG) (tb : TS) (D : Ends) (σ : L2.St) (H1 : Hp) : Prop := ∃ W : Nat → Nat → L2.St → Hp → Prop, (∃ m, W 0 m σ H1) ∧ ∀ i m σ H, W i m σ H →
  (J.stop i H ∧ D.nx σ H) ∨ (J.go i H ∧ ∃ N : L2.St → Hp → Prop, (∀ σ' H', N σ' H' → ∃ m', m' < m ∧ W (i + 1) m' σ' H') ∧ ∀ x H', J.yld i H x H' → g x σ H' fun σ2 H2 => tb { D with nx := N, ct := N, bk := D.nx } σ2 H2)
theorem g_for {wi : TI} {g : TG} {tb : TS} {D : Ends} (h : wi σ H fun J H1 => ForW J g tb D σ H1) : tFor wi g tb D σ H := h
theorem g_rng1 {ta : TA} {R : It → Hp → Prop} (h : ta σ H fun vs H1 => ∃ j : Int, vs = [.int j] ∧ -(2 ^ 62) ≤ j ∧ j < 2 ^ 62 ∧ R (Itr 0 j.toNat) H1) : iRng1 ta σ H R := h
theorem g_rng2 {ta : TA} {R : It → Hp → Prop} (h : ta σ H fun vs H1 => ∃ i j : Int, vs = [.int i, .int j] ∧ (-(2 ^ 62) ≤ i ∧ i < 2 ^ 62 ∧ -(2 ^ 62) ≤ j ∧ j < 2 ^ 62) ∧ R (Itr i (j - i).toNat) H1) : iRng2 ta σ H R := h
theorem g_rng3 {ta : TA} {R : It → Hp → Prop} (h : ta σ H fun vs H1 => ∃ (i j c : Int) (n : Nat), vs = [.int i, .int j, .int c] ∧ RgC i j c n ∧ R (Itc i c n) H1) : iRng3 ta σ H R := h
theorem g_list {K : PySem.W.Frag} {tl : TE} {R : It → Hp → Prop} (h : tl σ H fun x H1 => ∃ a, x = .ref a ∧ (∃ xs, SqL K H1 a xs) ∧ R (Itl K a) H1) : iList K tl σ H R := h
theorem g_itup {K : PySem.W.Frag} {tl : TE} {R : It → Hp → Prop} (h : tl σ H fun x H1 => ∃ a, x = .ref a ∧ (∃ xs, SqT K H1 a xs) ∧ R (Itt K a) H1) : iTup K tl σ H R := h
theorem forW_list {K : PySem.W.Frag} {a : Addr} (xs : List V) {g : TG} {tb : TS} {D : Ends} (Pv : Nat → L2.St → Hp → Prop) (h0 : Pv 0 σ H) (hl : ∀ i σ H, i ≤ xs.length → Pv i σ H → SqL K H a xs)
    (hs : ∀ i x σ H, xs[i]? = some x → Pv i σ H → g x σ H fun σ2 H2 => tb { D with nx := Pv (i + 1), ct := Pv (i + 1), bk := D.nx } σ2 H2) (hd : ∀ σ H, Pv xs.length σ H → D.nx σ H) : ForW (Itl K a) g tb D σ H := for_list Pv h0 hl hs hd
theorem forW_tup {K : PySem.W.Frag} {a : Addr} (xs : List V) {g : TG} {tb : TS} {D : Ends} (Pv : Nat → L2.St → Hp → Prop) (h0 : Pv 0 σ H) (hl : ∀ i σ H, i ≤ xs.length → Pv i σ H → SqT K H a xs)
    (hs : ∀ i x σ H, xs[i]? = some x → Pv i σ H → g x σ H fun σ2 H2 => tb { D with nx := Pv (i + 1), ct := Pv (i + 1), bk := D.nx } σ2 H2) (hd : ∀ σ H, Pv xs.length σ H → D.nx σ H) : ForW (Itt K a) g tb D σ H := for_tup Pv h0 hl hs hd
theorem forW_range {lo : Int} {n : Nat} {g : TG} {tb : TS} {D : Ends} (Pv : Nat → L2.St → Hp → Prop) (h0 : Pv 0 σ H)
    (hs : ∀ i σ H, i < n → Pv i σ H → g (.int (lo + i)) σ H fun σ2 H2 => tb { D with nx := Pv (i + 1), ct := Pv (i + 1), bk := D.nx } σ2 H2) (hd : ∀ σ H, Pv n σ H → D.nx σ H) : ForW (Itr lo n) g tb D σ H := for_range Pv h0 hs hd
theorem forW_rangeC {lo c : Int} {n : Nat} {g : TG} {tb : TS} {D : Ends} (Pv : Nat → L2.St → Hp → Prop) (h0 : Pv 0 σ H)
    (hs : ∀ i σ H, i < n → Pv i σ H → g (.int (lo + (i : Nat) * c)) σ H fun σ2 H2 => tb { D with nx := Pv (i + 1), ct := Pv (i + 1), bk := D.nx } σ2 H2) (hd : ∀ σ H, Pv n σ H → D.nx σ H) : ForW (Itc lo c n) g tb D σ H := for_rangeC Pv h0 hs hd
theorem forW_enum {K : PySem.W.Frag} {a : Addr} (xs : List V) {g : TG} {tb : TS} {D : Ends} (Pv : Nat → L2.St → Hp → Prop) (h0 : Pv 0 σ H) (hl : ∀ i σ H, i ≤ xs.length → Pv i σ H → SqL K H a xs)
    (hs : ∀ i x T σ H, xs[i]? = some x → H T = none → Pv i σ H → g (.ref T) σ (upd H T (.tup [.int (i : Nat), x])) fun σ2 H2 => tb { D with nx := Pv (i + 1), ct := Pv (i + 1), bk := D.nx } σ2 H2) (hd : ∀ σ H, Pv xs.length σ H → D.nx σ H) :
    ForW (Ite K a) g tb D σ H := by
  refine ⟨fun i m σ H => m = xs.length - i ∧ i ≤ xs.length ∧ Pv i σ H, ⟨xs.length, by simp, Nat.zero_le _, h0⟩, ?_⟩
  rintro i m σ H ⟨rfl, hi, p⟩
  have q := hl i σ H hi p
  by_cases e : i = xs.length
  · subst e
    exact .inl ⟨⟨xs, q, Nat.le_refl _⟩, hd σ H p⟩
  · have lt : i < xs.length := by omega
    refine .inr ⟨⟨xs, _, q, List.getElem?_eq_getElem lt⟩, Pv (i + 1), fun σ' H' p' => ⟨_, by omega, rfl, lt, p'⟩, ?_⟩
    rintro v H' ⟨T, x, rfl, nT, rfl, at_i⟩
    exact hs i x T σ H (at_i xs q) nT p
/-- a comprehension's turns -/
def LcW (J : It) (g : TG) (tt : TT) (te : TE) (vs : List Nat) (σ : L2.St) (H1 : Hp) (D : Addr) (Qd : Hp → Prop) : Prop := ∃ W : Nat → Nat → Hp → Prop, (∃ m, W 0 m (upd H1 D (.lst []))) ∧ ∀ i m H, W i m H →
  (J.stop i H ∧ Qd H) ∨ (J.go i H ∧ ∃ Nx : Hp → Prop, (∀ H', Nx H' → ∃ m', m' < m ∧ W (i + 1) m' H') ∧ ∀ x H', J.yld i H x H' → g x (wipe σ vs) H' fun σ2 H2 => wipe σ2 vs = wipe σ vs ∧ tt σ2 H2 fun b H3 =>
    if b = true then te σ2 H3 fun y H4 => ∃ acc, H4 D = some (.lst acc) ∧ acc.length < sizeLine ∧ Nx (upd H4 D (.lst (acc ++ [y]))) else Nx H3)
theorem g_lc {wi : TI} {g : TG} {tt : TT} {te : TE} {vs : List Nat} {Q : VK} (h : wi σ H fun J H1 => ∀ D, H1 D = none → LcW J g tt te vs σ H1 D fun H' => Q (.ref D) H') : tLc wi g tt te vs σ H Q := h
theorem lcW_list {K : PySem.W.Frag} {a : Addr} (xs : List V) {g : TG} {tt : TT} {te : TE} {vs : List Nat} {H1 : Hp} {D : Addr} {Qd : Hp → Prop} (Pv : Nat → Hp → Prop) (h0 : Pv 0 (upd H1 D (.lst []))) (hl : ∀ i H, i ≤ xs.length → Pv i H → SqL K H a xs)
    (hs : ∀ i x H, xs[i]? = some x → Pv i H → g x (wipe σ vs) H fun σ2 H2 => wipe σ2 vs = wipe σ vs ∧ tt σ2 H2 fun b H3 =>
      if b = true then te σ2 H3 fun y H4 => ∃ acc, H4 D = some (.lst acc) ∧ acc.length < sizeLine ∧ Pv (i + 1) (upd H4 D (.lst (acc ++ [y]))) else Pv (i + 1) H3) (hd : ∀ H, Pv xs.length H → Qd H) : LcW (Itl K a) g tt te vs σ H1 D Qd := lc_list Pv h0 hl hs hd
theorem lcW_range {lo : Int} {n : Nat} {g : TG} {tt : TT} {te : TE} {vs : List Nat} {H1 : Hp} {D : Addr} {Qd : Hp → Prop} (Pv : Nat → Hp → Prop) (h0 : Pv 0 (upd H1 D (.lst [])))
    (hs : ∀ i H, i < n → Pv i H → g (.int (lo + i)) (wipe σ vs) H fun σ2 H2 => wipe σ2 vs = wipe σ vs ∧ tt σ2 H2 fun b H3 =>
      if b = true then te σ2 H3 fun y H4 => ∃ acc, H4 D = some (.lst acc) ∧ acc.length < sizeLine ∧ Pv (i + 1) (upd H4 D (.lst (acc ++ [y]))) else Pv (i + 1) H3) (hd : ∀ H, Pv n H → Qd H) : LcW (Itr lo n) g tt te vs σ H1 D Qd := lc_range Pv h0 hs hd
/-- a comprehension over a list, no test, an element that changes nothing -/
theorem lcW_pure {K : PySem.W.Frag} {a : Addr} (xs : List V) (f : Nat → V) {g : TG} {te : TE} {vs : List Nat} {H1 : Hp} {D : Addr} {Qd : Hp → Prop} (nD : H1 D = none) (hA : SqL K H1 a xs) (hlen : xs.length ≤ 1000)
    (hs : ∀ i x H (R : VK) (Z : Hp → Prop), xs[i]? = some x → Same H1 H → R (f i) H → g x (wipe σ vs) H fun σ2 H2 => wipe σ2 vs = wipe σ vs ∧ tYes σ2 H2 fun b H3 => if b = true then te σ2 H3 R else Z H3)
    (hd : ∀ H, Same H1 H → H D = some (.lst ((List.range xs.length).map f)) → Qd H) : LcW (Itl K a) g tYes te vs σ H1 D Qd := by
  refine lcW_list xs (fun i H => Same H1 H ∧ H D = some (.lst ((List.range i).map f))) ⟨Same.new (Same.refl H1) nD, upd_same⟩ (fun i H _ h => sqL_same h.1 hA) ?_ (fun H h => hd H h.1 h.2)
  rintro i x H hx ⟨s, e⟩
  have hi : i < xs.length := (List.getElem?_eq_some_iff.mp hx).1
  refine hs i x H _ _ hx s ⟨_, e, by rw [List.length_map, List.length_range]; exact small1000 (by omega), Same.mut s nD, ?_⟩
  rw [upd_same, List.range_succ, List.map_append]; rfl
theorem g_gtup {K : PySem.W.Frag} {a : Addr} {xs : List V} {n : Nat} {t : TGs} {Q : L2.St → Hp → Prop} (h : SqT K H a xs) (e : xs.length = n) (q : t xs σ H Q) : gTup K n t (.ref a) σ H Q := ⟨_, _, rfl, h, e, q⟩
theorem g_enum {K : PySem.W.Frag} {ta : TA} {R : It → Hp → Prop} (h : ta σ H fun vs H1 => ∃ a xs, vs = [.ref a] ∧ SqL K H1 a xs ∧ R (Ite K a) H1) : iEnum K ta σ H R := h
/-- a comprehension over zip of two lists, no test, an element that changes nothing -/
theorem lcW_zip {K : PySem.W.Frag} {a b : Addr} (xs ys : List V) (f : Nat → V) {g : TG} {te : TE} {vs : List Nat} {H1 : Hp} {D : Addr} {Qd : Hp → Prop} (nD : H1 D = none) (hA : SqL K H1 a xs) (hB : SqL K H1 b ys) (hlen : xs.length ≤ 1000) (hle : ys.length = xs.length)
    (hs : ∀ i x y T H (R : VK) (Z : Hp → Prop), xs[i]? = some x → ys[i]? = some y → Same H1 H → H T = none → R (f i) (upd H T (.tup [x, y])) → g (.ref T) (wipe σ vs) (upd H T (.tup [x, y])) fun σ2 H2 => wipe σ2 vs = wipe σ vs ∧ tYes σ2 H2 fun b H3 => if b = true then te σ2 H3 R else Z H3)
    (hd : ∀ H, Same H1 H → H D = some (.lst ((List.range xs.length).map f)) → Qd H) : LcW (Itz K a b) g tYes te vs σ H1 D Qd := by
  refine ⟨fun i m H => m = xs.length - i ∧ i ≤ xs.length ∧ Same H1 H ∧ H D = some (.lst ((List.range i).map f)), ⟨xs.length, by simp, Nat.zero_le _, Same.new (Same.refl H1) nD, upd_same⟩, ?_⟩
  rintro i m H ⟨rfl, hi, s, e⟩
  have qa := sqL_same s hA
  have qb := sqL_same s hB
  by_cases ei : i = xs.length
  · subst ei
    exact .inl ⟨⟨xs, ys, qa, qb, .inl (Nat.le_refl _)⟩, hd H s e⟩
  · have lt : i < xs.length := by omega
    refine .inr ⟨⟨xs, ys, _, _, qa, qb, List.getElem?_eq_getElem lt, List.getElem?_eq_getElem (by omega)⟩, fun H' => i + 1 ≤ xs.length ∧ Same H1 H' ∧ H' D = some (.lst ((List.range (i + 1)).map f)), fun H' p => ⟨_, by omega, rfl, p.1, p.2⟩, ?_⟩
    rintro v H' ⟨T, x, y, rfl, nT, rfl, hx, hy⟩
    have nDT : D ≠ T := ne_of_none e nT
    refine hs i x y T H _ _ (hx xs qa) (hy ys qb) s nT ⟨_, at_upd nDT e, by rw [List.length_map, List.length_range]; exact small1000 (by omega), by omega, Same.mut (Same.new s nT) nD, ?_⟩
    rw [upd_same, List.range_succ, List.map_append]; rfl
theorem g_zip {K : PySem.W.Frag} {ta : TA} {R : It → Hp → Prop} (h : ta σ H fun vs H1 => ∃ a b xs ys, vs = [.ref a, .ref b] ∧ SqL K H1 a xs ∧ SqL K H1 b ys ∧ R (Itz K a b) H1) : iZip K ta σ H R := h
/-- while, by a word with its number -/
theorem whileW {c : TT} {tb : TS} {D : Ends} (Pv : Nat → L2.St → Hp → Prop) {m0 : Nat} (h0 : Pv m0 σ H)
    (hs : ∀ m σ H, Pv m σ H → c σ H fun b H1 => if b = true then ∃ N : L2.St → Hp → Prop, (∀ σ' H', N σ' H' → ∃ m', m' < m ∧ Pv m' σ' H') ∧ tb { D with nx := N, ct := N, bk := D.nx } σ H1 else D.nx σ H1) : tWhile c tb D σ H :=
  ⟨Pv, ⟨m0, h0⟩, hs⟩
theorem g_lst {t : TA} {Q : VK} (h : t σ H fun xs H1 => xs.length ≤ sizeLine ∧ ∀ p, H1 p = none → Q (.ref p) (upd H1 p (.lst xs))) : tLst t σ H Q := h
theorem g_tup {t : TA} {Q : VK} (h : t σ H fun xs H1 => xs.length ≤ sizeLine ∧ ∀ p, H1 p = none → Q (.ref p) (upd H1 p (.tup xs))) : tTup t σ H Q := h
theorem g_cut {t u : TS} {D : Ends} (Mid : L2.St → Hp → Prop) (h1 : t { D with nx := Mid } σ H) (h2 : ∀ σ' H', Mid σ' H' → u D σ' H') : C8.tCut t u D σ H := ⟨Mid, h1, h2⟩
theorem g_aug {i : Nat} {te : TE} {ti : TIp} {D : Ends} {x : V} (e : σ[i]? = some (some x)) (h : te σ H fun y H1 => ti x y H1 fun z H2 => D.nx (σ.set i (some z)) H2) : tAug i te ti D σ H := ⟨x, e, h⟩
theorem g_ite {b : Bool} {A B : Prop} (h1 : b = true → A) (h2 : b = false → B) : if b = true then A else B := by
  cases b
  · exact iteF (h2 rfl)
  · exact iteT (h1 rfl)
theorem g_itd {c : Prop} [Decidable c] {A B : Prop} (h1 : c → A) (h2 : ¬ c → B) : if decide c = true then A else B := by
  by_cases h : c
  · rw [decide_eq_true h]; exact iteT (h1 h)
  · rw [decide_eq_false h]; exact iteF (h2 h)
theorem g_itnd {c : Prop} [Decidable c] {A B : Prop} (h1 : ¬ c → A) (h2 : c → B) : if (!decide c) = true then A else B := by
  by_cases h : c
  · rw [decide_eq_true h]; exact iteF (h2 h)
  · rw [decide_eq_false h]; exact iteT (h1 h)
end
/-- len of a list or tuple -/
def rLenS (K : PySem.W.Frag) : List V → Hp → VK → Prop := fun xs H Q => ∃ p ys, xs = [.ref p] ∧ (SqL K H p ys ∨ SqT K H p ys) ∧ Q (.int ys.length) H
theorem call_lenS {X : Cx} : CallR X (.builtin "len") (rLenS X.K) := call_len_seq
theorem g_lenL {K : PySem.W.Frag} {H : Hp} {p : Addr} {ys : List V} {Q : VK} (h : SqL K H p ys) (q : Q (.int ys.length) H) : rLenS K [.ref p] H Q := ⟨_, _, rfl, .inl h, q⟩
/-- list(list or tuple) -/
def rListOf (K : PySem.W.Frag) : List V → Hp → VK → Prop := fun xs H Q => ∃ p ys, xs = [.ref p] ∧ (SqL K H p ys ∨ SqT K H p ys) ∧ ∀ l, H l = none → Q (.ref l) (upd H l (.lst ys))
theorem call_listS {X : Cx} : CallR X (.type "list") (rListOf X.K) := call_list_of
theorem g_listL {K : PySem.W.Frag} {H : Hp} {p : Addr} {ys : List V} {Q : VK} (h : SqL K H p ys) (q : ∀ l, H l = none → Q (.ref l) (upd H l (.lst ys))) : rListOf K [.ref p] H Q := ⟨_, _, rfl, .inl h, q⟩
/-- xs[i] read ahead of xs[i] op= e -/
def rGetL (K : PySem.W.Frag) : V → V → Hp → VK → Prop := fun x y H Q => ∃ p xs i v, x = .ref p ∧ y = .int i ∧ 0 ≤ i ∧ SqL K H p xs ∧ atI xs i = some v ∧ Q v H
theorem get_list {X : Cx} : PGet X (rGetL X.K) := by
  intro pins s σ H x y v u Q I rx ry h
  obtain ⟨p, xs, i, z, rfl, rfl, h0, hq, he, q⟩ := h
  cases rx
  obtain ⟨t, rfl⟩ := ry
  obtain ⟨its, r, pl, hz⟩ := I.list hq
  obtain ⟨j, h1, h2, h3, h4, h5⟩ := atI_get he
  obtain ⟨w, ew, rw'⟩ := r.get h2
  have hl := r.length
  have hj : i.toNat = j := by
    rw [seqIndex_of h0 h5] at h1
    exact Option.some.inj h1
  have hn := line63
  refine wpAny_getItem_list (x := w) pl.isList h0 (by omega) (by rw [hj]; simpa using ew) ⟨z, H, I, rw', q⟩
theorem g_augS {to ti te : TE} {tget : V → V → Hp → VK → Prop} {tip : TIp} {tset : TSet} {D : Ends} {σ : L2.St} {H : Hp}
    (h : to σ H fun o H1 => ti σ H1 fun i H2 => tget o i H2 fun x H3 => te σ H3 fun y H4 => tip x y H4 fun z H5 => tset o i z H5 fun H6 => D.nx σ H6) : tAugS to ti te tget tip tset D σ H := h
theorem g_getL {K : PySem.W.Frag} {H : Hp} {p : Addr} {xs : List V} {i : Int} {v : V} {Q : VK} (h0 : 0 ≤ i) (h : SqL K H p xs) (e : atI xs i = some v) (q : Q v H) : rGetL K (.ref p) (.int i) H Q := ⟨_, _, _, _, rfl, rfl, h0, h, e, q⟩
/-- kept but for a and b -/
def Kp2 (a b : Addr) (H H' : Hp) : Prop := ∀ c o, c ≠ a → c ≠ b → H c = some o → H' c = some o
theorem Kp2.refl (a b : Addr) (H : Hp) : Kp2 a b H H := fun _ _ _ _ h => h
theorem Kp2.trans {a b : Addr} {H H1 H2 : Hp} (x : Kp2 a b H H1) (y : Kp2 a b H1 H2) : Kp2 a b H H2 := fun c o h1 h2 e => y c o h1 h2 (x c o h1 h2 e)
theorem Kp2.at1 {a b : Addr} {H H1 : Hp} {o : HO} (x : Kp2 a b H H1) : Kp2 a b H (upd H1 a o) := fun c u h1 h2 e => at_upd h1 (x c u h1 h2 e)
theorem Kp2.at2 {a b : Addr} {H H1 : Hp} {o : HO} (x : Kp2 a b H H1) : Kp2 a b H (upd H1 b o) := fun c u h1 h2 e => at_upd h2 (x c u h1 h2 e)
theorem Kp2.new {a b p : Addr} {H H1 : Hp} {o : HO} (x : Kp2 a b H H1) (n : H1 p = none) : Kp2 a b H (upd H1 p o) := fun c u h1 h2 e => at_upd (ne_of_none (x c u h1 h2 e) n) (x c u h1 h2 e)
theorem Kp2.of_same {a b : Addr} {H H1 : Hp} (s : Same H H1) : Kp2 a b H H1 := fun c o _ _ e => s c o e
/-- the state of the takes: [turns, cells] at st, the cells at ce -/
def TSt (H : Hp) (st ce : Addr) : Prop := (∃ n : Int, H st = some (.lst [.int n, .ref ce])) ∧ ∃ cells : List Int, H ce = some (.lst (cells.map V.int)) ∧ 1 ≤ cells.length
theorem TSt.same {H H1 : Hp} {st ce : Addr} (S : TSt H st ce) (s : Same H H1) : TSt H1 st ce := by
  obtain ⟨⟨n, e1⟩, cells, e2, l⟩ := S
  exact ⟨⟨n, s _ _ e1⟩, cells, s _ _ e2, l⟩
theorem TSt.new {H : Hp} {st ce p : Addr} {o : HO} (S : TSt H st ce) (n : H p = none) : TSt (upd H p o) st ce := S.same (Same.new (Same.refl _) n)
theorem TSt.ne {H : Hp} {st ce p : Addr} (S : TSt H st ce) (n : H p = none) : p ≠ st ∧ p ≠ ce := by
  obtain ⟨⟨_, e1⟩, _, e2, _⟩ := S
  exact ⟨(ne_of_none e1 n).symm, (ne_of_none e2 n).symm⟩
theorem TSt.set {H : Hp} {st ce p : Addr} {o : HO} (S : TSt H st ce) (n : p ≠ st ∧ p ≠ ce) : TSt (upd H p o) st ce := by
  obtain ⟨⟨m, e1⟩, cells, e2, l⟩ := S
  exact ⟨⟨m, at_upd n.1.symm e1⟩, cells, at_upd n.2.symm e2, l⟩
/-- a test, what follows shown once -/
def tCutT (t : TT) : TT := fun σ H Q => ∃ M : Bool → Hp → Prop, t σ H M ∧ ∀ b H', M b H' → Q b H'
theorem pt_cutT {X : Cx} {e : Expr} {t : TT} (h : PT X e t) : PT X e (tCutT t) := ⟨fun pins s σ H Q I hq => by
  obtain ⟨M, h1, h2⟩ := hq
  exact thn (h.run pins s σ H M I h1) fun b s' ⟨H', I', q⟩ => ⟨H', I', h2 _ _ q⟩⟩
/-- an expression, what follows shown once -/
def tCutE (t : TE) : TE := fun σ H Q => ∃ M : VK, t σ H M ∧ ∀ b H', M b H' → Q b H'
theorem pe_cutE {X : Cx} {e : Expr} {t : TE} (h : PE X e t) : PE X e (tCutE t) := ⟨fun pins s σ H Q I hq => by
  obtain ⟨M, h1, h2⟩ := hq
  exact thn (h.run pins s σ H M I h1) fun u s' ⟨v, H', I', r, q⟩ => ⟨v, H', I', r, h2 _ _ q⟩⟩
/-- list(text) -/
theorem call_list_strV {X : Cx} (hc : X.calm = true) : CallR X (.type "list") (fun xs H Q => ∃ z : Str, xs = [.str z] ∧ z.length ≤ sizeLine ∧ ∀ l, H l = none → Q (.ref l) (upd H l (.lst (z.cps.toList.map fun c => V.str ⟨#[c]⟩)))) := by
  intro pins s σ H xs us Q I r h
  obtain ⟨z, rfl, hz, q⟩ := h
  obtain ⟨u, rfl, t, rfl⟩ := vals1 r
  refine PySem.call_list_str (I.ok.hd hc) z t (fun h' tk acc' c' hk e hi => ?_) hz
  refine ⟨.ref s.heap.objs.size, upd H s.heap.objs.size (.lst (z.cps.toList.map fun c => V.str ⟨#[c]⟩)), I.laid hk (Nat.le_refl _) (show ObjOk X.prog X.w _ _ _ (.lst (z.cps.toList.map fun c => V.str ⟨#[c]⟩)) from ⟨?_, acc'.toList, c', ?_, ?_⟩), rfl, q _ (I.hok.fresh (Nat.le_refl _))⟩
  · rw [List.length_map]; exact hz
  · refine vals_of_at (by rw [List.length_map, Array.length_toList, Array.length_toList, hi.1]) fun j x w h1 h2 => ?_
    obtain ⟨c, u, hcj, rfl⟩ := hi.2 j w (by rw [← Array.getElem?_toList]; exact h2)
    rw [List.getElem?_map, Array.getElem?_toList, hcj] at h1
    cases h1
    exact ⟨u, rfl⟩
  · exact e
end Go
namespace K62
/-! the mathematics: edit distances with costs -/
def m3 (a b c : Int) : Int := min (min a b) c
def likeC : List (List Nat) := [[98, 112], [99, 107, 113], [100, 116], [102, 118, 119], [105, 121], [109, 110], [115, 122]]
def turnP (c d : Nat) : Int := if likeC.any (fun g => decide (c ∈ g) && decide (d ∈ g)) then 1 else 2
def turnL (c d : Nat) : Int := if c = d then 0 else turnP c d
theorem turnP_ge (c d : Nat) : 1 ≤ turnP c d ∧ turnP c d ≤ 2 := by unfold turnP; split <;> omega
theorem turnL_ge (c d : Nat) : 0 ≤ turnL c d ∧ turnL c d ≤ 2 := by
  unfold turnL; have := turnP_ge c d; split <;> omega
theorem any_congr {α : Type} {l : List α} {f g : α → Bool} (h : ∀ x, f x = g x) : l.any f = l.any g := by
  induction l with
  | nil => rfl
  | cons a r ih => simp only [List.any_cons, h, ih]
theorem turnP_comm (c d : Nat) : turnP c d = turnP d c := by
  unfold turnP
  rw [any_congr fun g => Bool.and_comm _ _]
theorem turnL_comm (c d : Nat) : turnL c d = turnL d c := by
  unfold turnL
  by_cases h : c = d
  · subst h; rfl
  · rw [if_neg h, if_neg (fun e => h e.symm), turnP_comm]
/-- the distance, by the heads -/
def dd : List Nat → List Nat → Int
  | [], ys => 2 * (ys.length : Int)
  | x :: xs, [] => 2 * ((x :: xs).length : Int)
  | x :: xs, y :: ys => m3 (turnL x y + dd xs ys) (2 + dd xs (y :: ys)) (2 + dd (x :: xs) ys)
termination_by xs ys => xs.length + ys.length
theorem dd_nil (ys : List Nat) : dd [] ys = 2 * (ys.length : Int) := by unfold dd; rfl
theorem dd_nil' (xs : List Nat) : dd xs [] = 2 * (xs.length : Int) := by cases xs <;> simp [dd]
theorem dd_cons (x : Nat) (xs : List Nat) (y : Nat) (ys : List Nat) : dd (x :: xs) (y :: ys) = m3 (turnL x y + dd xs ys) (2 + dd xs (y :: ys)) (2 + dd (x :: xs) ys) := by rw [dd]
theorem dd_comm : ∀ (n : Nat) (xs ys : List Nat), xs.length + ys.length ≤ n → dd xs ys = dd ys xs
  | n, [], ys, _ => by rw [dd_nil, dd_nil']
  | n, x :: xs, [], _ => by rw [dd_nil, dd_nil']
  | 0, x :: xs, y :: ys, h => by simp at h
  | n + 1, x :: xs, y :: ys, h => by
    have h' : xs.length + ys.length + 2 ≤ n + 1 := by simp only [List.length_cons] at h; omega
    rw [dd_cons, dd_cons, dd_comm n xs ys (by omega), dd_comm n xs (y :: ys) (by simp only [List.length_cons]; omega), dd_comm n (x :: xs) ys (by simp only [List.length_cons]; omega), turnL_comm]
    unfold m3; omega
/-- an alignment of a cost -/
inductive Al : List Nat → List Nat → Int → Prop where
  | nil : Al [] [] 0
  | sub (x y : Nat) {xs ys : List Nat} {c : Int} : Al xs ys c → Al (x :: xs) (y :: ys) (turnL x y + c)
  | del (x : Nat) {xs ys : List Nat} {c : Int} : Al xs ys c → Al (x :: xs) ys (2 + c)
  | ins (y : Nat) {xs ys : List Nat} {c : Int} : Al xs ys c → Al xs (y :: ys) (2 + c)
theorem Al.ys : ∀ ys : List Nat, Al [] ys (2 * (ys.length : Int))
  | [] => .nil
  | y :: ys => by
    have := Al.ins y (Al.ys ys)
    have e : 2 * ((y :: ys).length : Int) = 2 + 2 * (ys.length : Int) := by simp only [List.length_cons]; omega
    rw [e]; exact this
theorem Al.xs : ∀ xs : List Nat, Al xs [] (2 * (xs.length : Int))
  | [] => .nil
  | x :: xs => by
    have := Al.del x (Al.xs xs)
    have e : 2 * ((x :: xs).length : Int) = 2 + 2 * (xs.length : Int) := by simp only [List.length_cons]; omega
    rw [e]; exact this
theorem m3_cases (a b c : Int) : m3 a b c = a ∨ m3 a b c = b ∨ m3 a b c = c := by unfold m3; omega
theorem Al.dd : ∀ (n : Nat) (xs ys : List Nat), xs.length + ys.length ≤ n → Al xs ys (dd xs ys)
  | n, [], ys, _ => by rw [dd_nil]; exact Al.ys ys
  | n, x :: xs, [], _ => by rw [dd_nil']; exact Al.xs _
  | 0, x :: xs, y :: ys, h => by simp at h
  | n + 1, x :: xs, y :: ys, h => by
    have h' : xs.length + ys.length + 2 ≤ n + 1 := by simp only [List.length_cons] at h; omega
    rw [dd_cons]
    rcases m3_cases (turnL x y + K62.dd xs ys) (2 + K62.dd xs (y :: ys)) (2 + K62.dd (x :: xs) ys) with e | e | e
    · rw [e]; exact .sub x y (Al.dd n xs ys (by omega))
    · rw [e]; exact .del x (Al.dd n xs (y :: ys) (by simp only [List.length_cons]; omega))
    · rw [e]; exact .ins y (Al.dd n (x :: xs) ys (by simp only [List.length_cons]; omega))
/-- a letter less costs at most two more -/
theorem dd_step : ∀ (n : Nat) (x : Nat) (xs ys : List Nat), xs.length + ys.length ≤ n → dd (x :: xs) ys ≤ 2 + dd xs ys
  | n, x, xs, [], _ => by
    rw [dd_nil', dd_nil']; simp only [List.length_cons]; omega
  | n, x, xs, y :: ys, _ => by
    rw [dd_cons]; unfold m3; omega
theorem Al.ge {xs ys : List Nat} {c : Int} (h : Al xs ys c) : K62.dd xs ys ≤ c := by
  induction h with
  | nil => rw [dd_nil]; simp
  | @sub x y xs ys c _ ih => rw [dd_cons]; unfold m3; omega
  | @del x xs ys c _ ih => have := dd_step _ x xs ys (Nat.le_refl _); omega
  | @ins y xs ys c _ ih =>
    have := dd_step _ y ys xs (Nat.le_refl _)
    rw [dd_comm _ _ _ (Nat.le_refl _)] at this ih ⊢
    rw [dd_comm _ xs _ (Nat.le_refl _)] at *
    omega
theorem Al.less {zs ys : List Nat} {c : Int} (h : Al zs ys c) : ∀ x xs, zs = x :: xs → ∃ c', c' ≤ 2 + c ∧ Al xs ys c' := by
  induction h with
  | nil => intro x xs e; cases e
  | @sub a b as bs c h ih =>
    intro x xs e; cases e
    refine ⟨2 + c, ?_, .ins b h⟩
    have := turnL_ge a b; omega
  | @del a as bs c h ih =>
    intro x xs e; cases e
    exact ⟨c, by omega, h⟩
  | @ins b as bs c h ih =>
    intro x xs e
    obtain ⟨c', h1, h2⟩ := ih x xs e
    exact ⟨2 + c', by omega, .ins b h2⟩
theorem dd_less (x : Nat) (xs ys : List Nat) : dd xs ys ≤ 2 + dd (x :: xs) ys := by
  obtain ⟨c', h1, h2⟩ := (Al.dd _ (x :: xs) ys (Nat.le_refl _)).less x xs rfl
  have := h2.ge
  omega
theorem dd_less' (y : Nat) (xs ys : List Nat) : dd xs ys ≤ 2 + dd xs (y :: ys) := by
  rw [dd_comm _ xs ys (Nat.le_refl _), dd_comm _ xs (y :: ys) (Nat.le_refl _)]
  exact dd_less y ys xs
theorem dd_same (x : Nat) (xs ys : List Nat) : dd (x :: xs) (x :: ys) = dd xs ys := by
  rw [dd_cons]
  have h1 := dd_less' x xs ys
  have h2 := dd_less x xs ys
  have h3 : turnL x x = 0 := by unfold turnL; simp
  unfold m3; omega
theorem dd_other {x y : Nat} (h : x ≠ y) (xs ys : List Nat) : dd (x :: xs) (y :: ys) = m3 (turnP x y + dd xs ys) (2 + dd xs (y :: ys)) (2 + dd (x :: xs) ys) := by
  rw [dd_cons]; unfold turnL; rw [if_neg h]
/-! the other way round -/
theorem Al.snoc_sub {xs ys : List Nat} {c : Int} (a b : Nat) (h : Al xs ys c) : Al (xs ++ [a]) (ys ++ [b]) (turnL a b + c) := by
  induction h with
  | nil => exact .sub a b .nil
  | @sub x y xs ys c h ih =>
    have e : turnL a b + (turnL x y + c) = turnL x y + (turnL a b + c) := by omega
    rw [e]; exact .sub x y ih
  | @del x xs ys c h ih =>
    have e : turnL a b + (2 + c) = 2 + (turnL a b + c) := by omega
    rw [e]; exact .del x ih
  | @ins y xs ys c h ih =>
    have e : turnL a b + (2 + c) = 2 + (turnL a b + c) := by omega
    rw [e]; exact .ins y ih
theorem Al.snoc_del {xs ys : List Nat} {c : Int} (a : Nat) (h : Al xs ys c) : Al (xs ++ [a]) ys (2 + c) := by
  induction h with
  | nil => exact .del a .nil
  | @sub x y xs ys c h ih =>
    have e : 2 + (turnL x y + c) = turnL x y + (2 + c) := by omega
    rw [e]; exact .sub x y ih
  | @del x xs ys c h ih => exact .del x ih
  | @ins y xs ys c h ih => exact .ins y ih
theorem Al.snoc_ins {xs ys : List Nat} {c : Int} (b : Nat) (h : Al xs ys c) : Al xs (ys ++ [b]) (2 + c) := by
  induction h with
  | nil => exact .ins b .nil
  | @sub x y xs ys c h ih =>
    have e : 2 + (turnL x y + c) = turnL x y + (2 + c) := by omega
    rw [e]; exact .sub x y ih
  | @del x xs ys c h ih => exact .del x ih
  | @ins y xs ys c h ih => exact .ins y ih
theorem Al.rev {xs ys : List Nat} {c : Int} (h : Al xs ys c) : Al xs.reverse ys.reverse c := by
  induction h with
  | nil => exact .nil
  | @sub x y xs ys c h ih => rw [List.reverse_cons, List.reverse_cons]; exact ih.snoc_sub x y
  | @del x xs ys c h ih => rw [List.reverse_cons]; exact ih.snoc_del x
  | @ins y xs ys c h ih => rw [List.reverse_cons]; exact ih.snoc_ins y
theorem dd_rev_le (xs ys : List Nat) : dd xs.reverse ys.reverse ≤ dd xs ys := (Al.dd _ xs ys (Nat.le_refl _)).rev.ge
theorem dd_rev (xs ys : List Nat) : dd xs.reverse ys.reverse = dd xs ys := by
  have h1 := dd_rev_le xs ys
  have h2 := dd_rev_le xs.reverse ys.reverse
  rw [List.reverse_reverse, List.reverse_reverse] at h2
  omega
theorem dd_bounds : ∀ (n : Nat) (xs ys : List Nat), xs.length + ys.length ≤ n → 0 ≤ dd xs ys ∧ dd xs ys ≤ 2 * ((xs.length : Int) + ys.length)
  | n, [], ys, _ => by rw [dd_nil]; simp only [List.length_nil]; omega
  | n, x :: xs, [], _ => by rw [dd_nil']; simp only [List.length_nil]; omega
  | 0, x :: xs, y :: ys, h => by simp at h
  | n + 1, x :: xs, y :: ys, h => by
    have h' : xs.length + ys.length + 2 ≤ n + 1 := by simp only [List.length_cons] at h; omega
    have a := dd_bounds n xs ys (by omega)
    have b := dd_bounds n xs (y :: ys) (by simp only [List.length_cons]; omega)
    have c := dd_bounds n (x :: xs) ys (by simp only [List.length_cons]; omega)
    have t := turnL_ge x y
    rw [dd_cons]
    simp only [List.length_cons] at *
    unfold m3; omega
/-- the prefixes' distances: a row's next -/
def pre (a b : List Nat) (i j : Nat) : Int := dd (a.take i).reverse (b.take j).reverse
theorem take_rev {a : List Nat} {i : Nat} (h : i < a.length) : (a.take (i + 1)).reverse = a[i] :: (a.take i).reverse := by
  rw [List.take_succ_eq_append_getElem h, List.reverse_append]; rfl
theorem pre_step {a b : List Nat} {i j : Nat} (hi : i < a.length) (hj : j < b.length) :
    pre a b (i + 1) (j + 1) = m3 (pre a b i j + turnL a[i] b[j]) (pre a b i (j + 1) + 2) (pre a b (i + 1) j + 2) := by
  unfold pre
  rw [take_rev hi, take_rev hj, dd_cons]
  unfold m3; omega
theorem pre_zero (a b : List Nat) {j : Nat} (h : j ≤ b.length) : pre a b 0 j = 2 * (j : Int) := by
  unfold pre
  rw [List.take_zero, List.reverse_nil, dd_nil, List.length_reverse, List.length_take, Nat.min_eq_left h]
theorem pre_zero' (a b : List Nat) {i : Nat} (h : i ≤ a.length) : pre a b i 0 = 2 * (i : Int) := by
  unfold pre
  rw [List.take_zero, List.reverse_nil, dd_nil', List.length_reverse, List.length_take, Nat.min_eq_left h]
theorem pre_all (a b : List Nat) : pre a b a.length b.length = dd a b := by
  unfold pre
  rw [List.take_length, List.take_length, dd_rev]
/-- the suffixes' distances -/
def suf (a b : List Nat) (i j : Nat) : Int := dd (a.drop i) (b.drop j)
theorem suf_end {a b : List Nat} {j : Nat} (h : j ≤ b.length) : suf a b a.length j = 2 * ((b.length : Int) - j) := by
  unfold suf
  rw [List.drop_length, dd_nil, List.length_drop]; omega
theorem suf_end' {a b : List Nat} {i : Nat} (h : i ≤ a.length) : suf a b i b.length = 2 * ((a.length : Int) - i) := by
  unfold suf
  rw [List.drop_length, dd_nil', List.length_drop]; omega
theorem suf_same {a b : List Nat} {i j : Nat} (hi : i < a.length) (hj : j < b.length) (e : a[i] = b[j]) : suf a b i j = suf a b (i + 1) (j + 1) := by
  unfold suf
  rw [List.drop_eq_getElem_cons hi, List.drop_eq_getElem_cons hj, e, dd_same]
theorem suf_other {a b : List Nat} {i j : Nat} (hi : i < a.length) (hj : j < b.length) (e : a[i] ≠ b[j]) :
    suf a b i j = m3 (turnP a[i] b[j] + suf a b (i + 1) (j + 1)) (2 + suf a b (i + 1) j) (2 + suf a b i (j + 1)) := by
  unfold suf
  rw [List.drop_eq_getElem_cons hi, List.drop_eq_getElem_cons hj, dd_other e]
def signsC : List Nat := [97, 98, 99, 100, 101, 102, 103, 104, 105, 106, 99, 108, 109, 109, 111, 98, 99, 114, 115, 100, 117, 102, 102, 120, 105, 115]
theorem signs_all : ∀ c : _root_.Fin 26, ∀ d : _root_.Fin 26, turnL (97 + c.val) (97 + d.val) = (if c = d then 0 else if signsC[c.val]? = signsC[d.val]? then 1 else 2) := by decide +kernel
end K62

namespace K62
open PySem PySem.Spec PyProof.Rows L2 Go
def topS (i : Nat) : Stmt := PySem.Challenge.pw_everycoin_k62_gaps_of_names.main.body.getD i (.Pass ⟨0, 0, 0, 0⟩)
def likeS : List Str := ["bp", "ckq", "dt", "fvw", "iy", "mn", "sz"]
abbrev s_turn_cost : Stmt := topS 4
theorem sc_turn_cost : FnScope ["one", "other", "group"] ["one", "other"] (defScope s_turn_cost) := ⟨rfl, rfl, rfl, by decide +kernel, rfl, by decide +kernel, by decide +kernel⟩
abbrev s_bound : Stmt := topS 7
theorem sc_bound : FnScope ["entry", "word"] ["entry"] (defScope s_bound) := ⟨rfl, rfl, rfl, by decide +kernel, rfl, by decide +kernel, by decide +kernel⟩
abbrev s__law_draw : Stmt := topS 12
theorem sc__law_draw : FnScope ["state", "script", "size", "cell", "mixed", "digit"] ["state", "script", "size"] (defScope s__law_draw) := ⟨rfl, rfl, rfl, by decide +kernel, rfl, by decide +kernel, by decide +kernel⟩
abbrev s__law_turn : Stmt := topS 16
theorem sc__law_turn : FnScope ["one", "other", "signs"] ["one", "other"] (defScope s__law_turn) := ⟨rfl, rfl, rfl, by decide +kernel, rfl, by decide +kernel, by decide +kernel⟩
abbrev s__law_bound : Stmt := topS 20
theorem sc__law_bound : FnScope ["entry", "word"] ["entry"] (defScope s__law_bound) := ⟨rfl, rfl, rfl, by decide +kernel, rfl, by decide +kernel, by decide +kernel⟩
abbrev s_table : Stmt := topS 5
theorem sc_table : FnScope ["one", "other", "rows", "_", "i", "j", "turned"] ["one", "other"] (defScope s_table) := ⟨rfl, rfl, rfl, by decide +kernel, rfl, by decide +kernel, by decide +kernel⟩
abbrev s__law_pick : Stmt := topS 13
theorem sc__law_pick : FnScope ["state", "script", "items"] ["state", "script", "items"] (defScope s__law_pick) := ⟨rfl, rfl, rfl, by decide +kernel, rfl, by decide +kernel, by decide +kernel⟩
abbrev s__law_word : Stmt := topS 14
theorem sc__law_word : FnScope ["state", "script", "word", "_"] ["state", "script"] (defScope s__law_word) := ⟨rfl, rfl, rfl, by decide +kernel, rfl, by decide +kernel, by decide +kernel⟩
abbrev s__law_distance : Stmt := topS 17
theorem sc__law_distance : FnScope ["one", "other", "before", "j", "i", "row"] ["one", "other"] (defScope s__law_distance) := ⟨rfl, rfl, rfl, by decide +kernel, rfl, by decide +kernel, by decide +kernel⟩
abbrev s_distance : Stmt := topS 6
theorem sc_distance : FnScope ["one", "other"] ["one", "other"] (defScope s_distance) := ⟨rfl, rfl, rfl, by decide +kernel, rfl, by decide +kernel, by decide +kernel⟩
abbrev s__law_close : Stmt := topS 15
theorem sc__law_close : FnScope ["state", "script", "word", "groups", "_", "at", "kind", "letter", "like", "group"] ["state", "script", "word"] (defScope s__law_close) := ⟨rfl, rfl, rfl, by decide +kernel, rfl, by decide +kernel, by decide +kernel⟩
abbrev s__law_far : Stmt := topS 19
theorem sc__law_far : FnScope ["name", "entry", "other", "one"] ["name", "entry"] (defScope s__law_far) := ⟨rfl, rfl, rfl, by decide +kernel, rfl, by decide +kernel, by decide +kernel⟩
abbrev s_distances : Stmt := topS 9
theorem sc_distances : FnScope ["name", "entry", "other", "one"] ["name", "entry"] (defScope s_distances) := ⟨rfl, rfl, rfl, by decide +kernel, rfl, by decide +kernel, by decide +kernel⟩
abbrev s__law_pair : Stmt := topS 21
theorem sc__law_pair : FnScope ["state", "script", "entry", "_", "left", "word", "name"] ["state", "script"] (defScope s__law_pair) := ⟨rfl, rfl, rfl, by decide +kernel, rfl, by decide +kernel, by decide +kernel⟩
abbrev s_cheapest : Stmt := topS 8
theorem sc_cheapest : FnScope ["far", "i", "free", "best", "pairs", "j", "cost", "more", "k"] ["far", "i", "free"] (defScope s_cheapest) := ⟨rfl, rfl, rfl, by decide +kernel, rfl, by decide +kernel, by decide +kernel⟩
abbrev s__law_gap : Stmt := topS 18
theorem sc__law_gap : FnScope ["far", "i", "free", "best", "j", "k"] ["far", "i", "free"] (defScope s__law_gap) := ⟨rfl, rfl, rfl, by decide +kernel, rfl, by decide +kernel, by decide +kernel⟩
abbrev s_gap : Stmt := topS 10
theorem sc_gap : FnScope ["name", "entry"] ["name", "entry"] (defScope s_gap) := ⟨rfl, rfl, rfl, by decide +kernel, rfl, by decide +kernel, by decide +kernel⟩
abbrev s_law : Stmt := topS 22
theorem sc_law : FnScope ["script", "state", "_", "name", "entry", "due"] ["script"] (defScope s_law) := ⟨rfl, rfl, rfl, by decide +kernel, rfl, by decide +kernel, by decide +kernel⟩
/-- what the top has left -/
structure Txt (K : PySem.W.Frag) (mg : Str → Option Value) where
  a_turn_cost : Addr
  fd_turn_cost : FuncData
  F_turn_cost : Fun K "turn_cost" "turn_cost" s_turn_cost a_turn_cost fd_turn_cost
  b_turn_cost : Binds K fd_turn_cost ["one", "other"] []
  g_turn_cost : mg "turn_cost" = some (.ref a_turn_cost)
  a_bound : Addr
  fd_bound : FuncData
  F_bound : Fun K "bound" "bound" s_bound a_bound fd_bound
  b_bound : Binds K fd_bound ["entry"] []
  g_bound : mg "bound" = some (.ref a_bound)
  a__law_draw : Addr
  fd__law_draw : FuncData
  F__law_draw : Fun K "_law_draw" "_law_draw" s__law_draw a__law_draw fd__law_draw
  b__law_draw : Binds K fd__law_draw ["state", "script", "size"] []
  g__law_draw : mg "_law_draw" = some (.ref a__law_draw)
  a__law_turn : Addr
  fd__law_turn : FuncData
  F__law_turn : Fun K "_law_turn" "_law_turn" s__law_turn a__law_turn fd__law_turn
  b__law_turn : Binds K fd__law_turn ["one", "other"] []
  g__law_turn : mg "_law_turn" = some (.ref a__law_turn)
  a__law_bound : Addr
  fd__law_bound : FuncData
  F__law_bound : Fun K "_law_bound" "_law_bound" s__law_bound a__law_bound fd__law_bound
  b__law_bound : Binds K fd__law_bound ["entry"] []
  g__law_bound : mg "_law_bound" = some (.ref a__law_bound)
  a_table : Addr
  fd_table : FuncData
  F_table : Fun K "table" "table" s_table a_table fd_table
  b_table : Binds K fd_table ["one", "other"] []
  g_table : mg "table" = some (.ref a_table)
  a__law_pick : Addr
  fd__law_pick : FuncData
  F__law_pick : Fun K "_law_pick" "_law_pick" s__law_pick a__law_pick fd__law_pick
  b__law_pick : Binds K fd__law_pick ["state", "script", "items"] []
  g__law_pick : mg "_law_pick" = some (.ref a__law_pick)
  a__law_word : Addr
  fd__law_word : FuncData
  F__law_word : Fun K "_law_word" "_law_word" s__law_word a__law_word fd__law_word
  b__law_word : Binds K fd__law_word ["state", "script"] []
  g__law_word : mg "_law_word" = some (.ref a__law_word)
  a__law_distance : Addr
  fd__law_distance : FuncData
  F__law_distance : Fun K "_law_distance" "_law_distance" s__law_distance a__law_distance fd__law_distance
  b__law_distance : Binds K fd__law_distance ["one", "other"] []
  g__law_distance : mg "_law_distance" = some (.ref a__law_distance)
  a_distance : Addr
  fd_distance : FuncData
  F_distance : Fun K "distance" "distance" s_distance a_distance fd_distance
  b_distance : Binds K fd_distance ["one", "other"] []
  g_distance : mg "distance" = some (.ref a_distance)
  a__law_close : Addr
  fd__law_close : FuncData
  F__law_close : Fun K "_law_close" "_law_close" s__law_close a__law_close fd__law_close
  b__law_close : Binds K fd__law_close ["state", "script", "word"] []
  g__law_close : mg "_law_close" = some (.ref a__law_close)
  a__law_far : Addr
  fd__law_far : FuncData
  F__law_far : Fun K "_law_far" "_law_far" s__law_far a__law_far fd__law_far
  b__law_far : Binds K fd__law_far ["name", "entry"] []
  g__law_far : mg "_law_far" = some (.ref a__law_far)
  a_distances : Addr
  fd_distances : FuncData
  F_distances : Fun K "distances" "distances" s_distances a_distances fd_distances
  b_distances : Binds K fd_distances ["name", "entry"] []
  g_distances : mg "distances" = some (.ref a_distances)
  a__law_pair : Addr
  fd__law_pair : FuncData
  F__law_pair : Fun K "_law_pair" "_law_pair" s__law_pair a__law_pair fd__law_pair
  b__law_pair : Binds K fd__law_pair ["state", "script"] []
  g__law_pair : mg "_law_pair" = some (.ref a__law_pair)
  a_cheapest : Addr
  fd_cheapest : FuncData
  F_cheapest : Fun K "cheapest" "cheapest" s_cheapest a_cheapest fd_cheapest
  b_cheapest : Binds K fd_cheapest ["far", "i", "free"] []
  g_cheapest : mg "cheapest" = some (.ref a_cheapest)
  a__law_gap : Addr
  fd__law_gap : FuncData
  F__law_gap : Fun K "_law_gap" "_law_gap" s__law_gap a__law_gap fd__law_gap
  b__law_gap : Binds K fd__law_gap ["far", "i", "free"] []
  g__law_gap : mg "_law_gap" = some (.ref a__law_gap)
  a_gap : Addr
  fd_gap : FuncData
  F_gap : Fun K "gap" "gap" s_gap a_gap fd_gap
  b_gap : Binds K fd_gap ["name", "entry"] []
  g_gap : mg "gap" = some (.ref a_gap)
  a_law : Addr
  fd_law : FuncData
  F_law : Fun K "law" "law" s_law a_law fd_law
  b_law : Binds K fd_law ["script"] []
  g_law : mg "law" = some (.ref a_law)
  n_int : mg "int" = none
  n_len : mg "len" = none
  n_list : mg "list" = none
  n_min : mg "min" = none
  n_ord : mg "ord" = none
  n_range : mg "range" = none
  n_repr : mg "repr" = none
  n_sum : mg "sum" = none
  n_tuple : mg "tuple" = none
  t_ALONE : Tok
  m_ALONE : mg "ALONE" = some (.int 3 t_ALONE)
  t_FURTHEST : Tok
  m_FURTHEST : mg "FURTHEST" = some (.int 4 t_FURTHEST)
  a_LIKE : Addr
  m_LIKE : mg "LIKE" = some (.ref a_LIKE)
  t_LIKE : ∀ H, SqT K H a_LIKE (likeS.map V.str)

end K62

namespace K62
open PySem PySem.Spec PyProof.Rows L2 Go
def mkS (w : List Nat) : Str := ⟨w.toArray⟩
theorem mkS_len (w : List Nat) : (mkS w).length = w.length := by simp [mkS, Str.length]
theorem mkS_list (w : List Nat) : (mkS w).cps.toList = w := by simp [mkS]
theorem mkS_app (a b : List Nat) : mkS a ++ mkS b = mkS (a ++ b) := by
  show Str.append (mkS a) (mkS b) = mkS (a ++ b)
  simp [mkS, Str.append]
theorem cut_lo {w : List Nat} {i : Int} (h : 0 ≤ i) : cutS (mkS w) none (some i) = mkS (w.take i.toNat) := by
  obtain ⟨k, rfl⟩ := Int.eq_ofNat_of_zero_le h
  unfold cutS
  rw [HT.sIx_none, mkS_list, mkS_len]
  rw [show HT.sIx w.length w.length (some (k : Int)) = min k w.length from HT.sIx_nat _ _ _]
  show (⟨_⟩ : Str) = ⟨_⟩
  congr 2
  simp [List.take_eq_take_iff]
theorem cut_hi {w : List Nat} {i : Int} (h : 0 ≤ i) : cutS (mkS w) (some i) none = mkS (w.drop i.toNat) := by
  obtain ⟨k, rfl⟩ := Int.eq_ofNat_of_zero_le h
  unfold cutS
  rw [HT.sIx_none, mkS_list, mkS_len]
  rw [show HT.sIx w.length 0 (some (k : Int)) = min k w.length from HT.sIx_nat _ _ _]
  show (⟨_⟩ : Str) = ⟨_⟩
  congr 2
  by_cases hk : k ≤ w.length
  · rw [Nat.min_eq_left hk]
    rw [List.take_of_length_le (by rw [List.length_drop]; omega)]
    rfl
  · rw [Nat.min_eq_right (by omega)]
    simp
    omega
def alphaC : List Nat := (List.range 26).map (97 + ·)
theorem alpha_eq : ("abcdefghijklmnopqrstuvwxyz" : Str) = mkS alphaC := by decide +kernel
theorem signs_eq : ("abcdefghijclmmobcrsduffxis" : Str) = mkS signsC := by decide +kernel
theorem like_eq : likeS = likeC.map mkS := by decide +kernel
/-- the words of the law -/
def Let (c : Nat) : Prop := 97 ≤ c ∧ c ≤ 122
def Wd (w : List Nat) : Prop := 1 ≤ w.length ∧ w.length ≤ 12 ∧ ∀ c ∈ w, Let c
theorem alpha_at {i : Int} (h : 0 ≤ i) (h2 : i < 26) : atI alphaC i = some (97 + i.toNat) := by
  obtain ⟨k, rfl⟩ := Int.eq_ofNat_of_zero_le h
  refine atI_nat ?_
  unfold alphaC
  rw [List.getElem?_map, List.getElem?_range (by omega)]
  rfl
theorem sz {n : Nat} (h : n ≤ 1000) : n ≤ sizeLine := Nat.le_trans h (by decide)
end K62

namespace K62
open PySem PySem.Spec PyProof.Rows L2 Go
set_option maxHeartbeats 8000000
local macro_rules | `(tactic| walk_at "ne") => `(tactic| first
  | assumption
  | (refine Ne.symm ?_; assumption)
  | exact (Go.free_upd (by assumption)).2
  | exact (Go.free_upd (by assumption)).2.symm
  | exact Go.ne_fr (by assumption) (by walk_at "hp")
  | exact (Go.ne_fr (by assumption) (by walk_at "hp")).symm)
local macro_rules | `(tactic| walk_at "fr") => `(tactic| first
  | assumption
  | exact (Go.free_upd (by assumption)).1
  | exact (Go.free_upd (Go.free_upd (by assumption)).1).1
  | exact Same.free (by assumption) (by walk_at "fr"))
local macro_rules | `(tactic| walk_at "hp") => `(tactic| first
  | assumption
  | with_reducible exact upd_same
  | ((with_reducible show upd _ _ _ _ = _); exact Go.at_upd (by walk_at "ne") (by walk_at "hp"))
  | exact (by assumption : Same _ _) _ _ (by walk_at "hp")
  | exact (by assumption : Go.Kp _ _ _) _ _ (by walk_at "ne") (by walk_at "hp")
  | exact (by assumption : Go.Kp2 _ _ _ _) _ _ (by walk_at "ne") (by walk_at "ne") (by walk_at "hp"))
local macro_rules | `(tactic| walk_at "sq") => `(tactic| first
  | assumption
  | ((with_reducible show SqL _ (upd _ _ _) _ _); exact (by assumption : ∀ o, SqL _ (upd _ _ o) _ _) _)
  | ((with_reducible show SqL _ _ _ _); exact SqL.of (by walk_at "hp"))
  | ((with_reducible show SqT _ _ _ _); exact SqT.of (by walk_at "hp"))
  | ((with_reducible show SqL _ (upd _ _ _) _ _); exact Go.sqL_new (by walk_at "fr") (by walk_at "sq"))
  | ((with_reducible show SqT _ (upd _ _ _) _ _); exact Go.sqT_new (by walk_at "fr") (by walk_at "sq"))
  | ((with_reducible show SqL _ (upd _ _ _) _ _); exact Go.sqL_ne (by walk_at "ne") (by walk_at "sq"))
  | exact Go.sqL_same (by assumption) (by walk_at "sq")
  | exact Go.sqT_same (by assumption) (by walk_at "sq")
  | exact Go.sqL_kp (by assumption) (by walk_at "ne") (by walk_at "sq")
  | exact Go.sqT_kp (by assumption) (by walk_at "ne") (by walk_at "sq"))
local macro_rules | `(tactic| walk_at "ci") => `(tactic| first
  | exact .inr ⟨by decide, by decide⟩
  | exact .inl ⟨by decide, by decide⟩
  | exact ⟨by decide, by decide, by decide⟩
  | decide
  | omega
  | exact ⟨by omega, by omega⟩
  | exact .inl ⟨by omega, by omega⟩
  | exact .inr ⟨by omega, by omega⟩)
local macro_rules | `(tactic| walk_at "g0") => `(tactic| first
  | with_reducible refine Go.g_seq ?_
  | ((with_reducible show tVar _ _ _ _); refine ⟨_, rfl, ?_⟩)
  | with_reducible refine Go.g_c ?_
  | with_reducible refine Go.g_op ?_
  | with_reducible refine Go.g_asg ?_
  | with_reducible refine Go.g_name ?_
  | with_reducible refine Go.g_cons ?_
  | with_reducible refine Go.g_lst ?_
  | with_reducible refine Go.g_tup ?_
  | with_reducible refine Go.g_for ?_
  | with_reducible refine Go.g_rng1 ?_
  | with_reducible refine Go.g_rng2 ?_
  | with_reducible refine Go.g_rng3 ?_
  | with_reducible refine Go.g_list ?_
  | with_reducible refine Go.g_itup ?_
  | with_reducible refine Go.g_enum ?_
  | ((with_reducible show tPar _ _ _ _ _ _); unfold tPar)
  | ((with_reducible show ∃ v w, [_, _] = [v, w] ∧ _); refine ⟨_, _, rfl, ?_⟩)
  | with_reducible refine Go.g_zip ?_
  | with_reducible refine Go.g_augS ?_
  | with_reducible refine Go.g_lc ?_
  | with_reducible refine Go.g_nil ?_
  | with_reducible refine Go.g_cb ?_
  | with_reducible refine Go.g_call ?_
  | with_reducible refine Go.g_ret ?_
  | with_reducible refine Go.g_next ?_
  | with_reducible refine Go.g_drop ?_
  | with_reducible refine Go.g_un ?_
  | with_reducible refine Go.g_test ?_
  | with_reducible refine Go.g_tB ?_
  | with_reducible refine Go.g_ifs ?_
  | with_reducible refine Go.g_if ?_
  | with_reducible refine Go.g_and ?_
  | with_reducible refine Go.g_or ?_
  | with_reducible refine Go.g_not ?_
  | with_reducible refine Go.g_sl ?_
  | with_reducible refine Go.g_nopart ?_
  | with_reducible refine Go.g_part ?_
  | ((with_reducible show ∃ k, V.bl _ = V.bl k ∧ _); refine ⟨_, rfl, ?_⟩)
  | ((with_reducible show ∃ k, V.int _ = V.int k ∧ _); refine ⟨_, rfl, ?_⟩)
  | with_reducible refine Go.g_bm ?_
  | with_reducible refine Go.g_yes ?_
  | ((with_reducible show rI0 _ _ _ _ _); refine ⟨_, _, rfl, rfl, ?_⟩)
  | ((with_reducible show rI _ _ _ _ _ _); refine ⟨_, _, rfl, rfl, ?_, ?_⟩; (focus walk_at "ci"))
  | ((with_reducible show rU _ _ _ _); refine ⟨_, rfl, ?_⟩)
  | ((with_reducible show rEq _ _ _ _); refine ⟨rfl, ?_⟩)
  | ((with_reducible show rNe _ _ _ _); refine ⟨rfl, ?_⟩)
  | ((with_reducible show rIxL _ _ _ _ _); refine Go.g_ixL (by walk_at "sq") (by rfl) ?_)
  | ((with_reducible show rIxT _ _ _ _ _); refine Go.g_ixT (by walk_at "sq") (by rfl) ?_)
  | ((with_reducible show rSetL _ _ _ _ _); refine Go.g_setL (by walk_at "hp") (by rfl) ?_)
  | ((with_reducible show ∃ p ys, [V.ref _] = [V.ref p] ∧ (SqL _ _ _ _ ∨ SqT _ _ _ _) ∧ _); refine ⟨_, _, rfl, .inl (by walk_at "sq"), ?_⟩)
  | ((with_reducible show (∃ i, [V.int _] = [V.int i] ∧ _) ∨ _); refine .inl ⟨_, rfl, ?_⟩)
  | ((with_reducible show ∃ (c : Nat) (z : Str), V.str _ = V.str ⟨#[c]⟩ ∧ V.str _ = V.str z ∧ _); refine ⟨_, _, rfl, rfl, ?_⟩)
  | ((with_reducible show ∃ x : Str, [V.str _] = [V.str x] ∧ Str.length x = 1 ∧ _); refine ⟨_, rfl, rfl, ?_⟩)
  | ((with_reducible show ∃ z : Str, [V.str _] = [V.str z] ∧ Str.length z ≤ sizeLine ∧ _); refine ⟨_, rfl, by assumption, ?_⟩)
  | ((with_reducible show rSlS _ _ _ _ _); refine ⟨_, rfl, by assumption, ?_⟩)
  | ((with_reducible show gTup _ _ _ _ _ _ _); refine Go.g_gtup (by walk_at "sq") (by rfl) ?_)
  | ((with_reducible show gCons _ _ _ _ _ _); refine ⟨_, _, rfl, ?_⟩)
  | ((with_reducible show gNil _ _ _ _); refine ⟨rfl, ?_⟩)
  | ((with_reducible show rLenS _ _ _ _); refine Go.g_lenL (by walk_at "sq") ?_)
  | ((with_reducible show rListOf _ _ _ _); refine Go.g_listL (by walk_at "sq") ?_)
  | ((with_reducible show wipe _ _ = wipe _ _ ∧ _); refine ⟨rfl, ?_⟩)
  | ((with_reducible show if true = true then _ else _); refine iteT ?_)
  | ((with_reducible show if false = true then _ else _); refine iteF ?_)
  | ((with_reducible show ∃ a b xs ys, [V.ref _, V.ref _] = [V.ref a, V.ref b] ∧ SqL _ _ a xs ∧ SqL _ _ b ys ∧ _); refine ⟨_, _, _, _, rfl, by walk_at "sq", by walk_at "sq", ?_⟩)
  | ((with_reducible show ∃ a xs, [V.ref _] = [V.ref a] ∧ SqL _ _ a xs ∧ _); refine ⟨_, _, rfl, by walk_at "sq", ?_⟩)
  | ((with_reducible show ∃ a, V.ref _ = V.ref a ∧ (∃ xs, SqL _ _ a xs) ∧ _); refine ⟨_, rfl, ⟨_, by walk_at "sq"⟩, ?_⟩)
  | ((with_reducible show ∃ a, V.ref _ = V.ref a ∧ (∃ xs, SqT _ _ a xs) ∧ _); refine ⟨_, rfl, ⟨_, by walk_at "sq"⟩, ?_⟩)
  | ((with_reducible show ∃ j : Int, [V.int _] = [V.int j] ∧ _ ≤ j ∧ j < _ ∧ _); refine ⟨_, rfl, by omega, by omega, ?_⟩)
  | ((with_reducible show ∃ i j : Int, [V.int _, V.int _] = [V.int i, V.int j] ∧ (_ ≤ i ∧ i < _ ∧ _ ≤ j ∧ j < _) ∧ _); refine ⟨_, _, rfl, ⟨by omega, by omega, by omega, by omega⟩, ?_⟩)
  | ((with_reducible show ∃ i j : Int, [V.int _, V.int _] = [V.int i, V.int j] ∧ _); refine ⟨_, _, rfl, ?_⟩)
  | ((with_reducible show ∃ i : Int, [V.int _] = [V.int i] ∧ _); refine ⟨_, rfl, ?_⟩)
  | ((with_reducible show _ ≤ sizeLine ∧ _); refine ⟨by first | decide | (simp only [List.length_cons, List.length_nil]; decide), ?_⟩))
local macro_rules | `(tactic| walk_at "g1") => `(tactic| first | walk_at "g0" | with_reducible refine Go.g_sub ?_)
local macro_rules | `(tactic| walk_at "g") => `(tactic| repeat walk_at "g1")
local macro_rules | `(tactic| walk_at "v") => `(tactic| repeat walk_at "g0")
local macro_rules | `(tactic| walk_at "if") => `(tactic| first
  | with_reducible refine @Go.g_itd _ _ _ _ ?_ ?_
  | with_reducible refine @Go.g_itnd _ _ _ _ ?_ ?_
  | with_reducible refine Go.g_ite ?_ ?_)

section
variable {P : Program} {w : World} {K : PySem.W.Frag} {mg : Str → Option Value} {base : Heap}
def St (K : PySem.W.Frag) (H : Hp) (st sc : Addr) (ns : List Int) : Prop :=
  (∃ n s : Int, H st = some (.lst [.int n, .int s])) ∧ (∀ H', Kp st H H' → SqL K H' sc (ns.map V.int)) ∧ ns.length ≤ 63
theorem St.ne {K : PySem.W.Frag} {H : Hp} {st sc l : Addr} {ns : List Int} (S : St K H st sc ns) (h : H l = none) : l ≠ st := by
  obtain ⟨⟨n, s, e⟩, _⟩ := S
  exact (ne_of_none e h).symm
theorem St.new {K : PySem.W.Frag} {H : Hp} {st sc l : Addr} {ns : List Int} {o : HO} (S : St K H st sc ns) (h : H l = none) : St K (upd H l o) st sc ns := by
  have hl := S.ne h
  obtain ⟨⟨n, s, e⟩, h1, h3⟩ := S
  exact ⟨⟨n, s, at_upd hl.symm e⟩, fun H' k => h1 _ ((Kp.new (Kp.refl _ _) h).trans k), h3⟩
theorem St.same {K : PySem.W.Frag} {H H1 : Hp} {st sc : Addr} {ns : List Int} (S : St K H st sc ns) (s : Same H H1) : St K H1 st sc ns := by
  obtain ⟨⟨n, x, e⟩, h1, h3⟩ := S
  exact ⟨⟨n, x, s _ _ e⟩, fun H' k => h1 _ ((Kp.of_same s).trans k), h3⟩
def sp__law_draw (K : PySem.W.Frag) : Sp := fun vs H Q _ => ∃ (st sc : Addr) (ns : List Int) (size : Int), vs = [.ref st, .ref sc, .int size] ∧ St K H st sc ns ∧
  1 ≤ size ∧ size < 1000000 ∧ ∀ H' d, Kp st H H' → St K H' st sc ns → 0 ≤ d → d < size → Q (.int d) H'
theorem ok__law_draw (T : Txt K mg) : FnOk P w K mg base CX0 1 T.a__law_draw T.fd__law_draw ["state", "script", "size"] (sp__law_draw K) := by
  refine T.F__law_draw.ok sc__law_draw (fun vs H Q E h => ?_) (fun cdv A outer s H vs Q E hr h => ?_)
  · obtain ⟨st, sc, ns, size, rfl, _⟩ := h; rfl
  · obtain ⟨st, sc, ns, size, rfl, hS, h1, h2, q⟩ := h
    obtain ⟨⟨n, s, hst⟩, hsq, hlen⟩ := hS
    have hsc := hsq _ (Kp.refl _ _)
    refine ⟨_, C8.pss_cut (ps_if (pt_cmpR op_eq (pe_ix ix_list (pv 0) pe_int (fun _ _ => rfl)) pe_int (nomark _))
        (pss_cons (ps_set (i := 3) sc__law_draw.nd rfl (.inl rfl) pe_int)
        (C8.pss_cut (ps_if (pt_cmpR op_gt (pe_callB call_lenS (by rfl) T.n_len PySem.boot_len (pa_cons (pv 1) pa_nil)) pe_int (nomark _))
          (pss_one (ps_set (i := 3) sc__law_draw.nd rfl (.inl rfl) (pe_ix ix_list (pv 1) (pe_op op_mod (pe_ix ix_list (pv 0) pe_int (fun _ _ => rfl)) (pe_callB call_lenS (by rfl) T.n_len PySem.boot_len (pa_cons (pv 1) pa_nil))) (fun _ _ => rfl))))
          (pss_nil))
        (C8.pss_cut (ps_if (pt_cmpR op_lt (pv 3) pe_int (nomark _))
          (pss_one (ps_set (i := 3) sc__law_draw.nd rfl (.inl rfl) (pe_op op_sub pe_int (pe_op op_mul pe_int (pv 3)))))
          (pss_nil))
        (pss_cons (ps_set (i := 4) sc__law_draw.nd rfl (.inl rfl) (pe_op op_mod (pe_callTy call_int1 (by rfl) T.n_int (by decide +kernel) (pa_cons (pe_op op_mul (pe_op op_add (pe_op op_add (pv 3) (pe_op op_mul (pe_ix ix_list (pv 0) pe_int (fun _ _ => rfl)) pe_int)) pe_int) pe_int) pa_nil)) pe_int))
        (pss_cons (ps_asg (pe_op op_mod (pe_callTy call_int1 (by rfl) T.n_int (by decide +kernel) (pa_cons (pe_op op_add (pe_op op_mul (pv 4) pe_int) (pe_op op_mul (pe_ix ix_list (pv 0) pe_int (fun _ _ => rfl)) pe_int)) pa_nil)) pe_int) (pg_sub (pv 0) pe_int set_list))
        (C8.pss_cut (ps_if (PW.pt (pw_and (pt_cmpR op_ge (pv 3) (pe_op op_pow pe_int pe_int) (nomark _)) (pw_and1 (pt_cmpR op_lt (pe_ix ix_list (pv 0) pe_int (fun _ _ => rfl)) (pe_callB call_lenS (by rfl) T.n_len PySem.boot_len (pa_cons (pv 1) pa_nil)) (nomark _)))))
          (pss_one (ps_asg (pv 3) (pg_sub (pv 0) pe_int set_list)))
          (pss_nil))
        (pss_one (ps_asg (pe_op op_add (pe_ix ix_list (pv 0) pe_int (fun _ _ => rfl)) pe_int) (pg_sub (pv 0) pe_int set_list)))))))))
        (pss_nil))
      (pss_cons (ps_set (i := 5) sc__law_draw.nd rfl (.inl rfl) (pe_op op_mod (pe_callTy call_int1 (by rfl) T.n_int (by decide +kernel) (pa_cons (pe_ix ix_list (pv 0) pe_int (fun _ _ => rfl)) pa_nil)) (pv 2)))
      (pss_cons (ps_asg (pe_op op_fdiv (pe_ix ix_list (pv 0) pe_int (fun _ _ => rfl)) (pv 2)) (pg_sub (pv 0) pe_int set_list))
      (pss_one (ps_ret (pv 5))))), ?_⟩
    refine ⟨fun σ' H' => ∃ n s y3 y4, σ' = [some (.ref st), some (.ref sc), some (.int size), y3, y4, none] ∧ Kp st H H' ∧ H' st = some (.lst [.int n, .int s]), ?_, ?_⟩
    · walk_at "g"
      walk_at "if" <;> intro e
      · walk_at "g"
        refine ⟨fun σ' H' => ∃ c : Int, σ' = [some (.ref st), some (.ref sc), some (.int size), some (.int c), none, none] ∧ H = H', ?_, ?_⟩
        · walk_at "g"
          walk_at "if" <;> intro e
          · walk_at "g"
            refine ⟨_, _, _, _, rfl, rfl, hsc, atI_map (Int.emod_nonneg _ (by omega)) ?_, ?_⟩
            · rw [List.length_map] at e ⊢
              exact Int.emod_lt_of_pos _ e
            · exact ⟨_, rfl, rfl⟩
          · exact ⟨_, rfl, rfl⟩
        · rintro _ _ ⟨c, rfl, rfl⟩
          refine ⟨fun σ' H' => ∃ c : Int, σ' = [some (.ref st), some (.ref sc), some (.int size), some (.int c), none, none] ∧ H = H', ?_, ?_⟩
          · walk_at "g"
            walk_at "if" <;> intro e
            · walk_at "g"
              exact ⟨_, rfl, rfl⟩
            · exact ⟨_, rfl, rfl⟩
          · rintro _ _ ⟨c, rfl, rfl⟩
            walk_at "g"
            refine ⟨fun σ' H' => ∃ n s c m : Int, σ' = [some (.ref st), some (.ref sc), some (.int size), some (.int c), some (.int m), none] ∧ Kp st H H' ∧ H' st = some (.lst [.int n, .int s]), ?_, ?_⟩
            · walk_at "g"
              walk_at "if" <;> intro e
              · have hsc1 : ∀ o, SqL K (upd H st o) sc (ns.map V.int) := fun o => hsq _ (Kp.refl _ _).at
                walk_at "g"
                walk_at "if" <;> intro e
                · walk_at "g"
                  exact ⟨_, _, _, _, rfl, (Kp.refl _ _).at.at, upd_same⟩
                · walk_at "g"
                  exact ⟨_, _, _, _, rfl, (Kp.refl _ _).at, upd_same⟩
              · walk_at "g"
                exact ⟨_, _, _, _, rfl, (Kp.refl _ _).at, upd_same⟩
            · rintro _ H1 ⟨n, s, c, m, rfl, k1, hs1⟩
              walk_at "g"
              exact ⟨_, _, _, _, rfl, k1.at, upd_same⟩
      · walk_at "g"
        exact ⟨_, _, _, _, rfl, Kp.refl _ _, hst⟩
    · rintro _ H1 ⟨n, s, y3, y4, rfl, k1, hs1⟩
      walk_at "g"
      exact q _ _ k1.at ⟨⟨_, _, upd_same⟩, fun H' k => hsq _ (k1.at.trans k), hlen⟩ (Int.emod_nonneg _ (by omega)) (Int.emod_lt_of_pos _ (by omega))

end
end K62

namespace K62
open PySem PySem.Spec PyProof.Rows L2 Go
set_option maxHeartbeats 8000000
local macro_rules | `(tactic| walk_at "ne") => `(tactic| first
  | assumption
  | (refine Ne.symm ?_; assumption)
  | exact (Go.free_upd (by assumption)).2
  | exact (Go.free_upd (by assumption)).2.symm
  | exact Go.ne_fr (by assumption) (by walk_at "hp")
  | exact (Go.ne_fr (by assumption) (by walk_at "hp")).symm)
local macro_rules | `(tactic| walk_at "fr") => `(tactic| first
  | assumption
  | exact (Go.free_upd (by assumption)).1
  | exact (Go.free_upd (Go.free_upd (by assumption)).1).1
  | exact Same.free (by assumption) (by walk_at "fr"))
local macro_rules | `(tactic| walk_at "hp") => `(tactic| first
  | assumption
  | with_reducible exact upd_same
  | ((with_reducible show upd _ _ _ _ = _); exact Go.at_upd (by walk_at "ne") (by walk_at "hp"))
  | exact (by assumption : Same _ _) _ _ (by walk_at "hp")
  | exact (by assumption : Go.Kp _ _ _) _ _ (by walk_at "ne") (by walk_at "hp")
  | exact (by assumption : Go.Kp2 _ _ _ _) _ _ (by walk_at "ne") (by walk_at "ne") (by walk_at "hp"))
local macro_rules | `(tactic| walk_at "sq") => `(tactic| first
  | assumption
  | ((with_reducible show SqL _ (upd _ _ _) _ _); exact (by assumption : ∀ o, SqL _ (upd _ _ o) _ _) _)
  | ((with_reducible show SqL _ _ _ _); exact SqL.of (by walk_at "hp"))
  | ((with_reducible show SqT _ _ _ _); exact SqT.of (by walk_at "hp"))
  | ((with_reducible show SqL _ (upd _ _ _) _ _); exact Go.sqL_new (by walk_at "fr") (by walk_at "sq"))
  | ((with_reducible show SqT _ (upd _ _ _) _ _); exact Go.sqT_new (by walk_at "fr") (by walk_at "sq"))
  | ((with_reducible show SqL _ (upd _ _ _) _ _); exact Go.sqL_ne (by walk_at "ne") (by walk_at "sq"))
  | exact Go.sqL_same (by assumption) (by walk_at "sq")
  | exact Go.sqT_same (by assumption) (by walk_at "sq")
  | exact Go.sqL_kp (by assumption) (by walk_at "ne") (by walk_at "sq")
  | exact Go.sqT_kp (by assumption) (by walk_at "ne") (by walk_at "sq"))
local macro_rules | `(tactic| walk_at "ci") => `(tactic| first
  | exact .inr ⟨by decide, by decide⟩
  | exact .inl ⟨by decide, by decide⟩
  | exact ⟨by decide, by decide, by decide⟩
  | decide
  | omega
  | exact ⟨by omega, by omega⟩
  | exact .inl ⟨by omega, by omega⟩
  | exact .inr ⟨by omega, by omega⟩)
local macro_rules | `(tactic| walk_at "g0") => `(tactic| first
  | with_reducible refine Go.g_seq ?_
  | ((with_reducible show tVar _ _ _ _); refine ⟨_, rfl, ?_⟩)
  | with_reducible refine Go.g_c ?_
  | with_reducible refine Go.g_op ?_
  | with_reducible refine Go.g_asg ?_
  | with_reducible refine Go.g_name ?_
  | with_reducible refine Go.g_cons ?_
  | with_reducible refine Go.g_lst ?_
  | with_reducible refine Go.g_tup ?_
  | with_reducible refine Go.g_for ?_
  | with_reducible refine Go.g_rng1 ?_
  | with_reducible refine Go.g_rng2 ?_
  | with_reducible refine Go.g_rng3 ?_
  | with_reducible refine Go.g_list ?_
  | with_reducible refine Go.g_itup ?_
  | with_reducible refine Go.g_enum ?_
  | ((with_reducible show tPar _ _ _ _ _ _); unfold tPar)
  | ((with_reducible show ∃ v w, [_, _] = [v, w] ∧ _); refine ⟨_, _, rfl, ?_⟩)
  | with_reducible refine Go.g_zip ?_
  | with_reducible refine Go.g_augS ?_
  | with_reducible refine Go.g_lc ?_
  | with_reducible refine Go.g_nil ?_
  | with_reducible refine Go.g_cb ?_
  | with_reducible refine Go.g_call ?_
  | with_reducible refine Go.g_ret ?_
  | with_reducible refine Go.g_next ?_
  | with_reducible refine Go.g_drop ?_
  | with_reducible refine Go.g_un ?_
  | with_reducible refine Go.g_test ?_
  | with_reducible refine Go.g_tB ?_
  | with_reducible refine Go.g_ifs ?_
  | with_reducible refine Go.g_if ?_
  | with_reducible refine Go.g_and ?_
  | with_reducible refine Go.g_or ?_
  | with_reducible refine Go.g_not ?_
  | with_reducible refine Go.g_sl ?_
  | with_reducible refine Go.g_nopart ?_
  | with_reducible refine Go.g_part ?_
  | ((with_reducible show ∃ k, V.bl _ = V.bl k ∧ _); refine ⟨_, rfl, ?_⟩)
  | ((with_reducible show ∃ k, V.int _ = V.int k ∧ _); refine ⟨_, rfl, ?_⟩)
  | with_reducible refine Go.g_bm ?_
  | with_reducible refine Go.g_yes ?_
  | ((with_reducible show rI0 _ _ _ _ _); refine ⟨_, _, rfl, rfl, ?_⟩)
  | ((with_reducible show rI _ _ _ _ _ _); refine ⟨_, _, rfl, rfl, ?_, ?_⟩; (focus walk_at "ci"))
  | ((with_reducible show rU _ _ _ _); refine ⟨_, rfl, ?_⟩)
  | ((with_reducible show rEq _ _ _ _); refine ⟨rfl, ?_⟩)
  | ((with_reducible show rNe _ _ _ _); refine ⟨rfl, ?_⟩)
  | ((with_reducible show rIxL _ _ _ _ _); refine Go.g_ixL (by walk_at "sq") (by rfl) ?_)
  | ((with_reducible show rIxT _ _ _ _ _); refine Go.g_ixT (by walk_at "sq") (by rfl) ?_)
  | ((with_reducible show rSetL _ _ _ _ _); refine Go.g_setL (by walk_at "hp") (by rfl) ?_)
  | ((with_reducible show ∃ p ys, [V.ref _] = [V.ref p] ∧ (SqL _ _ _ _ ∨ SqT _ _ _ _) ∧ _); refine ⟨_, _, rfl, .inl (by walk_at "sq"), ?_⟩)
  | ((with_reducible show (∃ i, [V.int _] = [V.int i] ∧ _) ∨ _); refine .inl ⟨_, rfl, ?_⟩)
  | ((with_reducible show ∃ (c : Nat) (z : Str), V.str _ = V.str ⟨#[c]⟩ ∧ V.str _ = V.str z ∧ _); refine ⟨_, _, rfl, rfl, ?_⟩)
  | ((with_reducible show ∃ x : Str, [V.str _] = [V.str x] ∧ Str.length x = 1 ∧ _); refine ⟨_, rfl, rfl, ?_⟩)
  | ((with_reducible show ∃ z : Str, [V.str _] = [V.str z] ∧ Str.length z ≤ sizeLine ∧ _); refine ⟨_, rfl, by assumption, ?_⟩)
  | ((with_reducible show rSlS _ _ _ _ _); refine ⟨_, rfl, by assumption, ?_⟩)
  | ((with_reducible show gTup _ _ _ _ _ _ _); refine Go.g_gtup (by walk_at "sq") (by rfl) ?_)
  | ((with_reducible show gCons _ _ _ _ _ _); refine ⟨_, _, rfl, ?_⟩)
  | ((with_reducible show gNil _ _ _ _); refine ⟨rfl, ?_⟩)
  | ((with_reducible show rLenS _ _ _ _); refine Go.g_lenL (by walk_at "sq") ?_)
  | ((with_reducible show rListOf _ _ _ _); refine Go.g_listL (by walk_at "sq") ?_)
  | ((with_reducible show wipe _ _ = wipe _ _ ∧ _); refine ⟨rfl, ?_⟩)
  | ((with_reducible show if true = true then _ else _); refine iteT ?_)
  | ((with_reducible show if false = true then _ else _); refine iteF ?_)
  | ((with_reducible show ∃ a b xs ys, [V.ref _, V.ref _] = [V.ref a, V.ref b] ∧ SqL _ _ a xs ∧ SqL _ _ b ys ∧ _); refine ⟨_, _, _, _, rfl, by walk_at "sq", by walk_at "sq", ?_⟩)
  | ((with_reducible show ∃ a xs, [V.ref _] = [V.ref a] ∧ SqL _ _ a xs ∧ _); refine ⟨_, _, rfl, by walk_at "sq", ?_⟩)
  | ((with_reducible show ∃ a, V.ref _ = V.ref a ∧ (∃ xs, SqL _ _ a xs) ∧ _); refine ⟨_, rfl, ⟨_, by walk_at "sq"⟩, ?_⟩)
  | ((with_reducible show ∃ a, V.ref _ = V.ref a ∧ (∃ xs, SqT _ _ a xs) ∧ _); refine ⟨_, rfl, ⟨_, by walk_at "sq"⟩, ?_⟩)
  | ((with_reducible show ∃ j : Int, [V.int _] = [V.int j] ∧ _ ≤ j ∧ j < _ ∧ _); refine ⟨_, rfl, by omega, by omega, ?_⟩)
  | ((with_reducible show ∃ i j : Int, [V.int _, V.int _] = [V.int i, V.int j] ∧ (_ ≤ i ∧ i < _ ∧ _ ≤ j ∧ j < _) ∧ _); refine ⟨_, _, rfl, ⟨by omega, by omega, by omega, by omega⟩, ?_⟩)
  | ((with_reducible show ∃ i j : Int, [V.int _, V.int _] = [V.int i, V.int j] ∧ _); refine ⟨_, _, rfl, ?_⟩)
  | ((with_reducible show ∃ i : Int, [V.int _] = [V.int i] ∧ _); refine ⟨_, rfl, ?_⟩)
  | ((with_reducible show _ ≤ sizeLine ∧ _); refine ⟨by first | decide | (simp only [List.length_cons, List.length_nil]; decide), ?_⟩))
local macro_rules | `(tactic| walk_at "g1") => `(tactic| first | walk_at "g0" | with_reducible refine Go.g_sub ?_)
local macro_rules | `(tactic| walk_at "g") => `(tactic| repeat walk_at "g1")
local macro_rules | `(tactic| walk_at "v") => `(tactic| repeat walk_at "g0")
local macro_rules | `(tactic| walk_at "if") => `(tactic| first
  | with_reducible refine @Go.g_itd _ _ _ _ ?_ ?_
  | with_reducible refine @Go.g_itnd _ _ _ _ ?_ ?_
  | with_reducible refine Go.g_ite ?_ ?_)

section
variable {P : Program} {w : World} {K : PySem.W.Frag} {mg : Str → Option Value} {base : Heap}
theorem like_turn {c d : Nat} (h : ∀ g ∈ likeC, ¬ (c ∈ g ∧ d ∈ g)) : turnP c d = 2 := by
  unfold turnP
  rw [if_neg]
  intro e
  obtain ⟨g, hg, h2⟩ := List.any_eq_true.mp e
  rw [Bool.and_eq_true, decide_eq_true_eq, decide_eq_true_eq] at h2
  exact h g hg h2
theorem like_turn1 {c d : Nat} {g : List Nat} (hg : g ∈ likeC) (h : c ∈ g) (h2 : d ∈ g) : turnP c d = 1 := by
  unfold turnP
  rw [if_pos]
  exact List.any_eq_true.mpr ⟨g, hg, by rw [Bool.and_eq_true, decide_eq_true_eq, decide_eq_true_eq]; exact ⟨h, h2⟩⟩
def sp_turn_cost (K : PySem.W.Frag) : Sp := fun vs H Q _ => ∃ c d : Nat, vs = [.str ⟨#[c]⟩, .str ⟨#[d]⟩] ∧ Q (.int (turnP c d)) H
theorem ok_turn_cost (T : Txt K mg) : FnOk P w K mg base CX0 1 T.a_turn_cost T.fd_turn_cost ["one", "other"] (sp_turn_cost K) := by
  refine T.F_turn_cost.ok sc_turn_cost (fun vs H Q E h => ?_) (fun cdv A outer s H vs Q E hr h => ?_)
  · obtain ⟨c, d, rfl, _⟩ := h; rfl
  · obtain ⟨c, d, rfl, q⟩ := h
    refine ⟨_, pss_cons (ps_for PassesOwn.never rfl (pi_tup (pe_glob (v := .ref T.a_LIKE) rfl T.m_LIKE rfl)) (pg_name (i := 2) sc_turn_cost.nd rfl (.inl rfl))
        (pss_one (ps_if (PW.pt (pw_and (pt_cmpR op_in_sign (pv 0) (pv 2) rfl) (pw_and1 (pt_cmpR op_in_sign (pv 1) (pv 2) rfl))))
          (pss_one (ps_ret pe_int))
          (pss_nil))))
      (pss_one (ps_ret pe_int)), ?_⟩
    walk_at "g"
    refine ⟨_, rfl, ⟨_, T.t_LIKE H⟩, forW_tup (likeS.map V.str) (fun i σ' H' => H = H' ∧ (∃ y, σ' = [some (.str ⟨#[c]⟩), some (.str ⟨#[d]⟩), y]) ∧ ∀ g ∈ likeC.take i, ¬ (c ∈ g ∧ d ∈ g)) ⟨rfl, ⟨_, rfl⟩, fun g hg => nomatch hg⟩ (fun i σ' H' _ _ => T.t_LIKE H') ?_ ?_⟩
    · rintro i x σ' H' hx ⟨rfl, ⟨y, rfl⟩, hg⟩
      rw [like_eq, List.map_map, List.getElem?_map] at hx
      obtain ⟨g, hgi, rfl⟩ := Option.map_eq_some_iff.mp hx
      have hm : g ∈ likeC := List.mem_of_getElem? hgi
      show gName _ (.str (mkS g)) _ _ _
      have hnx : ¬ (c ∈ g ∧ d ∈ g) → ∀ g' ∈ likeC.take (i + 1), ¬ (c ∈ g' ∧ d ∈ g') := fun hn g' hg' => by
        rw [List.take_add_one, hgi] at hg'
        rcases List.mem_append.mp hg' with z | z
        · exact hg g' z
        · rw [show g' = g by simpa using z]; exact hn
      walk_at "g"
      walk_at "if" <;> intro e1 <;> rw [mkS_list] at e1
      · walk_at "g"
        walk_at "if" <;> intro e2 <;> rw [mkS_list] at e2
        · walk_at "g"
          have := like_turn1 hm e1 e2
          rw [this] at q
          exact q
        · walk_at "g"
          exact ⟨rfl, ⟨_, rfl⟩, hnx fun z => e2 z.2⟩
      · rw [if_neg Bool.false_ne_true]
        walk_at "g"
        exact ⟨rfl, ⟨_, rfl⟩, hnx fun z => e1 z.1⟩
    · rintro σ' H' ⟨rfl, ⟨y, rfl⟩, hg⟩
      walk_at "g"
      rw [like_turn (fun g hm => hg g (by rw [List.take_of_length_le (by decide)]; exact hm))] at q
      exact q
def sp__law_turn (K : PySem.W.Frag) : Sp := fun vs H Q _ => ∃ c d : Nat, vs = [.str ⟨#[c]⟩, .str ⟨#[d]⟩] ∧ Let c ∧ Let d ∧ Q (.int (turnL c d)) H
theorem sign_at {c : Nat} (h : Let c) : atI (mkS signsC).cps.toList ((c : Int) - 97) = some (signsC.getD (c - 97) 0) := by
  obtain ⟨h1, h2⟩ := h
  have e : (c : Int) - 97 = ((c - 97 : Nat) : Int) := by omega
  rw [mkS_list, e]
  refine atI_nat ?_
  rw [List.getD_eq_getElem?_getD, List.getElem?_eq_getElem (by show c - 97 < 26; omega)]
  rfl
theorem one_inj {a b : Nat} : (V.str ⟨#[a]⟩ = V.str ⟨#[b]⟩) ↔ a = b := by simp
theorem turn_signs {c d : Nat} (h : Let c) (h2 : Let d) : turnL c d = if c = d then 0 else if signsC.getD (c - 97) 0 = signsC.getD (d - 97) 0 then 1 else 2 := by
  have := signs_all ⟨c - 97, by have := h.1; have := h.2; omega⟩ ⟨d - 97, by have := h2.1; have := h2.2; omega⟩
  have e1 : 97 + (c - 97) = c := by have := h.1; omega
  have e2 : 97 + (d - 97) = d := by have := h2.1; omega
  simp only [e1, e2] at this
  rw [this]
  have k1 : c - 97 < signsC.length := by have := h.2; show c - 97 < 26; omega
  have k2 : d - 97 < signsC.length := by have := h2.2; show d - 97 < 26; omega
  by_cases e : c = d
  · subst e; simp
  · rw [if_neg (fun z => e (by have := congrArg Fin.val z; simp only at this; omega)), if_neg e, List.getD_eq_getElem?_getD, List.getD_eq_getElem?_getD, List.getElem?_eq_getElem k1, List.getElem?_eq_getElem k2]
    simp
theorem ok__law_turn (T : Txt K mg) : FnOk P w K mg base CX0 1 T.a__law_turn T.fd__law_turn ["one", "other"] (sp__law_turn K) := by
  refine T.F__law_turn.ok sc__law_turn (fun vs H Q E h => ?_) (fun cdv A outer s H vs Q E hr h => ?_)
  · obtain ⟨c, d, rfl, _⟩ := h; rfl
  · obtain ⟨c, d, rfl, hc, hd, q⟩ := h
    refine ⟨_, pss_cons (ps_if (pt_cmpR op_eq (pv 0) (pv 1) (nomark _))
        (pss_one (ps_ret pe_int))
        (pss_nil))
      (pss_cons (ps_set (i := 2) sc__law_turn.nd rfl (.inl rfl) pe_str)
      (pss_cons (ps_if (pt_cmpR op_eq (pe_ix ix_str (pv 2) (pe_op op_sub (pe_callB call_ord (by rfl) T.n_ord (by decide +kernel) (pa_cons (pv 0) pa_nil)) pe_int) (fun _ _ => rfl)) (pe_ix ix_str (pv 2) (pe_op op_sub (pe_callB call_ord (by rfl) T.n_ord (by decide +kernel) (pa_cons (pv 1) pa_nil)) pe_int) (fun _ _ => rfl)) (nomark _))
        (pss_one (ps_ret pe_int))
        (pss_nil))
      (pss_one (ps_ret pe_int)))), ?_⟩
    rw [turn_signs hc hd] at q
    walk_at "g"
    walk_at "if" <;> intro e <;> rw [one_inj] at e
    · walk_at "g"
      rw [if_pos e] at q
      exact q
    · rw [if_neg e] at q
      walk_at "g"
      refine ⟨mkS signsC, _, _, by rw [signs_eq], rfl, by rw [mkS_len]; exact sz (by decide), sign_at hc, ?_⟩
      walk_at "g"
      refine ⟨mkS signsC, _, _, by rw [signs_eq], rfl, by rw [mkS_len]; exact sz (by decide), sign_at hd, ?_⟩
      walk_at "g"
      walk_at "if" <;> intro e2 <;> rw [one_inj] at e2
      · rw [if_pos (show signsC.getD (c - 97) 0 = signsC.getD (d - 97) 0 from e2)] at q
        walk_at "g"
        exact q
      · rw [if_neg (show ¬ signsC.getD (c - 97) 0 = signsC.getD (d - 97) 0 from e2)] at q
        walk_at "g"
        exact q
def sp__law_pick (K : PySem.W.Frag) : Sp := fun vs H Q _ => ∃ (st sc l : Addr) (ns : List Int) (w : List Nat), vs = [.ref st, .ref sc, .ref l] ∧ St K H st sc ns ∧ l ≠ st ∧ H l = some (.lst (w.map fun c => .str ⟨#[c]⟩)) ∧
  1 ≤ w.length ∧ w.length ≤ 1000 ∧ ∀ H' c, Kp st H H' → St K H' st sc ns → c ∈ w → Q (.str ⟨#[c]⟩) H'
theorem ok__law_pick (T : Txt K mg) : FnOk P w K mg base CX0 2 T.a__law_pick T.fd__law_pick ["state", "script", "items"] (sp__law_pick K) := by
  refine T.F__law_pick.ok sc__law_pick (fun vs H Q E h => ?_) (fun cdv A outer s H vs Q E hr h => ?_)
  · obtain ⟨st, sc, l, ns, w, rfl, _⟩ := h; rfl
  · obtain ⟨st, sc, l, ns, w, rfl, hS, hl, hL, h1, h2, q⟩ := h
    refine ⟨_, pss_one (ps_ret (pe_ix ix_list (pv 2) (pe_call (ok__law_draw T) hr (by rfl) T.g__law_draw T.F__law_draw.kp T.b__law_draw .nil pass0 (pa_cons (pv 0) (pa_cons (pv 1) (pa_cons (pe_callB call_lenS (by rfl) T.n_len PySem.boot_len (pa_cons (pv 2) pa_nil)) pa_nil)))) (fun _ _ => rfl))), ?_⟩
    walk_at "g"
    refine ⟨st, sc, ns, _, rfl, hS, ?_, ?_, fun H1 d k1 S1 d0 d1 => ?_⟩
    · rw [List.length_map]; omega
    · rw [List.length_map]; omega
    · rw [List.length_map] at d1
      refine g_ixL (by walk_at "sq") (atI_map d0 d1) ?_
      exact q _ _ k1 S1 (List.getElem_mem _)

end
end K62

namespace K62
open PySem PySem.Spec PyProof.Rows L2 Go
set_option maxHeartbeats 8000000
local macro_rules | `(tactic| walk_at "ne") => `(tactic| first
  | assumption
  | (refine Ne.symm ?_; assumption)
  | exact (Go.free_upd (by assumption)).2
  | exact (Go.free_upd (by assumption)).2.symm
  | exact Go.ne_fr (by assumption) (by walk_at "hp")
  | exact (Go.ne_fr (by assumption) (by walk_at "hp")).symm)
local macro_rules | `(tactic| walk_at "fr") => `(tactic| first
  | assumption
  | exact (Go.free_upd (by assumption)).1
  | exact (Go.free_upd (Go.free_upd (by assumption)).1).1
  | exact Same.free (by assumption) (by walk_at "fr"))
local macro_rules | `(tactic| walk_at "hp") => `(tactic| first
  | assumption
  | with_reducible exact upd_same
  | ((with_reducible show upd _ _ _ _ = _); exact Go.at_upd (by walk_at "ne") (by walk_at "hp"))
  | exact (by assumption : Same _ _) _ _ (by walk_at "hp")
  | exact (by assumption : Go.Kp _ _ _) _ _ (by walk_at "ne") (by walk_at "hp")
  | exact (by assumption : Go.Kp2 _ _ _ _) _ _ (by walk_at "ne") (by walk_at "ne") (by walk_at "hp"))
local macro_rules | `(tactic| walk_at "sq") => `(tactic| first
  | assumption
  | ((with_reducible show SqL _ (upd _ _ _) _ _); exact (by assumption : ∀ o, SqL _ (upd _ _ o) _ _) _)
  | ((with_reducible show SqL _ _ _ _); exact SqL.of (by walk_at "hp"))
  | ((with_reducible show SqT _ _ _ _); exact SqT.of (by walk_at "hp"))
  | ((with_reducible show SqL _ (upd _ _ _) _ _); exact Go.sqL_new (by walk_at "fr") (by walk_at "sq"))
  | ((with_reducible show SqT _ (upd _ _ _) _ _); exact Go.sqT_new (by walk_at "fr") (by walk_at "sq"))
  | ((with_reducible show SqL _ (upd _ _ _) _ _); exact Go.sqL_ne (by walk_at "ne") (by walk_at "sq"))
  | exact Go.sqL_same (by assumption) (by walk_at "sq")
  | exact Go.sqT_same (by assumption) (by walk_at "sq")
  | exact Go.sqL_kp (by assumption) (by walk_at "ne") (by walk_at "sq")
  | exact Go.sqT_kp (by assumption) (by walk_at "ne") (by walk_at "sq"))
local macro_rules | `(tactic| walk_at "ci") => `(tactic| first
  | exact .inr ⟨by decide, by decide⟩
  | exact .inl ⟨by decide, by decide⟩
  | exact ⟨by decide, by decide, by decide⟩
  | decide
  | omega
  | exact ⟨by omega, by omega⟩
  | exact .inl ⟨by omega, by omega⟩
  | exact .inr ⟨by omega, by omega⟩)
local macro_rules | `(tactic| walk_at "g0") => `(tactic| first
  | with_reducible refine Go.g_seq ?_
  | ((with_reducible show tVar _ _ _ _); refine ⟨_, rfl, ?_⟩)
  | with_reducible refine Go.g_c ?_
  | with_reducible refine Go.g_op ?_
  | with_reducible refine Go.g_asg ?_
  | with_reducible refine Go.g_name ?_
  | with_reducible refine Go.g_cons ?_
  | with_reducible refine Go.g_lst ?_
  | with_reducible refine Go.g_tup ?_
  | with_reducible refine Go.g_for ?_
  | with_reducible refine Go.g_rng1 ?_
  | with_reducible refine Go.g_rng2 ?_
  | with_reducible refine Go.g_rng3 ?_
  | with_reducible refine Go.g_list ?_
  | with_reducible refine Go.g_itup ?_
  | with_reducible refine Go.g_enum ?_
  | ((with_reducible show tPar _ _ _ _ _ _); unfold tPar)
  | ((with_reducible show ∃ v w, [_, _] = [v, w] ∧ _); refine ⟨_, _, rfl, ?_⟩)
  | with_reducible refine Go.g_zip ?_
  | with_reducible refine Go.g_augS ?_
  | with_reducible refine Go.g_lc ?_
  | with_reducible refine Go.g_nil ?_
  | with_reducible refine Go.g_cb ?_
  | with_reducible refine Go.g_call ?_
  | with_reducible refine Go.g_ret ?_
  | with_reducible refine Go.g_next ?_
  | with_reducible refine Go.g_drop ?_
  | with_reducible refine Go.g_un ?_
  | with_reducible refine Go.g_test ?_
  | with_reducible refine Go.g_tB ?_
  | with_reducible refine Go.g_ifs ?_
  | with_reducible refine Go.g_if ?_
  | with_reducible refine Go.g_and ?_
  | with_reducible refine Go.g_or ?_
  | with_reducible refine Go.g_not ?_
  | with_reducible refine Go.g_sl ?_
  | with_reducible refine Go.g_nopart ?_
  | with_reducible refine Go.g_part ?_
  | ((with_reducible show ∃ k, V.bl _ = V.bl k ∧ _); refine ⟨_, rfl, ?_⟩)
  | ((with_reducible show ∃ k, V.int _ = V.int k ∧ _); refine ⟨_, rfl, ?_⟩)
  | with_reducible refine Go.g_bm ?_
  | with_reducible refine Go.g_yes ?_
  | ((with_reducible show rI0 _ _ _ _ _); refine ⟨_, _, rfl, rfl, ?_⟩)
  | ((with_reducible show rI _ _ _ _ _ _); refine ⟨_, _, rfl, rfl, ?_, ?_⟩; (focus walk_at "ci"))
  | ((with_reducible show rU _ _ _ _); refine ⟨_, rfl, ?_⟩)
  | ((with_reducible show rEq _ _ _ _); refine ⟨rfl, ?_⟩)
  | ((with_reducible show rNe _ _ _ _); refine ⟨rfl, ?_⟩)
  | ((with_reducible show rIxL _ _ _ _ _); refine Go.g_ixL (by walk_at "sq") (by rfl) ?_)
  | ((with_reducible show rIxT _ _ _ _ _); refine Go.g_ixT (by walk_at "sq") (by rfl) ?_)
  | ((with_reducible show rSetL _ _ _ _ _); refine Go.g_setL (by walk_at "hp") (by rfl) ?_)
  | ((with_reducible show ∃ p ys, [V.ref _] = [V.ref p] ∧ (SqL _ _ _ _ ∨ SqT _ _ _ _) ∧ _); refine ⟨_, _, rfl, .inl (by walk_at "sq"), ?_⟩)
  | ((with_reducible show (∃ i, [V.int _] = [V.int i] ∧ _) ∨ _); refine .inl ⟨_, rfl, ?_⟩)
  | ((with_reducible show ∃ (c : Nat) (z : Str), V.str _ = V.str ⟨#[c]⟩ ∧ V.str _ = V.str z ∧ _); refine ⟨_, _, rfl, rfl, ?_⟩)
  | ((with_reducible show ∃ x : Str, [V.str _] = [V.str x] ∧ Str.length x = 1 ∧ _); refine ⟨_, rfl, rfl, ?_⟩)
  | ((with_reducible show ∃ z : Str, [V.str _] = [V.str z] ∧ Str.length z ≤ sizeLine ∧ _); refine ⟨_, rfl, by assumption, ?_⟩)
  | ((with_reducible show rSlS _ _ _ _ _); refine ⟨_, rfl, by assumption, ?_⟩)
  | ((with_reducible show gTup _ _ _ _ _ _ _); refine Go.g_gtup (by walk_at "sq") (by rfl) ?_)
  | ((with_reducible show gCons _ _ _ _ _ _); refine ⟨_, _, rfl, ?_⟩)
  | ((with_reducible show gNil _ _ _ _); refine ⟨rfl, ?_⟩)
  | ((with_reducible show rLenS _ _ _ _); refine Go.g_lenL (by walk_at "sq") ?_)
  | ((with_reducible show rListOf _ _ _ _); refine Go.g_listL (by walk_at "sq") ?_)
  | ((with_reducible show wipe _ _ = wipe _ _ ∧ _); refine ⟨rfl, ?_⟩)
  | ((with_reducible show if true = true then _ else _); refine iteT ?_)
  | ((with_reducible show if false = true then _ else _); refine iteF ?_)
  | ((with_reducible show ∃ a b xs ys, [V.ref _, V.ref _] = [V.ref a, V.ref b] ∧ SqL _ _ a xs ∧ SqL _ _ b ys ∧ _); refine ⟨_, _, _, _, rfl, by walk_at "sq", by walk_at "sq", ?_⟩)
  | ((with_reducible show ∃ a xs, [V.ref _] = [V.ref a] ∧ SqL _ _ a xs ∧ _); refine ⟨_, _, rfl, by walk_at "sq", ?_⟩)
  | ((with_reducible show ∃ a, V.ref _ = V.ref a ∧ (∃ xs, SqL _ _ a xs) ∧ _); refine ⟨_, rfl, ⟨_, by walk_at "sq"⟩, ?_⟩)
  | ((with_reducible show ∃ a, V.ref _ = V.ref a ∧ (∃ xs, SqT _ _ a xs) ∧ _); refine ⟨_, rfl, ⟨_, by walk_at "sq"⟩, ?_⟩)
  | ((with_reducible show ∃ j : Int, [V.int _] = [V.int j] ∧ _ ≤ j ∧ j < _ ∧ _); refine ⟨_, rfl, by omega, by omega, ?_⟩)
  | ((with_reducible show ∃ i j : Int, [V.int _, V.int _] = [V.int i, V.int j] ∧ (_ ≤ i ∧ i < _ ∧ _ ≤ j ∧ j < _) ∧ _); refine ⟨_, _, rfl, ⟨by omega, by omega, by omega, by omega⟩, ?_⟩)
  | ((with_reducible show ∃ i j : Int, [V.int _, V.int _] = [V.int i, V.int j] ∧ _); refine ⟨_, _, rfl, ?_⟩)
  | ((with_reducible show ∃ i : Int, [V.int _] = [V.int i] ∧ _); refine ⟨_, rfl, ?_⟩)
  | ((with_reducible show _ ≤ sizeLine ∧ _); refine ⟨by first | decide | (simp only [List.length_cons, List.length_nil]; decide), ?_⟩))
local macro_rules | `(tactic| walk_at "g1") => `(tactic| first | walk_at "g0" | with_reducible refine Go.g_sub ?_)
local macro_rules | `(tactic| walk_at "g") => `(tactic| repeat walk_at "g1")
local macro_rules | `(tactic| walk_at "v") => `(tactic| repeat walk_at "g0")
local macro_rules | `(tactic| walk_at "if") => `(tactic| first
  | with_reducible refine @Go.g_itd _ _ _ _ ?_ ?_
  | with_reducible refine @Go.g_itnd _ _ _ _ ?_ ?_
  | with_reducible refine Go.g_ite ?_ ?_)

section
variable {P : Program} {w : World} {K : PySem.W.Frag} {mg : Str → Option Value} {base : Heap}
theorem alpha_let {d : Int} (h0 : 0 ≤ d) (h1 : d < 26) : Let (97 + d.toNat) := ⟨by omega, by omega⟩
def sp__law_word (K : PySem.W.Frag) : Sp := fun vs H Q _ => ∃ (st sc : Addr) (ns : List Int), vs = [.ref st, .ref sc] ∧ St K H st sc ns ∧
  ∀ H' w, Kp st H H' → St K H' st sc ns → Wd w → Q (.str (mkS w)) H'
theorem ok__law_word (T : Txt K mg) : FnOk P w K mg base CX0 2 T.a__law_word T.fd__law_word ["state", "script"] (sp__law_word K) := by
  refine T.F__law_word.ok sc__law_word (fun vs H Q E h => ?_) (fun cdv A outer s H vs Q E hr h => ?_)
  · obtain ⟨st, sc, ns, rfl, _⟩ := h; rfl
  · obtain ⟨st, sc, ns, rfl, hS, q⟩ := h
    refine ⟨_, pss_cons (ps_set (i := 2) sc__law_word.nd rfl (.inl rfl) pe_str)
      (pss_cons (ps_for PassesOwn.never rfl (pi_range1 (by rfl) T.n_range (pa_cons (pe_ix ix_list (pe_lst (pa_cons (pe_op op_add pe_int (pe_call (ok__law_draw T) hr (by rfl) T.g__law_draw T.F__law_draw.kp T.b__law_draw .nil pass0 (pa_cons (pv 0) (pa_cons (pv 1) (pa_cons pe_int pa_nil))))) (pa_cons (pe_op op_add pe_int (pe_call (ok__law_draw T) hr (by rfl) T.g__law_draw T.F__law_draw.kp T.b__law_draw .nil pass0 (pa_cons (pv 0) (pa_cons (pv 1) (pa_cons pe_int pa_nil))))) (pa_cons pe_int pa_nil)))) (pe_call (ok__law_draw T) hr (by rfl) T.g__law_draw T.F__law_draw.kp T.b__law_draw .nil pass0 (pa_cons (pv 0) (pa_cons (pv 1) (pa_cons pe_int pa_nil)))) (fun _ _ => rfl)) pa_nil)) (pg_name (i := 3) sc__law_word.nd rfl (.inl rfl))
        (pss_one (ps_set (i := 2) sc__law_word.nd rfl (.inl rfl) (pe_op op_add_str (pv 2) (pe_ix ix_str pe_str (pe_call (ok__law_draw T) hr (by rfl) T.g__law_draw T.F__law_draw.kp T.b__law_draw .nil pass0 (pa_cons (pv 0) (pa_cons (pv 1) (pa_cons pe_int pa_nil)))) (fun _ _ => rfl))))))
      (pss_one (ps_ret (pv 2)))), ?_⟩
    walk_at "g"
    refine ⟨st, sc, ns, _, rfl, hS, by decide, by decide, fun H1 d1 k1 S1 d10 d11 => ?_⟩
    walk_at "g"
    refine ⟨st, sc, ns, _, rfl, S1, by decide, by decide, fun H2 d2 k2 S2 d20 d21 => ?_⟩
    walk_at "g"
    intro l hl
    walk_at "g"
    have S3 : St K (upd H2 l (.lst [.int (1 + d1), .int (1 + d2), .int 12])) st sc ns := St.new S2 hl
    refine ⟨st, sc, ns, _, rfl, S3, by decide, by decide, fun H3 d3 k3 S3 d30 d31 => ?_⟩
    have el : H3 l = some (.lst [.int (1 + d1), .int (1 + d2), .int 12]) := k3 _ _ (S2.ne hl) upd_same
    have k4 : Kp st H H3 := (((k1.trans k2).new hl).trans k3)
    clear k1 k2 k3 S1 S2 hS hl
    have hn : ∃ n : Int, 1 ≤ n ∧ n ≤ 12 ∧ atI [V.int (1 + d1), .int (1 + d2), .int 12] d3 = some (.int n) := by
      have : d3 = 0 ∨ d3 = 1 ∨ d3 = 2 := by omega
      rcases this with rfl | rfl | rfl
      · exact ⟨_, by omega, by omega, rfl⟩
      · exact ⟨_, by omega, by omega, rfl⟩
      · exact ⟨12, by omega, by omega, rfl⟩
    obtain ⟨n, n1, n2, en⟩ := hn
    refine g_ixL (by walk_at "sq") en ?_
    walk_at "g"
    refine forW_range (fun i σ' H' => ∃ (w : List Nat) (y : Option V), σ' = [some (.ref st), some (.ref sc), some (.str (mkS w)), y] ∧ w.length = i ∧ (∀ c ∈ w, Let c) ∧ Kp st H H' ∧ St K H' st sc ns)
      ⟨[], none, rfl, rfl, fun c hc => (nomatch hc), k4, S3⟩ ?_ ?_
    · rintro i σ' H' hi ⟨w, y, rfl, ew, hw, kk, SS⟩
      walk_at "g"
      refine ⟨st, sc, ns, _, rfl, SS, by decide, by decide, fun H5 d5 k5 S5 d50 d51 => ?_⟩
      refine ⟨mkS alphaC, _, _, by rw [alpha_eq], rfl, by rw [mkS_len]; exact sz (by decide), by rw [mkS_list]; exact alpha_at d50 d51, ?_⟩
      refine ⟨_, mkS [97 + d5.toNat], rfl, rfl, ?_, ?_⟩
      · rw [mkS_len, mkS_len]; exact sz (by simp only [List.length_cons, List.length_nil]; omega)
      · rw [mkS_app]
        walk_at "g"
        refine ⟨w ++ [97 + d5.toNat], _, rfl, by simp [ew], fun c hc => ?_, kk.trans k5, S5⟩
        rcases List.mem_append.mp hc with z | z
        · exact hw c z
        · rw [show c = 97 + d5.toNat by simpa using z]; exact alpha_let d50 d51
    · rintro σ' H' ⟨w, y, rfl, ew, hw, kk, SS⟩
      walk_at "g"
      exact q _ _ kk SS ⟨by omega, by omega, hw⟩

end
end K62

namespace K62
open PySem PySem.Spec PyProof.Rows L2 Go
set_option maxHeartbeats 8000000
local macro_rules | `(tactic| walk_at "ne") => `(tactic| first
  | assumption
  | (refine Ne.symm ?_; assumption)
  | exact (Go.free_upd (by assumption)).2
  | exact (Go.free_upd (by assumption)).2.symm
  | exact Go.ne_fr (by assumption) (by walk_at "hp")
  | exact (Go.ne_fr (by assumption) (by walk_at "hp")).symm)
local macro_rules | `(tactic| walk_at "fr") => `(tactic| first
  | assumption
  | exact (Go.free_upd (by assumption)).1
  | exact (Go.free_upd (Go.free_upd (by assumption)).1).1
  | exact Same.free (by assumption) (by walk_at "fr"))
local macro_rules | `(tactic| walk_at "hp") => `(tactic| first
  | assumption
  | with_reducible exact upd_same
  | ((with_reducible show upd _ _ _ _ = _); exact Go.at_upd (by walk_at "ne") (by walk_at "hp"))
  | exact (by assumption : Same _ _) _ _ (by walk_at "hp")
  | exact (by assumption : Go.Kp _ _ _) _ _ (by walk_at "ne") (by walk_at "hp")
  | exact (by assumption : Go.Kp2 _ _ _ _) _ _ (by walk_at "ne") (by walk_at "ne") (by walk_at "hp"))
local macro_rules | `(tactic| walk_at "sq") => `(tactic| first
  | assumption
  | ((with_reducible show SqL _ (upd _ _ _) _ _); exact (by assumption : ∀ o, SqL _ (upd _ _ o) _ _) _)
  | ((with_reducible show SqL _ _ _ _); exact SqL.of (by walk_at "hp"))
  | ((with_reducible show SqT _ _ _ _); exact SqT.of (by walk_at "hp"))
  | ((with_reducible show SqL _ (upd _ _ _) _ _); exact Go.sqL_new (by walk_at "fr") (by walk_at "sq"))
  | ((with_reducible show SqT _ (upd _ _ _) _ _); exact Go.sqT_new (by walk_at "fr") (by walk_at "sq"))
  | ((with_reducible show SqL _ (upd _ _ _) _ _); exact Go.sqL_ne (by walk_at "ne") (by walk_at "sq"))
  | exact Go.sqL_same (by assumption) (by walk_at "sq")
  | exact Go.sqT_same (by assumption) (by walk_at "sq")
  | exact Go.sqL_kp (by assumption) (by walk_at "ne") (by walk_at "sq")
  | exact Go.sqT_kp (by assumption) (by walk_at "ne") (by walk_at "sq"))
local macro_rules | `(tactic| walk_at "ci") => `(tactic| first
  | exact .inr ⟨by decide, by decide⟩
  | exact .inl ⟨by decide, by decide⟩
  | exact ⟨by decide, by decide, by decide⟩
  | decide
  | omega
  | exact ⟨by omega, by omega⟩
  | exact .inl ⟨by omega, by omega⟩
  | exact .inr ⟨by omega, by omega⟩)
local macro_rules | `(tactic| walk_at "g0") => `(tactic| first
  | with_reducible refine Go.g_seq ?_
  | ((with_reducible show tVar _ _ _ _); refine ⟨_, rfl, ?_⟩)
  | with_reducible refine Go.g_c ?_
  | with_reducible refine Go.g_op ?_
  | with_reducible refine Go.g_asg ?_
  | with_reducible refine Go.g_name ?_
  | with_reducible refine Go.g_cons ?_
  | with_reducible refine Go.g_lst ?_
  | with_reducible refine Go.g_tup ?_
  | with_reducible refine Go.g_for ?_
  | with_reducible refine Go.g_rng1 ?_
  | with_reducible refine Go.g_rng2 ?_
  | with_reducible refine Go.g_rng3 ?_
  | with_reducible refine Go.g_list ?_
  | with_reducible refine Go.g_itup ?_
  | with_reducible refine Go.g_enum ?_
  | ((with_reducible show tPar _ _ _ _ _ _); unfold tPar)
  | ((with_reducible show ∃ v w, [_, _] = [v, w] ∧ _); refine ⟨_, _, rfl, ?_⟩)
  | with_reducible refine Go.g_zip ?_
  | with_reducible refine Go.g_augS ?_
  | with_reducible refine Go.g_lc ?_
  | with_reducible refine Go.g_nil ?_
  | with_reducible refine Go.g_cb ?_
  | with_reducible refine Go.g_call ?_
  | with_reducible refine Go.g_ret ?_
  | with_reducible refine Go.g_next ?_
  | with_reducible refine Go.g_drop ?_
  | with_reducible refine Go.g_un ?_
  | with_reducible refine Go.g_test ?_
  | with_reducible refine Go.g_tB ?_
  | with_reducible refine Go.g_ifs ?_
  | with_reducible refine Go.g_if ?_
  | with_reducible refine Go.g_and ?_
  | with_reducible refine Go.g_or ?_
  | with_reducible refine Go.g_not ?_
  | with_reducible refine Go.g_sl ?_
  | with_reducible refine Go.g_nopart ?_
  | with_reducible refine Go.g_part ?_
  | ((with_reducible show ∃ k, V.bl _ = V.bl k ∧ _); refine ⟨_, rfl, ?_⟩)
  | ((with_reducible show ∃ k, V.int _ = V.int k ∧ _); refine ⟨_, rfl, ?_⟩)
  | with_reducible refine Go.g_bm ?_
  | with_reducible refine Go.g_yes ?_
  | ((with_reducible show rI0 _ _ _ _ _); refine ⟨_, _, rfl, rfl, ?_⟩)
  | ((with_reducible show rI _ _ _ _ _ _); refine ⟨_, _, rfl, rfl, ?_, ?_⟩; (focus walk_at "ci"))
  | ((with_reducible show rU _ _ _ _); refine ⟨_, rfl, ?_⟩)
  | ((with_reducible show rEq _ _ _ _); refine ⟨rfl, ?_⟩)
  | ((with_reducible show rNe _ _ _ _); refine ⟨rfl, ?_⟩)
  | ((with_reducible show rIxL _ _ _ _ _); refine Go.g_ixL (by walk_at "sq") (by rfl) ?_)
  | ((with_reducible show rIxT _ _ _ _ _); refine Go.g_ixT (by walk_at "sq") (by rfl) ?_)
  | ((with_reducible show rSetL _ _ _ _ _); refine Go.g_setL (by walk_at "hp") (by rfl) ?_)
  | ((with_reducible show ∃ p ys, [V.ref _] = [V.ref p] ∧ (SqL _ _ _ _ ∨ SqT _ _ _ _) ∧ _); refine ⟨_, _, rfl, .inl (by walk_at "sq"), ?_⟩)
  | ((with_reducible show (∃ i, [V.int _] = [V.int i] ∧ _) ∨ _); refine .inl ⟨_, rfl, ?_⟩)
  | ((with_reducible show ∃ (c : Nat) (z : Str), V.str _ = V.str ⟨#[c]⟩ ∧ V.str _ = V.str z ∧ _); refine ⟨_, _, rfl, rfl, ?_⟩)
  | ((with_reducible show ∃ x : Str, [V.str _] = [V.str x] ∧ Str.length x = 1 ∧ _); refine ⟨_, rfl, rfl, ?_⟩)
  | ((with_reducible show ∃ z : Str, [V.str _] = [V.str z] ∧ Str.length z ≤ sizeLine ∧ _); refine ⟨_, rfl, by assumption, ?_⟩)
  | ((with_reducible show rSlS _ _ _ _ _); refine ⟨_, rfl, by assumption, ?_⟩)
  | ((with_reducible show gTup _ _ _ _ _ _ _); refine Go.g_gtup (by walk_at "sq") (by rfl) ?_)
  | ((with_reducible show gCons _ _ _ _ _ _); refine ⟨_, _, rfl, ?_⟩)
  | ((with_reducible show gNil _ _ _ _); refine ⟨rfl, ?_⟩)
  | ((with_reducible show rLenS _ _ _ _); refine Go.g_lenL (by walk_at "sq") ?_)
  | ((with_reducible show rListOf _ _ _ _); refine Go.g_listL (by walk_at "sq") ?_)
  | ((with_reducible show wipe _ _ = wipe _ _ ∧ _); refine ⟨rfl, ?_⟩)
  | ((with_reducible show if true = true then _ else _); refine iteT ?_)
  | ((with_reducible show if false = true then _ else _); refine iteF ?_)
  | ((with_reducible show ∃ a b xs ys, [V.ref _, V.ref _] = [V.ref a, V.ref b] ∧ SqL _ _ a xs ∧ SqL _ _ b ys ∧ _); refine ⟨_, _, _, _, rfl, by walk_at "sq", by walk_at "sq", ?_⟩)
  | ((with_reducible show ∃ a xs, [V.ref _] = [V.ref a] ∧ SqL _ _ a xs ∧ _); refine ⟨_, _, rfl, by walk_at "sq", ?_⟩)
  | ((with_reducible show ∃ a, V.ref _ = V.ref a ∧ (∃ xs, SqL _ _ a xs) ∧ _); refine ⟨_, rfl, ⟨_, by walk_at "sq"⟩, ?_⟩)
  | ((with_reducible show ∃ a, V.ref _ = V.ref a ∧ (∃ xs, SqT _ _ a xs) ∧ _); refine ⟨_, rfl, ⟨_, by walk_at "sq"⟩, ?_⟩)
  | ((with_reducible show ∃ j : Int, [V.int _] = [V.int j] ∧ _ ≤ j ∧ j < _ ∧ _); refine ⟨_, rfl, by omega, by omega, ?_⟩)
  | ((with_reducible show ∃ i j : Int, [V.int _, V.int _] = [V.int i, V.int j] ∧ (_ ≤ i ∧ i < _ ∧ _ ≤ j ∧ j < _) ∧ _); refine ⟨_, _, rfl, ⟨by omega, by omega, by omega, by omega⟩, ?_⟩)
  | ((with_reducible show ∃ i j : Int, [V.int _, V.int _] = [V.int i, V.int j] ∧ _); refine ⟨_, _, rfl, ?_⟩)
  | ((with_reducible show ∃ i : Int, [V.int _] = [V.int i] ∧ _); refine ⟨_, rfl, ?_⟩)
  | ((with_reducible show _ ≤ sizeLine ∧ _); refine ⟨by first | decide | (simp only [List.length_cons, List.length_nil]; decide), ?_⟩))
local macro_rules | `(tactic| walk_at "g1") => `(tactic| first | walk_at "g0" | with_reducible refine Go.g_sub ?_)
local macro_rules | `(tactic| walk_at "g") => `(tactic| repeat walk_at "g1")
local macro_rules | `(tactic| walk_at "v") => `(tactic| repeat walk_at "g0")
local macro_rules | `(tactic| walk_at "if") => `(tactic| first
  | with_reducible refine @Go.g_itd _ _ _ _ ?_ ?_
  | with_reducible refine @Go.g_itnd _ _ _ _ ?_ ?_
  | with_reducible refine Go.g_ite ?_ ?_)

section
variable {P : Program} {w : World} {K : PySem.W.Frag} {mg : Str → Option Value} {base : Heap}
theorem min3_int (a b c : Int) : nuMin3 (.int a) (.int b) (.int c) = some (.int (m3 a b c)) := by
  unfold nuMin3 nuMin2 nuLt nuCB m3
  simp only [Option.map_some, Option.bind_some, decide_eq_true_eq]
  by_cases h1 : b < a
  · simp only [h1, if_true, decide_true, Option.map_some, decide_eq_true_eq]
    by_cases h2 : c < b
    · rw [if_pos h2]; congr 2; omega
    · rw [if_neg h2]; congr 2; omega
  · simp only [h1, decide_false, Option.map_some, if_false, decide_eq_true_eq, Bool.false_eq_true]
    by_cases h2 : c < a
    · rw [if_pos h2]; congr 2; omega
    · rw [if_neg h2]; congr 2; omega
/-- a row of ints by places -/
def rowV (n : Nat) (f : Nat → Int) : List V := (List.range n).map fun j => V.int (f j)
theorem rowV_len (n : Nat) (f : Nat → Int) : (rowV n f).length = n := by unfold rowV; rw [List.length_map, List.length_range]
theorem rowV_at {n : Nat} {f : Nat → Int} {i : Int} {k : Nat} (e : i = (k : Int)) (h : k < n) : atI (rowV n f) i = some (.int (f k)) := by
  subst e
  refine atI_nat ?_
  unfold rowV
  rw [List.getElem?_map, List.getElem?_range h]; rfl
theorem rowV_succ (n : Nat) (f : Nat → Int) : rowV (n + 1) f = rowV n f ++ [.int (f n)] := by
  unfold rowV; rw [List.range_succ, List.map_append]; rfl
theorem rowV_congr {n : Nat} {f g : Nat → Int} (h : ∀ j, j < n → f j = g j) : rowV n f = rowV n g := by
  unfold rowV
  refine List.map_congr_left fun j hj => ?_
  rw [h j (List.mem_range.mp hj)]
theorem sign_of {w : List Nat} {i : Int} {k : Nat} (e : i = (k : Int)) (h : k < w.length) : atI (mkS w).cps.toList i = some w[k] := by
  subst e; rw [mkS_list]; exact atI_nat (List.getElem?_eq_getElem h)
def sp__law_distance (K : PySem.W.Frag) : Sp := fun vs H Q _ => ∃ a b : List Nat, vs = [.str (mkS a), .str (mkS b)] ∧ a.length ≤ 12 ∧ b.length ≤ 12 ∧ (∀ c ∈ a, Let c) ∧ (∀ c ∈ b, Let c) ∧
  ∀ H', Same H H' → Q (.int (dd a b)) H'
theorem ok__law_distance (T : Txt K mg) : FnOk P w K mg base CX0 2 T.a__law_distance T.fd__law_distance ["one", "other"] (sp__law_distance K) := by
  refine T.F__law_distance.ok sc__law_distance (fun vs H Q E h => ?_) (fun cdv A outer s H vs Q E hr h => ?_)
  · obtain ⟨a, b, rfl, _⟩ := h; rfl
  · obtain ⟨a, b, rfl, ha, hb, la, lb, q⟩ := h
    have za : (mkS a).length ≤ sizeLine := by rw [mkS_len]; exact sz (by omega)
    have zb : (mkS b).length ≤ sizeLine := by rw [mkS_len]; exact sz (by omega)
    have wa := mkS_len a
    have wb := mkS_len b
    refine ⟨_, pss_cons (ps_setLc (i := 2) (own := [("j", 3)]) (g := gName 3) (by rfl) sc__law_distance.nd rfl rfl (sw_true rfl rfl rfl (by decide +kernel)) (pi_range1 (by rfl) T.n_range (pa_cons (pe_op op_add (pe_callB call_len_str (by rfl) T.n_len PySem.boot_len (pa_cons (pv 1) pa_nil)) pe_int) pa_nil)) (blkOk_by (own := [("j", 3)]) (N := ["one", "other", "before", "j", "i", "row"]) (sc := defScope s__law_distance) (by decide +kernel)) (fun _ _ _ _ _ => pg_name (i := 3) sc__law_distance.nd rfl (by first | exact Or.inl rfl | exact Or.inr rfl)) (fun _ _ _ _ _ => pts_nil) (fun _ _ _ _ _ => (pe_op op_mul pe_int (pv 3))))
      (pss_cons (ps_for PassesOwn.never rfl (pi_range1 (by rfl) T.n_range (pa_cons (pe_callB call_len_str (by rfl) T.n_len PySem.boot_len (pa_cons (pv 0) pa_nil)) pa_nil)) (pg_name (i := 4) sc__law_distance.nd rfl (.inl rfl))
        (pss_cons (ps_set (i := 5) sc__law_distance.nd rfl (.inl rfl) (pe_lst (pa_cons (pe_op op_add (pe_ix ix_list (pv 2) pe_int (fun _ _ => rfl)) pe_int) pa_nil)))
        (pss_cons (ps_for PassesOwn.never rfl (pi_range1 (by rfl) T.n_range (pa_cons (pe_callB call_len_str (by rfl) T.n_len PySem.boot_len (pa_cons (pv 1) pa_nil)) pa_nil)) (pg_name (i := 3) sc__law_distance.nd rfl (.inl rfl))
          (pss_one (ps_expr (pe_bm PySem.F.plainAttrs_list PySem.F.slot_list_append PySem.F.type_list_append mt_append (pv 5) (pa_cons (pe_callB (call_min3Nu rfl) (by rfl) T.n_min (by decide +kernel) (pa_cons (pe_op op_add (pe_ix ix_list (pv 2) (pv 3) (fun _ _ => rfl)) (pe_call (ok__law_turn T) hr (by rfl) T.g__law_turn T.F__law_turn.kp T.b__law_turn .nil pass0 (pa_cons (pe_ix ix_str (pv 0) (pv 4) (fun _ _ => rfl)) (pa_cons (pe_ix ix_str (pv 1) (pv 3) (fun _ _ => rfl)) pa_nil)))) (pa_cons (pe_op op_add (pe_ix ix_list (pv 2) (pe_op op_add (pv 3) pe_int) (fun _ _ => rfl)) pe_int) (pa_cons (pe_op op_add (pe_ix ix_list (pv 5) (pv 3) (fun _ _ => rfl)) pe_int) pa_nil)))) pa_nil)))))
        (pss_one (ps_set (i := 2) sc__law_distance.nd rfl (.inl rfl) (pv 5))))))
      (pss_one (ps_ret (pe_ix ix_list (pv 2) (pe_un un_neg pe_int) (fun _ _ => rfl))))), ?_⟩
    walk_at "g"
    intro p np
    refine lcW_range (fun i H' => Same H H' ∧ H' p = some (.lst (rowV i fun j => 2 * (j : Int)))) ⟨Go.Same.new (Same.refl H) np, upd_same⟩ ?_ ?_
    · rintro i H1 hi ⟨s1, e1⟩
      walk_at "g"
      refine ⟨_, e1, by rw [rowV_len]; exact small1000 (by omega), Go.Same.mut s1 np, ?_⟩
      rw [rowV_succ, upd_same]
      simp
    · rintro H1 ⟨s1, e1⟩
      have e1 : H1 p = some (.lst (rowV (b.length + 1) (pre a b 0))) := by
        rw [e1, rowV_congr (g := pre a b 0) fun j hj => ?_]
        · congr 3
        · rw [pre_zero a b (by omega)]
      clear np
      walk_at "g"
      refine forW_range (fun i σ' H' => ∃ (p : Addr) (y3 y4 y5 : Option V), σ' = [some (.str (mkS a)), some (.str (mkS b)), some (.ref p), y3, y4, y5] ∧ Same H H' ∧ H' p = some (.lst (rowV (b.length + 1) (pre a b i))))
        ⟨p, _, _, _, rfl, s1, e1⟩ ?_ ?_
      · rintro i σ' H2 hi ⟨p, y3, y4, y5, rfl, s2, e2⟩
        have hi' : i < a.length := by omega
        walk_at "g"
        refine g_ixL (by walk_at "sq") (rowV_at (k := 0) rfl (by omega)) ?_
        walk_at "g"
        intro r nr
        have s3 : Same H (upd H2 r (.lst [.int (pre a b i 0 + 2)])) := Go.Same.new s2 nr
        have npr : p ≠ r := ne_of_none e2 nr
        have nr0 : H r = none := Same.free s2 nr
        walk_at "g"
        refine forW_range (fun j σ' H' => ∃ (y3 : Option V), σ' = [some (.str (mkS a)), some (.str (mkS b)), some (.ref p), y3, some (.int (0 + i)), some (.ref r)] ∧ Same H H' ∧ H' p = some (.lst (rowV (b.length + 1) (pre a b i))) ∧
            H' r = some (.lst (rowV (j + 1) (pre a b (i + 1)))))
          ⟨_, rfl, s3, at_upd npr e2, ?_⟩ ?_ ?_
        · rw [upd_same]
          show some (HO.lst [V.int (pre a b i 0 + 2)]) = some (HO.lst [V.int (pre a b (i + 1) 0)])
          rw [pre_zero' a b (by omega), pre_zero' a b (by omega)]
          congr 4
        · rintro j σ' H3 hj ⟨y3, rfl, s4, e4, f4⟩
          have hj' : j < b.length := by omega
          walk_at "g"
          refine ⟨.inl ⟨rfl, _, by walk_at "sq"⟩, ?_⟩
          walk_at "g"
          refine g_ixL (by walk_at "sq") (rowV_at (k := j) (by omega) (by omega)) ?_
          walk_at "g"
          refine ⟨_, _, _, rfl, rfl, za, sign_of (k := i) (by omega) hi', ?_⟩
          walk_at "g"
          refine ⟨_, _, _, rfl, rfl, zb, sign_of (k := j) (by omega) hj', ?_⟩
          walk_at "g"
          refine ⟨_, _, rfl, la _ (List.getElem_mem _), lb _ (List.getElem_mem _), ?_⟩
          walk_at "g"
          refine g_ixL (by walk_at "sq") (rowV_at (k := j + 1) (by omega) (by omega)) ?_
          walk_at "g"
          refine g_ixL (by walk_at "sq") (rowV_at (k := j) (by omega) (by omega)) ?_
          walk_at "g"
          refine ⟨_, _, _, _, rfl, min3_int _ _ _, ?_⟩
          walk_at "g"
          refine ⟨_, _, _, rfl, rfl, f4, by rw [rowV_len]; exact Nat.lt_of_le_of_lt (by omega : _ ≤ 100) (by decide), ?_⟩
          refine ⟨_, rfl, Go.Same.mut s4 nr0, at_upd npr e4, ?_⟩
          rw [upd_same, rowV_succ (j + 1), pre_step hi' hj']
        · rintro σ' H3 ⟨y3, rfl, s4, e4, f4⟩
          have ej : (((mkS b).length : Nat) : Int).toNat = b.length := by omega
          rw [ej] at f4
          walk_at "g"
          exact ⟨r, _, _, _, rfl, s4, f4⟩
      · rintro σ' H2 ⟨p, y3, y4, y5, rfl, s2, e2⟩
        have ei : (((mkS a).length : Nat) : Int).toNat = a.length := by omega
        rw [ei] at e2
        walk_at "g"
        refine g_ixL (by walk_at "sq") (?_ : _ = some (.int (pre a b a.length b.length))) ?_
        · rw [rowV_succ]; exact atI_last _ _
        · rw [pre_all]; exact q _ s2

end
end K62

namespace K62
open PySem PySem.Spec PyProof.Rows L2 Go
set_option maxHeartbeats 8000000
local macro_rules | `(tactic| walk_at "ne") => `(tactic| first
  | assumption
  | (refine Ne.symm ?_; assumption)
  | exact (Go.free_upd (by assumption)).2
  | exact (Go.free_upd (by assumption)).2.symm
  | exact Go.ne_fr (by assumption) (by walk_at "hp")
  | exact (Go.ne_fr (by assumption) (by walk_at "hp")).symm)
local macro_rules | `(tactic| walk_at "fr") => `(tactic| first
  | assumption
  | exact (Go.free_upd (by assumption)).1
  | exact (Go.free_upd (Go.free_upd (by assumption)).1).1
  | exact Same.free (by assumption) (by walk_at "fr"))
local macro_rules | `(tactic| walk_at "hp") => `(tactic| first
  | assumption
  | with_reducible exact upd_same
  | ((with_reducible show upd _ _ _ _ = _); exact Go.at_upd (by walk_at "ne") (by walk_at "hp"))
  | exact (by assumption : Same _ _) _ _ (by walk_at "hp")
  | exact (by assumption : Go.Kp _ _ _) _ _ (by walk_at "ne") (by walk_at "hp")
  | exact (by assumption : Go.Kp2 _ _ _ _) _ _ (by walk_at "ne") (by walk_at "ne") (by walk_at "hp"))
local macro_rules | `(tactic| walk_at "sq") => `(tactic| first
  | assumption
  | ((with_reducible show SqL _ (upd _ _ _) _ _); exact (by assumption : ∀ o, SqL _ (upd _ _ o) _ _) _)
  | ((with_reducible show SqL _ _ _ _); exact SqL.of (by walk_at "hp"))
  | ((with_reducible show SqT _ _ _ _); exact SqT.of (by walk_at "hp"))
  | ((with_reducible show SqL _ (upd _ _ _) _ _); exact Go.sqL_new (by walk_at "fr") (by walk_at "sq"))
  | ((with_reducible show SqT _ (upd _ _ _) _ _); exact Go.sqT_new (by walk_at "fr") (by walk_at "sq"))
  | ((with_reducible show SqL _ (upd _ _ _) _ _); exact Go.sqL_ne (by walk_at "ne") (by walk_at "sq"))
  | exact Go.sqL_same (by assumption) (by walk_at "sq")
  | exact Go.sqT_same (by assumption) (by walk_at "sq")
  | exact Go.sqL_kp (by assumption) (by walk_at "ne") (by walk_at "sq")
  | exact Go.sqT_kp (by assumption) (by walk_at "ne") (by walk_at "sq"))
local macro_rules | `(tactic| walk_at "ci") => `(tactic| first
  | exact .inr ⟨by decide, by decide⟩
  | exact .inl ⟨by decide, by decide⟩
  | exact ⟨by decide, by decide, by decide⟩
  | decide
  | omega
  | exact ⟨by omega, by omega⟩
  | exact .inl ⟨by omega, by omega⟩
  | exact .inr ⟨by omega, by omega⟩)
local macro_rules | `(tactic| walk_at "g0") => `(tactic| first
  | with_reducible refine Go.g_seq ?_
  | ((with_reducible show tVar _ _ _ _); refine ⟨_, rfl, ?_⟩)
  | with_reducible refine Go.g_c ?_
  | with_reducible refine Go.g_op ?_
  | with_reducible refine Go.g_asg ?_
  | with_reducible refine Go.g_name ?_
  | with_reducible refine Go.g_cons ?_
  | with_reducible refine Go.g_lst ?_
  | with_reducible refine Go.g_tup ?_
  | with_reducible refine Go.g_for ?_
  | with_reducible refine Go.g_rng1 ?_
  | with_reducible refine Go.g_rng2 ?_
  | with_reducible refine Go.g_rng3 ?_
  | with_reducible refine Go.g_list ?_
  | with_reducible refine Go.g_itup ?_
  | with_reducible refine Go.g_enum ?_
  | ((with_reducible show tPar _ _ _ _ _ _); unfold tPar)
  | ((with_reducible show ∃ v w, [_, _] = [v, w] ∧ _); refine ⟨_, _, rfl, ?_⟩)
  | with_reducible refine Go.g_zip ?_
  | with_reducible refine Go.g_augS ?_
  | with_reducible refine Go.g_lc ?_
  | with_reducible refine Go.g_nil ?_
  | with_reducible refine Go.g_cb ?_
  | with_reducible refine Go.g_call ?_
  | with_reducible refine Go.g_ret ?_
  | with_reducible refine Go.g_next ?_
  | with_reducible refine Go.g_drop ?_
  | with_reducible refine Go.g_un ?_
  | with_reducible refine Go.g_test ?_
  | with_reducible refine Go.g_tB ?_
  | with_reducible refine Go.g_ifs ?_
  | with_reducible refine Go.g_if ?_
  | with_reducible refine Go.g_and ?_
  | with_reducible refine Go.g_or ?_
  | with_reducible refine Go.g_not ?_
  | with_reducible refine Go.g_sl ?_
  | with_reducible refine Go.g_nopart ?_
  | with_reducible refine Go.g_part ?_
  | ((with_reducible show ∃ k, V.bl _ = V.bl k ∧ _); refine ⟨_, rfl, ?_⟩)
  | ((with_reducible show ∃ k, V.int _ = V.int k ∧ _); refine ⟨_, rfl, ?_⟩)
  | with_reducible refine Go.g_bm ?_
  | with_reducible refine Go.g_yes ?_
  | ((with_reducible show rI0 _ _ _ _ _); refine ⟨_, _, rfl, rfl, ?_⟩)
  | ((with_reducible show rI _ _ _ _ _ _); refine ⟨_, _, rfl, rfl, ?_, ?_⟩; (focus walk_at "ci"))
  | ((with_reducible show rU _ _ _ _); refine ⟨_, rfl, ?_⟩)
  | ((with_reducible show rEq _ _ _ _); refine ⟨rfl, ?_⟩)
  | ((with_reducible show rNe _ _ _ _); refine ⟨rfl, ?_⟩)
  | ((with_reducible show rIxL _ _ _ _ _); refine Go.g_ixL (by walk_at "sq") (by rfl) ?_)
  | ((with_reducible show rIxT _ _ _ _ _); refine Go.g_ixT (by walk_at "sq") (by rfl) ?_)
  | ((with_reducible show rSetL _ _ _ _ _); refine Go.g_setL (by walk_at "hp") (by rfl) ?_)
  | ((with_reducible show ∃ p ys, [V.ref _] = [V.ref p] ∧ (SqL _ _ _ _ ∨ SqT _ _ _ _) ∧ _); refine ⟨_, _, rfl, .inl (by walk_at "sq"), ?_⟩)
  | ((with_reducible show (∃ i, [V.int _] = [V.int i] ∧ _) ∨ _); refine .inl ⟨_, rfl, ?_⟩)
  | ((with_reducible show ∃ (c : Nat) (z : Str), V.str _ = V.str ⟨#[c]⟩ ∧ V.str _ = V.str z ∧ _); refine ⟨_, _, rfl, rfl, ?_⟩)
  | ((with_reducible show ∃ x : Str, [V.str _] = [V.str x] ∧ Str.length x = 1 ∧ _); refine ⟨_, rfl, rfl, ?_⟩)
  | ((with_reducible show ∃ z : Str, [V.str _] = [V.str z] ∧ Str.length z ≤ sizeLine ∧ _); refine ⟨_, rfl, by assumption, ?_⟩)
  | ((with_reducible show rSlS _ _ _ _ _); refine ⟨_, rfl, by assumption, ?_⟩)
  | ((with_reducible show gTup _ _ _ _ _ _ _); refine Go.g_gtup (by walk_at "sq") (by rfl) ?_)
  | ((with_reducible show gCons _ _ _ _ _ _); refine ⟨_, _, rfl, ?_⟩)
  | ((with_reducible show gNil _ _ _ _); refine ⟨rfl, ?_⟩)
  | ((with_reducible show rLenS _ _ _ _); refine Go.g_lenL (by walk_at "sq") ?_)
  | ((with_reducible show rListOf _ _ _ _); refine Go.g_listL (by walk_at "sq") ?_)
  | ((with_reducible show wipe _ _ = wipe _ _ ∧ _); refine ⟨rfl, ?_⟩)
  | ((with_reducible show if true = true then _ else _); refine iteT ?_)
  | ((with_reducible show if false = true then _ else _); refine iteF ?_)
  | ((with_reducible show ∃ a b xs ys, [V.ref _, V.ref _] = [V.ref a, V.ref b] ∧ SqL _ _ a xs ∧ SqL _ _ b ys ∧ _); refine ⟨_, _, _, _, rfl, by walk_at "sq", by walk_at "sq", ?_⟩)
  | ((with_reducible show ∃ a xs, [V.ref _] = [V.ref a] ∧ SqL _ _ a xs ∧ _); refine ⟨_, _, rfl, by walk_at "sq", ?_⟩)
  | ((with_reducible show ∃ a, V.ref _ = V.ref a ∧ (∃ xs, SqL _ _ a xs) ∧ _); refine ⟨_, rfl, ⟨_, by walk_at "sq"⟩, ?_⟩)
  | ((with_reducible show ∃ a, V.ref _ = V.ref a ∧ (∃ xs, SqT _ _ a xs) ∧ _); refine ⟨_, rfl, ⟨_, by walk_at "sq"⟩, ?_⟩)
  | ((with_reducible show ∃ j : Int, [V.int _] = [V.int j] ∧ _ ≤ j ∧ j < _ ∧ _); refine ⟨_, rfl, by omega, by omega, ?_⟩)
  | ((with_reducible show ∃ i j : Int, [V.int _, V.int _] = [V.int i, V.int j] ∧ (_ ≤ i ∧ i < _ ∧ _ ≤ j ∧ j < _) ∧ _); refine ⟨_, _, rfl, ⟨by omega, by omega, by omega, by omega⟩, ?_⟩)
  | ((with_reducible show ∃ i j : Int, [V.int _, V.int _] = [V.int i, V.int j] ∧ _); refine ⟨_, _, rfl, ?_⟩)
  | ((with_reducible show ∃ i : Int, [V.int _] = [V.int i] ∧ _); refine ⟨_, rfl, ?_⟩)
  | ((with_reducible show _ ≤ sizeLine ∧ _); refine ⟨by first | decide | (simp only [List.length_cons, List.length_nil]; decide), ?_⟩))
local macro_rules | `(tactic| walk_at "g1") => `(tactic| first | walk_at "g0" | with_reducible refine Go.g_sub ?_)
local macro_rules | `(tactic| walk_at "g") => `(tactic| repeat walk_at "g1")
local macro_rules | `(tactic| walk_at "v") => `(tactic| repeat walk_at "g0")
local macro_rules | `(tactic| walk_at "if") => `(tactic| first
  | with_reducible refine @Go.g_itd _ _ _ _ ?_ ?_
  | with_reducible refine @Go.g_itnd _ _ _ _ ?_ ?_
  | with_reducible refine Go.g_ite ?_ ?_)

section
variable {P : Program} {w : World} {K : PySem.W.Frag} {mg : Str → Option Value} {base : Heap}
theorem at_ne {rs : List Addr} (nd : rs.Nodup) {i j : Nat} (hi : i < rs.length) (hj : j < rs.length) (e : i ≠ j) : rs[i] ≠ rs[j] := by
  have := List.pairwise_iff_getElem.mp nd
  rcases Nat.lt_or_gt_of_ne e with h | h
  · exact this i j hi hj h
  · exact (this j i hj hi h).symm
/-- a table: a list of rows -/
structure Rows (H : Hp) (p : Addr) (rs : List Addr) (n m : Nat) (R : Nat → Nat → Int) : Prop where
  top : H p = some (.lst (rs.map V.ref))
  len : rs.length = n
  row : ∀ k (h : k < rs.length), H rs[k] = some (.lst (rowV m (R k)))
  nd : rs.Nodup
  np : p ∉ rs
theorem rowV_set {n : Nat} {f : Nat → Int} {j : Nat} {v : Int} : (rowV n f).set j (.int v) = rowV n fun x => if x = j then v else f x := by
  refine List.ext_getElem? fun i => ?_
  unfold rowV
  rw [List.getElem?_set, List.getElem?_map]
  by_cases hi : i < n
  · rw [List.getElem?_range hi, List.getElem?_map, List.getElem?_range hi, List.length_map, List.length_range]
    by_cases e : j = i
    · subst e; rw [if_pos rfl, if_pos hi]; simp
    · rw [if_neg e]; simp only [Option.map_some]; rw [if_neg (fun z => e z.symm)]
  · rw [List.getElem?_eq_none (by simp; omega), List.getElem?_map, List.getElem?_eq_none (by simp; omega), List.length_map, List.length_range]
    split
    · split
      · omega
      · rfl
    · rfl
theorem Rows.set {H : Hp} {p : Addr} {rs : List Addr} {n m : Nat} {R : Nat → Nat → Int} (r : Rows H p rs n m R) {k j : Nat} (h : k < rs.length) (v : Int) :
    Rows (upd H rs[k] (.lst ((rowV m (R k)).set j (.int v)))) p rs n m (fun k' j' => if k' = k ∧ j' = j then v else R k' j') := by
  have hp : p ≠ rs[k] := fun e => r.np (by rw [e]; exact List.getElem_mem h)
  refine ⟨at_upd hp r.top, r.len, fun k' h' => ?_, r.nd, r.np⟩
  by_cases e : k' = k
  · subst e
    rw [upd_same, rowV_set]
    congr 3
    funext x
    by_cases ex : x = j
    · simp [ex]
    · simp [ex]
  · have hne : rs[k'] ≠ rs[k] := at_ne r.nd h' h e
    rw [upd_ne hne, r.row k' h']
    congr 3
    funext x
    rw [if_neg (fun z => e z.1)]
theorem Rows.ix {H : Hp} {p : Addr} {rs : List Addr} {n m : Nat} {R : Nat → Nat → Int} (r : Rows H p rs n m R) {i : Int} {k : Nat} (e : i = (k : Int)) (h : k < rs.length) : atI (rs.map V.ref) i = some (.ref rs[k]) := by
  subst e
  refine atI_nat ?_
  rw [List.getElem?_map, List.getElem?_eq_getElem h]; rfl
def sp_table (K : PySem.W.Frag) : Sp := fun vs H Q _ => ∃ a b : List Nat, vs = [.str (mkS a), .str (mkS b)] ∧ a.length ≤ 12 ∧ b.length ≤ 12 ∧
  ∀ H' p rs R, Same H H' → Rows H' p rs (a.length + 1) (b.length + 1) R → R 0 0 = dd a b → Q (.ref p) H'
theorem ok_table (T : Txt K mg) : FnOk P w K mg base CX0 2 T.a_table T.fd_table ["one", "other"] (sp_table K) := by
  refine T.F_table.ok sc_table (fun vs H Q E h => ?_) (fun cdv A outer s H vs Q E hr h => ?_)
  · obtain ⟨a, b, rfl, _⟩ := h; rfl
  · obtain ⟨a, b, rfl, ha, hb, q⟩ := h
    have za : (mkS a).length ≤ sizeLine := by rw [mkS_len]; exact sz (by omega)
    have zb : (mkS b).length ≤ sizeLine := by rw [mkS_len]; exact sz (by omega)
    have wa := mkS_len a
    have wb := mkS_len b
    refine ⟨_, pss_cons (ps_setLc (i := 2) (own := [("_", 3)]) (g := gName 3) (by rfl) sc_table.nd rfl rfl (sw_true rfl rfl rfl (by decide +kernel)) (pi_range1 (by rfl) T.n_range (pa_cons (pe_op op_add (pe_callB call_len_str (by rfl) T.n_len PySem.boot_len (pa_cons (pv 0) pa_nil)) pe_int) pa_nil)) (blkOk_by (own := [("_", 3)]) (N := ["one", "other", "rows", "_", "i", "j", "turned"]) (sc := defScope s_table) (by decide +kernel)) (fun _ _ _ _ _ => pg_name (i := 3) sc_table.nd rfl (by first | exact Or.inl rfl | exact Or.inr rfl)) (fun _ _ _ _ _ => pts_nil) (fun _ _ _ _ _ => (pe_op op_rep (pe_lst (pa_cons pe_int pa_nil)) (pe_op op_add (pe_callB call_len_str (by rfl) T.n_len PySem.boot_len (pa_cons (pv 1) pa_nil)) pe_int))))
      (pss_cons (ps_for PassesOwn.never rfl (pi_range3 (by rfl) T.n_range (pa_cons (pe_callB call_len_str (by rfl) T.n_len PySem.boot_len (pa_cons (pv 0) pa_nil)) (pa_cons (pe_un un_neg pe_int) (pa_cons (pe_un un_neg pe_int) pa_nil)))) (pg_name (i := 4) sc_table.nd rfl (.inl rfl))
        (pss_one (ps_for PassesOwn.never rfl (pi_range3 (by rfl) T.n_range (pa_cons (pe_callB call_len_str (by rfl) T.n_len PySem.boot_len (pa_cons (pv 1) pa_nil)) (pa_cons (pe_un un_neg pe_int) (pa_cons (pe_un un_neg pe_int) pa_nil)))) (pg_name (i := 5) sc_table.nd rfl (.inl rfl))
          (pss_one (ps_if (pt_cmpR op_eq (pv 4) (pe_callB call_len_str (by rfl) T.n_len PySem.boot_len (pa_cons (pv 0) pa_nil)) (nomark _))
            (pss_one (ps_asg (pe_op op_mul pe_int (pe_op op_sub (pe_callB call_len_str (by rfl) T.n_len PySem.boot_len (pa_cons (pv 1) pa_nil)) (pv 5))) (pg_sub (pe_ix ix_list (pv 2) (pv 4) (fun _ _ => rfl)) (pv 5) set_list)))
            (pss_one (ps_if (pt_cmpR op_eq (pv 5) (pe_callB call_len_str (by rfl) T.n_len PySem.boot_len (pa_cons (pv 1) pa_nil)) (nomark _))
              (pss_one (ps_asg (pe_op op_mul pe_int (pe_op op_sub (pe_callB call_len_str (by rfl) T.n_len PySem.boot_len (pa_cons (pv 0) pa_nil)) (pv 4))) (pg_sub (pe_ix ix_list (pv 2) (pv 4) (fun _ _ => rfl)) (pv 5) set_list)))
              (pss_one (ps_if (pt_cmpR op_eq (pe_ix ix_str (pv 0) (pv 4) (fun _ _ => rfl)) (pe_ix ix_str (pv 1) (pv 5) (fun _ _ => rfl)) (nomark _))
                (pss_one (ps_asg (pe_ix ix_list (pe_ix ix_list (pv 2) (pe_op op_add (pv 4) pe_int) (fun _ _ => rfl)) (pe_op op_add (pv 5) pe_int) (fun _ _ => rfl)) (pg_sub (pe_ix ix_list (pv 2) (pv 4) (fun _ _ => rfl)) (pv 5) set_list)))
                (pss_cons (ps_set (i := 6) sc_table.nd rfl (.inl rfl) (pe_op op_add (pe_call (ok_turn_cost T) hr (by rfl) T.g_turn_cost T.F_turn_cost.kp T.b_turn_cost .nil pass0 (pa_cons (pe_ix ix_str (pv 0) (pv 4) (fun _ _ => rfl)) (pa_cons (pe_ix ix_str (pv 1) (pv 5) (fun _ _ => rfl)) pa_nil))) (pe_ix ix_list (pe_ix ix_list (pv 2) (pe_op op_add (pv 4) pe_int) (fun _ _ => rfl)) (pe_op op_add (pv 5) pe_int) (fun _ _ => rfl))))
                (pss_one (ps_asg (pe_callB (call_min3Nu rfl) (by rfl) T.n_min (by decide +kernel) (pa_cons (pv 6) (pa_cons (pe_op op_add pe_int (pe_ix ix_list (pe_ix ix_list (pv 2) (pe_op op_add (pv 4) pe_int) (fun _ _ => rfl)) (pv 5) (fun _ _ => rfl))) (pa_cons (pe_op op_add pe_int (pe_ix ix_list (pe_ix ix_list (pv 2) (pv 4) (fun _ _ => rfl)) (pe_op op_add (pv 5) pe_int) (fun _ _ => rfl))) pa_nil)))) (pg_sub (pe_ix ix_list (pv 2) (pv 4) (fun _ _ => rfl)) (pv 5) set_list)))))))))))))
      (pss_one (ps_ret (pv 2)))), ?_⟩
    walk_at "g"
    intro p np
    refine lcW_range (fun i H' => Same H H' ∧ ∃ rs, Rows H' p rs i (b.length + 1) (fun _ _ => 0) ∧ ∀ r ∈ rs, H r = none) ⟨Go.Same.new (Same.refl H) np, [], ⟨upd_same, rfl, (fun k h => nomatch h), List.nodup_nil, (fun h => nomatch h)⟩, (fun r h => nomatch h)⟩ ?_ ?_
    · rintro i H1 hi ⟨s1, rs, r1, f1⟩
      walk_at "g"
      intro l nl
      walk_at "g"
      refine ⟨l, _, _, rfl, rfl, upd_same, by omega, by omega, ?_, fun r nr => ?_⟩
      · show 1 * _ ≤ _
        exact sz (by omega)
      · obtain ⟨nr, nrl⟩ := free_upd nr
        have hpl : p ≠ l := ne_of_none r1.top nl
        have hpr : p ≠ r := ne_of_none r1.top nr
        have top2 : (upd (upd H1 l (.lst [.int 0])) r (.lst (rowV (b.length + 1) fun _ => 0))) p = some (.lst (rs.map V.ref)) := at_upd hpr (at_upd hpl r1.top)
        have eR : (List.replicate (((mkS b).length : Int) + 1).toNat [V.int 0]).flatten = rowV (b.length + 1) fun _ => 0 := by
          rw [show (((mkS b).length : Int) + 1).toNat = b.length + 1 by omega]
          unfold rowV
          generalize b.length + 1 = z
          induction z with
          | zero => rfl
          | succ z ih => rw [List.replicate_succ', List.flatten_append, ih, List.range_succ, List.map_append]; rfl
        rw [eR]
        refine ⟨_, top2, ?_, ?_, rs ++ [r], ⟨?_, ?_, ?_, ?_, ?_⟩, ?_⟩
        · rw [List.length_map, r1.len]; exact small1000 (by omega)
        · exact Go.Same.mut (Go.Same.new (Go.Same.new s1 nl) (at_upd nrl nr)) np
        · rw [upd_same, List.map_append]; rfl
        · rw [List.length_append, r1.len]; rfl
        · intro k hk
          rw [List.length_append, List.length_singleton] at hk
          by_cases hk2 : k < rs.length
          · have e := r1.row k hk2
            rw [List.getElem_append_left hk2]
            have m1 : rs[k] ≠ p := fun z => r1.np (by rw [← z]; exact List.getElem_mem hk2)
            rw [upd_ne m1, upd_ne (ne_of_none e nr), upd_ne (ne_of_none e nl)]
            exact e
          · have ek : k = rs.length := by omega
            subst ek
            have er : (rs ++ [r])[rs.length]'(by simp) = r := by simp
            rw [er, upd_ne hpr.symm, upd_same]
        · refine List.nodup_append.mpr ⟨r1.nd, by simp, ?_⟩
          intro x hx y hy
          rw [List.mem_singleton] at hy
          subst hy
          obtain ⟨k, hk, rfl⟩ := List.getElem_of_mem hx
          exact ne_of_none (r1.row k hk) nr
        · intro hm
          rcases List.mem_append.mp hm with z | z
          · exact r1.np z
          · exact hpr (List.mem_singleton.mp z)
        · intro x hx
          rcases List.mem_append.mp hx with z | z
          · exact f1 x z
          · rw [List.mem_singleton.mp z]; exact Same.free s1 nr
    · rintro H1 ⟨s1, rs, r1, f1⟩
      have ea : (((mkS a).length : Int) + 1).toNat = a.length + 1 := by omega
      rw [ea] at r1
      walk_at "g"
      refine ⟨_, _, _, _, rfl, RgC.neg (by omega) (by omega) (by decide) (by decide), ?_⟩
      refine forW_rangeC (fun t σ' H' => ∃ (y3 y4 y5 y6 : Option V) (R : Nat → Nat → Int), σ' = [some (.str (mkS a)), some (.str (mkS b)), some (.ref p), y3, y4, y5, y6] ∧ Same H H' ∧ Rows H' p rs (a.length + 1) (b.length + 1) R ∧
          ∀ k j, k ≤ a.length → j ≤ b.length → a.length < k + t → R k j = suf a b k j)
        ⟨_, _, _, _, _, rfl, s1, r1, fun k j h1 h2 h3 => by omega⟩ ?_ ?_
      · rintro t σ' H2 ht ⟨y3, y4, y5, y6, R, rfl, s2, r2, g2⟩
        have ht' : t ≤ a.length := by omega
        obtain ⟨k, hk⟩ : ∃ k, k + t = a.length := ⟨a.length - t, by omega⟩
        have ek : (((mkS a).length : Nat) : Int) + (t : Nat) * -1 = (k : Int) := by omega
        walk_at "g"
        refine ⟨_, _, _, _, rfl, RgC.neg (by omega) (by omega) (by decide) (by decide), ?_⟩
        refine forW_rangeC (fun u σ' H' => ∃ (y5 y6 : Option V) (R : Nat → Nat → Int), σ' = [some (.str (mkS a)), some (.str (mkS b)), some (.ref p), y3, some (.int k), y5, y6] ∧ Same H H' ∧ Rows H' p rs (a.length + 1) (b.length + 1) R ∧
            ∀ k' j, k' ≤ a.length → j ≤ b.length → (k < k' ∨ (k' = k ∧ b.length < j + u)) → R k' j = suf a b k' j)
          ⟨_, _, R, by rw [ek]; rfl, s2, r2, fun k' j h1 h2 h3 => g2 k' j h1 h2 (by omega)⟩ ?_ ?_
        · rintro u σ' H3 hu ⟨y5, y6, R, rfl, s3, r3, g3⟩
          have hu' : u ≤ b.length := by omega
          obtain ⟨j, hj⟩ : ∃ j, j + u = b.length := ⟨b.length - u, by omega⟩
          have ej : (((mkS b).length : Nat) : Int) + (u : Nat) * -1 = (j : Int) := by omega
          have hkr : k < rs.length := by rw [r3.len]; omega
          have fin : ∀ (v : Int) (y6 : Option V) (Qn : L2.St → Hp → Prop), v = suf a b k j → (∀ H' R, Same H H' → Rows H' p rs (a.length + 1) (b.length + 1) R →
              (∀ k' j, k' ≤ a.length → j ≤ b.length → (k < k' ∨ (k' = k ∧ b.length < j + (u + 1))) → R k' j = suf a b k' j) → Qn [some (.str (mkS a)), some (.str (mkS b)), some (.ref p), y3, some (.int k), some (.int j), y6] H') →
              gSub (tOp (rIxL K) (tVar 2) (tVar 4)) (tVar 5) rSetL (.int v) [some (.str (mkS a)), some (.str (mkS b)), some (.ref p), y3, some (.int k), some (.int j), y6] H3 Qn := by
            intro v y6 Qn ev hq
            have top3 := r3.top
            have row3 := r3.row k hkr
            walk_at "g"
            refine g_ixL (by walk_at "sq") (r3.ix rfl hkr) ?_
            walk_at "g"
            refine g_setL row3 (ixN_some (by omega) (by rw [rowV_len]; omega)) ?_
            refine hq _ _ (Go.Same.mut s3 (f1 _ (List.getElem_mem hkr))) (r3.set hkr v) fun k' j' h1 h2 h3 => ?_
            by_cases e : k' = k ∧ j' = (j : Int).toNat
            · rw [if_pos e, e.1, e.2, ev]; rfl
            · rw [if_neg e]
              refine g3 k' j' h1 h2 ?_
              rcases h3 with h3 | ⟨h3, h4⟩
              · exact .inl h3
              · refine .inr ⟨h3, ?_⟩
                have : j' ≠ j := fun z => e ⟨h3, by omega⟩
                omega
          rw [ej]
          walk_at "g"
          have top3 := r3.top
          have row3 := r3.row k hkr
          have post : ∀ (y6 : Option V) (H' : Hp) (R : Nat → Nat → Int), Same H H' → Rows H' p rs (a.length + 1) (b.length + 1) R →
              (∀ k' j, k' ≤ a.length → j ≤ b.length → (k < k' ∨ (k' = k ∧ b.length < j + (u + 1))) → R k' j = suf a b k' j) →
              ∃ (y5 y6' : Option V) (R : Nat → Nat → Int), [some (.str (mkS a)), some (.str (mkS b)), some (.ref p), y3, some (.int k), some (.int j), y6] = [some (.str (mkS a)), some (.str (mkS b)), some (.ref p), y3, some (.int k), y5, y6'] ∧ Same H H' ∧ Rows H' p rs (a.length + 1) (b.length + 1) R ∧
                ∀ k' j, k' ≤ a.length → j ≤ b.length → (k < k' ∨ (k' = k ∧ b.length < j + (u + 1))) → R k' j = suf a b k' j :=
            fun y6 H' R h1 h2 h3 => ⟨_, _, R, rfl, h1, h2, h3⟩
          walk_at "if" <;> intro e1
          · have e1 := V.int.inj e1
            walk_at "v"
            refine fin _ y6 _ ?_ (post y6)
            have e : k = a.length := by omega
            subst e
            rw [suf_end (by omega)]; omega
          · have e1 : k ≠ a.length := fun z => e1 (by rw [z, wa])
            walk_at "v"
            walk_at "if" <;> intro e2
            · have e2 := V.int.inj e2
              walk_at "v"
              refine fin _ y6 _ ?_ (post y6)
              have e : j = b.length := by omega
              subst e
              rw [suf_end' (by omega)]; omega
            · have e2 : j ≠ b.length := fun z => e2 (by rw [z, wb])
              have hi' : k < a.length := by omega
              have hj' : j < b.length := by omega
              have hk1 : k + 1 < rs.length := by rw [r3.len]; omega
              have row4 := r3.row (k + 1) hk1
              have d1 : R (k + 1) (j + 1) = suf a b (k + 1) (j + 1) := g3 _ _ (by omega) (by omega) (by omega)
              have d2 : R (k + 1) j = suf a b (k + 1) j := g3 _ _ (by omega) (by omega) (by omega)
              have d3 : R k (j + 1) = suf a b k (j + 1) := g3 _ _ (by omega) (by omega) (by omega)
              walk_at "v"
              refine ⟨_, _, _, rfl, rfl, za, sign_of (k := k) rfl hi', ?_⟩
              walk_at "v"
              refine ⟨_, _, _, rfl, rfl, zb, sign_of (k := j) rfl hj', ?_⟩
              walk_at "v"
              walk_at "if" <;> intro e3 <;> rw [one_inj] at e3
              · walk_at "v"
                refine g_ixL (by walk_at "sq") (r3.ix (k := k + 1) (by omega) hk1) ?_
                walk_at "v"
                refine g_ixL (by walk_at "sq") (rowV_at (k := j + 1) (by omega) (by omega)) ?_
                walk_at "v"
                refine fin _ y6 _ ?_ (post y6)
                rw [d1, suf_same hi' hj' e3]
              · walk_at "v"
                refine ⟨_, _, _, rfl, rfl, za, sign_of (k := k) rfl hi', ?_⟩
                walk_at "v"
                refine ⟨_, _, _, rfl, rfl, zb, sign_of (k := j) rfl hj', ?_⟩
                walk_at "v"
                refine ⟨_, _, rfl, ?_⟩
                walk_at "v"
                refine g_ixL (by walk_at "sq") (r3.ix (k := k + 1) (by omega) hk1) ?_
                walk_at "v"
                refine g_ixL (by walk_at "sq") (rowV_at (k := j + 1) (by omega) (by omega)) ?_
                walk_at "v"
                refine g_ixL (by walk_at "sq") (r3.ix (k := k + 1) (by omega) hk1) ?_
                walk_at "v"
                refine g_ixL (by walk_at "sq") (rowV_at (k := j) (by omega) (by omega)) ?_
                walk_at "v"
                refine g_ixL (by walk_at "sq") (r3.ix (k := k) (by omega) hkr) ?_
                walk_at "v"
                refine g_ixL (by walk_at "sq") (rowV_at (k := j + 1) (by omega) (by omega)) ?_
                walk_at "v"
                refine ⟨_, _, _, _, rfl, min3_int _ _ _, ?_⟩
                walk_at "v"
                refine fin _ _ _ ?_ (post _)
                rw [d1, d2, d3, suf_other hi' hj' e3]
        · rintro σ' H3 ⟨y5, y6, R, rfl, s3, r3, g3⟩
          exact ⟨_, _, _, _, R, rfl, s3, r3, fun k' j h1 h2 h3 => g3 k' j h1 h2 (by omega)⟩
      · rintro σ' H2 ⟨y3, y4, y5, y6, R, rfl, s2, r2, g2⟩
        walk_at "g"
        refine q _ _ _ R s2 r2 ?_
        rw [g2 0 0 (by omega) (by omega) (by omega)]
        rfl
def sp_distance (K : PySem.W.Frag) : Sp := fun vs H Q _ => ∃ a b : List Nat, vs = [.str (mkS a), .str (mkS b)] ∧ a.length ≤ 12 ∧ b.length ≤ 12 ∧ ∀ H', Same H H' → Q (.int (dd a b)) H'
theorem ok_distance (T : Txt K mg) : FnOk P w K mg base CX0 3 T.a_distance T.fd_distance ["one", "other"] (sp_distance K) := by
  refine T.F_distance.ok sc_distance (fun vs H Q E h => ?_) (fun cdv A outer s H vs Q E hr h => ?_)
  · obtain ⟨a, b, rfl, _⟩ := h; rfl
  · obtain ⟨a, b, rfl, ha, hb, q⟩ := h
    refine ⟨_, pss_one (ps_ret (pe_ix ix_list (pe_ix ix_list (pe_call (ok_table T) hr (by rfl) T.g_table T.F_table.kp T.b_table .nil pass0 (pa_cons (pv 0) (pa_cons (pv 1) pa_nil))) pe_int (fun _ _ => rfl)) pe_int (fun _ _ => rfl))), ?_⟩
    walk_at "g"
    refine ⟨a, b, rfl, ha, hb, fun H1 p rs R s1 r1 e1 => ?_⟩
    have top := r1.top
    have h0 : 0 < rs.length := by rw [r1.len]; omega
    have row := r1.row 0 h0
    walk_at "g"
    refine g_ixL (by walk_at "sq") (r1.ix (k := 0) rfl h0) ?_
    walk_at "g"
    refine g_ixL (by walk_at "sq") (rowV_at (k := 0) rfl (by omega)) ?_
    rw [e1]
    exact q _ s1

end
end K62

namespace K62
open PySem PySem.Spec PyProof.Rows L2 Go
set_option maxHeartbeats 8000000
local macro_rules | `(tactic| walk_at "ne") => `(tactic| first
  | assumption
  | (refine Ne.symm ?_; assumption)
  | exact (Go.free_upd (by assumption)).2
  | exact (Go.free_upd (by assumption)).2.symm
  | exact Go.ne_fr (by assumption) (by walk_at "hp")
  | exact (Go.ne_fr (by assumption) (by walk_at "hp")).symm)
local macro_rules | `(tactic| walk_at "fr") => `(tactic| first
  | assumption
  | exact (Go.free_upd (by assumption)).1
  | exact (Go.free_upd (Go.free_upd (by assumption)).1).1
  | exact Same.free (by assumption) (by walk_at "fr"))
local macro_rules | `(tactic| walk_at "hp") => `(tactic| first
  | assumption
  | with_reducible exact upd_same
  | ((with_reducible show upd _ _ _ _ = _); exact Go.at_upd (by walk_at "ne") (by walk_at "hp"))
  | exact (by assumption : Same _ _) _ _ (by walk_at "hp")
  | exact (by assumption : Go.Kp _ _ _) _ _ (by walk_at "ne") (by walk_at "hp")
  | exact (by assumption : Go.Kp2 _ _ _ _) _ _ (by walk_at "ne") (by walk_at "ne") (by walk_at "hp"))
local macro_rules | `(tactic| walk_at "sq") => `(tactic| first
  | assumption
  | ((with_reducible show SqL _ (upd _ _ _) _ _); exact (by assumption : ∀ o, SqL _ (upd _ _ o) _ _) _)
  | ((with_reducible show SqL _ _ _ _); exact SqL.of (by walk_at "hp"))
  | ((with_reducible show SqT _ _ _ _); exact SqT.of (by walk_at "hp"))
  | ((with_reducible show SqL _ (upd _ _ _) _ _); exact Go.sqL_new (by walk_at "fr") (by walk_at "sq"))
  | ((with_reducible show SqT _ (upd _ _ _) _ _); exact Go.sqT_new (by walk_at "fr") (by walk_at "sq"))
  | ((with_reducible show SqL _ (upd _ _ _) _ _); exact Go.sqL_ne (by walk_at "ne") (by walk_at "sq"))
  | exact Go.sqL_same (by assumption) (by walk_at "sq")
  | exact Go.sqT_same (by assumption) (by walk_at "sq")
  | exact Go.sqL_kp (by assumption) (by walk_at "ne") (by walk_at "sq")
  | exact Go.sqT_kp (by assumption) (by walk_at "ne") (by walk_at "sq"))
local macro_rules | `(tactic| walk_at "ci") => `(tactic| first
  | exact .inr ⟨by decide, by decide⟩
  | exact .inl ⟨by decide, by decide⟩
  | exact ⟨by decide, by decide, by decide⟩
  | decide
  | omega
  | exact ⟨by omega, by omega⟩
  | exact .inl ⟨by omega, by omega⟩
  | exact .inr ⟨by omega, by omega⟩)
local macro_rules | `(tactic| walk_at "g0") => `(tactic| first
  | with_reducible refine Go.g_seq ?_
  | ((with_reducible show tVar _ _ _ _); refine ⟨_, rfl, ?_⟩)
  | with_reducible refine Go.g_c ?_
  | with_reducible refine Go.g_op ?_
  | with_reducible refine Go.g_asg ?_
  | with_reducible refine Go.g_name ?_
  | with_reducible refine Go.g_cons ?_
  | with_reducible refine Go.g_lst ?_
  | with_reducible refine Go.g_tup ?_
  | with_reducible refine Go.g_for ?_
  | with_reducible refine Go.g_rng1 ?_
  | with_reducible refine Go.g_rng2 ?_
  | with_reducible refine Go.g_rng3 ?_
  | with_reducible refine Go.g_list ?_
  | with_reducible refine Go.g_itup ?_
  | with_reducible refine Go.g_enum ?_
  | ((with_reducible show tPar _ _ _ _ _ _); unfold tPar)
  | ((with_reducible show ∃ v w, [_, _] = [v, w] ∧ _); refine ⟨_, _, rfl, ?_⟩)
  | with_reducible refine Go.g_zip ?_
  | with_reducible refine Go.g_augS ?_
  | with_reducible refine Go.g_lc ?_
  | with_reducible refine Go.g_nil ?_
  | with_reducible refine Go.g_cb ?_
  | with_reducible refine Go.g_call ?_
  | with_reducible refine Go.g_ret ?_
  | with_reducible refine Go.g_next ?_
  | with_reducible refine Go.g_drop ?_
  | with_reducible refine Go.g_un ?_
  | with_reducible refine Go.g_test ?_
  | with_reducible refine Go.g_tB ?_
  | with_reducible refine Go.g_ifs ?_
  | with_reducible refine Go.g_if ?_
  | with_reducible refine Go.g_and ?_
  | with_reducible refine Go.g_or ?_
  | with_reducible refine Go.g_not ?_
  | with_reducible refine Go.g_sl ?_
  | with_reducible refine Go.g_nopart ?_
  | with_reducible refine Go.g_part ?_
  | ((with_reducible show ∃ k, V.bl _ = V.bl k ∧ _); refine ⟨_, rfl, ?_⟩)
  | ((with_reducible show ∃ k, V.int _ = V.int k ∧ _); refine ⟨_, rfl, ?_⟩)
  | with_reducible refine Go.g_bm ?_
  | with_reducible refine Go.g_yes ?_
  | ((with_reducible show rI0 _ _ _ _ _); refine ⟨_, _, rfl, rfl, ?_⟩)
  | ((with_reducible show rI _ _ _ _ _ _); refine ⟨_, _, rfl, rfl, ?_, ?_⟩; (focus walk_at "ci"))
  | ((with_reducible show rU _ _ _ _); refine ⟨_, rfl, ?_⟩)
  | ((with_reducible show rEq _ _ _ _); refine ⟨rfl, ?_⟩)
  | ((with_reducible show rNe _ _ _ _); refine ⟨rfl, ?_⟩)
  | ((with_reducible show rIxL _ _ _ _ _); refine Go.g_ixL (by walk_at "sq") (by rfl) ?_)
  | ((with_reducible show rIxT _ _ _ _ _); refine Go.g_ixT (by walk_at "sq") (by rfl) ?_)
  | ((with_reducible show rSetL _ _ _ _ _); refine Go.g_setL (by walk_at "hp") (by rfl) ?_)
  | ((with_reducible show ∃ p ys, [V.ref _] = [V.ref p] ∧ (SqL _ _ _ _ ∨ SqT _ _ _ _) ∧ _); refine ⟨_, _, rfl, .inl (by walk_at "sq"), ?_⟩)
  | ((with_reducible show (∃ i, [V.int _] = [V.int i] ∧ _) ∨ _); refine .inl ⟨_, rfl, ?_⟩)
  | ((with_reducible show ∃ (c : Nat) (z : Str), V.str _ = V.str ⟨#[c]⟩ ∧ V.str _ = V.str z ∧ _); refine ⟨_, _, rfl, rfl, ?_⟩)
  | ((with_reducible show ∃ x : Str, [V.str _] = [V.str x] ∧ Str.length x = 1 ∧ _); refine ⟨_, rfl, rfl, ?_⟩)
  | ((with_reducible show ∃ z : Str, [V.str _] = [V.str z] ∧ Str.length z ≤ sizeLine ∧ _); refine ⟨_, rfl, by assumption, ?_⟩)
  | ((with_reducible show rSlS _ _ _ _ _); refine ⟨_, rfl, by assumption, ?_⟩)
  | ((with_reducible show gTup _ _ _ _ _ _ _); refine Go.g_gtup (by walk_at "sq") (by rfl) ?_)
  | ((with_reducible show gCons _ _ _ _ _ _); refine ⟨_, _, rfl, ?_⟩)
  | ((with_reducible show gNil _ _ _ _); refine ⟨rfl, ?_⟩)
  | ((with_reducible show rLenS _ _ _ _); refine Go.g_lenL (by walk_at "sq") ?_)
  | ((with_reducible show rListOf _ _ _ _); refine Go.g_listL (by walk_at "sq") ?_)
  | ((with_reducible show wipe _ _ = wipe _ _ ∧ _); refine ⟨rfl, ?_⟩)
  | ((with_reducible show if true = true then _ else _); refine iteT ?_)
  | ((with_reducible show if false = true then _ else _); refine iteF ?_)
  | ((with_reducible show ∃ a b xs ys, [V.ref _, V.ref _] = [V.ref a, V.ref b] ∧ SqL _ _ a xs ∧ SqL _ _ b ys ∧ _); refine ⟨_, _, _, _, rfl, by walk_at "sq", by walk_at "sq", ?_⟩)
  | ((with_reducible show ∃ a xs, [V.ref _] = [V.ref a] ∧ SqL _ _ a xs ∧ _); refine ⟨_, _, rfl, by walk_at "sq", ?_⟩)
  | ((with_reducible show ∃ a, V.ref _ = V.ref a ∧ (∃ xs, SqL _ _ a xs) ∧ _); refine ⟨_, rfl, ⟨_, by walk_at "sq"⟩, ?_⟩)
  | ((with_reducible show ∃ a, V.ref _ = V.ref a ∧ (∃ xs, SqT _ _ a xs) ∧ _); refine ⟨_, rfl, ⟨_, by walk_at "sq"⟩, ?_⟩)
  | ((with_reducible show ∃ j : Int, [V.int _] = [V.int j] ∧ _ ≤ j ∧ j < _ ∧ _); refine ⟨_, rfl, by omega, by omega, ?_⟩)
  | ((with_reducible show ∃ i j : Int, [V.int _, V.int _] = [V.int i, V.int j] ∧ (_ ≤ i ∧ i < _ ∧ _ ≤ j ∧ j < _) ∧ _); refine ⟨_, _, rfl, ⟨by omega, by omega, by omega, by omega⟩, ?_⟩)
  | ((with_reducible show ∃ i j : Int, [V.int _, V.int _] = [V.int i, V.int j] ∧ _); refine ⟨_, _, rfl, ?_⟩)
  | ((with_reducible show ∃ i : Int, [V.int _] = [V.int i] ∧ _); refine ⟨_, rfl, ?_⟩)
  | ((with_reducible show _ ≤ sizeLine ∧ _); refine ⟨by first | decide | (simp only [List.length_cons, List.length_nil]; decide), ?_⟩))
local macro_rules | `(tactic| walk_at "g1") => `(tactic| first | walk_at "g0" | with_reducible refine Go.g_sub ?_)
local macro_rules | `(tactic| walk_at "g") => `(tactic| repeat walk_at "g1")
local macro_rules | `(tactic| walk_at "v") => `(tactic| repeat walk_at "g0")
local macro_rules | `(tactic| walk_at "if") => `(tactic| first
  | with_reducible refine @Go.g_itd _ _ _ _ ?_ ?_
  | with_reducible refine @Go.g_itnd _ _ _ _ ?_ ?_
  | with_reducible refine Go.g_ite ?_ ?_)

section
variable {P : Program} {w : World} {K : PySem.W.Frag} {mg : Str → Option Value} {base : Heap}
def sp__law_close (K : PySem.W.Frag) : Sp := fun vs H Q _ => ∃ (st sc : Addr) (ns : List Int) (w : List Nat), vs = [.ref st, .ref sc, .str (mkS w)] ∧ St K H st sc ns ∧ Wd w ∧
  ∀ H' w, Kp st H H' → St K H' st sc ns → Wd w → Q (.str (mkS w)) H'
theorem ok__law_close (T : Txt K mg) : FnOk P w K mg base CX0 3 T.a__law_close T.fd__law_close ["state", "script", "word"] (sp__law_close K) := by
  refine T.F__law_close.ok sc__law_close (fun vs H Q E h => ?_) (fun cdv A outer s H vs Q E hr h => ?_)
  · obtain ⟨st, sc, ns, w, rfl, _⟩ := h; rfl
  · obtain ⟨st, sc, ns, w, rfl, hS, hw, q⟩ := h
    refine ⟨_, pss_cons (ps_set (i := 3) sc__law_close.nd rfl (.inl rfl) (pe_lst (pa_cons pe_str (pa_cons pe_str (pa_cons pe_str (pa_cons pe_str (pa_cons pe_str (pa_cons pe_str (pa_cons pe_str pa_nil)))))))))
      (pss_cons (ps_for PassesOwn.never rfl (pi_range1 (by rfl) T.n_range (pa_cons (pe_call (ok__law_draw T) (hr.mono (by decide)) (by rfl) T.g__law_draw T.F__law_draw.kp T.b__law_draw .nil pass0 (pa_cons (pv 0) (pa_cons (pv 1) (pa_cons pe_int pa_nil)))) pa_nil)) (pg_name (i := 4) sc__law_close.nd rfl (.inl rfl))
        (pss_cons (ps_set (i := 5) sc__law_close.nd rfl (.inr rfl) (pe_call (ok__law_draw T) (hr.mono (by decide)) (by rfl) T.g__law_draw T.F__law_draw.kp T.b__law_draw .nil pass0 (pa_cons (pv 0) (pa_cons (pv 1) (pa_cons (pe_callB call_len_str (by rfl) T.n_len PySem.boot_len (pa_cons (pv 2) pa_nil)) pa_nil)))))
        (pss_cons (ps_set (i := 6) sc__law_close.nd rfl (.inl rfl) (pe_call (ok__law_draw T) (hr.mono (by decide)) (by rfl) T.g__law_draw T.F__law_draw.kp T.b__law_draw .nil pass0 (pa_cons (pv 0) (pa_cons (pv 1) (pa_cons pe_int pa_nil)))))
        (pss_cons (ps_set (i := 7) sc__law_close.nd rfl (.inl rfl) (pe_ix ix_str pe_str (pe_call (ok__law_draw T) (hr.mono (by decide)) (by rfl) T.g__law_draw T.F__law_draw.kp T.b__law_draw .nil pass0 (pa_cons (pv 0) (pa_cons (pv 1) (pa_cons pe_int pa_nil)))) (fun _ _ => rfl)))
        (pss_one (ps_if (pt_cutT (PW.pt (pw_and (pt_cmpR op_eq (pv 6) pe_int (nomark _)) (pw_and1 (pt_cmpR op_lt (pe_callB call_len_str (by rfl) T.n_len PySem.boot_len (pa_cons (pv 2) pa_nil)) pe_int (nomark _))))))
          (pss_one (ps_set (i := 2) sc__law_close.nd rfl (.inr rfl) (pe_op op_add_str (pe_op op_add_str (pe_slice sl_str (pv 2) po_none (po_some (pv 5))) (pv 7)) (pe_slice sl_str (pv 2) (po_some (pv 5)) po_none))))
          (pss_one (ps_if (pt_cutT (PW.pt (pw_and (pt_cmpR op_eq (pv 6) pe_int (nomark _)) (pw_and1 (pt_cmpR op_gt (pe_callB call_len_str (by rfl) T.n_len PySem.boot_len (pa_cons (pv 2) pa_nil)) pe_int (nomark _))))))
            (pss_one (ps_set (i := 2) sc__law_close.nd rfl (.inr rfl) (pe_op op_add_str (pe_slice sl_str (pv 2) po_none (po_some (pv 5))) (pe_slice sl_str (pv 2) (po_some (pe_op op_add (pv 5) pe_int)) po_none))))
            (pss_one (ps_if (pt_cmpR op_eq (pv 6) pe_int (nomark _))
              (pss_one (ps_set (i := 2) sc__law_close.nd rfl (.inr rfl) (pe_op op_add_str (pe_op op_add_str (pe_slice sl_str (pv 2) po_none (po_some (pv 5))) (pv 7)) (pe_slice sl_str (pv 2) (po_some (pe_op op_add (pv 5) pe_int)) po_none))))
              (pss_cons (ps_setLc (i := 8) (own := [("group", 9)]) (g := gName 9) (by rfl) sc__law_close.nd rfl rfl (sw_true rfl rfl rfl (by decide +kernel)) (pi_list (pv 3)) (blkOk_by (own := [("group", 9)]) (N := ["state", "script", "word", "groups", "_", "at", "kind", "letter", "like", "group"]) (sc := defScope s__law_close) (by decide +kernel)) (fun _ _ _ _ _ => pg_name (i := 9) sc__law_close.nd rfl (by first | exact Or.inl rfl | exact Or.inr rfl)) (fun _ _ _ _ _ => pts_one (pt_cmpR op_in_sign (pe_ix ix_str (pv 2) (pv 5) (fun _ _ => rfl)) (pv 9) rfl)) (fun _ _ _ _ _ => (pv 9)))
              (pss_one (ps_if (pt_cmpR op_gt (pe_callB call_lenS (by rfl) T.n_len PySem.boot_len (pa_cons (pv 8) pa_nil)) pe_int (nomark _))
                (pss_one (ps_set (i := 2) sc__law_close.nd rfl (.inr rfl) (pe_op op_add_str (pe_op op_add_str (pe_slice sl_str (pv 2) po_none (po_some (pv 5))) (pe_call (ok__law_pick T) hr (by rfl) T.g__law_pick T.F__law_pick.kp T.b__law_pick .nil pass0 (pa_cons (pv 0) (pa_cons (pv 1) (pa_cons (pe_callTy (call_list_strV rfl) (by rfl) T.n_list (by decide +kernel) (pa_cons (pe_ix ix_list (pv 8) pe_int (fun _ _ => rfl)) pa_nil)) pa_nil))))) (pe_slice sl_str (pv 2) (po_some (pe_op op_add (pv 5) pe_int)) po_none))))
                (pss_nil))))))))))))))
      (pss_one (ps_ret (pv 2)))), ?_⟩
    walk_at "g"
    intro g ng
    have S0 := St.new (o := .lst (likeS.map V.str)) hS ng
    have k0 : Kp st H (upd H g (.lst (likeS.map V.str))) := Kp.new (Kp.refl _ _) ng
    have eg : (upd H g (.lst (likeS.map V.str))) g = some (.lst (likeS.map V.str)) := upd_same
    have hg : g ≠ st := hS.ne ng
    clear hS
    walk_at "g"
    refine ⟨st, sc, ns, _, rfl, S0, by decide, by decide, fun H1 d1 k1 S1 d10 d11 => ?_⟩
    have eg1 : H1 g = some (.lst (likeS.map V.str)) := k1 _ _ hg eg
    have k1 := k0.trans k1
    walk_at "g"
    refine forW_range (fun i σ' H' => ∃ (w : List Nat) (y4 y5 y6 y7 y8 y9 : Option V), σ' = [some (.ref st), some (.ref sc), some (.str (mkS w)), some (.ref g), y4, y5, y6, y7, y8, y9] ∧ Wd w ∧ Kp st H H' ∧ St K H' st sc ns ∧
        H' g = some (.lst (likeS.map V.str)))
      ⟨w, _, _, _, _, _, _, rfl, hw, k1, S1, eg1⟩ ?_ ?_
    · rintro i σ' H2 hi ⟨w, y4, y5, y6, y7, y8, y9, rfl, ww, k2, S2, eg2⟩
      have zw : (mkS w).length ≤ sizeLine := by rw [mkS_len]; exact sz (by have := ww.2.1; omega)
      walk_at "g"
      refine ⟨st, sc, ns, _, rfl, S2, by rw [mkS_len]; have := ww.1; omega, by rw [mkS_len]; have := ww.2.1; omega, fun H3 d3 k3 S3 d30 d31 => ?_⟩
      rw [mkS_len] at d31
      have eg3 : H3 g = some (.lst (likeS.map V.str)) := k3 _ _ hg eg2
      have k3 := k2.trans k3
      walk_at "g"
      refine ⟨st, sc, ns, _, rfl, S3, by decide, by decide, fun H4 d4 k4 S4 d40 d41 => ?_⟩
      have eg4 : H4 g = some (.lst (likeS.map V.str)) := k4 _ _ hg eg3
      have k4 := k3.trans k4
      walk_at "g"
      refine ⟨st, sc, ns, _, rfl, S4, by decide, by decide, fun H5 d5 k5 S5 d50 d51 => ?_⟩
      have eg5 : H5 g = some (.lst (likeS.map V.str)) := k5 _ _ hg eg4
      have k5 := k4.trans k5
      refine ⟨mkS alphaC, _, _, by rw [alpha_eq], rfl, by rw [mkS_len]; exact sz (by decide), by rw [mkS_list]; exact alpha_at d50 d51, ?_⟩
      have lc := alpha_let d50 d51
      have sl : ((⟨#[97 + d5.toNat]⟩ : Str)) = mkS [97 + d5.toNat] := rfl
      have at0 : d3.toNat < w.length := by omega
      have atA : (d3 + 1).toNat = d3.toNat + 1 := by omega
      have lw := ww.1
      have lw2 := ww.2.1
      clear k0 k1 k2 k3 k4 eg1 eg2 eg3 eg4 S0 S1 S2 S3 S4 eg hw
      rw [sl]
      have post : ∀ (w' : List Nat) (x1 x2 x3 x4 x5 x6 : Option V) (H' : Hp), Wd w' → Kp st H H' → St K H' st sc ns → H' g = some (.lst (likeS.map V.str)) →
          ∃ (w : List Nat) (y4 y5 y6 y7 y8 y9 : Option V), [some (.ref st), some (.ref sc), some (.str (mkS w')), some (.ref g), x1, x2, x3, x4, x5, x6] = [some (.ref st), some (.ref sc), some (.str (mkS w)), some (.ref g), y4, y5, y6, y7, y8, y9] ∧ Wd w ∧ Kp st H H' ∧ St K H' st sc ns ∧
            H' g = some (.lst (likeS.map V.str)) := fun w' x1 x2 x3 x4 x5 x6 H' a b c d => ⟨w', x1, x2, x3, x4, x5, x6, rfl, a, b, c, d⟩
      have repl : ∀ c, Let c → Wd (w.take d3.toNat ++ [c] ++ w.drop (d3 + 1).toNat) := fun c hc => by
        refine ⟨?_, ?_, fun x hx => ?_⟩
        · simp only [List.length_append, List.length_take, List.length_drop, List.length_singleton]; omega
        · simp only [List.length_append, List.length_take, List.length_drop, List.length_singleton]; omega
        · simp only [List.mem_append, List.mem_singleton] at hx
          rcases hx with (z | z) | z
          · exact ww.2.2 x (List.mem_of_mem_take z)
          · rw [z]; exact hc
          · exact ww.2.2 x (List.mem_of_mem_drop z)
      have szl : ∀ l : List Nat, l.length ≤ 100 → (mkS l).length ≤ sizeLine := fun l h => by rw [mkS_len]; exact sz (by omega)
      walk_at "g"
      refine ⟨fun b H' => H5 = H' ∧ (b = true → w.length < 12), ?_, ?_⟩
      · walk_at "g"
        walk_at "if" <;> intro e1
        · walk_at "g"
          refine ⟨rfl, fun e => ?_⟩
          have := of_decide_eq_true e
          rw [mkS_len] at this; omega
        · exact ⟨rfl, fun e => nomatch e⟩
      rintro b _ ⟨rfl, hb⟩
      walk_at "if" <;> intro e1
      · have hb := hb e1
        walk_at "g"
        rw [cut_lo d30]
        refine ⟨_, _, rfl, rfl, by rw [mkS_len, mkS_len]; exact sz (by simp only [List.length_take, List.length_singleton]; omega), ?_⟩
        rw [mkS_app]
        walk_at "g"
        rw [cut_hi d30]
        refine ⟨_, _, rfl, rfl, by rw [mkS_len, mkS_len]; exact sz (by simp only [List.length_append, List.length_take, List.length_drop, List.length_singleton]; omega), ?_⟩
        rw [mkS_app]
        walk_at "g"
        refine post _ _ _ _ _ _ _ _ ?_ k5 S5 eg5
        refine ⟨?_, ?_, fun x hx => ?_⟩
        · simp only [List.length_append, List.length_take, List.length_drop, List.length_singleton]; omega
        · simp only [List.length_append, List.length_take, List.length_drop, List.length_singleton]; omega
        · simp only [List.mem_append, List.mem_singleton] at hx
          rcases hx with (z | z) | z
          · exact ww.2.2 x (List.mem_of_mem_take z)
          · rw [z]; exact lc
          · exact ww.2.2 x (List.mem_of_mem_drop z)
      clear hb e1
      walk_at "g"
      refine ⟨fun b H' => H5 = H' ∧ (b = true → 1 < w.length), ?_, ?_⟩
      · walk_at "g"
        walk_at "if" <;> intro e1
        · walk_at "g"
          refine ⟨rfl, fun e => ?_⟩
          have := of_decide_eq_true e
          rw [mkS_len] at this; omega
        · exact ⟨rfl, fun e => nomatch e⟩
      rintro b _ ⟨rfl, hb⟩
      walk_at "if" <;> intro e1
      · have hb := hb e1
        walk_at "g"
        rw [cut_lo d30, cut_hi (show 0 ≤ d3 + 1 by omega)]
        refine ⟨_, _, rfl, rfl, by rw [mkS_len, mkS_len]; exact sz (by simp only [List.length_take, List.length_drop]; omega), ?_⟩
        rw [mkS_app]
        walk_at "g"
        refine post _ _ _ _ _ _ _ _ ?_ k5 S5 eg5
        refine ⟨?_, ?_, fun x hx => ?_⟩
        · simp only [List.length_append, List.length_take, List.length_drop]; omega
        · simp only [List.length_append, List.length_take, List.length_drop]; omega
        · simp only [List.mem_append] at hx
          rcases hx with z | z
          · exact ww.2.2 x (List.mem_of_mem_take z)
          · exact ww.2.2 x (List.mem_of_mem_drop z)
      clear hb e1
      walk_at "g"
      walk_at "if" <;> intro e1
      · walk_at "g"
        rw [cut_lo d30]
        refine ⟨_, _, rfl, rfl, by rw [mkS_len, mkS_len]; exact sz (by simp only [List.length_take, List.length_singleton]; omega), ?_⟩
        rw [mkS_app]
        walk_at "g"
        rw [cut_hi (show 0 ≤ d3 + 1 by omega)]
        refine ⟨_, _, rfl, rfl, by rw [mkS_len, mkS_len]; exact sz (by simp only [List.length_append, List.length_take, List.length_drop, List.length_singleton]; omega), ?_⟩
        rw [mkS_app]
        walk_at "g"
        exact post _ _ _ _ _ _ _ _ (repl _ lc) k5 S5 eg5
      · walk_at "g"
        intro D nD
        have hDg : D ≠ g := (ne_of_none eg5 nD).symm
        have nD0 : D ≠ st := S5.ne nD
        have stable : ∀ H' o, Kp st H5 H' → St K H' st sc ns → H' D = some (.lst o) → ∀ o', St K (upd H' D (.lst o')) st sc ns := fun H' o k6 S e o' => by
          obtain ⟨⟨n, s, es⟩, h1, h3⟩ := S
          exact ⟨⟨n, s, at_upd nD0.symm es⟩, fun H'' k => S5.2.1 _ ((Kp.mut k6 nD).trans k), h3⟩
        refine lcW_list (likeS.map V.str) (fun i H' => Kp st H5 H' ∧ St K H' st sc ns ∧ H' g = some (.lst (likeS.map V.str)) ∧ ∃ gs : List (List Nat), H' D = some (.lst (gs.map fun g => V.str (mkS g))) ∧ (∀ g ∈ gs, g ∈ likeC) ∧ gs.length ≤ i)
          ⟨Kp.new (Kp.refl _ _) nD, St.new S5 nD, at_upd hDg.symm eg5, [], upd_same, (fun g h => nomatch h), Nat.le_refl _⟩ (fun i H' _ h => SqL.of h.2.2.1) ?_ ?_
        · rintro i x H6 hx ⟨k6, S6, eg6, gs, eD, hgs, lgs⟩
          rw [like_eq, List.map_map, List.getElem?_map] at hx
          obtain ⟨lk, hgi, rfl⟩ := Option.map_eq_some_iff.mp hx
          have hm : lk ∈ likeC := List.mem_of_getElem? hgi
          show gName _ (.str (mkS lk)) _ _ _
          walk_at "g"
          refine ⟨_, _, _, rfl, rfl, zw, sign_of (k := d3.toNat) (by omega) at0, ?_⟩
          walk_at "g"
          walk_at "if" <;> intro e2
          · walk_at "g"
            refine ⟨_, eD, by rw [List.length_map]; have := (List.getElem?_eq_some_iff.mp hgi).1; exact small1000 (by have : likeC.length = 7 := rfl; omega), Kp.mut k6 nD, stable _ _ k6 S6 eD _, at_upd hDg.symm eg6, gs ++ [lk], ?_, ?_, ?_⟩
            · rw [upd_same, List.map_append]; rfl
            · intro y hy
              rcases List.mem_append.mp hy with z | z
              · exact hgs y z
              · rw [List.mem_singleton.mp z]; exact hm
            · rw [List.length_append, List.length_singleton]; omega
          · exact ⟨k6, S6, eg6, gs, eD, hgs, by omega⟩
        · rintro H6 ⟨k6, S6, eg6, gs, eD, hgs, lgs⟩
          have k7 := k5.trans k6
          clear k6 k5 stable
          walk_at "g"
          walk_at "if" <;> intro e2
          · rw [List.length_map] at e2
            obtain ⟨g0, gr, rfl⟩ : ∃ g0 gr, gs = g0 :: gr := by
              cases gs with
              | nil => simp at e2
              | cons a r => exact ⟨a, r, rfl⟩
            have hg0 : g0 ∈ likeC := hgs g0 (List.mem_cons_self ..)
            have l0 : 1 ≤ g0.length ∧ g0.length ≤ 3 ∧ ∀ c ∈ g0, Let c := by
              have : ∀ g ∈ likeC, 1 ≤ g.length ∧ g.length ≤ 3 ∧ ∀ c ∈ g, 97 ≤ c ∧ c ≤ 122 := by decide
              exact this g0 hg0
            walk_at "g"
            rw [cut_lo d30]
            refine g_ixL (SqL.of eD) (atI_nat (j := 0) rfl) ?_
            walk_at "g"
            refine ⟨mkS g0, rfl, szl _ (by omega), fun l nl => ?_⟩
            walk_at "g"
            refine ⟨st, sc, l, ns, g0, rfl, St.new S6 nl, S6.ne nl, by rw [upd_same, mkS_list], l0.1, by omega, fun H8 c k8 S8 hc => ?_⟩
            have eg8 : H8 g = some (.lst (likeS.map V.str)) := k8 _ _ hg (at_upd (ne_of_none eg6 nl) eg6)
            have k9 : Kp st H H8 := (k7.new nl).trans k8
            refine ⟨_, mkS [c], rfl, rfl, by rw [mkS_len, mkS_len]; exact sz (by simp only [List.length_take, List.length_singleton]; omega), ?_⟩
            rw [mkS_app]
            walk_at "g"
            rw [cut_hi (show 0 ≤ d3 + 1 by omega)]
            refine ⟨_, _, rfl, rfl, by rw [mkS_len, mkS_len]; exact sz (by simp only [List.length_append, List.length_take, List.length_drop, List.length_singleton]; omega), ?_⟩
            rw [mkS_app]
            walk_at "g"
            exact post _ _ _ _ _ _ _ _ (repl _ (l0.2.2 c hc)) k9 S8 eg8
          · walk_at "g"
            exact post _ _ _ _ _ _ _ _ ww k7 S6 eg6
    · rintro σ' H2 ⟨w, y4, y5, y6, y7, y8, y9, rfl, ww, k2, S2, eg2⟩
      walk_at "g"
      exact q _ _ k2 S2 ww

end
end K62

namespace K62
open PySem PySem.Spec PyProof.Rows L2 Go
set_option maxHeartbeats 8000000
local macro_rules | `(tactic| walk_at "ne") => `(tactic| first
  | assumption
  | (refine Ne.symm ?_; assumption)
  | exact (Go.free_upd (by assumption)).2
  | exact (Go.free_upd (by assumption)).2.symm
  | exact Go.ne_fr (by assumption) (by walk_at "hp")
  | exact (Go.ne_fr (by assumption) (by walk_at "hp")).symm)
local macro_rules | `(tactic| walk_at "fr") => `(tactic| first
  | assumption
  | exact (Go.free_upd (by assumption)).1
  | exact (Go.free_upd (Go.free_upd (by assumption)).1).1
  | exact Same.free (by assumption) (by walk_at "fr"))
local macro_rules | `(tactic| walk_at "hp") => `(tactic| first
  | assumption
  | with_reducible exact upd_same
  | ((with_reducible show upd _ _ _ _ = _); exact Go.at_upd (by walk_at "ne") (by walk_at "hp"))
  | exact (by assumption : Same _ _) _ _ (by walk_at "hp")
  | exact (by assumption : Go.Kp _ _ _) _ _ (by walk_at "ne") (by walk_at "hp")
  | exact (by assumption : Go.Kp2 _ _ _ _) _ _ (by walk_at "ne") (by walk_at "ne") (by walk_at "hp"))
local macro_rules | `(tactic| walk_at "sq") => `(tactic| first
  | assumption
  | ((with_reducible show SqL _ (upd _ _ _) _ _); exact (by assumption : ∀ o, SqL _ (upd _ _ o) _ _) _)
  | ((with_reducible show SqL _ _ _ _); exact SqL.of (by walk_at "hp"))
  | ((with_reducible show SqT _ _ _ _); exact SqT.of (by walk_at "hp"))
  | ((with_reducible show SqL _ (upd _ _ _) _ _); exact Go.sqL_new (by walk_at "fr") (by walk_at "sq"))
  | ((with_reducible show SqT _ (upd _ _ _) _ _); exact Go.sqT_new (by walk_at "fr") (by walk_at "sq"))
  | ((with_reducible show SqL _ (upd _ _ _) _ _); exact Go.sqL_ne (by walk_at "ne") (by walk_at "sq"))
  | exact Go.sqL_same (by assumption) (by walk_at "sq")
  | exact Go.sqT_same (by assumption) (by walk_at "sq")
  | exact Go.sqL_kp (by assumption) (by walk_at "ne") (by walk_at "sq")
  | exact Go.sqT_kp (by assumption) (by walk_at "ne") (by walk_at "sq"))
local macro_rules | `(tactic| walk_at "ci") => `(tactic| first
  | exact .inr ⟨by decide, by decide⟩
  | exact .inl ⟨by decide, by decide⟩
  | exact ⟨by decide, by decide, by decide⟩
  | decide
  | omega
  | exact ⟨by omega, by omega⟩
  | exact .inl ⟨by omega, by omega⟩
  | exact .inr ⟨by omega, by omega⟩)
local macro_rules | `(tactic| walk_at "g0") => `(tactic| first
  | with_reducible refine Go.g_seq ?_
  | ((with_reducible show tVar _ _ _ _); refine ⟨_, rfl, ?_⟩)
  | with_reducible refine Go.g_c ?_
  | with_reducible refine Go.g_op ?_
  | with_reducible refine Go.g_asg ?_
  | with_reducible refine Go.g_name ?_
  | with_reducible refine Go.g_cons ?_
  | with_reducible refine Go.g_lst ?_
  | with_reducible refine Go.g_tup ?_
  | with_reducible refine Go.g_for ?_
  | with_reducible refine Go.g_rng1 ?_
  | with_reducible refine Go.g_rng2 ?_
  | with_reducible refine Go.g_rng3 ?_
  | with_reducible refine Go.g_list ?_
  | with_reducible refine Go.g_itup ?_
  | with_reducible refine Go.g_enum ?_
  | ((with_reducible show tPar _ _ _ _ _ _); unfold tPar)
  | ((with_reducible show ∃ v w, [_, _] = [v, w] ∧ _); refine ⟨_, _, rfl, ?_⟩)
  | with_reducible refine Go.g_zip ?_
  | with_reducible refine Go.g_augS ?_
  | with_reducible refine Go.g_lc ?_
  | with_reducible refine Go.g_nil ?_
  | with_reducible refine Go.g_cb ?_
  | with_reducible refine Go.g_call ?_
  | with_reducible refine Go.g_ret ?_
  | with_reducible refine Go.g_next ?_
  | with_reducible refine Go.g_drop ?_
  | with_reducible refine Go.g_un ?_
  | with_reducible refine Go.g_test ?_
  | with_reducible refine Go.g_tB ?_
  | with_reducible refine Go.g_ifs ?_
  | with_reducible refine Go.g_if ?_
  | with_reducible refine Go.g_and ?_
  | with_reducible refine Go.g_or ?_
  | with_reducible refine Go.g_not ?_
  | with_reducible refine Go.g_sl ?_
  | with_reducible refine Go.g_nopart ?_
  | with_reducible refine Go.g_part ?_
  | ((with_reducible show ∃ k, V.bl _ = V.bl k ∧ _); refine ⟨_, rfl, ?_⟩)
  | ((with_reducible show ∃ k, V.int _ = V.int k ∧ _); refine ⟨_, rfl, ?_⟩)
  | with_reducible refine Go.g_bm ?_
  | with_reducible refine Go.g_yes ?_
  | ((with_reducible show rI0 _ _ _ _ _); refine ⟨_, _, rfl, rfl, ?_⟩)
  | ((with_reducible show rI _ _ _ _ _ _); refine ⟨_, _, rfl, rfl, ?_, ?_⟩; (focus walk_at "ci"))
  | ((with_reducible show rU _ _ _ _); refine ⟨_, rfl, ?_⟩)
  | ((with_reducible show rEq _ _ _ _); refine ⟨rfl, ?_⟩)
  | ((with_reducible show rNe _ _ _ _); refine ⟨rfl, ?_⟩)
  | ((with_reducible show rIxL _ _ _ _ _); refine Go.g_ixL (by walk_at "sq") (by rfl) ?_)
  | ((with_reducible show rIxT _ _ _ _ _); refine Go.g_ixT (by walk_at "sq") (by rfl) ?_)
  | ((with_reducible show rSetL _ _ _ _ _); refine Go.g_setL (by walk_at "hp") (by rfl) ?_)
  | ((with_reducible show ∃ p ys, [V.ref _] = [V.ref p] ∧ (SqL _ _ _ _ ∨ SqT _ _ _ _) ∧ _); refine ⟨_, _, rfl, .inl (by walk_at "sq"), ?_⟩)
  | ((with_reducible show (∃ i, [V.int _] = [V.int i] ∧ _) ∨ _); refine .inl ⟨_, rfl, ?_⟩)
  | ((with_reducible show ∃ (c : Nat) (z : Str), V.str _ = V.str ⟨#[c]⟩ ∧ V.str _ = V.str z ∧ _); refine ⟨_, _, rfl, rfl, ?_⟩)
  | ((with_reducible show ∃ x : Str, [V.str _] = [V.str x] ∧ Str.length x = 1 ∧ _); refine ⟨_, rfl, rfl, ?_⟩)
  | ((with_reducible show ∃ z : Str, [V.str _] = [V.str z] ∧ Str.length z ≤ sizeLine ∧ _); refine ⟨_, rfl, by assumption, ?_⟩)
  | ((with_reducible show rSlS _ _ _ _ _); refine ⟨_, rfl, by assumption, ?_⟩)
  | ((with_reducible show gTup _ _ _ _ _ _ _); refine Go.g_gtup (by walk_at "sq") (by rfl) ?_)
  | ((with_reducible show gCons _ _ _ _ _ _); refine ⟨_, _, rfl, ?_⟩)
  | ((with_reducible show gNil _ _ _ _); refine ⟨rfl, ?_⟩)
  | ((with_reducible show rLenS _ _ _ _); refine Go.g_lenL (by walk_at "sq") ?_)
  | ((with_reducible show rListOf _ _ _ _); refine Go.g_listL (by walk_at "sq") ?_)
  | ((with_reducible show wipe _ _ = wipe _ _ ∧ _); refine ⟨rfl, ?_⟩)
  | ((with_reducible show if true = true then _ else _); refine iteT ?_)
  | ((with_reducible show if false = true then _ else _); refine iteF ?_)
  | ((with_reducible show ∃ a b xs ys, [V.ref _, V.ref _] = [V.ref a, V.ref b] ∧ SqL _ _ a xs ∧ SqL _ _ b ys ∧ _); refine ⟨_, _, _, _, rfl, by walk_at "sq", by walk_at "sq", ?_⟩)
  | ((with_reducible show ∃ a xs, [V.ref _] = [V.ref a] ∧ SqL _ _ a xs ∧ _); refine ⟨_, _, rfl, by walk_at "sq", ?_⟩)
  | ((with_reducible show ∃ a, V.ref _ = V.ref a ∧ (∃ xs, SqL _ _ a xs) ∧ _); refine ⟨_, rfl, ⟨_, by walk_at "sq"⟩, ?_⟩)
  | ((with_reducible show ∃ a, V.ref _ = V.ref a ∧ (∃ xs, SqT _ _ a xs) ∧ _); refine ⟨_, rfl, ⟨_, by walk_at "sq"⟩, ?_⟩)
  | ((with_reducible show ∃ j : Int, [V.int _] = [V.int j] ∧ _ ≤ j ∧ j < _ ∧ _); refine ⟨_, rfl, by omega, by omega, ?_⟩)
  | ((with_reducible show ∃ i j : Int, [V.int _, V.int _] = [V.int i, V.int j] ∧ (_ ≤ i ∧ i < _ ∧ _ ≤ j ∧ j < _) ∧ _); refine ⟨_, _, rfl, ⟨by omega, by omega, by omega, by omega⟩, ?_⟩)
  | ((with_reducible show ∃ i j : Int, [V.int _, V.int _] = [V.int i, V.int j] ∧ _); refine ⟨_, _, rfl, ?_⟩)
  | ((with_reducible show ∃ i : Int, [V.int _] = [V.int i] ∧ _); refine ⟨_, rfl, ?_⟩)
  | ((with_reducible show _ ≤ sizeLine ∧ _); refine ⟨by first | decide | (simp only [List.length_cons, List.length_nil]; decide), ?_⟩))
local macro_rules | `(tactic| walk_at "g1") => `(tactic| first | walk_at "g0" | with_reducible refine Go.g_sub ?_)
local macro_rules | `(tactic| walk_at "g") => `(tactic| repeat walk_at "g1")
local macro_rules | `(tactic| walk_at "v") => `(tactic| repeat walk_at "g0")
local macro_rules | `(tactic| walk_at "if") => `(tactic| first
  | with_reducible refine @Go.g_itd _ _ _ _ ?_ ?_
  | with_reducible refine @Go.g_itnd _ _ _ _ ?_ ?_
  | with_reducible refine Go.g_ite ?_ ?_)

section
variable {P : Program} {w : World} {K : PySem.W.Frag} {mg : Str → Option Value} {base : Heap}
/-- the least cost of the pairings -/
def cst : List (List Int) → List Nat → Int
  | [], free => 3 * (free.length : Int)
  | r :: rows, free => free.foldl (fun best j => min best (r.getD j 0 + cst rows (free.filter fun k => decide (k ≠ j)))) (3 + cst rows free)
def ixs (l : List Nat) : List V := l.map fun (k : Nat) => V.int (k : Int)
structure Far (K : PySem.W.Frag) (H : Hp) (fa : Addr) (rs : List Addr) (rows : List (List Int)) (m : Nat) : Prop where
  h : SqL K H fa (rs.map V.ref)
  len : rs.length = rows.length
  row : ∀ i (h1 : i < rs.length) (h2 : i < rows.length), SqL K H rs[i] (rows[i].map V.int)
  wid : ∀ r ∈ rows, r.length = m
  few : rows.length ≤ 10
theorem Far.same {K : PySem.W.Frag} {H H1 : Hp} {fa : Addr} {rs : List Addr} {rows : List (List Int)} {m : Nat} (F : Far K H fa rs rows m) (s : Same H H1) : Far K H1 fa rs rows m :=
  ⟨sqL_same s F.h, F.len, fun i h1 h2 => sqL_same s (F.row i h1 h2), F.wid, F.few⟩
def spR__law_gap (K : PySem.W.Frag) : Nat → Sp
  | 0 => fun _ _ _ _ => False
  | n + 1 => fun vs H Q _ => ∃ (fa fr : Addr) (rs : List Addr) (rows : List (List Int)) (m i : Nat) (free : List Nat), vs = [.ref fa, .int (i : Int), .ref fr] ∧ Far K H fa rs rows m ∧ SqL K H fr (ixs free) ∧ free.length ≤ 10 ∧ (∀ j ∈ free, j < m) ∧ i ≤ rows.length ∧ rows.length - i ≤ n ∧
    ∀ H', Same H H' → Q (.int (cst (rows.drop i) free)) H'
theorem ifmin (x y : Int) : (if y < x then y else x) = min x y := by split <;> omega
theorem ixs_app (l : List Nat) (k : Nat) : ixs l ++ [V.int (k : Int)] = ixs (l ++ [k]) := by unfold ixs; rw [List.map_append]; rfl
theorem ixs_len (l : List Nat) : (ixs l).length = l.length := List.length_map ..
theorem okR__law_gap (T : Txt K mg) : ∀ n : Nat, FnOk P w K mg base CX0 (n + 1) T.a__law_gap T.fd__law_gap ["far", "i", "free"] (spR__law_gap K n) := by
  intro n
  induction n with
  | zero => exact T.F__law_gap.ok sc__law_gap (fun vs H Q E h => h.elim) (fun cdv A outer s H vs Q E hr h => h.elim)
  | succ n ih =>
    refine T.F__law_gap.ok sc__law_gap (fun vs H Q E h => ?_) (fun cdv A outer s H vs Q E hr h => ?_)
    · obtain ⟨fa, fr, rs, rows, m, i, free, rfl, _⟩ := h; rfl
    · obtain ⟨fa, fr, rs, rows, m, i, free, rfl, F, hf, lf, bf, hi, hn, q⟩ := h
      have lrs : (rs.map V.ref).length = rows.length := by rw [List.length_map]; exact F.len
      have lfr : (ixs free).length = free.length := List.length_map ..
      have few := F.few
      have hF := F.h
      refine ⟨_, pss_cons (ps_if (pt_cmpR op_eq (pv 1) (pe_callB call_lenS (by rfl) T.n_len PySem.boot_len (pa_cons (pv 0) pa_nil)) (nomark _))
        (pss_one (ps_ret (pe_op op_mul pe_int (pe_callB call_lenS (by rfl) T.n_len PySem.boot_len (pa_cons (pv 2) pa_nil)))))
        (pss_nil))
      (pss_cons (ps_set (i := 3) sc__law_gap.nd rfl (.inl rfl) (pe_op op_add pe_int (pe_call ih hr (by rfl) T.g__law_gap T.F__law_gap.kp T.b__law_gap .nil pass0 (pa_cons (pv 0) (pa_cons (pe_op op_add (pv 1) pe_int) (pa_cons (pv 2) pa_nil))))))
      (pss_cons (ps_for PassesOwn.never rfl (pi_list (pv 2)) (pg_name (i := 4) sc__law_gap.nd rfl (.inr rfl))
        (pss_one (ps_set (i := 3) sc__law_gap.nd rfl (.inl rfl) (pe_callB (call_min2 rfl) (by rfl) T.n_min (by decide +kernel) (pa_cons (pv 3) (pa_cons (pe_op op_add (pe_ix ix_list (pe_ix ix_list (pv 0) (pv 1) (fun _ _ => rfl)) (pv 4) (fun _ _ => rfl)) (pe_call ih hr (by rfl) T.g__law_gap T.F__law_gap.kp T.b__law_gap .nil pass0 (pa_cons (pv 0) (pa_cons (pe_op op_add (pv 1) pe_int) (pa_cons (pe_lc (own := [("k", 5)]) (g := gName 5) (by rfl) sc__law_gap.nd (pi_list (pv 2)) (blkOk_by (own := [("k", 5)]) (N := ["far", "i", "free", "best", "j", "k"]) (sc := defScope s__law_gap) (by decide +kernel)) (fun _ _ _ _ _ => pg_name (i := 5) sc__law_gap.nd rfl (by first | exact Or.inl rfl | exact Or.inr rfl)) (fun _ _ _ _ _ => pts_one (pt_cmpR op_ne (pv 5) (pv 4) (nomark _))) (fun _ _ _ _ _ => (pv 5))) pa_nil))))) pa_nil))))))
      (pss_one (ps_ret (pv 3))))), ?_⟩
      walk_at "g"
      walk_at "if" <;> intro e
      · have e := V.int.inj e
        walk_at "g"
        have ed : rows.drop i = [] := List.drop_eq_nil_of_le (by omega)
        have := q H (Same.refl _)
        rw [ed] at this
        rw [lfr]
        exact this
      have e : ¬ ((i : Nat) : Int) = ((rs.map V.ref).length : Int) := fun z => e (by rw [z])
      have hi : i < rows.length := by omega
      obtain ⟨n, rfl⟩ : ∃ n', n = n' + 1 := ⟨n - 1, by omega⟩
      have edr : rows.drop i = rows[i] :: rows.drop (i + 1) := List.drop_eq_getElem_cons hi
      rw [edr] at q
      have wr : rows[i].length = m := F.wid _ (List.getElem_mem hi)
      generalize er : rows[i] = r at q wr
      walk_at "g"
      refine ⟨fa, fr, rs, rows, m, i + 1, free, rfl, F, hf, lf, bf, by omega, by omega, fun H1 s1 => ?_⟩
      generalize ec : cst (rows.drop (i + 1)) = c at q
      have hf1 := sqL_same s1 hf
      have hF1 := sqL_same s1 hF
      walk_at "g"
      refine forW_list (ixs free) (fun t σ' H' => ∃ (b : Int) (y4 : Option V), σ' = [some (.ref fa), some (.int (i : Int)), some (.ref fr), some (.int b), y4, none] ∧ Same H H' ∧
          b = (free.take t).foldl (fun best j => min best (r.getD j 0 + c (free.filter fun k => decide (k ≠ j)))) (3 + c free))
        ⟨_, _, rfl, s1, rfl⟩ (fun t σ' H' _ h => by obtain ⟨b, y4, _, s, _⟩ := h; exact sqL_same s hf) ?_ ?_
      · rintro t x σ' H2 hx ⟨b, y4, rfl, s2, eb⟩
        unfold ixs at hx
        rw [List.getElem?_map] at hx
        obtain ⟨j, hj, rfl⟩ := Option.map_eq_some_iff.mp hx
        obtain ⟨ht, ej⟩ := List.getElem?_eq_some_iff.mp hj
        have hjm : j < m := bf j (ej ▸ List.getElem_mem ht)
        have F2 := F.same s2
        have hF2 := F2.h
        have hr2 := F2.row i (by rw [F.len]; exact hi) hi
        rw [er] at hr2
        have hf2 := sqL_same s2 hf
        walk_at "g"
        refine g_ixL hF2 (v := .ref (rs[i]'(by rw [F.len]; exact hi))) (atI_nat (by rw [List.getElem?_map, List.getElem?_eq_getElem (by rw [F.len]; exact hi)]; rfl)) ?_
        walk_at "g"
        refine g_ixL hr2 (v := .int (r.getD j 0)) (atI_nat (by rw [List.getElem?_map, List.getD_eq_getElem?_getD, List.getElem?_eq_getElem (by omega)]; rfl)) ?_
        walk_at "g"
        intro D nD
        refine lcW_list (ixs free) (fun t' H' => Same H2 H' ∧ H' D = some (.lst (ixs ((free.take t').filter fun k => decide (k ≠ j)))))
          ⟨Go.Same.new (Same.refl _) nD, upd_same⟩ (fun t' H' _ h => sqL_same h.1 hf2) ?_ ?_
        · rintro t' x H3 hx ⟨s3, e3⟩
          unfold ixs at hx
          rw [List.getElem?_map] at hx
          obtain ⟨k, hk, rfl⟩ := Option.map_eq_some_iff.mp hx
          obtain ⟨ht', ek⟩ := List.getElem?_eq_some_iff.mp hk
          walk_at "g"
          rw [List.take_succ_eq_append_getElem ht', List.filter_append, ek]
          walk_at "if" <;> intro e2
          · have e2 : k ≠ j := fun z => e2 (by rw [z])
            walk_at "g"
            refine ⟨_, e3, ?_, Go.Same.mut s3 nD, ?_⟩
            · have q1 := List.length_filter_le (fun k => decide (k ≠ j)) (free.take t')
              rw [List.length_take] at q1
              rw [ixs_len]; exact small1000 (by omega)
            · rw [upd_same, ixs_app, List.filter_cons_of_pos (by simpa using e2), List.filter_nil]
          · have e2 : k = j := by have := V.int.inj e2; omega
            rw [List.filter_cons_of_neg (by simpa using e2), List.filter_nil, List.append_nil]
            exact ⟨s3, e3⟩
        rintro H3 ⟨s3, e3⟩
        rw [lfr, List.take_length] at e3
        walk_at "g"
        refine ⟨fa, D, rs, rows, m, i + 1, _, rfl, F2.same s3, SqL.of e3, Nat.le_trans (List.length_filter_le ..) lf, fun k hk => bf k (List.mem_filter.mp hk).1, by omega, by omega, fun H4 s4 => ?_⟩
        try rw [ec]
        walk_at "g"
        refine ⟨_, _, rfl, (s2.trans s3).trans s4, ?_⟩
        rw [List.take_succ_eq_append_getElem ht, List.foldl_append, ← eb, ej]
        exact ifmin _ _
      · rintro σ' H2 ⟨b, y4, rfl, s2, eb⟩
        walk_at "g"
        have := q H2 s2
        rw [lfr, List.take_length] at eb
        have e2 : cst (r :: rows.drop (i + 1)) free = b := by
          rw [eb, ← ec]; rfl
        rw [e2] at this
        exact this

end
end K62

namespace K62
open PySem PySem.Spec PyProof.Rows L2 Go
set_option maxHeartbeats 8000000
local macro_rules | `(tactic| walk_at "ne") => `(tactic| first
  | assumption
  | (refine Ne.symm ?_; assumption)
  | exact (Go.free_upd (by assumption)).2
  | exact (Go.free_upd (by assumption)).2.symm
  | exact Go.ne_fr (by assumption) (by walk_at "hp")
  | exact (Go.ne_fr (by assumption) (by walk_at "hp")).symm)
local macro_rules | `(tactic| walk_at "fr") => `(tactic| first
  | assumption
  | exact (Go.free_upd (by assumption)).1
  | exact (Go.free_upd (Go.free_upd (by assumption)).1).1
  | exact Same.free (by assumption) (by walk_at "fr"))
local macro_rules | `(tactic| walk_at "hp") => `(tactic| first
  | assumption
  | with_reducible exact upd_same
  | ((with_reducible show upd _ _ _ _ = _); exact Go.at_upd (by walk_at "ne") (by walk_at "hp"))
  | exact (by assumption : Same _ _) _ _ (by walk_at "hp")
  | exact (by assumption : Go.Kp _ _ _) _ _ (by walk_at "ne") (by walk_at "hp")
  | exact (by assumption : Go.Kp2 _ _ _ _) _ _ (by walk_at "ne") (by walk_at "ne") (by walk_at "hp"))
local macro_rules | `(tactic| walk_at "sq") => `(tactic| first
  | assumption
  | ((with_reducible show SqL _ (upd _ _ _) _ _); exact (by assumption : ∀ o, SqL _ (upd _ _ o) _ _) _)
  | ((with_reducible show SqL _ _ _ _); exact SqL.of (by walk_at "hp"))
  | ((with_reducible show SqT _ _ _ _); exact SqT.of (by walk_at "hp"))
  | ((with_reducible show SqL _ (upd _ _ _) _ _); exact Go.sqL_new (by walk_at "fr") (by walk_at "sq"))
  | ((with_reducible show SqT _ (upd _ _ _) _ _); exact Go.sqT_new (by walk_at "fr") (by walk_at "sq"))
  | ((with_reducible show SqL _ (upd _ _ _) _ _); exact Go.sqL_ne (by walk_at "ne") (by walk_at "sq"))
  | exact Go.sqL_same (by assumption) (by walk_at "sq")
  | exact Go.sqT_same (by assumption) (by walk_at "sq")
  | exact Go.sqL_kp (by assumption) (by walk_at "ne") (by walk_at "sq")
  | exact Go.sqT_kp (by assumption) (by walk_at "ne") (by walk_at "sq"))
local macro_rules | `(tactic| walk_at "ci") => `(tactic| first
  | exact .inr ⟨by decide, by decide⟩
  | exact .inl ⟨by decide, by decide⟩
  | exact ⟨by decide, by decide, by decide⟩
  | decide
  | omega
  | exact ⟨by omega, by omega⟩
  | exact .inl ⟨by omega, by omega⟩
  | exact .inr ⟨by omega, by omega⟩)
local macro_rules | `(tactic| walk_at "g0") => `(tactic| first
  | with_reducible refine Go.g_seq ?_
  | ((with_reducible show tVar _ _ _ _); refine ⟨_, rfl, ?_⟩)
  | with_reducible refine Go.g_c ?_
  | with_reducible refine Go.g_op ?_
  | with_reducible refine Go.g_asg ?_
  | with_reducible refine Go.g_name ?_
  | with_reducible refine Go.g_cons ?_
  | with_reducible refine Go.g_lst ?_
  | with_reducible refine Go.g_tup ?_
  | with_reducible refine Go.g_for ?_
  | with_reducible refine Go.g_rng1 ?_
  | with_reducible refine Go.g_rng2 ?_
  | with_reducible refine Go.g_rng3 ?_
  | with_reducible refine Go.g_list ?_
  | with_reducible refine Go.g_itup ?_
  | with_reducible refine Go.g_enum ?_
  | ((with_reducible show tPar _ _ _ _ _ _); unfold tPar)
  | ((with_reducible show ∃ v w, [_, _] = [v, w] ∧ _); refine ⟨_, _, rfl, ?_⟩)
  | with_reducible refine Go.g_zip ?_
  | with_reducible refine Go.g_augS ?_
  | with_reducible refine Go.g_lc ?_
  | with_reducible refine Go.g_nil ?_
  | with_reducible refine Go.g_cb ?_
  | with_reducible refine Go.g_call ?_
  | with_reducible refine Go.g_ret ?_
  | with_reducible refine Go.g_next ?_
  | with_reducible refine Go.g_drop ?_
  | with_reducible refine Go.g_un ?_
  | with_reducible refine Go.g_test ?_
  | with_reducible refine Go.g_tB ?_
  | with_reducible refine Go.g_ifs ?_
  | with_reducible refine Go.g_if ?_
  | with_reducible refine Go.g_and ?_
  | with_reducible refine Go.g_or ?_
  | with_reducible refine Go.g_not ?_
  | with_reducible refine Go.g_sl ?_
  | with_reducible refine Go.g_nopart ?_
  | with_reducible refine Go.g_part ?_
  | ((with_reducible show ∃ k, V.bl _ = V.bl k ∧ _); refine ⟨_, rfl, ?_⟩)
  | ((with_reducible show ∃ k, V.int _ = V.int k ∧ _); refine ⟨_, rfl, ?_⟩)
  | with_reducible refine Go.g_bm ?_
  | with_reducible refine Go.g_yes ?_
  | ((with_reducible show rI0 _ _ _ _ _); refine ⟨_, _, rfl, rfl, ?_⟩)
  | ((with_reducible show rI _ _ _ _ _ _); refine ⟨_, _, rfl, rfl, ?_, ?_⟩; (focus walk_at "ci"))
  | ((with_reducible show rU _ _ _ _); refine ⟨_, rfl, ?_⟩)
  | ((with_reducible show rEq _ _ _ _); refine ⟨rfl, ?_⟩)
  | ((with_reducible show rNe _ _ _ _); refine ⟨rfl, ?_⟩)
  | ((with_reducible show rIxL _ _ _ _ _); refine Go.g_ixL (by walk_at "sq") (by rfl) ?_)
  | ((with_reducible show rIxT _ _ _ _ _); refine Go.g_ixT (by walk_at "sq") (by rfl) ?_)
  | ((with_reducible show rSetL _ _ _ _ _); refine Go.g_setL (by walk_at "hp") (by rfl) ?_)
  | ((with_reducible show ∃ p ys, [V.ref _] = [V.ref p] ∧ (SqL _ _ _ _ ∨ SqT _ _ _ _) ∧ _); refine ⟨_, _, rfl, .inl (by walk_at "sq"), ?_⟩)
  | ((with_reducible show (∃ i, [V.int _] = [V.int i] ∧ _) ∨ _); refine .inl ⟨_, rfl, ?_⟩)
  | ((with_reducible show ∃ (c : Nat) (z : Str), V.str _ = V.str ⟨#[c]⟩ ∧ V.str _ = V.str z ∧ _); refine ⟨_, _, rfl, rfl, ?_⟩)
  | ((with_reducible show ∃ x : Str, [V.str _] = [V.str x] ∧ Str.length x = 1 ∧ _); refine ⟨_, rfl, rfl, ?_⟩)
  | ((with_reducible show ∃ z : Str, [V.str _] = [V.str z] ∧ Str.length z ≤ sizeLine ∧ _); refine ⟨_, rfl, by assumption, ?_⟩)
  | ((with_reducible show rSlS _ _ _ _ _); refine ⟨_, rfl, by assumption, ?_⟩)
  | ((with_reducible show gTup _ _ _ _ _ _ _); refine Go.g_gtup (by walk_at "sq") (by rfl) ?_)
  | ((with_reducible show gCons _ _ _ _ _ _); refine ⟨_, _, rfl, ?_⟩)
  | ((with_reducible show gNil _ _ _ _); refine ⟨rfl, ?_⟩)
  | ((with_reducible show rLenS _ _ _ _); refine Go.g_lenL (by walk_at "sq") ?_)
  | ((with_reducible show rListOf _ _ _ _); refine Go.g_listL (by walk_at "sq") ?_)
  | ((with_reducible show wipe _ _ = wipe _ _ ∧ _); refine ⟨rfl, ?_⟩)
  | ((with_reducible show if true = true then _ else _); refine iteT ?_)
  | ((with_reducible show if false = true then _ else _); refine iteF ?_)
  | ((with_reducible show ∃ a b xs ys, [V.ref _, V.ref _] = [V.ref a, V.ref b] ∧ SqL _ _ a xs ∧ SqL _ _ b ys ∧ _); refine ⟨_, _, _, _, rfl, by walk_at "sq", by walk_at "sq", ?_⟩)
  | ((with_reducible show ∃ a xs, [V.ref _] = [V.ref a] ∧ SqL _ _ a xs ∧ _); refine ⟨_, _, rfl, by walk_at "sq", ?_⟩)
  | ((with_reducible show ∃ a, V.ref _ = V.ref a ∧ (∃ xs, SqL _ _ a xs) ∧ _); refine ⟨_, rfl, ⟨_, by walk_at "sq"⟩, ?_⟩)
  | ((with_reducible show ∃ a, V.ref _ = V.ref a ∧ (∃ xs, SqT _ _ a xs) ∧ _); refine ⟨_, rfl, ⟨_, by walk_at "sq"⟩, ?_⟩)
  | ((with_reducible show ∃ j : Int, [V.int _] = [V.int j] ∧ _ ≤ j ∧ j < _ ∧ _); refine ⟨_, rfl, by omega, by omega, ?_⟩)
  | ((with_reducible show ∃ i j : Int, [V.int _, V.int _] = [V.int i, V.int j] ∧ (_ ≤ i ∧ i < _ ∧ _ ≤ j ∧ j < _) ∧ _); refine ⟨_, _, rfl, ⟨by omega, by omega, by omega, by omega⟩, ?_⟩)
  | ((with_reducible show ∃ i j : Int, [V.int _, V.int _] = [V.int i, V.int j] ∧ _); refine ⟨_, _, rfl, ?_⟩)
  | ((with_reducible show ∃ i : Int, [V.int _] = [V.int i] ∧ _); refine ⟨_, rfl, ?_⟩)
  | ((with_reducible show _ ≤ sizeLine ∧ _); refine ⟨by first | decide | (simp only [List.length_cons, List.length_nil]; decide), ?_⟩))
local macro_rules | `(tactic| walk_at "g1") => `(tactic| first | walk_at "g0" | with_reducible refine Go.g_sub ?_)
local macro_rules | `(tactic| walk_at "g") => `(tactic| repeat walk_at "g1")
local macro_rules | `(tactic| walk_at "v") => `(tactic| repeat walk_at "g0")
local macro_rules | `(tactic| walk_at "if") => `(tactic| first
  | with_reducible refine @Go.g_itd _ _ _ _ ?_ ?_
  | with_reducible refine @Go.g_itnd _ _ _ _ ?_ ?_
  | with_reducible refine Go.g_ite ?_ ?_)

section
variable {P : Program} {w : World} {K : PySem.W.Frag} {mg : Str → Option Value} {base : Heap}
def spR_cheapest (K : PySem.W.Frag) : Nat → Sp
  | 0 => fun _ _ _ _ => False
  | n + 1 => fun vs H Q _ => ∃ (fa fr : Addr) (rs : List Addr) (rows : List (List Int)) (m i : Nat) (free : List Nat), vs = [.ref fa, .int (i : Int), .ref fr] ∧ Far K H fa rs rows m ∧ SqL K H fr (ixs free) ∧ free.length ≤ 10 ∧ (∀ j ∈ free, j < m) ∧ i ≤ rows.length ∧ rows.length - i ≤ n ∧
    ∀ H' t pr xs, Same H H' → H' t = some (.tup [.int (cst (rows.drop i) free), .ref pr]) → H' pr = some (.lst xs) → xs.length ≤ rows.length - i → Q (.ref t) H'
theorem okR_cheapest (T : Txt K mg) : ∀ n : Nat, FnOk P w K mg base CX0 (n + 1) T.a_cheapest T.fd_cheapest ["far", "i", "free"] (spR_cheapest K n) := by
  intro n
  induction n with
  | zero => exact T.F_cheapest.ok sc_cheapest (fun vs H Q E h => h.elim) (fun cdv A outer s H vs Q E hr h => h.elim)
  | succ n ih =>
    refine T.F_cheapest.ok sc_cheapest (fun vs H Q E h => ?_) (fun cdv A outer s H vs Q E hr h => ?_)
    · obtain ⟨fa, fr, rs, rows, m, i, free, rfl, _⟩ := h; rfl
    · obtain ⟨fa, fr, rs, rows, m, i, free, rfl, F, hf, lf, bf, hi, hn, q⟩ := h
      have lrs : (rs.map V.ref).length = rows.length := by rw [List.length_map]; exact F.len
      have lfr : (ixs free).length = free.length := List.length_map ..
      have few := F.few
      have hF := F.h
      refine ⟨_, pss_cons (ps_if (pt_cmpR op_eq (pv 1) (pe_callB call_lenS (by rfl) T.n_len PySem.boot_len (pa_cons (pv 0) pa_nil)) (nomark _))
        (pss_one (ps_ret (pe_tup (pa_cons (pe_op op_mul (pe_glob (v := .int 3) rfl T.m_ALONE ⟨_, rfl⟩) (pe_callB call_lenS (by rfl) T.n_len PySem.boot_len (pa_cons (pv 2) pa_nil))) (pa_cons (pe_lst pa_nil) pa_nil)))))
        (pss_nil))
      (pss_cons (ps_asg (pe_call ih hr (by rfl) T.g_cheapest T.F_cheapest.kp T.b_cheapest .nil pass0 (pa_cons (pv 0) (pa_cons (pe_op op_add (pv 1) pe_int) (pa_cons (pv 2) pa_nil)))) (pg_tup rfl (pgs_cons (pg_name (i := 3) sc_cheapest.nd rfl (.inl rfl)) (pgs_cons (pg_name (i := 4) sc_cheapest.nd rfl (.inl rfl)) pgs_nil))))
      (pss_cons (ps_set (i := 3) sc_cheapest.nd rfl (.inl rfl) (pe_op op_add (pv 3) (pe_glob (v := .int 3) rfl T.m_ALONE ⟨_, rfl⟩)))
      (pss_cons (ps_for PassesOwn.never rfl (pi_list (pv 2)) (pg_name (i := 5) sc_cheapest.nd rfl (.inr rfl))
        (pss_cons (ps_asg (pe_call ih hr (by rfl) T.g_cheapest T.F_cheapest.kp T.b_cheapest .nil pass0 (pa_cons (pv 0) (pa_cons (pe_op op_add (pv 1) pe_int) (pa_cons (pe_lc (own := [("k", 8)]) (g := gName 8) (by rfl) sc_cheapest.nd (pi_list (pv 2)) (blkOk_by (own := [("k", 8)]) (N := ["far", "i", "free", "best", "pairs", "j", "cost", "more", "k"]) (sc := defScope s_cheapest) (by decide +kernel)) (fun _ _ _ _ _ => pg_name (i := 8) sc_cheapest.nd rfl (by first | exact Or.inl rfl | exact Or.inr rfl)) (fun _ _ _ _ _ => pts_one (pt_cmpR op_ne (pv 8) (pv 5) (nomark _))) (fun _ _ _ _ _ => (pv 8))) pa_nil)))) (pg_tup rfl (pgs_cons (pg_name (i := 6) sc_cheapest.nd rfl (.inl rfl)) (pgs_cons (pg_name (i := 7) sc_cheapest.nd rfl (.inl rfl)) pgs_nil))))
        (pss_one (ps_if (pt_cmpR op_lt (pe_op op_add (pe_ix ix_list (pe_ix ix_list (pv 0) (pv 1) (fun _ _ => rfl)) (pv 5) (fun _ _ => rfl)) (pv 6)) (pv 3) (nomark _))
          (pss_cons (ps_set (i := 3) sc_cheapest.nd rfl (.inl rfl) (pe_op op_add (pe_ix ix_list (pe_ix ix_list (pv 0) (pv 1) (fun _ _ => rfl)) (pv 5) (fun _ _ => rfl)) (pv 6)))
          (pss_one (ps_set (i := 4) sc_cheapest.nd rfl (.inl rfl) (pe_op op_cat (pe_lst (pa_cons (pe_tup (pa_cons (pv 1) (pa_cons (pv 5) pa_nil))) pa_nil)) (pv 7)))))
          (pss_nil)))))
      (pss_one (ps_ret (pe_tup (pa_cons (pv 3) (pa_cons (pv 4) pa_nil)))))))), ?_⟩
      walk_at "g"
      walk_at "if" <;> intro e
      · have e := V.int.inj e
        walk_at "g"
        intro l nl
        walk_at "g"
        intro t nt
        have ed : rows.drop i = [] := List.drop_eq_nil_of_le (by omega)
        rw [ed] at q
        refine q _ t l [] (Go.Same.new (Go.Same.new (Same.refl _) nl) nt) ?_ (at_upd (ne_of_none upd_same nt) upd_same) (by simp)
        rw [upd_same, lfr]; rfl
      have e : ¬ ((i : Nat) : Int) = ((rs.map V.ref).length : Int) := fun z => e (by rw [z])
      have hi : i < rows.length := by omega
      obtain ⟨n, rfl⟩ : ∃ n', n = n' + 1 := ⟨n - 1, by omega⟩
      have edr : rows.drop i = rows[i] :: rows.drop (i + 1) := List.drop_eq_getElem_cons hi
      rw [edr] at q
      have wr : rows[i].length = m := F.wid _ (List.getElem_mem hi)
      generalize er : rows[i] = r at q wr
      walk_at "g"
      refine ⟨fa, fr, rs, rows, m, i + 1, free, rfl, F, hf, lf, bf, by omega, by omega, fun H1 t0 pr0 xs0 s1 et0 ep0 lx0 => ?_⟩
      generalize ec : cst (rows.drop (i + 1)) = c at q et0
      have hf1 := sqL_same s1 hf
      have hF1 := sqL_same s1 hF
      walk_at "g"
      refine forW_list (ixs free) (fun t σ' H' => ∃ (b : Int) (pr : Addr) (xs : List V) (y5 y6 y7 : Option V), σ' = [some (.ref fa), some (.int (i : Int)), some (.ref fr), some (.int b), some (.ref pr), y5, y6, y7, none] ∧ Same H H' ∧
          b = (free.take t).foldl (fun best j => min best (r.getD j 0 + c (free.filter fun k => decide (k ≠ j)))) (3 + c free) ∧ H' pr = some (.lst xs) ∧ xs.length ≤ rows.length - i)
        ⟨3 + c free, pr0, xs0, _, _, _, by rw [show (3 : Int) + c free = c free + 3 by omega]; rfl, s1, rfl, ep0, by omega⟩ (fun t σ' H' _ h => by obtain ⟨b, pr, xs, y5, y6, y7, _, s, _⟩ := h; exact sqL_same s hf) ?_ ?_
      · rintro t x σ' H2 hx ⟨b, pr, xs, y5, y6, y7, rfl, s2, eb, epr, lxs⟩
        unfold ixs at hx
        rw [List.getElem?_map] at hx
        obtain ⟨j, hj, rfl⟩ := Option.map_eq_some_iff.mp hx
        obtain ⟨ht, ej⟩ := List.getElem?_eq_some_iff.mp hj
        have hjm : j < m := bf j (ej ▸ List.getElem_mem ht)
        have F2 := F.same s2
        have hF2 := F2.h
        have hr2 := F2.row i (by rw [F.len]; exact hi) hi
        rw [er] at hr2
        have hf2 := sqL_same s2 hf
        walk_at "g"
        intro D nD
        refine lcW_list (ixs free) (fun t' H' => Same H2 H' ∧ H' D = some (.lst (ixs ((free.take t').filter fun k => decide (k ≠ j)))))
          ⟨Go.Same.new (Same.refl _) nD, upd_same⟩ (fun t' H' _ h => sqL_same h.1 hf2) ?_ ?_
        · rintro t' x H3 hx ⟨s3, e3⟩
          unfold ixs at hx
          rw [List.getElem?_map] at hx
          obtain ⟨k, hk, rfl⟩ := Option.map_eq_some_iff.mp hx
          obtain ⟨ht', ek⟩ := List.getElem?_eq_some_iff.mp hk
          walk_at "g"
          rw [List.take_succ_eq_append_getElem ht', List.filter_append, ek]
          walk_at "if" <;> intro e2
          · have e2 : k ≠ j := fun z => e2 (by rw [z])
            walk_at "g"
            refine ⟨_, e3, ?_, Go.Same.mut s3 nD, ?_⟩
            · have q1 := List.length_filter_le (fun k => decide (k ≠ j)) (free.take t')
              rw [List.length_take] at q1
              rw [ixs_len]; exact small1000 (by omega)
            · rw [upd_same, ixs_app, List.filter_cons_of_pos (by simpa using e2), List.filter_nil]
          · have e2 : k = j := by have := V.int.inj e2; omega
            rw [List.filter_cons_of_neg (by simpa using e2), List.filter_nil, List.append_nil]
            exact ⟨s3, e3⟩
        rintro H3 ⟨s3, e3⟩
        rw [lfr, List.take_length] at e3
        walk_at "g"
        refine ⟨fa, D, rs, rows, m, i + 1, _, rfl, F2.same s3, SqL.of e3, Nat.le_trans (List.length_filter_le ..) lf, fun k hk => bf k (List.mem_filter.mp hk).1, by omega, by omega, fun H4 t4 pr4 xs4 s4 et4 ep4 lx4 => ?_⟩
        try rw [ec] at et4
        have s24 := (s2.trans s3).trans s4
        have F4 := F.same s24
        have hF4 := F4.h
        have hr4 := F4.row i (by rw [F.len]; exact hi) hi
        rw [er] at hr4
        have epr4 := s4 _ _ (s3 _ _ epr)
        walk_at "g"
        refine g_ixL hF4 (v := .ref (rs[i]'(by rw [F.len]; exact hi))) (atI_nat (by rw [List.getElem?_map, List.getElem?_eq_getElem (by rw [F.len]; exact hi)]; rfl)) ?_
        walk_at "g"
        refine g_ixL hr4 (v := .int (r.getD j 0)) (atI_nat (by rw [List.getElem?_map, List.getD_eq_getElem?_getD, List.getElem?_eq_getElem (by omega)]; rfl)) ?_
        walk_at "g"
        have hstep : ∀ b' : Int, b' = min b (r.getD j 0 + c (free.filter fun k => decide (k ≠ j))) → b' = (free.take (t + 1)).foldl (fun best j => min best (r.getD j 0 + c (free.filter fun k => decide (k ≠ j)))) (3 + c free) := by
          intro b' h
          rw [List.take_succ_eq_append_getElem ht, List.foldl_append, ← eb, ej, h]; rfl
        walk_at "if" <;> intro e5
        · walk_at "g"
          refine g_ixL hF4 (v := .ref (rs[i]'(by rw [F.len]; exact hi))) (atI_nat (by rw [List.getElem?_map, List.getElem?_eq_getElem (by rw [F.len]; exact hi)]; rfl)) ?_
          walk_at "g"
          refine g_ixL hr4 (v := .int (r.getD j 0)) (atI_nat (by rw [List.getElem?_map, List.getD_eq_getElem?_getD, List.getElem?_eq_getElem (by omega)]; rfl)) ?_
          walk_at "g"
          intro u nu
          walk_at "g"
          intro l nl
          walk_at "g"
          have s5 : Same H4 (upd (upd H4 u (.tup [.int (i : Int), .int (j : Int)])) l (.lst [.ref u])) := Go.Same.new (Go.Same.new (Same.refl _) nu) nl
          refine ⟨l, pr4, _, _, rfl, rfl, upd_same, s5 _ _ ep4, sz (by simp; omega), fun z nz => ?_⟩
          walk_at "g"
          exact ⟨_, z, _, _, _, _, rfl, s24.trans (Go.Same.new s5 nz), hstep _ (by omega), upd_same, by simp; omega⟩
        · walk_at "g"
          exact ⟨b, pr, xs, _, _, _, rfl, s24, hstep _ (by omega), epr4, lxs⟩
      · rintro σ' H2 ⟨b, pr, xs, y5, y6, y7, rfl, s2, eb, epr, lxs⟩
        walk_at "g"
        intro t nt
        rw [lfr, List.take_length] at eb
        have e2 : cst (r :: rows.drop (i + 1)) free = b := by
          rw [eb, ← ec]; rfl
        rw [e2] at q
        exact q _ t pr xs (Go.Same.new s2 nt) upd_same (at_upd (ne_of_none epr nt) epr) lxs

end
end K62

namespace K62
open PySem PySem.Spec PyProof.Rows L2 Go
set_option maxHeartbeats 8000000
local macro_rules | `(tactic| walk_at "ne") => `(tactic| first
  | assumption
  | (refine Ne.symm ?_; assumption)
  | exact (Go.free_upd (by assumption)).2
  | exact (Go.free_upd (by assumption)).2.symm
  | exact Go.ne_fr (by assumption) (by walk_at "hp")
  | exact (Go.ne_fr (by assumption) (by walk_at "hp")).symm)
local macro_rules | `(tactic| walk_at "fr") => `(tactic| first
  | assumption
  | exact (Go.free_upd (by assumption)).1
  | exact (Go.free_upd (Go.free_upd (by assumption)).1).1
  | exact Same.free (by assumption) (by walk_at "fr"))
local macro_rules | `(tactic| walk_at "hp") => `(tactic| first
  | assumption
  | with_reducible exact upd_same
  | ((with_reducible show upd _ _ _ _ = _); exact Go.at_upd (by walk_at "ne") (by walk_at "hp"))
  | exact (by assumption : Same _ _) _ _ (by walk_at "hp")
  | exact (by assumption : Go.Kp _ _ _) _ _ (by walk_at "ne") (by walk_at "hp")
  | exact (by assumption : Go.Kp2 _ _ _ _) _ _ (by walk_at "ne") (by walk_at "ne") (by walk_at "hp"))
local macro_rules | `(tactic| walk_at "sq") => `(tactic| first
  | assumption
  | ((with_reducible show SqL _ (upd _ _ _) _ _); exact (by assumption : ∀ o, SqL _ (upd _ _ o) _ _) _)
  | ((with_reducible show SqL _ _ _ _); exact SqL.of (by walk_at "hp"))
  | ((with_reducible show SqT _ _ _ _); exact SqT.of (by walk_at "hp"))
  | ((with_reducible show SqL _ (upd _ _ _) _ _); exact Go.sqL_new (by walk_at "fr") (by walk_at "sq"))
  | ((with_reducible show SqT _ (upd _ _ _) _ _); exact Go.sqT_new (by walk_at "fr") (by walk_at "sq"))
  | ((with_reducible show SqL _ (upd _ _ _) _ _); exact Go.sqL_ne (by walk_at "ne") (by walk_at "sq"))
  | exact Go.sqL_same (by assumption) (by walk_at "sq")
  | exact Go.sqT_same (by assumption) (by walk_at "sq")
  | exact Go.sqL_kp (by assumption) (by walk_at "ne") (by walk_at "sq")
  | exact Go.sqT_kp (by assumption) (by walk_at "ne") (by walk_at "sq"))
local macro_rules | `(tactic| walk_at "ci") => `(tactic| first
  | exact .inr ⟨by decide, by decide⟩
  | exact .inl ⟨by decide, by decide⟩
  | exact ⟨by decide, by decide, by decide⟩
  | decide
  | omega
  | exact ⟨by omega, by omega⟩
  | exact .inl ⟨by omega, by omega⟩
  | exact .inr ⟨by omega, by omega⟩)
local macro_rules | `(tactic| walk_at "g0") => `(tactic| first
  | with_reducible refine Go.g_seq ?_
  | ((with_reducible show tVar _ _ _ _); refine ⟨_, rfl, ?_⟩)
  | with_reducible refine Go.g_c ?_
  | with_reducible refine Go.g_op ?_
  | with_reducible refine Go.g_asg ?_
  | with_reducible refine Go.g_name ?_
  | with_reducible refine Go.g_cons ?_
  | with_reducible refine Go.g_lst ?_
  | with_reducible refine Go.g_tup ?_
  | with_reducible refine Go.g_for ?_
  | with_reducible refine Go.g_rng1 ?_
  | with_reducible refine Go.g_rng2 ?_
  | with_reducible refine Go.g_rng3 ?_
  | with_reducible refine Go.g_list ?_
  | with_reducible refine Go.g_itup ?_
  | with_reducible refine Go.g_enum ?_
  | ((with_reducible show tPar _ _ _ _ _ _); unfold tPar)
  | ((with_reducible show ∃ v w, [_, _] = [v, w] ∧ _); refine ⟨_, _, rfl, ?_⟩)
  | with_reducible refine Go.g_zip ?_
  | with_reducible refine Go.g_augS ?_
  | with_reducible refine Go.g_lc ?_
  | with_reducible refine Go.g_nil ?_
  | with_reducible refine Go.g_cb ?_
  | with_reducible refine Go.g_call ?_
  | with_reducible refine Go.g_ret ?_
  | with_reducible refine Go.g_next ?_
  | with_reducible refine Go.g_drop ?_
  | with_reducible refine Go.g_un ?_
  | with_reducible refine Go.g_test ?_
  | with_reducible refine Go.g_tB ?_
  | with_reducible refine Go.g_ifs ?_
  | with_reducible refine Go.g_if ?_
  | with_reducible refine Go.g_and ?_
  | with_reducible refine Go.g_or ?_
  | with_reducible refine Go.g_not ?_
  | with_reducible refine Go.g_sl ?_
  | with_reducible refine Go.g_nopart ?_
  | with_reducible refine Go.g_part ?_
  | ((with_reducible show ∃ k, V.bl _ = V.bl k ∧ _); refine ⟨_, rfl, ?_⟩)
  | ((with_reducible show ∃ k, V.int _ = V.int k ∧ _); refine ⟨_, rfl, ?_⟩)
  | with_reducible refine Go.g_bm ?_
  | with_reducible refine Go.g_yes ?_
  | ((with_reducible show rI0 _ _ _ _ _); refine ⟨_, _, rfl, rfl, ?_⟩)
  | ((with_reducible show rI _ _ _ _ _ _); refine ⟨_, _, rfl, rfl, ?_, ?_⟩; (focus walk_at "ci"))
  | ((with_reducible show rU _ _ _ _); refine ⟨_, rfl, ?_⟩)
  | ((with_reducible show rEq _ _ _ _); refine ⟨rfl, ?_⟩)
  | ((with_reducible show rNe _ _ _ _); refine ⟨rfl, ?_⟩)
  | ((with_reducible show rIxL _ _ _ _ _); refine Go.g_ixL (by walk_at "sq") (by rfl) ?_)
  | ((with_reducible show rIxT _ _ _ _ _); refine Go.g_ixT (by walk_at "sq") (by rfl) ?_)
  | ((with_reducible show rSetL _ _ _ _ _); refine Go.g_setL (by walk_at "hp") (by rfl) ?_)
  | ((with_reducible show ∃ p ys, [V.ref _] = [V.ref p] ∧ (SqL _ _ _ _ ∨ SqT _ _ _ _) ∧ _); refine ⟨_, _, rfl, .inl (by walk_at "sq"), ?_⟩)
  | ((with_reducible show (∃ i, [V.int _] = [V.int i] ∧ _) ∨ _); refine .inl ⟨_, rfl, ?_⟩)
  | ((with_reducible show ∃ (c : Nat) (z : Str), V.str _ = V.str ⟨#[c]⟩ ∧ V.str _ = V.str z ∧ _); refine ⟨_, _, rfl, rfl, ?_⟩)
  | ((with_reducible show ∃ x : Str, [V.str _] = [V.str x] ∧ Str.length x = 1 ∧ _); refine ⟨_, rfl, rfl, ?_⟩)
  | ((with_reducible show ∃ z : Str, [V.str _] = [V.str z] ∧ Str.length z ≤ sizeLine ∧ _); refine ⟨_, rfl, by assumption, ?_⟩)
  | ((with_reducible show rSlS _ _ _ _ _); refine ⟨_, rfl, by assumption, ?_⟩)
  | ((with_reducible show gTup _ _ _ _ _ _ _); refine Go.g_gtup (by walk_at "sq") (by rfl) ?_)
  | ((with_reducible show gCons _ _ _ _ _ _); refine ⟨_, _, rfl, ?_⟩)
  | ((with_reducible show gNil _ _ _ _); refine ⟨rfl, ?_⟩)
  | ((with_reducible show rLenS _ _ _ _); refine Go.g_lenL (by walk_at "sq") ?_)
  | ((with_reducible show rListOf _ _ _ _); refine Go.g_listL (by walk_at "sq") ?_)
  | ((with_reducible show wipe _ _ = wipe _ _ ∧ _); refine ⟨rfl, ?_⟩)
  | ((with_reducible show if true = true then _ else _); refine iteT ?_)
  | ((with_reducible show if false = true then _ else _); refine iteF ?_)
  | ((with_reducible show ∃ a b xs ys, [V.ref _, V.ref _] = [V.ref a, V.ref b] ∧ SqL _ _ a xs ∧ SqL _ _ b ys ∧ _); refine ⟨_, _, _, _, rfl, by walk_at "sq", by walk_at "sq", ?_⟩)
  | ((with_reducible show ∃ a xs, [V.ref _] = [V.ref a] ∧ SqL _ _ a xs ∧ _); refine ⟨_, _, rfl, by walk_at "sq", ?_⟩)
  | ((with_reducible show ∃ a, V.ref _ = V.ref a ∧ (∃ xs, SqL _ _ a xs) ∧ _); refine ⟨_, rfl, ⟨_, by walk_at "sq"⟩, ?_⟩)
  | ((with_reducible show ∃ a, V.ref _ = V.ref a ∧ (∃ xs, SqT _ _ a xs) ∧ _); refine ⟨_, rfl, ⟨_, by walk_at "sq"⟩, ?_⟩)
  | ((with_reducible show ∃ j : Int, [V.int _] = [V.int j] ∧ _ ≤ j ∧ j < _ ∧ _); refine ⟨_, rfl, by omega, by omega, ?_⟩)
  | ((with_reducible show ∃ i j : Int, [V.int _, V.int _] = [V.int i, V.int j] ∧ (_ ≤ i ∧ i < _ ∧ _ ≤ j ∧ j < _) ∧ _); refine ⟨_, _, rfl, ⟨by omega, by omega, by omega, by omega⟩, ?_⟩)
  | ((with_reducible show ∃ i j : Int, [V.int _, V.int _] = [V.int i, V.int j] ∧ _); refine ⟨_, _, rfl, ?_⟩)
  | ((with_reducible show ∃ i : Int, [V.int _] = [V.int i] ∧ _); refine ⟨_, rfl, ?_⟩)
  | ((with_reducible show _ ≤ sizeLine ∧ _); refine ⟨by first | decide | (simp only [List.length_cons, List.length_nil]; decide), ?_⟩))
local macro_rules | `(tactic| walk_at "g1") => `(tactic| first | walk_at "g0" | with_reducible refine Go.g_sub ?_)
local macro_rules | `(tactic| walk_at "g") => `(tactic| repeat walk_at "g1")
local macro_rules | `(tactic| walk_at "v") => `(tactic| repeat walk_at "g0")
local macro_rules | `(tactic| walk_at "if") => `(tactic| first
  | with_reducible refine @Go.g_itd _ _ _ _ ?_ ?_
  | with_reducible refine @Go.g_itnd _ _ _ _ ?_ ?_
  | with_reducible refine Go.g_ite ?_ ?_)

section
variable {P : Program} {w : World} {K : PySem.W.Frag} {mg : Str → Option Value} {base : Heap}
def wsV (ws : List (List Nat)) : List V := ws.map fun a => V.str (mkS a)
theorem wsV_at {ws : List (List Nat)} {j : Nat} {x : V} (h : (wsV ws)[j]? = some x) : ∃ hj : j < ws.length, x = .str (mkS ws[j]) := by
  unfold wsV at h
  rw [List.getElem?_map] at h
  obtain ⟨a, ha, rfl⟩ := Option.map_eq_some_iff.mp h
  obtain ⟨hj, e⟩ := List.getElem?_eq_some_iff.mp ha
  exact ⟨hj, by rw [e]⟩
theorem wsV_len (ws : List (List Nat)) : (wsV ws).length = ws.length := List.length_map ..
structure Words (ws : List (List Nat)) : Prop where
  few : ws.length ≤ 5
  short : ∀ a ∈ ws, a.length ≤ 12
  abc : ∀ a ∈ ws, ∀ c ∈ a, Let c
def farS (ns es : List (List Nat)) : List (List Int) := ns.map fun a => es.map fun b => dd a b
theorem farS_at {ns es : List (List Nat)} {i : Nat} (h : i < (farS ns es).length) : (farS ns es)[i] = es.map fun b => dd (ns[i]'(by unfold farS at h; rw [List.length_map] at h; exact h)) b := by
  simp only [farS, List.getElem_map]
def sp__law_far (K : PySem.W.Frag) : Sp := fun vs H Q _ => ∃ (na ea : Addr) (ns es : List (List Nat)), vs = [.ref na, .ref ea] ∧ SqL K H na (wsV ns) ∧ SqL K H ea (wsV es) ∧ Words ns ∧ Words es ∧
  ∀ H' fa rs, Same H H' → Far K H' fa rs (farS ns es) es.length → H fa = none → Q (.ref fa) H'
theorem ok__law_far (T : Txt K mg) : FnOk P w K mg base CX0 3 T.a__law_far T.fd__law_far ["name", "entry"] (sp__law_far K) := by
  refine T.F__law_far.ok sc__law_far (fun vs H Q E h => ?_) (fun cdv A outer s H vs Q E hr h => ?_)
  · obtain ⟨na, ea, ns, es, rfl, _⟩ := h; rfl
  · obtain ⟨na, ea, ns, es, rfl, hn, he, Wn, We, q⟩ := h
    have fn := Wn.few
    have fe := We.few
    have ln := wsV_len ns
    have le := wsV_len es
    refine ⟨_, pss_one (ps_ret (pe_lc (own := [("one", 3)]) (g := gName 3) (by rfl) sc__law_far.nd (pi_list (pv 0)) (blkOk_by (own := [("one", 3)]) (N := ["name", "entry", "other", "one"]) (sc := defScope s__law_far) (by decide +kernel)) (fun _ _ _ _ _ => pg_name (i := 3) sc__law_far.nd rfl (by first | exact Or.inl rfl | exact Or.inr rfl)) (fun _ _ _ _ _ => pts_nil) (fun _ _ _ _ _ => (pe_lc (own := [("other", 2)]) (g := gName 2) (by rfl) sc__law_far.nd (pi_list (pv 1) : PI _ _ _ (iList K _)) (blkOk_by (own := [("other", 2)]) (N := ["name", "entry", "other", "one"]) (by rfl)) (fun _ _ _ _ _ => pg_name (i := 2) sc__law_far.nd rfl (by first | exact Or.inl rfl | exact Or.inr rfl)) (fun _ _ _ _ _ => pts_nil) (fun _ _ _ _ _ => (pe_call (ok__law_distance T) hr (by rfl) T.g__law_distance T.F__law_distance.kp T.b__law_distance .nil pass0 (pa_cons (pv 3) (pa_cons (pv 2) pa_nil)))))))), ?_⟩
    walk_at "g"
    intro D nD
    refine lcW_list (wsV ns) (fun t H' => Same H H' ∧ ∃ rs : List Addr, H' D = some (.lst (rs.map V.ref)) ∧ rs.length = t ∧ (∀ r ∈ rs, r ≠ D) ∧ ∀ i (h1 : i < rs.length) (h2 : i < (farS ns es).length), H' rs[i] = some (.lst ((farS ns es)[i].map V.int)))
      ⟨Go.Same.new (Same.refl _) nD, [], upd_same, rfl, (fun r h => nomatch h), (fun i h1 _ => nomatch h1)⟩ (fun t H' _ h => sqL_same h.1 hn) ?_ ?_
    · rintro t x H1 hx ⟨s1, rs, er, lr, nr, row⟩
      obtain ⟨ht, rfl⟩ := wsV_at hx
      have he1 := sqL_same s1 he
      walk_at "g"
      intro E nE
      refine lcW_list (wsV es) (fun u H' => Same H1 H' ∧ H' E = some (.lst (((es.take u).map fun b => dd ns[t] b).map V.int)))
        ⟨Go.Same.new (Same.refl _) nE, upd_same⟩ (fun u H' _ h => sqL_same h.1 he1) ?_ ?_
      · rintro u y H2 hy ⟨s2, e2⟩
        obtain ⟨hj, rfl⟩ := wsV_at hy
        walk_at "g"
        refine ⟨ns[t], es[u], rfl, Wn.short _ (List.getElem_mem ht), We.short _ (List.getElem_mem hj), Wn.abc _ (List.getElem_mem ht), We.abc _ (List.getElem_mem hj), fun H3 s3 => ?_⟩
        refine ⟨_, s3 _ _ e2, by rw [List.length_map, List.length_map, List.length_take]; exact small1000 (by omega), Go.Same.mut (s2.trans s3) nE, ?_⟩
        rw [upd_same, List.take_succ_eq_append_getElem hj, List.map_append, List.map_append]; rfl
      rintro H2 ⟨s2, e2⟩
      rw [le, List.take_length] at e2
      have er2 := s2 _ _ er
      have nDE : D ≠ E := ne_of_none er nE
      refine ⟨_, er2, by rw [List.length_map]; exact small1000 (by omega), Go.Same.mut (s1.trans s2) nD, rs ++ [E], by rw [upd_same, List.map_append]; rfl, by simp [lr], fun r hr => ?_, fun i h1 h2 => ?_⟩
      · rcases List.mem_append.mp hr with z | z
        · exact nr r z
        · rw [List.mem_singleton.mp z]; exact nDE.symm
      · by_cases hi : i < rs.length
        · rw [List.getElem_append_left hi]
          exact at_upd (nr _ (List.getElem_mem hi)) (s2 _ _ (row i hi h2))
        · have ei : i = rs.length := by rw [List.length_append, List.length_singleton] at h1; omega
          have e1 : (rs ++ [E])[i] = E := by subst ei; simp
          have et : i = t := by omega
          subst et
          rw [e1, upd_ne nDE.symm, e2]
          rw [farS_at h2]
    · rintro H1 ⟨s1, rs, er, lr, nr, row⟩
      walk_at "g"
      rw [ln] at lr
      exact q H1 D rs s1 ⟨SqL.of er, by unfold farS; rw [List.length_map]; exact lr, fun i h1 h2 => SqL.of (row i h1 h2), fun r hr => by
        unfold farS at hr
        obtain ⟨a, _, rfl⟩ := List.mem_map.mp hr
        rw [List.length_map], by unfold farS; rw [List.length_map]; omega⟩ nD

end
end K62

namespace K62
open PySem PySem.Spec PyProof.Rows L2 Go
set_option maxHeartbeats 8000000
local macro_rules | `(tactic| walk_at "ne") => `(tactic| first
  | assumption
  | (refine Ne.symm ?_; assumption)
  | exact (Go.free_upd (by assumption)).2
  | exact (Go.free_upd (by assumption)).2.symm
  | exact Go.ne_fr (by assumption) (by walk_at "hp")
  | exact (Go.ne_fr (by assumption) (by walk_at "hp")).symm)
local macro_rules | `(tactic| walk_at "fr") => `(tactic| first
  | assumption
  | exact (Go.free_upd (by assumption)).1
  | exact (Go.free_upd (Go.free_upd (by assumption)).1).1
  | exact Same.free (by assumption) (by walk_at "fr"))
local macro_rules | `(tactic| walk_at "hp") => `(tactic| first
  | assumption
  | with_reducible exact upd_same
  | ((with_reducible show upd _ _ _ _ = _); exact Go.at_upd (by walk_at "ne") (by walk_at "hp"))
  | exact (by assumption : Same _ _) _ _ (by walk_at "hp")
  | exact (by assumption : Go.Kp _ _ _) _ _ (by walk_at "ne") (by walk_at "hp")
  | exact (by assumption : Go.Kp2 _ _ _ _) _ _ (by walk_at "ne") (by walk_at "ne") (by walk_at "hp"))
local macro_rules | `(tactic| walk_at "sq") => `(tactic| first
  | assumption
  | ((with_reducible show SqL _ (upd _ _ _) _ _); exact (by assumption : ∀ o, SqL _ (upd _ _ o) _ _) _)
  | ((with_reducible show SqL _ _ _ _); exact SqL.of (by walk_at "hp"))
  | ((with_reducible show SqT _ _ _ _); exact SqT.of (by walk_at "hp"))
  | ((with_reducible show SqL _ (upd _ _ _) _ _); exact Go.sqL_new (by walk_at "fr") (by walk_at "sq"))
  | ((with_reducible show SqT _ (upd _ _ _) _ _); exact Go.sqT_new (by walk_at "fr") (by walk_at "sq"))
  | ((with_reducible show SqL _ (upd _ _ _) _ _); exact Go.sqL_ne (by walk_at "ne") (by walk_at "sq"))
  | exact Go.sqL_same (by assumption) (by walk_at "sq")
  | exact Go.sqT_same (by assumption) (by walk_at "sq")
  | exact Go.sqL_kp (by assumption) (by walk_at "ne") (by walk_at "sq")
  | exact Go.sqT_kp (by assumption) (by walk_at "ne") (by walk_at "sq"))
local macro_rules | `(tactic| walk_at "ci") => `(tactic| first
  | exact .inr ⟨by decide, by decide⟩
  | exact .inl ⟨by decide, by decide⟩
  | exact ⟨by decide, by decide, by decide⟩
  | decide
  | omega
  | exact ⟨by omega, by omega⟩
  | exact .inl ⟨by omega, by omega⟩
  | exact .inr ⟨by omega, by omega⟩)
local macro_rules | `(tactic| walk_at "g0") => `(tactic| first
  | with_reducible refine Go.g_seq ?_
  | ((with_reducible show tVar _ _ _ _); refine ⟨_, rfl, ?_⟩)
  | with_reducible refine Go.g_c ?_
  | with_reducible refine Go.g_op ?_
  | with_reducible refine Go.g_asg ?_
  | with_reducible refine Go.g_name ?_
  | with_reducible refine Go.g_cons ?_
  | with_reducible refine Go.g_lst ?_
  | with_reducible refine Go.g_tup ?_
  | with_reducible refine Go.g_for ?_
  | with_reducible refine Go.g_rng1 ?_
  | with_reducible refine Go.g_rng2 ?_
  | with_reducible refine Go.g_rng3 ?_
  | with_reducible refine Go.g_list ?_
  | with_reducible refine Go.g_itup ?_
  | with_reducible refine Go.g_enum ?_
  | ((with_reducible show tPar _ _ _ _ _ _); unfold tPar)
  | ((with_reducible show ∃ v w, [_, _] = [v, w] ∧ _); refine ⟨_, _, rfl, ?_⟩)
  | with_reducible refine Go.g_zip ?_
  | with_reducible refine Go.g_augS ?_
  | with_reducible refine Go.g_lc ?_
  | with_reducible refine Go.g_nil ?_
  | with_reducible refine Go.g_cb ?_
  | with_reducible refine Go.g_call ?_
  | with_reducible refine Go.g_ret ?_
  | with_reducible refine Go.g_next ?_
  | with_reducible refine Go.g_drop ?_
  | with_reducible refine Go.g_un ?_
  | with_reducible refine Go.g_test ?_
  | with_reducible refine Go.g_tB ?_
  | with_reducible refine Go.g_ifs ?_
  | with_reducible refine Go.g_if ?_
  | with_reducible refine Go.g_and ?_
  | with_reducible refine Go.g_or ?_
  | with_reducible refine Go.g_not ?_
  | with_reducible refine Go.g_sl ?_
  | with_reducible refine Go.g_nopart ?_
  | with_reducible refine Go.g_part ?_
  | ((with_reducible show ∃ k, V.bl _ = V.bl k ∧ _); refine ⟨_, rfl, ?_⟩)
  | ((with_reducible show ∃ k, V.int _ = V.int k ∧ _); refine ⟨_, rfl, ?_⟩)
  | with_reducible refine Go.g_bm ?_
  | with_reducible refine Go.g_yes ?_
  | ((with_reducible show rI0 _ _ _ _ _); refine ⟨_, _, rfl, rfl, ?_⟩)
  | ((with_reducible show rI _ _ _ _ _ _); refine ⟨_, _, rfl, rfl, ?_, ?_⟩; (focus walk_at "ci"))
  | ((with_reducible show rU _ _ _ _); refine ⟨_, rfl, ?_⟩)
  | ((with_reducible show rEq _ _ _ _); refine ⟨rfl, ?_⟩)
  | ((with_reducible show rNe _ _ _ _); refine ⟨rfl, ?_⟩)
  | ((with_reducible show rIxL _ _ _ _ _); refine Go.g_ixL (by walk_at "sq") (by rfl) ?_)
  | ((with_reducible show rIxT _ _ _ _ _); refine Go.g_ixT (by walk_at "sq") (by rfl) ?_)
  | ((with_reducible show rSetL _ _ _ _ _); refine Go.g_setL (by walk_at "hp") (by rfl) ?_)
  | ((with_reducible show ∃ p ys, [V.ref _] = [V.ref p] ∧ (SqL _ _ _ _ ∨ SqT _ _ _ _) ∧ _); refine ⟨_, _, rfl, .inl (by walk_at "sq"), ?_⟩)
  | ((with_reducible show (∃ i, [V.int _] = [V.int i] ∧ _) ∨ _); refine .inl ⟨_, rfl, ?_⟩)
  | ((with_reducible show ∃ (c : Nat) (z : Str), V.str _ = V.str ⟨#[c]⟩ ∧ V.str _ = V.str z ∧ _); refine ⟨_, _, rfl, rfl, ?_⟩)
  | ((with_reducible show ∃ x : Str, [V.str _] = [V.str x] ∧ Str.length x = 1 ∧ _); refine ⟨_, rfl, rfl, ?_⟩)
  | ((with_reducible show ∃ z : Str, [V.str _] = [V.str z] ∧ Str.length z ≤ sizeLine ∧ _); refine ⟨_, rfl, by assumption, ?_⟩)
  | ((with_reducible show rSlS _ _ _ _ _); refine ⟨_, rfl, by assumption, ?_⟩)
  | ((with_reducible show gTup _ _ _ _ _ _ _); refine Go.g_gtup (by walk_at "sq") (by rfl) ?_)
  | ((with_reducible show gCons _ _ _ _ _ _); refine ⟨_, _, rfl, ?_⟩)
  | ((with_reducible show gNil _ _ _ _); refine ⟨rfl, ?_⟩)
  | ((with_reducible show rLenS _ _ _ _); refine Go.g_lenL (by walk_at "sq") ?_)
  | ((with_reducible show rListOf _ _ _ _); refine Go.g_listL (by walk_at "sq") ?_)
  | ((with_reducible show wipe _ _ = wipe _ _ ∧ _); refine ⟨rfl, ?_⟩)
  | ((with_reducible show if true = true then _ else _); refine iteT ?_)
  | ((with_reducible show if false = true then _ else _); refine iteF ?_)
  | ((with_reducible show ∃ a b xs ys, [V.ref _, V.ref _] = [V.ref a, V.ref b] ∧ SqL _ _ a xs ∧ SqL _ _ b ys ∧ _); refine ⟨_, _, _, _, rfl, by walk_at "sq", by walk_at "sq", ?_⟩)
  | ((with_reducible show ∃ a xs, [V.ref _] = [V.ref a] ∧ SqL _ _ a xs ∧ _); refine ⟨_, _, rfl, by walk_at "sq", ?_⟩)
  | ((with_reducible show ∃ a, V.ref _ = V.ref a ∧ (∃ xs, SqL _ _ a xs) ∧ _); refine ⟨_, rfl, ⟨_, by walk_at "sq"⟩, ?_⟩)
  | ((with_reducible show ∃ a, V.ref _ = V.ref a ∧ (∃ xs, SqT _ _ a xs) ∧ _); refine ⟨_, rfl, ⟨_, by walk_at "sq"⟩, ?_⟩)
  | ((with_reducible show ∃ j : Int, [V.int _] = [V.int j] ∧ _ ≤ j ∧ j < _ ∧ _); refine ⟨_, rfl, by omega, by omega, ?_⟩)
  | ((with_reducible show ∃ i j : Int, [V.int _, V.int _] = [V.int i, V.int j] ∧ (_ ≤ i ∧ i < _ ∧ _ ≤ j ∧ j < _) ∧ _); refine ⟨_, _, rfl, ⟨by omega, by omega, by omega, by omega⟩, ?_⟩)
  | ((with_reducible show ∃ i j : Int, [V.int _, V.int _] = [V.int i, V.int j] ∧ _); refine ⟨_, _, rfl, ?_⟩)
  | ((with_reducible show ∃ i : Int, [V.int _] = [V.int i] ∧ _); refine ⟨_, rfl, ?_⟩)
  | ((with_reducible show _ ≤ sizeLine ∧ _); refine ⟨by first | decide | (simp only [List.length_cons, List.length_nil]; decide), ?_⟩))
local macro_rules | `(tactic| walk_at "g1") => `(tactic| first | walk_at "g0" | with_reducible refine Go.g_sub ?_)
local macro_rules | `(tactic| walk_at "g") => `(tactic| repeat walk_at "g1")
local macro_rules | `(tactic| walk_at "v") => `(tactic| repeat walk_at "g0")
local macro_rules | `(tactic| walk_at "if") => `(tactic| first
  | with_reducible refine @Go.g_itd _ _ _ _ ?_ ?_
  | with_reducible refine @Go.g_itnd _ _ _ _ ?_ ?_
  | with_reducible refine Go.g_ite ?_ ?_)

section
variable {P : Program} {w : World} {K : PySem.W.Frag} {mg : Str → Option Value} {base : Heap}
theorem lcW_tup {K : PySem.W.Frag} {a : Addr} (xs : List V) {g : TG} {tt : TT} {te : TE} {vs : List Nat} {σ : L2.St} {H1 : Hp} {D : Addr} {Qd : Hp → Prop} (Pv : Nat → Hp → Prop) (h0 : Pv 0 (upd H1 D (.lst []))) (hl : ∀ i H, i ≤ xs.length → Pv i H → SqT K H a xs)
    (hs : ∀ i x H, xs[i]? = some x → Pv i H → g x (wipe σ vs) H fun σ2 H2 => wipe σ2 vs = wipe σ vs ∧ tt σ2 H2 fun b H3 =>
      if b = true then te σ2 H3 fun y H4 => ∃ acc, H4 D = some (.lst acc) ∧ acc.length < sizeLine ∧ Pv (i + 1) (upd H4 D (.lst (acc ++ [y]))) else Pv (i + 1) H3) (hd : ∀ H, Pv xs.length H → Qd H) : LcW (Itt K a) g tt te vs σ H1 D Qd := lc_tup Pv h0 hl hs hd
def sp_distances (K : PySem.W.Frag) : Sp := fun vs H Q _ => ∃ (na ea : Addr) (ns es : List (List Nat)), vs = [.ref na, .ref ea] ∧ SqT K H na (wsV ns) ∧ SqT K H ea (wsV es) ∧ Words ns ∧ Words es ∧
  ∀ H' fa rs, Same H H' → Far K H' fa rs (farS ns es) es.length → H fa = none → Q (.ref fa) H'
theorem ok_distances (T : Txt K mg) : FnOk P w K mg base CX0 4 T.a_distances T.fd_distances ["name", "entry"] (sp_distances K) := by
  refine T.F_distances.ok sc_distances (fun vs H Q E h => ?_) (fun cdv A outer s H vs Q E hr h => ?_)
  · obtain ⟨na, ea, ns, es, rfl, _⟩ := h; rfl
  · obtain ⟨na, ea, ns, es, rfl, hn, he, Wn, We, q⟩ := h
    have fn := Wn.few
    have fe := We.few
    have ln := wsV_len ns
    have le := wsV_len es
    refine ⟨_, pss_one (ps_ret (pe_lc (own := [("one", 3)]) (g := gName 3) (by rfl) sc_distances.nd (pi_tup (pv 0)) (blkOk_by (own := [("one", 3)]) (N := ["name", "entry", "other", "one"]) (sc := defScope s_distances) (by decide +kernel)) (fun _ _ _ _ _ => pg_name (i := 3) sc_distances.nd rfl (by first | exact Or.inl rfl | exact Or.inr rfl)) (fun _ _ _ _ _ => pts_nil) (fun _ _ _ _ _ => (pe_lc (own := [("other", 2)]) (g := gName 2) (by rfl) sc_distances.nd (pi_tup (pv 1) : PI _ _ _ (iTup K _)) (blkOk_by (own := [("other", 2)]) (N := ["name", "entry", "other", "one"]) (by rfl)) (fun _ _ _ _ _ => pg_name (i := 2) sc_distances.nd rfl (by first | exact Or.inl rfl | exact Or.inr rfl)) (fun _ _ _ _ _ => pts_nil) (fun _ _ _ _ _ => (pe_call (ok_distance T) hr (by rfl) T.g_distance T.F_distance.kp T.b_distance .nil pass0 (pa_cons (pv 3) (pa_cons (pv 2) pa_nil)))))))), ?_⟩
    walk_at "g"
    intro D nD
    refine lcW_tup (wsV ns) (fun t H' => Same H H' ∧ ∃ rs : List Addr, H' D = some (.lst (rs.map V.ref)) ∧ rs.length = t ∧ (∀ r ∈ rs, r ≠ D) ∧ ∀ i (h1 : i < rs.length) (h2 : i < (farS ns es).length), H' rs[i] = some (.lst ((farS ns es)[i].map V.int)))
      ⟨Go.Same.new (Same.refl _) nD, [], upd_same, rfl, (fun r h => nomatch h), (fun i h1 _ => nomatch h1)⟩ (fun t H' _ h => sqT_same h.1 hn) ?_ ?_
    · rintro t x H1 hx ⟨s1, rs, er, lr, nr, row⟩
      obtain ⟨ht, rfl⟩ := wsV_at hx
      have he1 := sqT_same s1 he
      walk_at "g"
      intro E nE
      refine lcW_tup (wsV es) (fun u H' => Same H1 H' ∧ H' E = some (.lst (((es.take u).map fun b => dd ns[t] b).map V.int)))
        ⟨Go.Same.new (Same.refl _) nE, upd_same⟩ (fun u H' _ h => sqT_same h.1 he1) ?_ ?_
      · rintro u y H2 hy ⟨s2, e2⟩
        obtain ⟨hj, rfl⟩ := wsV_at hy
        walk_at "g"
        refine ⟨ns[t], es[u], rfl, Wn.short _ (List.getElem_mem ht), We.short _ (List.getElem_mem hj), fun H3 s3 => ?_⟩
        refine ⟨_, s3 _ _ e2, by rw [List.length_map, List.length_map, List.length_take]; exact small1000 (by omega), Go.Same.mut (s2.trans s3) nE, ?_⟩
        rw [upd_same, List.take_succ_eq_append_getElem hj, List.map_append, List.map_append]; rfl
      rintro H2 ⟨s2, e2⟩
      rw [le, List.take_length] at e2
      have er2 := s2 _ _ er
      have nDE : D ≠ E := ne_of_none er nE
      refine ⟨_, er2, by rw [List.length_map]; exact small1000 (by omega), Go.Same.mut (s1.trans s2) nD, rs ++ [E], by rw [upd_same, List.map_append]; rfl, by simp [lr], fun r hr => ?_, fun i h1 h2 => ?_⟩
      · rcases List.mem_append.mp hr with z | z
        · exact nr r z
        · rw [List.mem_singleton.mp z]; exact nDE.symm
      · by_cases hi : i < rs.length
        · rw [List.getElem_append_left hi]
          exact at_upd (nr _ (List.getElem_mem hi)) (s2 _ _ (row i hi h2))
        · have ei : i = rs.length := by rw [List.length_append, List.length_singleton] at h1; omega
          have e1 : (rs ++ [E])[i] = E := by subst ei; simp
          have et : i = t := by omega
          subst et
          rw [e1, upd_ne nDE.symm, e2]
          rw [farS_at h2]
    · rintro H1 ⟨s1, rs, er, lr, nr, row⟩
      walk_at "g"
      rw [ln] at lr
      exact q H1 D rs s1 ⟨SqL.of er, by unfold farS; rw [List.length_map]; exact lr, fun i h1 h2 => SqL.of (row i h1 h2), fun r hr => by
        unfold farS at hr
        obtain ⟨a, _, rfl⟩ := List.mem_map.mp hr
        rw [List.length_map], by unfold farS; rw [List.length_map]; omega⟩ nD

end
end K62

namespace K62
open PySem PySem.Spec PyProof.Rows L2 Go
set_option maxHeartbeats 8000000
local macro_rules | `(tactic| walk_at "ne") => `(tactic| first
  | assumption
  | (refine Ne.symm ?_; assumption)
  | exact (Go.free_upd (by assumption)).2
  | exact (Go.free_upd (by assumption)).2.symm
  | exact Go.ne_fr (by assumption) (by walk_at "hp")
  | exact (Go.ne_fr (by assumption) (by walk_at "hp")).symm)
local macro_rules | `(tactic| walk_at "fr") => `(tactic| first
  | assumption
  | exact (Go.free_upd (by assumption)).1
  | exact (Go.free_upd (Go.free_upd (by assumption)).1).1
  | exact Same.free (by assumption) (by walk_at "fr"))
local macro_rules | `(tactic| walk_at "hp") => `(tactic| first
  | assumption
  | with_reducible exact upd_same
  | ((with_reducible show upd _ _ _ _ = _); exact Go.at_upd (by walk_at "ne") (by walk_at "hp"))
  | exact (by assumption : Same _ _) _ _ (by walk_at "hp")
  | exact (by assumption : Go.Kp _ _ _) _ _ (by walk_at "ne") (by walk_at "hp")
  | exact (by assumption : Go.Kp2 _ _ _ _) _ _ (by walk_at "ne") (by walk_at "ne") (by walk_at "hp"))
local macro_rules | `(tactic| walk_at "sq") => `(tactic| first
  | assumption
  | ((with_reducible show SqL _ (upd _ _ _) _ _); exact (by assumption : ∀ o, SqL _ (upd _ _ o) _ _) _)
  | ((with_reducible show SqL _ _ _ _); exact SqL.of (by walk_at "hp"))
  | ((with_reducible show SqT _ _ _ _); exact SqT.of (by walk_at "hp"))
  | ((with_reducible show SqL _ (upd _ _ _) _ _); exact Go.sqL_new (by walk_at "fr") (by walk_at "sq"))
  | ((with_reducible show SqT _ (upd _ _ _) _ _); exact Go.sqT_new (by walk_at "fr") (by walk_at "sq"))
  | ((with_reducible show SqL _ (upd _ _ _) _ _); exact Go.sqL_ne (by walk_at "ne") (by walk_at "sq"))
  | exact Go.sqL_same (by assumption) (by walk_at "sq")
  | exact Go.sqT_same (by assumption) (by walk_at "sq")
  | exact Go.sqL_kp (by assumption) (by walk_at "ne") (by walk_at "sq")
  | exact Go.sqT_kp (by assumption) (by walk_at "ne") (by walk_at "sq"))
local macro_rules | `(tactic| walk_at "ci") => `(tactic| first
  | exact .inr ⟨by decide, by decide⟩
  | exact .inl ⟨by decide, by decide⟩
  | exact ⟨by decide, by decide, by decide⟩
  | decide
  | omega
  | exact ⟨by omega, by omega⟩
  | exact .inl ⟨by omega, by omega⟩
  | exact .inr ⟨by omega, by omega⟩)
local macro_rules | `(tactic| walk_at "g0") => `(tactic| first
  | with_reducible refine Go.g_seq ?_
  | ((with_reducible show tVar _ _ _ _); refine ⟨_, rfl, ?_⟩)
  | with_reducible refine Go.g_c ?_
  | with_reducible refine Go.g_op ?_
  | with_reducible refine Go.g_asg ?_
  | with_reducible refine Go.g_name ?_
  | with_reducible refine Go.g_cons ?_
  | with_reducible refine Go.g_lst ?_
  | with_reducible refine Go.g_tup ?_
  | with_reducible refine Go.g_for ?_
  | with_reducible refine Go.g_rng1 ?_
  | with_reducible refine Go.g_rng2 ?_
  | with_reducible refine Go.g_rng3 ?_
  | with_reducible refine Go.g_list ?_
  | with_reducible refine Go.g_itup ?_
  | with_reducible refine Go.g_enum ?_
  | ((with_reducible show tPar _ _ _ _ _ _); unfold tPar)
  | ((with_reducible show ∃ v w, [_, _] = [v, w] ∧ _); refine ⟨_, _, rfl, ?_⟩)
  | with_reducible refine Go.g_zip ?_
  | with_reducible refine Go.g_augS ?_
  | with_reducible refine Go.g_lc ?_
  | with_reducible refine Go.g_nil ?_
  | with_reducible refine Go.g_cb ?_
  | with_reducible refine Go.g_call ?_
  | with_reducible refine Go.g_ret ?_
  | with_reducible refine Go.g_next ?_
  | with_reducible refine Go.g_drop ?_
  | with_reducible refine Go.g_un ?_
  | with_reducible refine Go.g_test ?_
  | with_reducible refine Go.g_tB ?_
  | with_reducible refine Go.g_ifs ?_
  | with_reducible refine Go.g_if ?_
  | with_reducible refine Go.g_and ?_
  | with_reducible refine Go.g_or ?_
  | with_reducible refine Go.g_not ?_
  | with_reducible refine Go.g_sl ?_
  | with_reducible refine Go.g_nopart ?_
  | with_reducible refine Go.g_part ?_
  | ((with_reducible show ∃ k, V.bl _ = V.bl k ∧ _); refine ⟨_, rfl, ?_⟩)
  | ((with_reducible show ∃ k, V.int _ = V.int k ∧ _); refine ⟨_, rfl, ?_⟩)
  | with_reducible refine Go.g_bm ?_
  | with_reducible refine Go.g_yes ?_
  | ((with_reducible show rI0 _ _ _ _ _); refine ⟨_, _, rfl, rfl, ?_⟩)
  | ((with_reducible show rI _ _ _ _ _ _); refine ⟨_, _, rfl, rfl, ?_, ?_⟩; (focus walk_at "ci"))
  | ((with_reducible show rU _ _ _ _); refine ⟨_, rfl, ?_⟩)
  | ((with_reducible show rEq _ _ _ _); refine ⟨rfl, ?_⟩)
  | ((with_reducible show rNe _ _ _ _); refine ⟨rfl, ?_⟩)
  | ((with_reducible show rIxL _ _ _ _ _); refine Go.g_ixL (by walk_at "sq") (by rfl) ?_)
  | ((with_reducible show rIxT _ _ _ _ _); refine Go.g_ixT (by walk_at "sq") (by rfl) ?_)
  | ((with_reducible show rSetL _ _ _ _ _); refine Go.g_setL (by walk_at "hp") (by rfl) ?_)
  | ((with_reducible show ∃ p ys, [V.ref _] = [V.ref p] ∧ (SqL _ _ _ _ ∨ SqT _ _ _ _) ∧ _); refine ⟨_, _, rfl, .inl (by walk_at "sq"), ?_⟩)
  | ((with_reducible show (∃ i, [V.int _] = [V.int i] ∧ _) ∨ _); refine .inl ⟨_, rfl, ?_⟩)
  | ((with_reducible show ∃ (c : Nat) (z : Str), V.str _ = V.str ⟨#[c]⟩ ∧ V.str _ = V.str z ∧ _); refine ⟨_, _, rfl, rfl, ?_⟩)
  | ((with_reducible show ∃ x : Str, [V.str _] = [V.str x] ∧ Str.length x = 1 ∧ _); refine ⟨_, rfl, rfl, ?_⟩)
  | ((with_reducible show ∃ z : Str, [V.str _] = [V.str z] ∧ Str.length z ≤ sizeLine ∧ _); refine ⟨_, rfl, by assumption, ?_⟩)
  | ((with_reducible show rSlS _ _ _ _ _); refine ⟨_, rfl, by assumption, ?_⟩)
  | ((with_reducible show gTup _ _ _ _ _ _ _); refine Go.g_gtup (by walk_at "sq") (by rfl) ?_)
  | ((with_reducible show gCons _ _ _ _ _ _); refine ⟨_, _, rfl, ?_⟩)
  | ((with_reducible show gNil _ _ _ _); refine ⟨rfl, ?_⟩)
  | ((with_reducible show rLenS _ _ _ _); refine Go.g_lenL (by walk_at "sq") ?_)
  | ((with_reducible show rListOf _ _ _ _); refine Go.g_listL (by walk_at "sq") ?_)
  | ((with_reducible show wipe _ _ = wipe _ _ ∧ _); refine ⟨rfl, ?_⟩)
  | ((with_reducible show if true = true then _ else _); refine iteT ?_)
  | ((with_reducible show if false = true then _ else _); refine iteF ?_)
  | ((with_reducible show ∃ a b xs ys, [V.ref _, V.ref _] = [V.ref a, V.ref b] ∧ SqL _ _ a xs ∧ SqL _ _ b ys ∧ _); refine ⟨_, _, _, _, rfl, by walk_at "sq", by walk_at "sq", ?_⟩)
  | ((with_reducible show ∃ a xs, [V.ref _] = [V.ref a] ∧ SqL _ _ a xs ∧ _); refine ⟨_, _, rfl, by walk_at "sq", ?_⟩)
  | ((with_reducible show ∃ a, V.ref _ = V.ref a ∧ (∃ xs, SqL _ _ a xs) ∧ _); refine ⟨_, rfl, ⟨_, by walk_at "sq"⟩, ?_⟩)
  | ((with_reducible show ∃ a, V.ref _ = V.ref a ∧ (∃ xs, SqT _ _ a xs) ∧ _); refine ⟨_, rfl, ⟨_, by walk_at "sq"⟩, ?_⟩)
  | ((with_reducible show ∃ j : Int, [V.int _] = [V.int j] ∧ _ ≤ j ∧ j < _ ∧ _); refine ⟨_, rfl, by omega, by omega, ?_⟩)
  | ((with_reducible show ∃ i j : Int, [V.int _, V.int _] = [V.int i, V.int j] ∧ (_ ≤ i ∧ i < _ ∧ _ ≤ j ∧ j < _) ∧ _); refine ⟨_, _, rfl, ⟨by omega, by omega, by omega, by omega⟩, ?_⟩)
  | ((with_reducible show ∃ i j : Int, [V.int _, V.int _] = [V.int i, V.int j] ∧ _); refine ⟨_, _, rfl, ?_⟩)
  | ((with_reducible show ∃ i : Int, [V.int _] = [V.int i] ∧ _); refine ⟨_, rfl, ?_⟩)
  | ((with_reducible show _ ≤ sizeLine ∧ _); refine ⟨by first | decide | (simp only [List.length_cons, List.length_nil]; decide), ?_⟩))
local macro_rules | `(tactic| walk_at "g1") => `(tactic| first | walk_at "g0" | with_reducible refine Go.g_sub ?_)
local macro_rules | `(tactic| walk_at "g") => `(tactic| repeat walk_at "g1")
local macro_rules | `(tactic| walk_at "v") => `(tactic| repeat walk_at "g0")
local macro_rules | `(tactic| walk_at "if") => `(tactic| first
  | with_reducible refine @Go.g_itd _ _ _ _ ?_ ?_
  | with_reducible refine @Go.g_itnd _ _ _ _ ?_ ?_
  | with_reducible refine Go.g_ite ?_ ?_)

section
variable {P : Program} {w : World} {K : PySem.W.Frag} {mg : Str → Option Value} {base : Heap}
def sumL (es : List (List Nat)) : Int := (es.map fun a => (a.length : Int)).sum
def sp__law_bound (K : PySem.W.Frag) : Sp := fun vs H Q _ => ∃ (ea : Addr) (es : List (List Nat)), vs = [.ref ea] ∧ SqL K H ea (wsV es) ∧ Words es ∧ ∀ H', Same H H' → Q (.int (min 4 (sumL es / 3))) H'
theorem ok__law_bound (T : Txt K mg) : FnOk P w K mg base CX0 1 T.a__law_bound T.fd__law_bound ["entry"] (sp__law_bound K) := by
  refine T.F__law_bound.ok sc__law_bound (fun vs H Q E h => ?_) (fun cdv A outer s H vs Q E hr h => ?_)
  · obtain ⟨ea, es, rfl, _⟩ := h; rfl
  · obtain ⟨ea, es, rfl, he, We, q⟩ := h
    have fe := We.few
    have le := wsV_len es
    refine ⟨_, pss_one (ps_ret (pe_callB (call_min2 rfl) (by rfl) T.n_min (by decide +kernel) (pa_cons pe_int (pa_cons (pe_op op_fdiv (pe_callB (cr_sum rfl) (by rfl) T.n_sum (by decide +kernel) (pa_cons (pe_lc (own := [("word", 1)]) (g := gName 1) (by rfl) sc__law_bound.nd (pi_list (pv 0)) (blkOk_by (own := [("word", 1)]) (N := ["entry", "word"]) (sc := defScope s__law_bound) (by decide +kernel)) (fun _ _ _ _ _ => pg_name (i := 1) sc__law_bound.nd rfl (by first | exact Or.inl rfl | exact Or.inr rfl)) (fun _ _ _ _ _ => pts_nil) (fun _ _ _ _ _ => (pe_callB call_len_str (by rfl) T.n_len PySem.boot_len (pa_cons (pv 1) pa_nil)))) pa_nil)) pe_int) pa_nil)))), ?_⟩
    walk_at "g"
    intro D nD
    refine lcW_pure (wsV es) (fun j => .int ((es.getD j []).length : Int)) nD he (by omega) ?_ ?_
    · intro j y H2 R Z hy s2 hR
      obtain ⟨hj, rfl⟩ := wsV_at hy
      have hs := We.short _ (List.getElem_mem hj)
      have ln : (mkS es[j]).length = es[j].length := by simp [mkS, Str.length]
      walk_at "g"
      refine ⟨mkS es[j], rfl, sz (by omega), ?_⟩
      rw [ln]
      rw [List.getD_eq_getElem?_getD, List.getElem?_eq_getElem hj] at hR
      exact hR
    intro H1 s1 e1
    have e1 : H1 D = some (.lst ((es.map fun a => (a.length : Int)).map V.int)) := by
      rw [e1, le]
      congr 2
      refine List.ext_getElem (by simp) fun i h1 h2 => ?_
      have hi : i < es.length := by simpa using h1
      simp [List.getD_eq_getElem?_getD, List.getElem?_eq_getElem hi]
    walk_at "g"
    refine ⟨D, es.map fun a => (a.length : Int), rfl, SqL.of e1, ?_⟩
    walk_at "g"
    have := q H1 s1
    rw [← ifmin] at this
    exact this
theorem lcW_pureT {K : PySem.W.Frag} {a : Addr} (xs : List V) (f : Nat → V) {g : TG} {te : TE} {vs : List Nat} {σ : L2.St} {H1 : Hp} {D : Addr} {Qd : Hp → Prop} (nD : H1 D = none) (hA : SqT K H1 a xs) (hlen : xs.length ≤ 1000)
    (hs : ∀ i x H (R : VK) (Z : Hp → Prop), xs[i]? = some x → Same H1 H → R (f i) H → g x (wipe σ vs) H fun σ2 H2 => wipe σ2 vs = wipe σ vs ∧ tYes σ2 H2 fun b H3 => if b = true then te σ2 H3 R else Z H3)
    (hd : ∀ H, Same H1 H → H D = some (.lst ((List.range xs.length).map f)) → Qd H) : LcW (Itt K a) g tYes te vs σ H1 D Qd := by
  refine lcW_tup xs (fun i H => Same H1 H ∧ H D = some (.lst ((List.range i).map f))) ⟨Go.Same.new (Same.refl H1) nD, upd_same⟩ (fun i H _ h => sqT_same h.1 hA) ?_ (fun H h => hd H h.1 h.2)
  rintro i x H hx ⟨s, e⟩
  have hi : i < xs.length := (List.getElem?_eq_some_iff.mp hx).1
  refine hs i x H _ _ hx s ⟨_, e, by rw [List.length_map, List.length_range]; exact small1000 (by omega), Go.Same.mut s nD, ?_⟩
  rw [upd_same, List.range_succ, List.map_append]; rfl
def sp_bound (K : PySem.W.Frag) : Sp := fun vs H Q _ => ∃ (ea : Addr) (es : List (List Nat)), vs = [.ref ea] ∧ SqT K H ea (wsV es) ∧ Words es ∧ ∀ H', Same H H' → Q (.int (min 4 (sumL es / 3))) H'
theorem ok_bound (T : Txt K mg) : FnOk P w K mg base CX0 1 T.a_bound T.fd_bound ["entry"] (sp_bound K) := by
  refine T.F_bound.ok sc_bound (fun vs H Q E h => ?_) (fun cdv A outer s H vs Q E hr h => ?_)
  · obtain ⟨ea, es, rfl, _⟩ := h; rfl
  · obtain ⟨ea, es, rfl, he, We, q⟩ := h
    have fe := We.few
    have le := wsV_len es
    refine ⟨_, pss_one (ps_ret (pe_callB (call_min2 rfl) (by rfl) T.n_min (by decide +kernel) (pa_cons (pe_glob (v := .int 4) rfl T.m_FURTHEST ⟨_, rfl⟩) (pa_cons (pe_op op_fdiv (pe_callB (cr_sum rfl) (by rfl) T.n_sum (by decide +kernel) (pa_cons (pe_lc (own := [("word", 1)]) (g := gName 1) (by rfl) sc_bound.nd (pi_tup (pv 0)) (blkOk_by (own := [("word", 1)]) (N := ["entry", "word"]) (sc := defScope s_bound) (by decide +kernel)) (fun _ _ _ _ _ => pg_name (i := 1) sc_bound.nd rfl (by first | exact Or.inl rfl | exact Or.inr rfl)) (fun _ _ _ _ _ => pts_nil) (fun _ _ _ _ _ => (pe_callB call_len_str (by rfl) T.n_len PySem.boot_len (pa_cons (pv 1) pa_nil)))) pa_nil)) pe_int) pa_nil)))), ?_⟩
    walk_at "g"
    intro D nD
    refine lcW_pureT (wsV es) (fun j => .int ((es.getD j []).length : Int)) nD he (by omega) ?_ ?_
    · intro j y H2 R Z hy s2 hR
      obtain ⟨hj, rfl⟩ := wsV_at hy
      have hs := We.short _ (List.getElem_mem hj)
      have ln : (mkS es[j]).length = es[j].length := by simp [mkS, Str.length]
      walk_at "g"
      refine ⟨mkS es[j], rfl, sz (by omega), ?_⟩
      rw [ln]
      rw [List.getD_eq_getElem?_getD, List.getElem?_eq_getElem hj] at hR
      exact hR
    intro H1 s1 e1
    have e1 : H1 D = some (.lst ((es.map fun a => (a.length : Int)).map V.int)) := by
      rw [e1, le]
      congr 2
      refine List.ext_getElem (by simp) fun i h1 h2 => ?_
      have hi : i < es.length := by simpa using h1
      simp [List.getD_eq_getElem?_getD, List.getElem?_eq_getElem hi]
    walk_at "g"
    refine ⟨D, es.map fun a => (a.length : Int), rfl, SqL.of e1, ?_⟩
    walk_at "g"
    have := q H1 s1
    rw [← ifmin] at this
    exact this

end
end K62

namespace K62
open PySem PySem.Spec PyProof.Rows L2 Go
set_option maxHeartbeats 8000000
local macro_rules | `(tactic| walk_at "ne") => `(tactic| first
  | assumption
  | (refine Ne.symm ?_; assumption)
  | exact (Go.free_upd (by assumption)).2
  | exact (Go.free_upd (by assumption)).2.symm
  | exact Go.ne_fr (by assumption) (by walk_at "hp")
  | exact (Go.ne_fr (by assumption) (by walk_at "hp")).symm)
local macro_rules | `(tactic| walk_at "fr") => `(tactic| first
  | assumption
  | exact (Go.free_upd (by assumption)).1
  | exact (Go.free_upd (Go.free_upd (by assumption)).1).1
  | exact Same.free (by assumption) (by walk_at "fr"))
local macro_rules | `(tactic| walk_at "hp") => `(tactic| first
  | assumption
  | with_reducible exact upd_same
  | ((with_reducible show upd _ _ _ _ = _); exact Go.at_upd (by walk_at "ne") (by walk_at "hp"))
  | exact (by assumption : Same _ _) _ _ (by walk_at "hp")
  | exact (by assumption : Go.Kp _ _ _) _ _ (by walk_at "ne") (by walk_at "hp")
  | exact (by assumption : Go.Kp2 _ _ _ _) _ _ (by walk_at "ne") (by walk_at "ne") (by walk_at "hp"))
local macro_rules | `(tactic| walk_at "sq") => `(tactic| first
  | assumption
  | ((with_reducible show SqL _ (upd _ _ _) _ _); exact (by assumption : ∀ o, SqL _ (upd _ _ o) _ _) _)
  | ((with_reducible show SqL _ _ _ _); exact SqL.of (by walk_at "hp"))
  | ((with_reducible show SqT _ _ _ _); exact SqT.of (by walk_at "hp"))
  | ((with_reducible show SqL _ (upd _ _ _) _ _); exact Go.sqL_new (by walk_at "fr") (by walk_at "sq"))
  | ((with_reducible show SqT _ (upd _ _ _) _ _); exact Go.sqT_new (by walk_at "fr") (by walk_at "sq"))
  | ((with_reducible show SqL _ (upd _ _ _) _ _); exact Go.sqL_ne (by walk_at "ne") (by walk_at "sq"))
  | exact Go.sqL_same (by assumption) (by walk_at "sq")
  | exact Go.sqT_same (by assumption) (by walk_at "sq")
  | exact Go.sqL_kp (by assumption) (by walk_at "ne") (by walk_at "sq")
  | exact Go.sqT_kp (by assumption) (by walk_at "ne") (by walk_at "sq"))
local macro_rules | `(tactic| walk_at "ci") => `(tactic| first
  | exact .inr ⟨by decide, by decide⟩
  | exact .inl ⟨by decide, by decide⟩
  | exact ⟨by decide, by decide, by decide⟩
  | decide
  | omega
  | exact ⟨by omega, by omega⟩
  | exact .inl ⟨by omega, by omega⟩
  | exact .inr ⟨by omega, by omega⟩)
local macro_rules | `(tactic| walk_at "g0") => `(tactic| first
  | with_reducible refine Go.g_seq ?_
  | ((with_reducible show tVar _ _ _ _); refine ⟨_, rfl, ?_⟩)
  | with_reducible refine Go.g_c ?_
  | with_reducible refine Go.g_op ?_
  | with_reducible refine Go.g_asg ?_
  | with_reducible refine Go.g_name ?_
  | with_reducible refine Go.g_cons ?_
  | with_reducible refine Go.g_lst ?_
  | with_reducible refine Go.g_tup ?_
  | with_reducible refine Go.g_for ?_
  | with_reducible refine Go.g_rng1 ?_
  | with_reducible refine Go.g_rng2 ?_
  | with_reducible refine Go.g_rng3 ?_
  | with_reducible refine Go.g_list ?_
  | with_reducible refine Go.g_itup ?_
  | with_reducible refine Go.g_enum ?_
  | ((with_reducible show tPar _ _ _ _ _ _); unfold tPar)
  | ((with_reducible show ∃ v w, [_, _] = [v, w] ∧ _); refine ⟨_, _, rfl, ?_⟩)
  | with_reducible refine Go.g_zip ?_
  | with_reducible refine Go.g_augS ?_
  | with_reducible refine Go.g_lc ?_
  | with_reducible refine Go.g_nil ?_
  | with_reducible refine Go.g_cb ?_
  | with_reducible refine Go.g_call ?_
  | with_reducible refine Go.g_ret ?_
  | with_reducible refine Go.g_next ?_
  | with_reducible refine Go.g_drop ?_
  | with_reducible refine Go.g_un ?_
  | with_reducible refine Go.g_test ?_
  | with_reducible refine Go.g_tB ?_
  | with_reducible refine Go.g_ifs ?_
  | with_reducible refine Go.g_if ?_
  | with_reducible refine Go.g_and ?_
  | with_reducible refine Go.g_or ?_
  | with_reducible refine Go.g_not ?_
  | with_reducible refine Go.g_sl ?_
  | with_reducible refine Go.g_nopart ?_
  | with_reducible refine Go.g_part ?_
  | ((with_reducible show ∃ k, V.bl _ = V.bl k ∧ _); refine ⟨_, rfl, ?_⟩)
  | ((with_reducible show ∃ k, V.int _ = V.int k ∧ _); refine ⟨_, rfl, ?_⟩)
  | with_reducible refine Go.g_bm ?_
  | with_reducible refine Go.g_yes ?_
  | ((with_reducible show rI0 _ _ _ _ _); refine ⟨_, _, rfl, rfl, ?_⟩)
  | ((with_reducible show rI _ _ _ _ _ _); refine ⟨_, _, rfl, rfl, ?_, ?_⟩; (focus walk_at "ci"))
  | ((with_reducible show rU _ _ _ _); refine ⟨_, rfl, ?_⟩)
  | ((with_reducible show rEq _ _ _ _); refine ⟨rfl, ?_⟩)
  | ((with_reducible show rNe _ _ _ _); refine ⟨rfl, ?_⟩)
  | ((with_reducible show rIxL _ _ _ _ _); refine Go.g_ixL (by walk_at "sq") (by rfl) ?_)
  | ((with_reducible show rIxT _ _ _ _ _); refine Go.g_ixT (by walk_at "sq") (by rfl) ?_)
  | ((with_reducible show rSetL _ _ _ _ _); refine Go.g_setL (by walk_at "hp") (by rfl) ?_)
  | ((with_reducible show ∃ p ys, [V.ref _] = [V.ref p] ∧ (SqL _ _ _ _ ∨ SqT _ _ _ _) ∧ _); refine ⟨_, _, rfl, .inl (by walk_at "sq"), ?_⟩)
  | ((with_reducible show (∃ i, [V.int _] = [V.int i] ∧ _) ∨ _); refine .inl ⟨_, rfl, ?_⟩)
  | ((with_reducible show ∃ (c : Nat) (z : Str), V.str _ = V.str ⟨#[c]⟩ ∧ V.str _ = V.str z ∧ _); refine ⟨_, _, rfl, rfl, ?_⟩)
  | ((with_reducible show ∃ x : Str, [V.str _] = [V.str x] ∧ Str.length x = 1 ∧ _); refine ⟨_, rfl, rfl, ?_⟩)
  | ((with_reducible show ∃ z : Str, [V.str _] = [V.str z] ∧ Str.length z ≤ sizeLine ∧ _); refine ⟨_, rfl, by assumption, ?_⟩)
  | ((with_reducible show rSlS _ _ _ _ _); refine ⟨_, rfl, by assumption, ?_⟩)
  | ((with_reducible show gTup _ _ _ _ _ _ _); refine Go.g_gtup (by walk_at "sq") (by rfl) ?_)
  | ((with_reducible show gCons _ _ _ _ _ _); refine ⟨_, _, rfl, ?_⟩)
  | ((with_reducible show gNil _ _ _ _); refine ⟨rfl, ?_⟩)
  | ((with_reducible show rLenS _ _ _ _); refine Go.g_lenL (by walk_at "sq") ?_)
  | ((with_reducible show rListOf _ _ _ _); refine Go.g_listL (by walk_at "sq") ?_)
  | ((with_reducible show wipe _ _ = wipe _ _ ∧ _); refine ⟨rfl, ?_⟩)
  | ((with_reducible show if true = true then _ else _); refine iteT ?_)
  | ((with_reducible show if false = true then _ else _); refine iteF ?_)
  | ((with_reducible show ∃ a b xs ys, [V.ref _, V.ref _] = [V.ref a, V.ref b] ∧ SqL _ _ a xs ∧ SqL _ _ b ys ∧ _); refine ⟨_, _, _, _, rfl, by walk_at "sq", by walk_at "sq", ?_⟩)
  | ((with_reducible show ∃ a xs, [V.ref _] = [V.ref a] ∧ SqL _ _ a xs ∧ _); refine ⟨_, _, rfl, by walk_at "sq", ?_⟩)
  | ((with_reducible show ∃ a, V.ref _ = V.ref a ∧ (∃ xs, SqL _ _ a xs) ∧ _); refine ⟨_, rfl, ⟨_, by walk_at "sq"⟩, ?_⟩)
  | ((with_reducible show ∃ a, V.ref _ = V.ref a ∧ (∃ xs, SqT _ _ a xs) ∧ _); refine ⟨_, rfl, ⟨_, by walk_at "sq"⟩, ?_⟩)
  | ((with_reducible show ∃ j : Int, [V.int _] = [V.int j] ∧ _ ≤ j ∧ j < _ ∧ _); refine ⟨_, rfl, by omega, by omega, ?_⟩)
  | ((with_reducible show ∃ i j : Int, [V.int _, V.int _] = [V.int i, V.int j] ∧ (_ ≤ i ∧ i < _ ∧ _ ≤ j ∧ j < _) ∧ _); refine ⟨_, _, rfl, ⟨by omega, by omega, by omega, by omega⟩, ?_⟩)
  | ((with_reducible show ∃ i j : Int, [V.int _, V.int _] = [V.int i, V.int j] ∧ _); refine ⟨_, _, rfl, ?_⟩)
  | ((with_reducible show ∃ i : Int, [V.int _] = [V.int i] ∧ _); refine ⟨_, rfl, ?_⟩)
  | ((with_reducible show _ ≤ sizeLine ∧ _); refine ⟨by first | decide | (simp only [List.length_cons, List.length_nil]; decide), ?_⟩))
local macro_rules | `(tactic| walk_at "g1") => `(tactic| first | walk_at "g0" | with_reducible refine Go.g_sub ?_)
local macro_rules | `(tactic| walk_at "g") => `(tactic| repeat walk_at "g1")
local macro_rules | `(tactic| walk_at "v") => `(tactic| repeat walk_at "g0")
local macro_rules | `(tactic| walk_at "if") => `(tactic| first
  | with_reducible refine @Go.g_itd _ _ _ _ ?_ ?_
  | with_reducible refine @Go.g_itnd _ _ _ _ ?_ ?_
  | with_reducible refine Go.g_ite ?_ ?_)

section
variable {P : Program} {w : World} {K : PySem.W.Frag} {mg : Str → Option Value} {base : Heap}
abbrev sp_cheapest (K : PySem.W.Frag) : Sp := spR_cheapest K 5
theorem ok_cheapest (T : Txt K mg) : FnOk P w K mg base CX0 6 T.a_cheapest T.fd_cheapest ["far", "i", "free"] (sp_cheapest K) := okR_cheapest T 5
abbrev sp__law_gap (K : PySem.W.Frag) : Sp := spR__law_gap K 5
theorem ok__law_gap (T : Txt K mg) : FnOk P w K mg base CX0 6 T.a__law_gap T.fd__law_gap ["far", "i", "free"] (sp__law_gap K) := okR__law_gap T 5
def sp_gap (K : PySem.W.Frag) : Sp := fun vs H Q _ => ∃ (na ea : Addr) (ns es : List (List Nat)), vs = [.ref na, .ref ea] ∧ SqT K H na (wsV ns) ∧ SqT K H ea (wsV es) ∧ Words ns ∧ Words es ∧ ns.length ≤ 4 ∧
  ∀ H', Same H H' → Q (.int (cst (farS ns es) (List.range es.length))) H'
theorem ok_gap (T : Txt K mg) : FnOk P w K mg base CX0 7 T.a_gap T.fd_gap ["name", "entry"] (sp_gap K) := by
  refine T.F_gap.ok sc_gap (fun vs H Q E h => ?_) (fun cdv A outer s H vs Q E hr h => ?_)
  · obtain ⟨na, ea, ns, es, rfl, _⟩ := h; rfl
  · obtain ⟨na, ea, ns, es, rfl, hn, he, Wn, We, l4, q⟩ := h
    have le := wsV_len es
    have fe := We.few
    refine ⟨_, pss_one (ps_ret (pe_ix ix_tup (pe_call (ok_cheapest T) hr (by rfl) T.g_cheapest T.F_cheapest.kp T.b_cheapest .nil pass0 (pa_cons (pe_call (ok_distances T) (hr.mono (by decide)) (by rfl) T.g_distances T.F_distances.kp T.b_distances .nil pass0 (pa_cons (pv 0) (pa_cons (pv 1) pa_nil))) (pa_cons pe_int (pa_cons (pe_listRg rfl (by rfl) T.n_list (prg_1 (by rfl) T.n_range (pe_callB call_lenS (by rfl) T.n_len PySem.boot_len (pa_cons (pv 1) pa_nil)))) pa_nil)))) pe_int (fun _ _ => rfl))), ?_⟩
    walk_at "g"
    refine ⟨na, ea, ns, es, rfl, hn, he, Wn, We, fun H1 fa rs s1 F _ => ?_⟩
    have he1 := sqT_same s1 he
    walk_at "g"
    unfold tLstRg tRg1
    walk_at "g"
    refine ⟨ea, wsV es, rfl, .inr he1, ?_⟩
    refine ⟨_, rfl, RgOk.of_le (by omega) (by omega) (by omega) (by omega), fun l nl => ?_⟩
    have erg : rgV 0 ((wsV es).length : Int) = ixs (List.range es.length) := by
      unfold rgV ixs
      rw [le, Int.sub_zero, Int.toNat_natCast]
      refine List.map_congr_left fun k _ => by rw [Int.zero_add]
    rw [erg]
    have s2 : Same H1 (upd H1 l (.lst (ixs (List.range es.length)))) := Go.Same.new (Same.refl _) nl
    walk_at "g"
    refine ⟨fa, l, rs, farS ns es, es.length, 0, List.range es.length, rfl, F.same s2, SqL.of upd_same, by rw [List.length_range]; omega, fun j hj => List.mem_range.mp hj, by omega, by unfold farS; rw [List.length_map]; omega, fun H3 t pr xs s3 et ep lx => ?_⟩
    walk_at "g"
    exact q H3 (s1.trans (s2.trans s3))

end
end K62

namespace K62
open PySem PySem.Spec PyProof.Rows L2 Go
set_option maxHeartbeats 8000000
local macro_rules | `(tactic| walk_at "ne") => `(tactic| first
  | assumption
  | (refine Ne.symm ?_; assumption)
  | exact (Go.free_upd (by assumption)).2
  | exact (Go.free_upd (by assumption)).2.symm
  | exact Go.ne_fr (by assumption) (by walk_at "hp")
  | exact (Go.ne_fr (by assumption) (by walk_at "hp")).symm)
local macro_rules | `(tactic| walk_at "fr") => `(tactic| first
  | assumption
  | exact (Go.free_upd (by assumption)).1
  | exact (Go.free_upd (Go.free_upd (by assumption)).1).1
  | exact Same.free (by assumption) (by walk_at "fr"))
local macro_rules | `(tactic| walk_at "hp") => `(tactic| first
  | assumption
  | with_reducible exact upd_same
  | ((with_reducible show upd _ _ _ _ = _); exact Go.at_upd (by walk_at "ne") (by walk_at "hp"))
  | exact (by assumption : Same _ _) _ _ (by walk_at "hp")
  | exact (by assumption : Go.Kp _ _ _) _ _ (by walk_at "ne") (by walk_at "hp")
  | exact (by assumption : Go.Kp2 _ _ _ _) _ _ (by walk_at "ne") (by walk_at "ne") (by walk_at "hp"))
local macro_rules | `(tactic| walk_at "sq") => `(tactic| first
  | assumption
  | ((with_reducible show SqL _ (upd _ _ _) _ _); exact (by assumption : ∀ o, SqL _ (upd _ _ o) _ _) _)
  | ((with_reducible show SqL _ _ _ _); exact SqL.of (by walk_at "hp"))
  | ((with_reducible show SqT _ _ _ _); exact SqT.of (by walk_at "hp"))
  | ((with_reducible show SqL _ (upd _ _ _) _ _); exact Go.sqL_new (by walk_at "fr") (by walk_at "sq"))
  | ((with_reducible show SqT _ (upd _ _ _) _ _); exact Go.sqT_new (by walk_at "fr") (by walk_at "sq"))
  | ((with_reducible show SqL _ (upd _ _ _) _ _); exact Go.sqL_ne (by walk_at "ne") (by walk_at "sq"))
  | exact Go.sqL_same (by assumption) (by walk_at "sq")
  | exact Go.sqT_same (by assumption) (by walk_at "sq")
  | exact Go.sqL_kp (by assumption) (by walk_at "ne") (by walk_at "sq")
  | exact Go.sqT_kp (by assumption) (by walk_at "ne") (by walk_at "sq"))
local macro_rules | `(tactic| walk_at "ci") => `(tactic| first
  | exact .inr ⟨by decide, by decide⟩
  | exact .inl ⟨by decide, by decide⟩
  | exact ⟨by decide, by decide, by decide⟩
  | decide
  | omega
  | exact ⟨by omega, by omega⟩
  | exact .inl ⟨by omega, by omega⟩
  | exact .inr ⟨by omega, by omega⟩)
local macro_rules | `(tactic| walk_at "g0") => `(tactic| first
  | with_reducible refine Go.g_seq ?_
  | ((with_reducible show tVar _ _ _ _); refine ⟨_, rfl, ?_⟩)
  | with_reducible refine Go.g_c ?_
  | with_reducible refine Go.g_op ?_
  | with_reducible refine Go.g_asg ?_
  | with_reducible refine Go.g_name ?_
  | with_reducible refine Go.g_cons ?_
  | with_reducible refine Go.g_lst ?_
  | with_reducible refine Go.g_tup ?_
  | with_reducible refine Go.g_for ?_
  | with_reducible refine Go.g_rng1 ?_
  | with_reducible refine Go.g_rng2 ?_
  | with_reducible refine Go.g_rng3 ?_
  | with_reducible refine Go.g_list ?_
  | with_reducible refine Go.g_itup ?_
  | with_reducible refine Go.g_enum ?_
  | ((with_reducible show tPar _ _ _ _ _ _); unfold tPar)
  | ((with_reducible show ∃ v w, [_, _] = [v, w] ∧ _); refine ⟨_, _, rfl, ?_⟩)
  | with_reducible refine Go.g_zip ?_
  | with_reducible refine Go.g_augS ?_
  | with_reducible refine Go.g_lc ?_
  | with_reducible refine Go.g_nil ?_
  | with_reducible refine Go.g_cb ?_
  | with_reducible refine Go.g_call ?_
  | with_reducible refine Go.g_ret ?_
  | with_reducible refine Go.g_next ?_
  | with_reducible refine Go.g_drop ?_
  | with_reducible refine Go.g_un ?_
  | with_reducible refine Go.g_test ?_
  | with_reducible refine Go.g_tB ?_
  | with_reducible refine Go.g_ifs ?_
  | with_reducible refine Go.g_if ?_
  | with_reducible refine Go.g_and ?_
  | with_reducible refine Go.g_or ?_
  | with_reducible refine Go.g_not ?_
  | with_reducible refine Go.g_sl ?_
  | with_reducible refine Go.g_nopart ?_
  | with_reducible refine Go.g_part ?_
  | ((with_reducible show ∃ k, V.bl _ = V.bl k ∧ _); refine ⟨_, rfl, ?_⟩)
  | ((with_reducible show ∃ k, V.int _ = V.int k ∧ _); refine ⟨_, rfl, ?_⟩)
  | with_reducible refine Go.g_bm ?_
  | with_reducible refine Go.g_yes ?_
  | ((with_reducible show rI0 _ _ _ _ _); refine ⟨_, _, rfl, rfl, ?_⟩)
  | ((with_reducible show rI _ _ _ _ _ _); refine ⟨_, _, rfl, rfl, ?_, ?_⟩; (focus walk_at "ci"))
  | ((with_reducible show rU _ _ _ _); refine ⟨_, rfl, ?_⟩)
  | ((with_reducible show rEq _ _ _ _); refine ⟨rfl, ?_⟩)
  | ((with_reducible show rNe _ _ _ _); refine ⟨rfl, ?_⟩)
  | ((with_reducible show rIxL _ _ _ _ _); refine Go.g_ixL (by walk_at "sq") (by rfl) ?_)
  | ((with_reducible show rIxT _ _ _ _ _); refine Go.g_ixT (by walk_at "sq") (by rfl) ?_)
  | ((with_reducible show rSetL _ _ _ _ _); refine Go.g_setL (by walk_at "hp") (by rfl) ?_)
  | ((with_reducible show ∃ p ys, [V.ref _] = [V.ref p] ∧ (SqL _ _ _ _ ∨ SqT _ _ _ _) ∧ _); refine ⟨_, _, rfl, .inl (by walk_at "sq"), ?_⟩)
  | ((with_reducible show (∃ i, [V.int _] = [V.int i] ∧ _) ∨ _); refine .inl ⟨_, rfl, ?_⟩)
  | ((with_reducible show ∃ (c : Nat) (z : Str), V.str _ = V.str ⟨#[c]⟩ ∧ V.str _ = V.str z ∧ _); refine ⟨_, _, rfl, rfl, ?_⟩)
  | ((with_reducible show ∃ x : Str, [V.str _] = [V.str x] ∧ Str.length x = 1 ∧ _); refine ⟨_, rfl, rfl, ?_⟩)
  | ((with_reducible show ∃ z : Str, [V.str _] = [V.str z] ∧ Str.length z ≤ sizeLine ∧ _); refine ⟨_, rfl, by assumption, ?_⟩)
  | ((with_reducible show rSlS _ _ _ _ _); refine ⟨_, rfl, by assumption, ?_⟩)
  | ((with_reducible show gTup _ _ _ _ _ _ _); refine Go.g_gtup (by walk_at "sq") (by rfl) ?_)
  | ((with_reducible show gCons _ _ _ _ _ _); refine ⟨_, _, rfl, ?_⟩)
  | ((with_reducible show gNil _ _ _ _); refine ⟨rfl, ?_⟩)
  | ((with_reducible show rLenS _ _ _ _); refine Go.g_lenL (by walk_at "sq") ?_)
  | ((with_reducible show rListOf _ _ _ _); refine Go.g_listL (by walk_at "sq") ?_)
  | ((with_reducible show wipe _ _ = wipe _ _ ∧ _); refine ⟨rfl, ?_⟩)
  | ((with_reducible show if true = true then _ else _); refine iteT ?_)
  | ((with_reducible show if false = true then _ else _); refine iteF ?_)
  | ((with_reducible show ∃ a b xs ys, [V.ref _, V.ref _] = [V.ref a, V.ref b] ∧ SqL _ _ a xs ∧ SqL _ _ b ys ∧ _); refine ⟨_, _, _, _, rfl, by walk_at "sq", by walk_at "sq", ?_⟩)
  | ((with_reducible show ∃ a xs, [V.ref _] = [V.ref a] ∧ SqL _ _ a xs ∧ _); refine ⟨_, _, rfl, by walk_at "sq", ?_⟩)
  | ((with_reducible show ∃ a, V.ref _ = V.ref a ∧ (∃ xs, SqL _ _ a xs) ∧ _); refine ⟨_, rfl, ⟨_, by walk_at "sq"⟩, ?_⟩)
  | ((with_reducible show ∃ a, V.ref _ = V.ref a ∧ (∃ xs, SqT _ _ a xs) ∧ _); refine ⟨_, rfl, ⟨_, by walk_at "sq"⟩, ?_⟩)
  | ((with_reducible show ∃ j : Int, [V.int _] = [V.int j] ∧ _ ≤ j ∧ j < _ ∧ _); refine ⟨_, rfl, by omega, by omega, ?_⟩)
  | ((with_reducible show ∃ i j : Int, [V.int _, V.int _] = [V.int i, V.int j] ∧ (_ ≤ i ∧ i < _ ∧ _ ≤ j ∧ j < _) ∧ _); refine ⟨_, _, rfl, ⟨by omega, by omega, by omega, by omega⟩, ?_⟩)
  | ((with_reducible show ∃ i j : Int, [V.int _, V.int _] = [V.int i, V.int j] ∧ _); refine ⟨_, _, rfl, ?_⟩)
  | ((with_reducible show ∃ i : Int, [V.int _] = [V.int i] ∧ _); refine ⟨_, rfl, ?_⟩)
  | ((with_reducible show _ ≤ sizeLine ∧ _); refine ⟨by first | decide | (simp only [List.length_cons, List.length_nil]; decide), ?_⟩))
local macro_rules | `(tactic| walk_at "g1") => `(tactic| first | walk_at "g0" | with_reducible refine Go.g_sub ?_)
local macro_rules | `(tactic| walk_at "g") => `(tactic| repeat walk_at "g1")
local macro_rules | `(tactic| walk_at "v") => `(tactic| repeat walk_at "g0")
local macro_rules | `(tactic| walk_at "if") => `(tactic| first
  | with_reducible refine @Go.g_itd _ _ _ _ ?_ ?_
  | with_reducible refine @Go.g_itnd _ _ _ _ ?_ ?_
  | with_reducible refine Go.g_ite ?_ ?_)

section
variable {P : Program} {w : World} {K : PySem.W.Frag} {mg : Str → Option Value} {base : Heap}
def WdL (ws : List (List Nat)) : Prop := ws.length ≤ 4 ∧ ∀ a ∈ ws, Wd a
theorem WdL.words {ws : List (List Nat)} (h : WdL ws) : Words ws := ⟨by have := h.1; omega, fun a ha => (h.2 a ha).2.1, fun a ha => (h.2 a ha).2.2⟩
def sp__law_pair (K : PySem.W.Frag) : Sp := fun vs H Q _ => ∃ (st sc : Addr) (is : List Int), vs = [.ref st, .ref sc] ∧ St K H st sc is ∧
  ∀ H' t na ea ns es, Kp st H H' → St K H' st sc is → H' t = some (.tup [.ref na, .ref ea]) → H' na = some (.lst (wsV ns)) → H' ea = some (.lst (wsV es)) → WdL ns → WdL es → t ≠ st → na ≠ st → ea ≠ st → Q (.ref t) H'
theorem wsV_app (ws : List (List Nat)) (a : List Nat) : wsV ws ++ [V.str (mkS a)] = wsV (ws ++ [a]) := by unfold wsV; rw [List.map_append]; rfl
theorem St.keep {K : PySem.W.Frag} {H0 H' : Hp} {st sc D : Addr} {is : List Int} {o : HO} (S0 : St K H0 st sc is) (nD : H0 D = none) (k : Kp st H0 H') (S : St K H' st sc is) : St K (upd H' D o) st sc is := by
  obtain ⟨⟨n, s, es⟩, h1, h3⟩ := S
  exact ⟨⟨n, s, at_upd (S0.ne nD).symm es⟩, fun H'' k' => S0.2.1 _ ((Kp.mut k nD).trans k'), h3⟩
theorem wd_app {ws : List (List Nat)} {a : List Nat} (h : ∀ x ∈ ws, Wd x) (ha : Wd a) : ∀ x ∈ ws ++ [a], Wd x := fun x hx => by
  rcases List.mem_append.mp hx with z | z
  · exact h x z
  · rw [List.mem_singleton.mp z]; exact ha
theorem wsV_er (ws : List (List Nat)) (k : Nat) : (wsV ws).eraseIdx k = wsV (ws.eraseIdx k) := by
  unfold wsV
  induction ws generalizing k with
  | nil => rfl
  | cons a r ih =>
    cases k with
    | zero => rfl
    | succ k => rw [List.map_cons, List.eraseIdx_cons_succ, List.eraseIdx_cons_succ, List.map_cons, ih]
theorem ok__law_pair (T : Txt K mg) : FnOk P w K mg base CX0 4 T.a__law_pair T.fd__law_pair ["state", "script"] (sp__law_pair K) := by
  refine T.F__law_pair.ok sc__law_pair (fun vs H Q E h => ?_) (fun cdv A outer s H vs Q E hr h => ?_)
  · obtain ⟨st, sc, is, rfl, _⟩ := h; rfl
  · obtain ⟨st, sc, is, rfl, S, q⟩ := h
    refine ⟨_, pss_cons (ps_setLc (i := 2) (own := [("_", 3)]) (g := gName 3) (by rfl) sc__law_pair.nd rfl rfl (sw_true rfl rfl rfl (by decide +kernel)) (pi_range1 (by rfl) T.n_range (pa_cons (pe_op op_add pe_int (pe_call (ok__law_draw T) (hr.mono (by decide)) (by rfl) T.g__law_draw T.F__law_draw.kp T.b__law_draw .nil pass0 (pa_cons (pv 0) (pa_cons (pv 1) (pa_cons pe_int pa_nil))))) pa_nil)) (blkOk_by (own := [("_", 3)]) (N := ["state", "script", "entry", "_", "left", "word", "name"]) (sc := defScope s__law_pair) (by decide +kernel)) (fun _ _ _ _ _ => pg_name (i := 3) sc__law_pair.nd rfl (by first | exact Or.inl rfl | exact Or.inr rfl)) (fun _ _ _ _ _ => pts_nil) (fun _ _ _ _ _ => (pe_call (ok__law_word T) (hr.mono (by decide)) (by rfl) T.g__law_word T.F__law_word.kp T.b__law_word .nil pass0 (pa_cons (pv 0) (pa_cons (pv 1) pa_nil)))))
      (pss_cons (ps_if (pt_cmpR op_eq (pe_call (ok__law_draw T) (hr.mono (by decide)) (by rfl) T.g__law_draw T.F__law_draw.kp T.b__law_draw .nil pass0 (pa_cons (pv 0) (pa_cons (pv 1) (pa_cons pe_int pa_nil)))) pe_int (nomark _))
        (pss_one (ps_ret (pe_tup (pa_cons (pe_lc (own := [("_", 3)]) (g := gName 3) (by rfl) sc__law_pair.nd (pi_range1 (by rfl) T.n_range (pa_cons (pe_op op_add pe_int (pe_call (ok__law_draw T) (hr.mono (by decide)) (by rfl) T.g__law_draw T.F__law_draw.kp T.b__law_draw .nil pass0 (pa_cons (pv 0) (pa_cons (pv 1) (pa_cons pe_int pa_nil))))) pa_nil)) (blkOk_by (own := [("_", 3)]) (N := ["state", "script", "entry", "_", "left", "word", "name"]) (sc := defScope s__law_pair) (by decide +kernel)) (fun _ _ _ _ _ => pg_name (i := 3) sc__law_pair.nd rfl (by first | exact Or.inl rfl | exact Or.inr rfl)) (fun _ _ _ _ _ => pts_nil) (fun _ _ _ _ _ => (pe_call (ok__law_word T) (hr.mono (by decide)) (by rfl) T.g__law_word T.F__law_word.kp T.b__law_word .nil pass0 (pa_cons (pv 0) (pa_cons (pv 1) pa_nil))))) (pa_cons (pv 2) pa_nil)))))
        (pss_nil))
      (pss_cons (ps_setLc (i := 4) (own := [("word", 5)]) (g := gName 5) (by rfl) sc__law_pair.nd rfl rfl (sw_true rfl rfl rfl (by decide +kernel)) (pi_list (pv 2)) (blkOk_by (own := [("word", 5)]) (N := ["state", "script", "entry", "_", "left", "word", "name"]) (sc := defScope s__law_pair) (by decide +kernel)) (fun _ _ _ _ _ => pg_name (i := 5) sc__law_pair.nd rfl (by first | exact Or.inl rfl | exact Or.inr rfl)) (fun _ _ _ _ _ => pts_nil) (fun _ _ _ _ _ => (pe_call (ok__law_close T) hr (by rfl) T.g__law_close T.F__law_close.kp T.b__law_close .nil pass0 (pa_cons (pv 0) (pa_cons (pv 1) (pa_cons (pv 5) pa_nil))))))
      (pss_cons (ps_set (i := 6) sc__law_pair.nd rfl (.inl rfl) (pe_lst pa_nil))
      (pss_cons (ps_while PassesOwn.never (pt_cmpR op_gt (pe_callB call_lenS (by rfl) T.n_len PySem.boot_len (pa_cons (pv 4) pa_nil)) pe_int (nomark _))
        (pss_cons (ps_set (i := 5) sc__law_pair.nd rfl (.inl rfl) (pe_bm PySem.F.plainAttrs_list PySem.F.slot_list_pop PySem.F.type_list_pop mt_popAt (pv 4) (pa_cons (pe_call (ok__law_draw T) (hr.mono (by decide)) (by rfl) T.g__law_draw T.F__law_draw.kp T.b__law_draw .nil pass0 (pa_cons (pv 0) (pa_cons (pv 1) (pa_cons (pe_callB call_lenS (by rfl) T.n_len PySem.boot_len (pa_cons (pv 4) pa_nil)) pa_nil)))) pa_nil)))
        (pss_one (ps_if (PW.pt (pw_or (pt_cmpR op_eq (pe_callB call_lenS (by rfl) T.n_len PySem.boot_len (pa_cons (pv 6) pa_nil)) pe_int (nomark _)) (pw_or1 (pt_cmpR op_gt (pe_call (ok__law_draw T) (hr.mono (by decide)) (by rfl) T.g__law_draw T.F__law_draw.kp T.b__law_draw .nil pass0 (pa_cons (pv 0) (pa_cons (pv 1) (pa_cons pe_int pa_nil)))) pe_int (nomark _)))))
          (pss_one (ps_expr (pe_bm PySem.F.plainAttrs_list PySem.F.slot_list_append PySem.F.type_list_append mt_append (pv 6) (pa_cons (pv 5) pa_nil))))
          (pss_nil)))))
      (C8.pss_cut (ps_if (PW.pt (pw_and (pt_cmpR op_lt (pe_callB call_lenS (by rfl) T.n_len PySem.boot_len (pa_cons (pv 6) pa_nil)) pe_int (nomark _)) (pw_and1 (pt_cmpR op_eq (pe_call (ok__law_draw T) (hr.mono (by decide)) (by rfl) T.g__law_draw T.F__law_draw.kp T.b__law_draw .nil pass0 (pa_cons (pv 0) (pa_cons (pv 1) (pa_cons pe_int pa_nil)))) pe_int (nomark _)))))
        (pss_one (ps_expr (pe_bm PySem.F.plainAttrs_list PySem.F.slot_list_append PySem.F.type_list_append mt_append (pv 6) (pa_cons (pe_call (ok__law_word T) (hr.mono (by decide)) (by rfl) T.g__law_word T.F__law_word.kp T.b__law_word .nil pass0 (pa_cons (pv 0) (pa_cons (pv 1) pa_nil))) pa_nil))))
        (pss_nil))
      (pss_one (ps_ret (pe_tup (pa_cons (pv 6) (pa_cons (pv 2) pa_nil)))))))))), ?_⟩
    walk_at "g"
    refine ⟨st, sc, is, _, rfl, S, by decide, by decide, fun H1 d1 k1 S1 a1 b1 => ?_⟩
    walk_at "g"
    intro E nE
    have nEs : E ≠ st := S1.ne nE
    refine lcW_range (fun i H' => Kp st H1 H' ∧ St K H' st sc is ∧ ∃ ws, H' E = some (.lst (wsV ws)) ∧ ws.length = i ∧ ∀ a ∈ ws, Wd a)
      ⟨Kp.new (Kp.refl _ _) nE, S1.new nE, [], upd_same, rfl, fun a h => nomatch h⟩ ?_ ?_
    · rintro i H2 hi ⟨k2, S2, ws, e2, l2, w2⟩
      walk_at "g"
      refine ⟨st, sc, is, rfl, S2, fun H3 w k3 S3 W3 => ?_⟩
      have e3 := k3 _ _ nEs e2
      refine ⟨_, e3, by rw [wsV_len]; exact small1000 (by omega), Kp.mut (k2.trans k3) nE, St.keep S1 nE (k2.trans k3) S3, ws ++ [w], by rw [upd_same, wsV_app], by simp [l2], wd_app w2 W3⟩
    rintro H2 ⟨k2, S2, es, e2, l2, w2⟩
    have WE : WdL es := ⟨by omega, w2⟩
    have k2 := k1.trans k2
    clear k1 S1 nE S w2
    walk_at "g"
    refine ⟨st, sc, is, _, rfl, S2, by decide, by decide, fun H3 d3 k3 S3 a3 b3 => ?_⟩
    have e3 := k3 _ _ nEs e2
    have k3 := k2.trans k3
    clear k2 S2 e2
    walk_at "g"
    walk_at "if" <;> intro c1
    · walk_at "g"
      refine ⟨st, sc, is, _, rfl, S3, by decide, by decide, fun H4 d4 k4 S4 a4 b4 => ?_⟩
      have e4 := k4 _ _ nEs e3
      have k4 := k3.trans k4
      walk_at "g"
      intro F nF
      have nFs : F ≠ st := S4.ne nF
      refine lcW_range (fun i H' => Kp st H4 H' ∧ St K H' st sc is ∧ ∃ ws, H' F = some (.lst (wsV ws)) ∧ ws.length = i ∧ ∀ a ∈ ws, Wd a)
        ⟨Kp.new (Kp.refl _ _) nF, S4.new nF, [], upd_same, rfl, fun a h => nomatch h⟩ ?_ ?_
      · rintro i H5 hi ⟨k5, S5, ws, e5, l5, w5⟩
        walk_at "g"
        refine ⟨st, sc, is, rfl, S5, fun H6 w k6 S6 W6 => ?_⟩
        have e6 := k6 _ _ nFs e5
        refine ⟨_, e6, by rw [wsV_len]; exact small1000 (by omega), Kp.mut (k5.trans k6) nF, St.keep S4 nF (k5.trans k6) S6, ws ++ [w], by rw [upd_same, wsV_app], by simp [l5], wd_app w5 W6⟩
      rintro H5 ⟨k5, S5, ns, e5, l5, w5⟩
      have e5' := k5 _ _ nEs e4
      walk_at "g"
      intro t nt
      exact q _ t F E ns es (Kp.new (k4.trans k5) nt) (S5.new nt) upd_same (at_upd (ne_of_none e5 nt) e5) (at_upd (ne_of_none e5' nt) e5') ⟨by omega, w5⟩ WE (S5.ne nt) nFs nEs
    walk_at "g"
    intro L nL
    have nLs : L ≠ st := S3.ne nL
    have wE := wsV_len es
    refine lcW_list (wsV es) (fun i H' => Kp st H3 H' ∧ St K H' st sc is ∧ ∃ ws, H' L = some (.lst (wsV ws)) ∧ ws.length = i ∧ ∀ a ∈ ws, Wd a)
      ⟨Kp.new (Kp.refl _ _) nL, S3.new nL, [], upd_same, rfl, fun a h => nomatch h⟩ (fun i H' _ h => SqL.of (h.1 _ _ nEs e3)) ?_ ?_
    · rintro i x H4 hx ⟨k4, S4, ws, e4, l4, w4⟩
      obtain ⟨hi, rfl⟩ := wsV_at hx
      walk_at "g"
      refine ⟨st, sc, is, _, rfl, S4, WE.2 _ (List.getElem_mem hi), fun H5 w k5 S5 W5 => ?_⟩
      have e5 := k5 _ _ nLs e4
      have hle := WE.1
      refine ⟨_, e5, by rw [wsV_len]; exact small1000 (by omega), Kp.mut (k4.trans k5) nL, St.keep S3 nL (k4.trans k5) S5, ws ++ [w], by rw [upd_same, wsV_app], by simp [l4], wd_app w4 W5⟩
    rintro H4 ⟨k4, S4, ls, e4, l4, w4⟩
    walk_at "g"
    intro N nN
    have nNs : N ≠ st := S4.ne nN
    have nN3 : H3 N = none := by
      cases hz : H3 N with
      | none => rfl
      | some o => have := k4 _ _ nNs hz; rw [nN] at this; cases this
    have hNL : N ≠ L := (ne_of_none e4 nN).symm
    have hle := WE.1
    walk_at "g"
    refine whileW (fun m σ' H' => ∃ (ls nm : List (List Nat)) (y3 y5 : Option V), m = ls.length ∧ σ' = [some (.ref st), some (.ref sc), some (.ref E), y3, some (.ref L), y5, some (.ref N)] ∧ Kp st H3 H' ∧ St K H' st sc is ∧
        H' L = some (.lst (wsV ls)) ∧ H' N = some (.lst (wsV nm)) ∧ (∀ a ∈ ls, Wd a) ∧ (∀ a ∈ nm, Wd a) ∧ ls.length + nm.length ≤ 4)
      ⟨ls, [], _, _, rfl, rfl, Kp.new k4 nN, S4.new nN, at_upd (ne_of_none e4 nN) e4, upd_same, w4, (fun a h => nomatch h), by simp; omega⟩ ?_
    rintro m σ' H5 ⟨ls, nm, y3, y5, rfl, rfl, k5, S5, e5, f5, w5, v5, l5⟩
    have wL := wsV_len ls
    have wN := wsV_len nm
    walk_at "g"
    walk_at "if" <;> intro c2
    · refine ⟨fun σ' H' => ∃ (m' : Nat) (ls' nm : List (List Nat)) (y3 y5 : Option V), m' < ls.length ∧ m' = ls'.length ∧ σ' = [some (.ref st), some (.ref sc), some (.ref E), y3, some (.ref L), y5, some (.ref N)] ∧ Kp st H3 H' ∧ St K H' st sc is ∧
        H' L = some (.lst (wsV ls')) ∧ H' N = some (.lst (wsV nm)) ∧ (∀ a ∈ ls', Wd a) ∧ (∀ a ∈ nm, Wd a) ∧ ls'.length + nm.length ≤ 4, fun σ' H' ⟨m', ls', nm, y3, y5, h1, h2⟩ => ⟨m', h1, ls', nm, y3, y5, h2⟩, ?_⟩
      walk_at "g"
      refine ⟨.inl ⟨rfl, _, SqL.of e5⟩, ?_⟩
      walk_at "g"
      refine ⟨st, sc, is, _, rfl, S5, by omega, by omega, fun H6 d6 k6 S6 a6 b6 => ?_⟩
      have e6 := k6 _ _ nLs e5
      have f6 := k6 _ _ nNs f5
      have k6 := k5.trans k6
      have hd : d6.toNat < ls.length := by omega
      walk_at "g"
      refine ⟨L, _, d6, d6.toNat, .str (mkS ls[d6.toNat]), rfl, rfl, e6, by omega, by omega, by rw [wL]; exact seqIndex_of a6 (by omega), by unfold wsV; rw [List.getElem?_map, List.getElem?_eq_getElem hd]; rfl, ?_⟩
      rw [wsV_er]
      have S7 := St.keep (o := .lst (wsV (ls.eraseIdx d6.toNat))) S3 nL k6 S6
      have k7 := Kp.mut (o := .lst (wsV (ls.eraseIdx d6.toNat))) k6 nL
      have f7 : upd H6 L (.lst (wsV (ls.eraseIdx d6.toNat))) N = some (.lst (wsV nm)) := at_upd hNL f6
      have e7 : upd H6 L (.lst (wsV (ls.eraseIdx d6.toNat))) L = some (.lst (wsV (ls.eraseIdx d6.toNat))) := upd_same
      have we : Wd ls[d6.toNat] := w5 _ (List.getElem_mem hd)
      have w7 : ∀ a ∈ ls.eraseIdx d6.toNat, Wd a := fun a ha => w5 a (List.mem_of_mem_eraseIdx ha)
      have l7 : (ls.eraseIdx d6.toNat).length = ls.length - 1 := List.length_eraseIdx_of_lt hd
      generalize upd H6 L (.lst (wsV (ls.eraseIdx d6.toNat))) = H7 at S7 k7 f7 e7
      clear S6 k6 e6 f6
      have done : ∀ (H' : Hp) (nm' : List (List Nat)), Kp st H3 H' → St K H' st sc is → H' L = some (.lst (wsV (ls.eraseIdx d6.toNat))) → H' N = some (.lst (wsV nm')) → (∀ a ∈ nm', Wd a) → nm'.length ≤ nm.length + 1 →
          ∃ (m' : Nat) (ls' nm : List (List Nat)) (z3 z5 : Option V), m' < ls.length ∧ m' = ls'.length ∧ [some (V.ref st), some (V.ref sc), some (V.ref E), y3, some (V.ref L), some (V.str (mkS ls[d6.toNat])), some (V.ref N)] = [some (.ref st), some (.ref sc), some (.ref E), z3, some (.ref L), z5, some (.ref N)] ∧ Kp st H3 H' ∧ St K H' st sc is ∧
        H' L = some (.lst (wsV ls')) ∧ H' N = some (.lst (wsV nm)) ∧ (∀ a ∈ ls', Wd a) ∧ (∀ a ∈ nm, Wd a) ∧ ls'.length + nm.length ≤ 4 :=
        fun H' nm' a b c d e f => ⟨_, ls.eraseIdx d6.toNat, nm', _, _, by omega, rfl, rfl, a, b, c, d, w7, e, by omega⟩
      have app : ∀ (H' : Hp), Kp st H3 H' → St K H' st sc is → H' L = some (.lst (wsV (ls.eraseIdx d6.toNat))) → H' N = some (.lst (wsV nm)) → 
          ∃ (m' : Nat) (ls' nm2 : List (List Nat)) (z3 z5 : Option V), m' < ls.length ∧ m' = ls'.length ∧ [some (V.ref st), some (V.ref sc), some (V.ref E), y3, some (V.ref L), some (V.str (mkS ls[d6.toNat])), some (V.ref N)] = [some (.ref st), some (.ref sc), some (.ref E), z3, some (.ref L), z5, some (.ref N)] ∧ Kp st H3 (upd H' N (.lst (wsV nm ++ [.str (mkS ls[d6.toNat])]))) ∧ St K (upd H' N (.lst (wsV nm ++ [.str (mkS ls[d6.toNat])]))) st sc is ∧
        (upd H' N (.lst (wsV nm ++ [.str (mkS ls[d6.toNat])]))) L = some (.lst (wsV ls')) ∧ (upd H' N (.lst (wsV nm ++ [.str (mkS ls[d6.toNat])]))) N = some (.lst (wsV nm2)) ∧ (∀ a ∈ ls', Wd a) ∧ (∀ a ∈ nm2, Wd a) ∧ ls'.length + nm2.length ≤ 4 :=
        fun H' a b c d => done _ (nm ++ [ls[d6.toNat]]) (Kp.mut a nN3) (St.keep S3 nN3 a b) (at_upd hNL.symm c) ((upd_same : upd H' N (.lst (wsV nm ++ [.str (mkS ls[d6.toNat])])) N = _).trans (by rw [wsV_app])) (wd_app v5 we) (by simp)
      walk_at "g"
      walk_at "if" <;> intro c3
      · walk_at "g"
        refine ⟨.inl ⟨rfl, _, SqL.of f7⟩, ?_⟩
        walk_at "g"
        refine ⟨_, _, _, rfl, rfl, f7, by rw [wsV_len]; exact small1000 (by omega), app _ k7 S7 e7 f7⟩
      · walk_at "g"
        refine ⟨st, sc, is, _, rfl, S7, by decide, by decide, fun H8 d8 k8 S8 a8 b8 => ?_⟩
        have e8 := k8 _ _ nLs e7
        have f8 := k8 _ _ nNs f7
        have k8 := k7.trans k8
        walk_at "g"
        walk_at "if" <;> intro c4
        · walk_at "g"
          refine ⟨.inl ⟨rfl, _, SqL.of f8⟩, ?_⟩
          walk_at "g"
          refine ⟨_, _, _, rfl, rfl, f8, by rw [wsV_len]; exact small1000 (by omega), app _ k8 S8 e8 f8⟩
        · walk_at "g"
          exact done _ nm k8 S8 e8 f8 v5 (by omega)
    · have l0 : ls.length = 0 := by omega
      walk_at "g"
      refine g_cut (fun σ' H' => ∃ (nm : List (List Nat)) (y3 y5 : Option V), σ' = [some (.ref st), some (.ref sc), some (.ref E), y3, some (.ref L), y5, some (.ref N)] ∧ Kp st H3 H' ∧ St K H' st sc is ∧ H' N = some (.lst (wsV nm)) ∧ (∀ a ∈ nm, Wd a) ∧ nm.length ≤ 4) ?_ ?_
      · walk_at "g"
        walk_at "if" <;> intro c3
        · walk_at "g"
          refine ⟨st, sc, is, _, rfl, S5, by decide, by decide, fun H8 d8 k8 S8 a8 b8 => ?_⟩
          have f8 := k8 _ _ nNs f5
          have k8 := k5.trans k8
          walk_at "g"
          walk_at "if" <;> intro c4
          · walk_at "g"
            refine ⟨.inl ⟨rfl, _, SqL.of f8⟩, ?_⟩
            walk_at "g"
            refine ⟨st, sc, is, rfl, S8, fun H9 w k9 S9 W9 => ?_⟩
            have f9 := k9 _ _ nNs f8
            have k9 := k8.trans k9
            refine ⟨_, _, _, rfl, rfl, f9, by rw [wsV_len]; exact small1000 (by omega), nm ++ [w], _, _, rfl, Kp.mut k9 nN3, St.keep S3 nN3 k9 S9, by rw [upd_same, wsV_app], wd_app v5 W9, by simp; omega⟩
          · exact ⟨nm, _, _, rfl, k8, S8, f8, v5, by omega⟩
        · walk_at "g"
          exact ⟨nm, _, _, rfl, k5, S5, f5, v5, by omega⟩
      rintro σ' H8 ⟨nm, y3, y5, rfl, k8, S8, f8, v8, l8⟩
      have e8 := k8 _ _ nEs e3
      walk_at "g"
      intro t nt
      exact q _ t N E nm es (Kp.new (k3.trans k8) nt) (S8.new nt) upd_same (at_upd (ne_of_none f8 nt) f8) (at_upd (ne_of_none e8 nt) e8) ⟨l8, v8⟩ WE (S8.ne nt) nNs nEs

end
end K62

namespace K62
open PySem PySem.Spec PyProof.Rows L2 Go
set_option maxHeartbeats 8000000
local macro_rules | `(tactic| walk_at "ne") => `(tactic| first
  | assumption
  | (refine Ne.symm ?_; assumption)
  | exact (Go.free_upd (by assumption)).2
  | exact (Go.free_upd (by assumption)).2.symm
  | exact Go.ne_fr (by assumption) (by walk_at "hp")
  | exact (Go.ne_fr (by assumption) (by walk_at "hp")).symm)
local macro_rules | `(tactic| walk_at "fr") => `(tactic| first
  | assumption
  | exact (Go.free_upd (by assumption)).1
  | exact (Go.free_upd (Go.free_upd (by assumption)).1).1
  | exact Same.free (by assumption) (by walk_at "fr"))
local macro_rules | `(tactic| walk_at "hp") => `(tactic| first
  | assumption
  | with_reducible exact upd_same
  | ((with_reducible show upd _ _ _ _ = _); exact Go.at_upd (by walk_at "ne") (by walk_at "hp"))
  | exact (by assumption : Same _ _) _ _ (by walk_at "hp")
  | exact (by assumption : Go.Kp _ _ _) _ _ (by walk_at "ne") (by walk_at "hp")
  | exact (by assumption : Go.Kp2 _ _ _ _) _ _ (by walk_at "ne") (by walk_at "ne") (by walk_at "hp"))
local macro_rules | `(tactic| walk_at "sq") => `(tactic| first
  | assumption
  | ((with_reducible show SqL _ (upd _ _ _) _ _); exact (by assumption : ∀ o, SqL _ (upd _ _ o) _ _) _)
  | ((with_reducible show SqL _ _ _ _); exact SqL.of (by walk_at "hp"))
  | ((with_reducible show SqT _ _ _ _); exact SqT.of (by walk_at "hp"))
  | ((with_reducible show SqL _ (upd _ _ _) _ _); exact Go.sqL_new (by walk_at "fr") (by walk_at "sq"))
  | ((with_reducible show SqT _ (upd _ _ _) _ _); exact Go.sqT_new (by walk_at "fr") (by walk_at "sq"))
  | ((with_reducible show SqL _ (upd _ _ _) _ _); exact Go.sqL_ne (by walk_at "ne") (by walk_at "sq"))
  | exact Go.sqL_same (by assumption) (by walk_at "sq")
  | exact Go.sqT_same (by assumption) (by walk_at "sq")
  | exact Go.sqL_kp (by assumption) (by walk_at "ne") (by walk_at "sq")
  | exact Go.sqT_kp (by assumption) (by walk_at "ne") (by walk_at "sq"))
local macro_rules | `(tactic| walk_at "ci") => `(tactic| first
  | exact .inr ⟨by decide, by decide⟩
  | exact .inl ⟨by decide, by decide⟩
  | exact ⟨by decide, by decide, by decide⟩
  | decide
  | omega
  | exact ⟨by omega, by omega⟩
  | exact .inl ⟨by omega, by omega⟩
  | exact .inr ⟨by omega, by omega⟩)
local macro_rules | `(tactic| walk_at "g0") => `(tactic| first
  | with_reducible refine Go.g_seq ?_
  | ((with_reducible show tVar _ _ _ _); refine ⟨_, rfl, ?_⟩)
  | with_reducible refine Go.g_c ?_
  | with_reducible refine Go.g_op ?_
  | with_reducible refine Go.g_asg ?_
  | with_reducible refine Go.g_name ?_
  | with_reducible refine Go.g_cons ?_
  | with_reducible refine Go.g_lst ?_
  | with_reducible refine Go.g_tup ?_
  | with_reducible refine Go.g_for ?_
  | with_reducible refine Go.g_rng1 ?_
  | with_reducible refine Go.g_rng2 ?_
  | with_reducible refine Go.g_rng3 ?_
  | with_reducible refine Go.g_list ?_
  | with_reducible refine Go.g_itup ?_
  | with_reducible refine Go.g_enum ?_
  | ((with_reducible show tPar _ _ _ _ _ _); unfold tPar)
  | ((with_reducible show ∃ v w, [_, _] = [v, w] ∧ _); refine ⟨_, _, rfl, ?_⟩)
  | with_reducible refine Go.g_zip ?_
  | with_reducible refine Go.g_augS ?_
  | with_reducible refine Go.g_lc ?_
  | with_reducible refine Go.g_nil ?_
  | with_reducible refine Go.g_cb ?_
  | with_reducible refine Go.g_call ?_
  | with_reducible refine Go.g_ret ?_
  | with_reducible refine Go.g_next ?_
  | with_reducible refine Go.g_drop ?_
  | with_reducible refine Go.g_un ?_
  | with_reducible refine Go.g_test ?_
  | with_reducible refine Go.g_tB ?_
  | with_reducible refine Go.g_ifs ?_
  | with_reducible refine Go.g_if ?_
  | with_reducible refine Go.g_and ?_
  | with_reducible refine Go.g_or ?_
  | with_reducible refine Go.g_not ?_
  | with_reducible refine Go.g_sl ?_
  | with_reducible refine Go.g_nopart ?_
  | with_reducible refine Go.g_part ?_
  | ((with_reducible show ∃ k, V.bl _ = V.bl k ∧ _); refine ⟨_, rfl, ?_⟩)
  | ((with_reducible show ∃ k, V.int _ = V.int k ∧ _); refine ⟨_, rfl, ?_⟩)
  | with_reducible refine Go.g_bm ?_
  | with_reducible refine Go.g_yes ?_
  | ((with_reducible show rI0 _ _ _ _ _); refine ⟨_, _, rfl, rfl, ?_⟩)
  | ((with_reducible show rI _ _ _ _ _ _); refine ⟨_, _, rfl, rfl, ?_, ?_⟩; (focus walk_at "ci"))
  | ((with_reducible show rU _ _ _ _); refine ⟨_, rfl, ?_⟩)
  | ((with_reducible show rEq _ _ _ _); refine ⟨rfl, ?_⟩)
  | ((with_reducible show rNe _ _ _ _); refine ⟨rfl, ?_⟩)
  | ((with_reducible show rIxL _ _ _ _ _); refine Go.g_ixL (by walk_at "sq") (by rfl) ?_)
  | ((with_reducible show rIxT _ _ _ _ _); refine Go.g_ixT (by walk_at "sq") (by rfl) ?_)
  | ((with_reducible show rSetL _ _ _ _ _); refine Go.g_setL (by walk_at "hp") (by rfl) ?_)
  | ((with_reducible show ∃ p ys, [V.ref _] = [V.ref p] ∧ (SqL _ _ _ _ ∨ SqT _ _ _ _) ∧ _); refine ⟨_, _, rfl, .inl (by walk_at "sq"), ?_⟩)
  | ((with_reducible show (∃ i, [V.int _] = [V.int i] ∧ _) ∨ _); refine .inl ⟨_, rfl, ?_⟩)
  | ((with_reducible show ∃ (c : Nat) (z : Str), V.str _ = V.str ⟨#[c]⟩ ∧ V.str _ = V.str z ∧ _); refine ⟨_, _, rfl, rfl, ?_⟩)
  | ((with_reducible show ∃ x : Str, [V.str _] = [V.str x] ∧ Str.length x = 1 ∧ _); refine ⟨_, rfl, rfl, ?_⟩)
  | ((with_reducible show ∃ z : Str, [V.str _] = [V.str z] ∧ Str.length z ≤ sizeLine ∧ _); refine ⟨_, rfl, by assumption, ?_⟩)
  | ((with_reducible show rSlS _ _ _ _ _); refine ⟨_, rfl, by assumption, ?_⟩)
  | ((with_reducible show gTup _ _ _ _ _ _ _); refine Go.g_gtup (by walk_at "sq") (by rfl) ?_)
  | ((with_reducible show gCons _ _ _ _ _ _); refine ⟨_, _, rfl, ?_⟩)
  | ((with_reducible show gNil _ _ _ _); refine ⟨rfl, ?_⟩)
  | ((with_reducible show rLenS _ _ _ _); refine Go.g_lenL (by walk_at "sq") ?_)
  | ((with_reducible show rListOf _ _ _ _); refine Go.g_listL (by walk_at "sq") ?_)
  | ((with_reducible show wipe _ _ = wipe _ _ ∧ _); refine ⟨rfl, ?_⟩)
  | ((with_reducible show if true = true then _ else _); refine iteT ?_)
  | ((with_reducible show if false = true then _ else _); refine iteF ?_)
  | ((with_reducible show ∃ a b xs ys, [V.ref _, V.ref _] = [V.ref a, V.ref b] ∧ SqL _ _ a xs ∧ SqL _ _ b ys ∧ _); refine ⟨_, _, _, _, rfl, by walk_at "sq", by walk_at "sq", ?_⟩)
  | ((with_reducible show ∃ a xs, [V.ref _] = [V.ref a] ∧ SqL _ _ a xs ∧ _); refine ⟨_, _, rfl, by walk_at "sq", ?_⟩)
  | ((with_reducible show ∃ a, V.ref _ = V.ref a ∧ (∃ xs, SqL _ _ a xs) ∧ _); refine ⟨_, rfl, ⟨_, by walk_at "sq"⟩, ?_⟩)
  | ((with_reducible show ∃ a, V.ref _ = V.ref a ∧ (∃ xs, SqT _ _ a xs) ∧ _); refine ⟨_, rfl, ⟨_, by walk_at "sq"⟩, ?_⟩)
  | ((with_reducible show ∃ j : Int, [V.int _] = [V.int j] ∧ _ ≤ j ∧ j < _ ∧ _); refine ⟨_, rfl, by omega, by omega, ?_⟩)
  | ((with_reducible show ∃ i j : Int, [V.int _, V.int _] = [V.int i, V.int j] ∧ (_ ≤ i ∧ i < _ ∧ _ ≤ j ∧ j < _) ∧ _); refine ⟨_, _, rfl, ⟨by omega, by omega, by omega, by omega⟩, ?_⟩)
  | ((with_reducible show ∃ i j : Int, [V.int _, V.int _] = [V.int i, V.int j] ∧ _); refine ⟨_, _, rfl, ?_⟩)
  | ((with_reducible show ∃ i : Int, [V.int _] = [V.int i] ∧ _); refine ⟨_, rfl, ?_⟩)
  | ((with_reducible show _ ≤ sizeLine ∧ _); refine ⟨by first | decide | (simp only [List.length_cons, List.length_nil]; decide), ?_⟩))
local macro_rules | `(tactic| walk_at "g1") => `(tactic| first | walk_at "g0" | with_reducible refine Go.g_sub ?_)
local macro_rules | `(tactic| walk_at "g") => `(tactic| repeat walk_at "g1")
local macro_rules | `(tactic| walk_at "v") => `(tactic| repeat walk_at "g0")
local macro_rules | `(tactic| walk_at "if") => `(tactic| first
  | with_reducible refine @Go.g_itd _ _ _ _ ?_ ?_
  | with_reducible refine @Go.g_itnd _ _ _ _ ?_ ?_
  | with_reducible refine Go.g_ite ?_ ?_)

section
variable {P : Program} {w : World} {K : PySem.W.Frag} {mg : Str → Option Value} {base : Heap}
theorem fold_le (f : Nat → Int) : ∀ (l : List Nat) (b : Int), l.foldl (fun best j => min best (f j)) b ≤ b
  | [], b => Int.le_refl _
  | j :: l, b => by
    have := fold_le f l (min b (f j))
    rw [List.foldl_cons]; omega
theorem fold_ge (f : Nat → Int) (h : ∀ j, 0 ≤ f j) : ∀ (l : List Nat) (b : Int), 0 ≤ b → 0 ≤ l.foldl (fun best j => min best (f j)) b
  | [], b, hb => hb
  | j :: l, b, hb => fold_ge f h l _ (by have := h j; show 0 ≤ min b (f j); omega)
theorem cst_ge : ∀ (rows : List (List Int)) (free : List Nat), (∀ r ∈ rows, ∀ x ∈ r, 0 ≤ x) → 0 ≤ cst rows free
  | [], free, _ => by simp only [cst]; omega
  | r :: rows, free, h => by
    simp only [cst]
    have ih := fun f => cst_ge rows f fun r hr => h r (List.mem_cons_of_mem _ hr)
    refine fold_ge _ (fun j => ?_) _ _ (by have := ih free; omega)
    have h1 := ih (free.filter fun k => decide (k ≠ j))
    have h2 : 0 ≤ r.getD j 0 := by
      rw [List.getD_eq_getElem?_getD]
      cases e : r[j]? with
      | none => exact Int.le_refl _
      | some x => exact h r (List.mem_cons_self ..) x (List.mem_of_getElem? e)
    omega
theorem cst_le : ∀ (rows : List (List Int)) (free : List Nat), cst rows free ≤ 3 * ((rows.length : Int) + free.length)
  | [], free => by simp only [cst, List.length_nil]; omega
  | r :: rows, free => by
    simp only [cst]
    have := cst_le rows free
    refine Int.le_trans (fold_le _ _ _) ?_
    simp only [List.length_cons]; omega
theorem farS_ge (ns es : List (List Nat)) : ∀ r ∈ farS ns es, ∀ x ∈ r, 0 ≤ x := by
  intro r hr x hx
  unfold farS at hr
  obtain ⟨a, _, rfl⟩ := List.mem_map.mp hr
  obtain ⟨b, _, rfl⟩ := List.mem_map.mp hx
  exact (dd_bounds _ a b (Nat.le_refl _)).1
theorem sum_len : ∀ es : List (List Nat), 0 ≤ sumL es
  | [] => by decide
  | e :: es => by
    have := sum_len es
    unfold sumL at *
    simp only [List.map_cons, List.sum_cons]; omega
def sp_law (K : PySem.W.Frag) : Sp := fun vs H Q _ => ∃ (sc : Addr) (ns : List Int), vs = [.ref sc] ∧ ((∃ o, H sc = some (.frz o (.lst (ns.map V.int)))) ∨ ∀ H', SqL K H' sc (ns.map V.int)) ∧ ns.length ≤ 63 ∧ ∀ H', Q (.bl true) H'
theorem law_start {K : PySem.W.Frag} {H : Hp} {a : Addr} {ns : List Int} (hl : ns.length ≤ 63) (hO : Only H) (hS : SqL K H a (ns.map V.int)) : sp_law K [.ref a] H (fun v _ => v = .bl true) fun _ _ _ => False := by
  refine ⟨a, ns, rfl, ?_, hl, fun _ => rfl⟩
  rcases hS with (h | ⟨o, h⟩) | h
  · rcases hO a with z | ⟨o, xs, z⟩
    · rw [h] at z; cases z
    · rw [h] at z; cases z
  · exact .inl ⟨o, h⟩
  · exact .inr fun H' => .inr h
theorem log_small {i : Int} (h0 : 0 ≤ i) (h : i ≤ 1000) : i.natAbs.log2 < 1920 := by
  have : i.natAbs.log2 ≤ i.natAbs := Nat.log2_le_self _
  omega
theorem ok_law (T : Txt K mg) : FnOk P w K mg base CX0 8 T.a_law T.fd_law ["script"] (sp_law K) := by
  refine T.F_law.ok sc_law (fun vs H Q E h => ?_) (fun cdv A outer s H vs Q E hr h => ?_)
  · obtain ⟨sc, ns, rfl, _⟩ := h; rfl
  · obtain ⟨sc, ns, rfl, hS, hlen, q⟩ := h
    refine ⟨_, pss_cons (ps_set (i := 1) sc_law.nd rfl (.inl rfl) (pe_lst (pa_cons pe_int (pa_cons pe_int pa_nil))))
      (pss_cons (ps_for PassesOwn.never rfl (pi_range1 (by rfl) T.n_range (pa_cons pe_int pa_nil)) (pg_name (i := 2) sc_law.nd rfl (.inl rfl))
        (pss_cons (ps_asg (pe_call (ok__law_pair T) (hr.mono (by decide)) (by rfl) T.g__law_pair T.F__law_pair.kp T.b__law_pair .nil pass0 (pa_cons (pv 1) (pa_cons (pv 0) pa_nil))) (pg_tup rfl (pgs_cons (pg_name (i := 3) sc_law.nd rfl (.inl rfl)) (pgs_cons (pg_name (i := 4) sc_law.nd rfl (.inl rfl)) pgs_nil))))
        (pss_cons (ps_set (i := 5) sc_law.nd rfl (.inl rfl) (pe_call (ok__law_gap T) (hr.mono (by decide)) (by rfl) T.g__law_gap T.F__law_gap.kp T.b__law_gap .nil pass0 (pa_cons (pe_call (ok__law_far T) (hr.mono (by decide)) (by rfl) T.g__law_far T.F__law_far.kp T.b__law_far .nil pass0 (pa_cons (pv 3) (pa_cons (pv 4) pa_nil))) (pa_cons pe_int (pa_cons (pe_listRg rfl (by rfl) T.n_list (prg_1 (by rfl) T.n_range (pe_callB call_lenS (by rfl) T.n_len PySem.boot_len (pa_cons (pv 4) pa_nil)))) pa_nil)))))
        (pss_cons (ps_if (pt_cmpR op_ne (pe_callB SkE.call_repr_int (by rfl) T.n_repr (by decide +kernel) (pa_cons (pe_call (ok_gap T) hr (by rfl) T.g_gap T.F_gap.kp T.b_gap .nil pass0 (pa_cons (pe_callTy call_tuple_of (by rfl) T.n_tuple (by decide +kernel) (pa_cons (pv 3) pa_nil)) (pa_cons (pe_callTy call_tuple_of (by rfl) T.n_tuple (by decide +kernel) (pa_cons (pv 4) pa_nil)) pa_nil))) pa_nil)) (pe_callB SkE.call_repr_int (by rfl) T.n_repr (by decide +kernel) (pa_cons (pv 5) pa_nil)) (nomark _))
          (pss_one (ps_ret pe_bl))
          (pss_nil))
        (pss_one (ps_if (pt_cmpR op_ne (pe_callB SkE.call_repr_int (by rfl) T.n_repr (by decide +kernel) (pa_cons (pe_call (ok_bound T) (hr.mono (by decide)) (by rfl) T.g_bound T.F_bound.kp T.b_bound .nil pass0 (pa_cons (pe_callTy call_tuple_of (by rfl) T.n_tuple (by decide +kernel) (pa_cons (pv 4) pa_nil)) pa_nil)) pa_nil)) (pe_callB SkE.call_repr_int (by rfl) T.n_repr (by decide +kernel) (pa_cons (pe_call (ok__law_bound T) (hr.mono (by decide)) (by rfl) T.g__law_bound T.F__law_bound.kp T.b__law_bound .nil pass0 (pa_cons (pv 4) pa_nil)) pa_nil)) (nomark _))
          (pss_one (ps_ret pe_bl))
          (pss_nil)))))))
      (pss_one (ps_ret pe_bl))), ?_⟩
    walk_at "g"
    intro st nst
    have S0 : St K (upd H st (.lst [.int 0, .int 0])) st sc ns := by
      refine ⟨⟨0, 0, upd_same⟩, fun H' k => ?_, hlen⟩
      rcases hS with ⟨o, h⟩ | h
      · have hne : sc ≠ st := ne_of_none h nst
        exact .inl (.inr ⟨o, k _ _ hne (at_upd hne h)⟩)
      · exact h H'
    clear hS
    walk_at "g"
    refine forW_range (fun i σ' H' => ∃ (y2 y3 y4 y5 : Option V), σ' = [some (.ref sc), some (.ref st), y2, y3, y4, y5] ∧ St K H' st sc ns) ⟨_, _, _, _, rfl, S0⟩ ?_ ?_
    · rintro i σ' H1 hi ⟨y2, y3, y4, y5, rfl, S1⟩
      walk_at "g"
      refine ⟨st, sc, ns, rfl, S1, fun H2 t na ea nw ew k2 S2 et en ee Wn We nt1 nn1 ne1 => ?_⟩
      have Xn := Wn.words
      have Xe := We.words
      have le := wsV_len ew
      have l4 := We.1
      have l3 := Wn.1
      walk_at "g"
      refine ⟨na, ea, nw, ew, rfl, SqL.of en, SqL.of ee, Xn, Xe, fun H3 fa rs s3 F nf => ?_⟩
      have en3 := s3 _ _ en
      have ee3 := s3 _ _ ee
      walk_at "g"
      unfold tLstRg tRg1
      walk_at "g"
      refine ⟨RgOk.of_le (by omega) (by omega) (by omega) (by omega), fun l nl => ?_⟩
      have erg : rgV 0 ((wsV ew).length : Int) = ixs (List.range ew.length) := by
        unfold rgV ixs
        rw [le, Int.sub_zero, Int.toNat_natCast]
        refine List.map_congr_left fun k _ => by rw [Int.zero_add]
      rw [erg]
      have s4 : Same H3 (upd H3 l (.lst (ixs (List.range ew.length)))) := Go.Same.new (Same.refl _) nl
      have el : upd H3 l (.lst (ixs (List.range ew.length))) l = some (.lst (ixs (List.range ew.length))) := upd_same
      generalize upd H3 l (.lst (ixs (List.range ew.length))) = H4 at s4 el
      walk_at "g"
      refine ⟨fa, l, rs, farS nw ew, ew.length, 0, List.range ew.length, rfl, F.same s4, SqL.of el, by rw [List.length_range]; omega, fun j hj => List.mem_range.mp hj, by omega, by unfold farS; rw [List.length_map]; omega, fun H5 s5 => ?_⟩
      have s5 := s3.trans (s4.trans s5)
      have en5 := s5 _ _ en
      have ee5 := s5 _ _ ee
      have S5 := S2.same s5
      clear S0 S1 s3 s4 en3 ee3 el F
      have b1 := cst_ge (farS nw ew) (List.range ew.length) (farS_ge nw ew)
      have b2 := cst_le (farS nw ew) (List.range ew.length)
      rw [List.length_range] at b2
      have lf : (farS nw ew).length = nw.length := by unfold farS; rw [List.length_map]
      walk_at "g"
      rw [List.drop_zero]
      refine ⟨na, _, rfl, .inl ⟨SqL.of en5, fun u nu => ?_⟩⟩
      have ee6 : upd H5 u (.tup (wsV nw)) ea = some (.lst (wsV ew)) := at_upd (ne_of_none ee5 nu) ee5
      walk_at "g"
      refine ⟨ea, _, rfl, .inl ⟨SqL.of ee6, fun v nv => ?_⟩⟩
      have s6 : Same H5 (upd (upd H5 u (.tup (wsV nw))) v (.tup (wsV ew))) := Go.Same.new (Go.Same.new (Same.refl _) nu) nv
      have eu : upd (upd H5 u (.tup (wsV nw))) v (.tup (wsV ew)) u = some (.tup (wsV nw)) := at_upd (ne_of_none upd_same nv) upd_same
      have ev : upd (upd H5 u (.tup (wsV nw))) v (.tup (wsV ew)) v = some (.tup (wsV ew)) := upd_same
      generalize upd (upd H5 u (.tup (wsV nw))) v (.tup (wsV ew)) = H6 at s6 eu ev
      walk_at "g"
      refine ⟨u, v, nw, ew, rfl, SqT.of eu, SqT.of ev, Xn, Xe, l3, fun H7 s7 => ?_⟩
      have s7 := s5.trans (s6.trans s7)
      have ee7 := s7 _ _ ee
      have S7 := S2.same s7
      walk_at "g"

      refine ⟨log_small (by omega) (by omega), ?_⟩
      walk_at "g"
      refine ⟨log_small (by omega) (by omega), ?_⟩
      walk_at "g"
      walk_at "if" <;> intro c1
      · exact (c1 rfl).elim
      walk_at "g"
      refine ⟨ea, _, rfl, .inl ⟨SqL.of ee7, fun v2 nv2 => ?_⟩⟩
      walk_at "g"
      refine ⟨v2, ew, rfl, SqT.of upd_same, Xe, fun H8 s8 => ?_⟩
      have s8 := (Go.Same.new (Same.refl _) nv2).trans s8
      have ee8 := s8 _ _ ee7
      have S8 := S7.same s8
      have b3 := sum_len ew
      walk_at "g"
      refine ⟨log_small (by omega) (by omega), ?_⟩
      walk_at "g"
      refine ⟨ea, ew, rfl, SqL.of ee8, Xe, fun H9 s9 => ?_⟩
      walk_at "g"
      refine ⟨log_small (by omega) (by omega), ?_⟩
      walk_at "g"
      walk_at "if" <;> intro c2
      · exact (c2 rfl).elim
      walk_at "g"
      exact ⟨_, _, _, _, rfl, S8.same s9⟩
    · rintro σ' H1 ⟨y2, y3, y4, y5, rfl, S1⟩
      walk_at "g"
      exact q _

end
end K62

namespace K62
open PySem PySem.Spec PyProof.Rows L2 Go
set_option maxHeartbeats 8000000
theorem all_end {P : Program} {w : World} {K : PySem.W.Frag} {h : Heap} {mg : Str → Option Value} {fa : Addr} (X : K.In h) (G : h.Ns mainGlobals mg) (hfa : mg "law" = some (.ref fa))
    {f0 : Addr} {od0 an0 : Option Addr} {sl0 : Array (Option Value)} {oc0 kV0 dc0 pm0 cd0 ct0 : Value}
    (a0 : PySem.W.nsIn K mainGlobals "turn_cost" = some (some (.ref f0))) (l0 : K.lookup f0 = some ⟨oc0, od0, .func (PySem.W.fnOf "turn_cost" "turn_cost" (defArgs s_turn_cost) (defBody s_turn_cost) (defScope s_turn_cost) .none kV0 dc0 pm0 an0 cd0 ct0), sl0⟩) (c0 : PySem.W.codeIn K cd0 "turn_cost" = true) (k0 : PySem.W.keepIn K (.ref f0) = true)
    {f1 : Addr} {od1 an1 : Option Addr} {sl1 : Array (Option Value)} {oc1 kV1 dc1 pm1 cd1 ct1 : Value}
    (a1 : PySem.W.nsIn K mainGlobals "bound" = some (some (.ref f1))) (l1 : K.lookup f1 = some ⟨oc1, od1, .func (PySem.W.fnOf "bound" "bound" (defArgs s_bound) (defBody s_bound) (defScope s_bound) .none kV1 dc1 pm1 an1 cd1 ct1), sl1⟩) (c1 : PySem.W.codeIn K cd1 "bound" = true) (k1 : PySem.W.keepIn K (.ref f1) = true)
    {f2 : Addr} {od2 an2 : Option Addr} {sl2 : Array (Option Value)} {oc2 kV2 dc2 pm2 cd2 ct2 : Value}
    (a2 : PySem.W.nsIn K mainGlobals "_law_draw" = some (some (.ref f2))) (l2 : K.lookup f2 = some ⟨oc2, od2, .func (PySem.W.fnOf "_law_draw" "_law_draw" (defArgs s__law_draw) (defBody s__law_draw) (defScope s__law_draw) .none kV2 dc2 pm2 an2 cd2 ct2), sl2⟩) (c2 : PySem.W.codeIn K cd2 "_law_draw" = true) (k2 : PySem.W.keepIn K (.ref f2) = true)
    {f3 : Addr} {od3 an3 : Option Addr} {sl3 : Array (Option Value)} {oc3 kV3 dc3 pm3 cd3 ct3 : Value}
    (a3 : PySem.W.nsIn K mainGlobals "_law_turn" = some (some (.ref f3))) (l3 : K.lookup f3 = some ⟨oc3, od3, .func (PySem.W.fnOf "_law_turn" "_law_turn" (defArgs s__law_turn) (defBody s__law_turn) (defScope s__law_turn) .none kV3 dc3 pm3 an3 cd3 ct3), sl3⟩) (c3 : PySem.W.codeIn K cd3 "_law_turn" = true) (k3 : PySem.W.keepIn K (.ref f3) = true)
    {f4 : Addr} {od4 an4 : Option Addr} {sl4 : Array (Option Value)} {oc4 kV4 dc4 pm4 cd4 ct4 : Value}
    (a4 : PySem.W.nsIn K mainGlobals "_law_bound" = some (some (.ref f4))) (l4 : K.lookup f4 = some ⟨oc4, od4, .func (PySem.W.fnOf "_law_bound" "_law_bound" (defArgs s__law_bound) (defBody s__law_bound) (defScope s__law_bound) .none kV4 dc4 pm4 an4 cd4 ct4), sl4⟩) (c4 : PySem.W.codeIn K cd4 "_law_bound" = true) (k4 : PySem.W.keepIn K (.ref f4) = true)
    {f5 : Addr} {od5 an5 : Option Addr} {sl5 : Array (Option Value)} {oc5 kV5 dc5 pm5 cd5 ct5 : Value}
    (a5 : PySem.W.nsIn K mainGlobals "table" = some (some (.ref f5))) (l5 : K.lookup f5 = some ⟨oc5, od5, .func (PySem.W.fnOf "table" "table" (defArgs s_table) (defBody s_table) (defScope s_table) .none kV5 dc5 pm5 an5 cd5 ct5), sl5⟩) (c5 : PySem.W.codeIn K cd5 "table" = true) (k5 : PySem.W.keepIn K (.ref f5) = true)
    {f6 : Addr} {od6 an6 : Option Addr} {sl6 : Array (Option Value)} {oc6 kV6 dc6 pm6 cd6 ct6 : Value}
    (a6 : PySem.W.nsIn K mainGlobals "_law_pick" = some (some (.ref f6))) (l6 : K.lookup f6 = some ⟨oc6, od6, .func (PySem.W.fnOf "_law_pick" "_law_pick" (defArgs s__law_pick) (defBody s__law_pick) (defScope s__law_pick) .none kV6 dc6 pm6 an6 cd6 ct6), sl6⟩) (c6 : PySem.W.codeIn K cd6 "_law_pick" = true) (k6 : PySem.W.keepIn K (.ref f6) = true)
    {f7 : Addr} {od7 an7 : Option Addr} {sl7 : Array (Option Value)} {oc7 kV7 dc7 pm7 cd7 ct7 : Value}
    (a7 : PySem.W.nsIn K mainGlobals "_law_word" = some (some (.ref f7))) (l7 : K.lookup f7 = some ⟨oc7, od7, .func (PySem.W.fnOf "_law_word" "_law_word" (defArgs s__law_word) (defBody s__law_word) (defScope s__law_word) .none kV7 dc7 pm7 an7 cd7 ct7), sl7⟩) (c7 : PySem.W.codeIn K cd7 "_law_word" = true) (k7 : PySem.W.keepIn K (.ref f7) = true)
    {f8 : Addr} {od8 an8 : Option Addr} {sl8 : Array (Option Value)} {oc8 kV8 dc8 pm8 cd8 ct8 : Value}
    (a8 : PySem.W.nsIn K mainGlobals "_law_distance" = some (some (.ref f8))) (l8 : K.lookup f8 = some ⟨oc8, od8, .func (PySem.W.fnOf "_law_distance" "_law_distance" (defArgs s__law_distance) (defBody s__law_distance) (defScope s__law_distance) .none kV8 dc8 pm8 an8 cd8 ct8), sl8⟩) (c8 : PySem.W.codeIn K cd8 "_law_distance" = true) (k8 : PySem.W.keepIn K (.ref f8) = true)
    {f9 : Addr} {od9 an9 : Option Addr} {sl9 : Array (Option Value)} {oc9 kV9 dc9 pm9 cd9 ct9 : Value}
    (a9 : PySem.W.nsIn K mainGlobals "distance" = some (some (.ref f9))) (l9 : K.lookup f9 = some ⟨oc9, od9, .func (PySem.W.fnOf "distance" "distance" (defArgs s_distance) (defBody s_distance) (defScope s_distance) .none kV9 dc9 pm9 an9 cd9 ct9), sl9⟩) (c9 : PySem.W.codeIn K cd9 "distance" = true) (k9 : PySem.W.keepIn K (.ref f9) = true)
    {f10 : Addr} {od10 an10 : Option Addr} {sl10 : Array (Option Value)} {oc10 kV10 dc10 pm10 cd10 ct10 : Value}
    (a10 : PySem.W.nsIn K mainGlobals "_law_close" = some (some (.ref f10))) (l10 : K.lookup f10 = some ⟨oc10, od10, .func (PySem.W.fnOf "_law_close" "_law_close" (defArgs s__law_close) (defBody s__law_close) (defScope s__law_close) .none kV10 dc10 pm10 an10 cd10 ct10), sl10⟩) (c10 : PySem.W.codeIn K cd10 "_law_close" = true) (k10 : PySem.W.keepIn K (.ref f10) = true)
    {f11 : Addr} {od11 an11 : Option Addr} {sl11 : Array (Option Value)} {oc11 kV11 dc11 pm11 cd11 ct11 : Value}
    (a11 : PySem.W.nsIn K mainGlobals "_law_far" = some (some (.ref f11))) (l11 : K.lookup f11 = some ⟨oc11, od11, .func (PySem.W.fnOf "_law_far" "_law_far" (defArgs s__law_far) (defBody s__law_far) (defScope s__law_far) .none kV11 dc11 pm11 an11 cd11 ct11), sl11⟩) (c11 : PySem.W.codeIn K cd11 "_law_far" = true) (k11 : PySem.W.keepIn K (.ref f11) = true)
    {f12 : Addr} {od12 an12 : Option Addr} {sl12 : Array (Option Value)} {oc12 kV12 dc12 pm12 cd12 ct12 : Value}
    (a12 : PySem.W.nsIn K mainGlobals "distances" = some (some (.ref f12))) (l12 : K.lookup f12 = some ⟨oc12, od12, .func (PySem.W.fnOf "distances" "distances" (defArgs s_distances) (defBody s_distances) (defScope s_distances) .none kV12 dc12 pm12 an12 cd12 ct12), sl12⟩) (c12 : PySem.W.codeIn K cd12 "distances" = true) (k12 : PySem.W.keepIn K (.ref f12) = true)
    {f13 : Addr} {od13 an13 : Option Addr} {sl13 : Array (Option Value)} {oc13 kV13 dc13 pm13 cd13 ct13 : Value}
    (a13 : PySem.W.nsIn K mainGlobals "_law_pair" = some (some (.ref f13))) (l13 : K.lookup f13 = some ⟨oc13, od13, .func (PySem.W.fnOf "_law_pair" "_law_pair" (defArgs s__law_pair) (defBody s__law_pair) (defScope s__law_pair) .none kV13 dc13 pm13 an13 cd13 ct13), sl13⟩) (c13 : PySem.W.codeIn K cd13 "_law_pair" = true) (k13 : PySem.W.keepIn K (.ref f13) = true)
    {f14 : Addr} {od14 an14 : Option Addr} {sl14 : Array (Option Value)} {oc14 kV14 dc14 pm14 cd14 ct14 : Value}
    (a14 : PySem.W.nsIn K mainGlobals "cheapest" = some (some (.ref f14))) (l14 : K.lookup f14 = some ⟨oc14, od14, .func (PySem.W.fnOf "cheapest" "cheapest" (defArgs s_cheapest) (defBody s_cheapest) (defScope s_cheapest) .none kV14 dc14 pm14 an14 cd14 ct14), sl14⟩) (c14 : PySem.W.codeIn K cd14 "cheapest" = true) (k14 : PySem.W.keepIn K (.ref f14) = true)
    {f15 : Addr} {od15 an15 : Option Addr} {sl15 : Array (Option Value)} {oc15 kV15 dc15 pm15 cd15 ct15 : Value}
    (a15 : PySem.W.nsIn K mainGlobals "_law_gap" = some (some (.ref f15))) (l15 : K.lookup f15 = some ⟨oc15, od15, .func (PySem.W.fnOf "_law_gap" "_law_gap" (defArgs s__law_gap) (defBody s__law_gap) (defScope s__law_gap) .none kV15 dc15 pm15 an15 cd15 ct15), sl15⟩) (c15 : PySem.W.codeIn K cd15 "_law_gap" = true) (k15 : PySem.W.keepIn K (.ref f15) = true)
    {f16 : Addr} {od16 an16 : Option Addr} {sl16 : Array (Option Value)} {oc16 kV16 dc16 pm16 cd16 ct16 : Value}
    (a16 : PySem.W.nsIn K mainGlobals "gap" = some (some (.ref f16))) (l16 : K.lookup f16 = some ⟨oc16, od16, .func (PySem.W.fnOf "gap" "gap" (defArgs s_gap) (defBody s_gap) (defScope s_gap) .none kV16 dc16 pm16 an16 cd16 ct16), sl16⟩) (c16 : PySem.W.codeIn K cd16 "gap" = true) (k16 : PySem.W.keepIn K (.ref f16) = true)
    {f17 : Addr} {od17 an17 : Option Addr} {sl17 : Array (Option Value)} {oc17 kV17 dc17 pm17 cd17 ct17 : Value}
    (a17 : PySem.W.nsIn K mainGlobals "law" = some (some (.ref f17))) (l17 : K.lookup f17 = some ⟨oc17, od17, .func (PySem.W.fnOf "law" "law" (defArgs s_law) (defBody s_law) (defScope s_law) .none kV17 dc17 pm17 an17 cd17 ct17), sl17⟩) (c17 : PySem.W.codeIn K cd17 "law" = true) (k17 : PySem.W.keepIn K (.ref f17) = true)
    (z0 : PySem.W.nsIn K mainGlobals "int" = some none)
    (z1 : PySem.W.nsIn K mainGlobals "len" = some none)
    (z2 : PySem.W.nsIn K mainGlobals "list" = some none)
    (z3 : PySem.W.nsIn K mainGlobals "min" = some none)
    (z4 : PySem.W.nsIn K mainGlobals "ord" = some none)
    (z5 : PySem.W.nsIn K mainGlobals "range" = some none)
    (z6 : PySem.W.nsIn K mainGlobals "repr" = some none)
    (z7 : PySem.W.nsIn K mainGlobals "sum" = some none)
    (z8 : PySem.W.nsIn K mainGlobals "tuple" = some none)
    {gL : Addr} {dL : Option Addr} {nL : Nat} {sL : Array (Option Value)} {t0 t1 t2 t3 t4 t5 t6 : Tok} (aL : PySem.W.nsIn K mainGlobals "LIKE" = some (some (.ref gL))) (lL : K.lookup gL = some ⟨.type "tuple", dL, .seq #[.str "bp" t0, .str "ckq" t1, .str "dt" t2, .str "fvw" t3, .str "iy" t4, .str "mn" t5, .str "sz" t6] nL, sL⟩)
    {tA : Tok} (aA : PySem.W.nsIn K mainGlobals "ALONE" = some (some (.int 3 tA)))
    {tF : Tok} (aF : PySem.W.nsIn K mainGlobals "FURTHEST" = some (some (.int 4 tF)))
    : ∃ fd : FuncData, (∀ (s : Shared) (v : Value), BindsTo s fd ⟨[v], []⟩ [("script", v)]) ∧ ∀ base : Heap, K.In base → base.Ns mainGlobals mg → FnOk P w K mg base CX0 8 fa fd ["script"] (sp_law K) := by
  have e := hfa.symm.trans (PySem.W.mg_of X G a17)
  cases e
  have F0 := fun_mk (st := s_turn_cost) l0 c0 k0
  have F1 := fun_mk (st := s_bound) l1 c1 k1
  have F2 := fun_mk (st := s__law_draw) l2 c2 k2
  have F3 := fun_mk (st := s__law_turn) l3 c3 k3
  have F4 := fun_mk (st := s__law_bound) l4 c4 k4
  have F5 := fun_mk (st := s_table) l5 c5 k5
  have F6 := fun_mk (st := s__law_pick) l6 c6 k6
  have F7 := fun_mk (st := s__law_word) l7 c7 k7
  have F8 := fun_mk (st := s__law_distance) l8 c8 k8
  have F9 := fun_mk (st := s_distance) l9 c9 k9
  have F10 := fun_mk (st := s__law_close) l10 c10 k10
  have F11 := fun_mk (st := s__law_far) l11 c11 k11
  have F12 := fun_mk (st := s_distances) l12 c12 k12
  have F13 := fun_mk (st := s__law_pair) l13 c13 k13
  have F14 := fun_mk (st := s_cheapest) l14 c14 k14
  have F15 := fun_mk (st := s__law_gap) l15 c15 k15
  have F16 := fun_mk (st := s_gap) l16 c16 k16
  have F17 := fun_mk (st := s_law) l17 c17 k17
  exact ⟨PySem.W.fnOf "law" "law" (defArgs s_law) (defBody s_law) (defScope s_law) .none kV17 dc17 pm17 an17 cd17 ct17, fun s v => .of_eq rfl, fun base _ _ => ok_law (P := P) (w := w) (base := base) { a_turn_cost := f0, fd_turn_cost := _, F_turn_cost := F0, b_turn_cost := F0.binds (ps := ["one", "other"]) (fun _ _ _ _ _ _ us hl => match us, hl with | [_, _], _ => rfl), g_turn_cost := PySem.W.mg_of X G a0, a_bound := f1, fd_bound := _, F_bound := F1, b_bound := F1.binds (ps := ["entry"]) (fun _ _ _ _ _ _ us hl => match us, hl with | [_], _ => rfl), g_bound := PySem.W.mg_of X G a1, a__law_draw := f2, fd__law_draw := _, F__law_draw := F2, b__law_draw := F2.binds (ps := ["state", "script", "size"]) (fun _ _ _ _ _ _ us hl => match us, hl with | [_, _, _], _ => rfl), g__law_draw := PySem.W.mg_of X G a2, a__law_turn := f3, fd__law_turn := _, F__law_turn := F3, b__law_turn := F3.binds (ps := ["one", "other"]) (fun _ _ _ _ _ _ us hl => match us, hl with | [_, _], _ => rfl), g__law_turn := PySem.W.mg_of X G a3, a__law_bound := f4, fd__law_bound := _, F__law_bound := F4, b__law_bound := F4.binds (ps := ["entry"]) (fun _ _ _ _ _ _ us hl => match us, hl with | [_], _ => rfl), g__law_bound := PySem.W.mg_of X G a4, a_table := f5, fd_table := _, F_table := F5, b_table := F5.binds (ps := ["one", "other"]) (fun _ _ _ _ _ _ us hl => match us, hl with | [_, _], _ => rfl), g_table := PySem.W.mg_of X G a5, a__law_pick := f6, fd__law_pick := _, F__law_pick := F6, b__law_pick := F6.binds (ps := ["state", "script", "items"]) (fun _ _ _ _ _ _ us hl => match us, hl with | [_, _, _], _ => rfl), g__law_pick := PySem.W.mg_of X G a6, a__law_word := f7, fd__law_word := _, F__law_word := F7, b__law_word := F7.binds (ps := ["state", "script"]) (fun _ _ _ _ _ _ us hl => match us, hl with | [_, _], _ => rfl), g__law_word := PySem.W.mg_of X G a7, a__law_distance := f8, fd__law_distance := _, F__law_distance := F8, b__law_distance := F8.binds (ps := ["one", "other"]) (fun _ _ _ _ _ _ us hl => match us, hl with | [_, _], _ => rfl), g__law_distance := PySem.W.mg_of X G a8, a_distance := f9, fd_distance := _, F_distance := F9, b_distance := F9.binds (ps := ["one", "other"]) (fun _ _ _ _ _ _ us hl => match us, hl with | [_, _], _ => rfl), g_distance := PySem.W.mg_of X G a9, a__law_close := f10, fd__law_close := _, F__law_close := F10, b__law_close := F10.binds (ps := ["state", "script", "word"]) (fun _ _ _ _ _ _ us hl => match us, hl with | [_, _, _], _ => rfl), g__law_close := PySem.W.mg_of X G a10, a__law_far := f11, fd__law_far := _, F__law_far := F11, b__law_far := F11.binds (ps := ["name", "entry"]) (fun _ _ _ _ _ _ us hl => match us, hl with | [_, _], _ => rfl), g__law_far := PySem.W.mg_of X G a11, a_distances := f12, fd_distances := _, F_distances := F12, b_distances := F12.binds (ps := ["name", "entry"]) (fun _ _ _ _ _ _ us hl => match us, hl with | [_, _], _ => rfl), g_distances := PySem.W.mg_of X G a12, a__law_pair := f13, fd__law_pair := _, F__law_pair := F13, b__law_pair := F13.binds (ps := ["state", "script"]) (fun _ _ _ _ _ _ us hl => match us, hl with | [_, _], _ => rfl), g__law_pair := PySem.W.mg_of X G a13, a_cheapest := f14, fd_cheapest := _, F_cheapest := F14, b_cheapest := F14.binds (ps := ["far", "i", "free"]) (fun _ _ _ _ _ _ us hl => match us, hl with | [_, _, _], _ => rfl), g_cheapest := PySem.W.mg_of X G a14, a__law_gap := f15, fd__law_gap := _, F__law_gap := F15, b__law_gap := F15.binds (ps := ["far", "i", "free"]) (fun _ _ _ _ _ _ us hl => match us, hl with | [_, _, _], _ => rfl), g__law_gap := PySem.W.mg_of X G a15, a_gap := f16, fd_gap := _, F_gap := F16, b_gap := F16.binds (ps := ["name", "entry"]) (fun _ _ _ _ _ _ us hl => match us, hl with | [_, _], _ => rfl), g_gap := PySem.W.mg_of X G a16, a_law := fa, fd_law := _, F_law := F17, b_law := F17.binds (ps := ["script"]) (fun _ _ _ _ _ _ us hl => match us, hl with | [_], _ => rfl), g_law := PySem.W.mg_of X G a17, n_int := PySem.W.mg_none_of X G z0, n_len := PySem.W.mg_none_of X G z1, n_list := PySem.W.mg_none_of X G z2, n_min := PySem.W.mg_none_of X G z3, n_ord := PySem.W.mg_none_of X G z4, n_range := PySem.W.mg_none_of X G z5, n_repr := PySem.W.mg_none_of X G z6, n_sum := PySem.W.mg_none_of X G z7, n_tuple := PySem.W.mg_none_of X G z8, a_LIKE := gL, m_LIKE := PySem.W.mg_of X G aL, t_LIKE := fun H => .inr ⟨_, _, _, lL, rfl, rfl, (by show 7 ≤ sizeLine; decide), .cons ⟨t0, rfl⟩ (.cons ⟨t1, rfl⟩ (.cons ⟨t2, rfl⟩ (.cons ⟨t3, rfl⟩ (.cons ⟨t4, rfl⟩ (.cons ⟨t5, rfl⟩ (.cons ⟨t6, rfl⟩ (.nil)))))))⟩, t_ALONE := tA, m_ALONE := PySem.W.mg_of X G aA, t_FURTHEST := tF, m_FURTHEST := PySem.W.mg_of X G aF }⟩

end K62
open PySem PySem.W PyProof.Rows
set_option maxHeartbeats 0 in
theorem PySem.Challenge.cw_everycoin_k62_gaps_of_names_holds : PySem.Challenge.rw_everycoin_k62_gaps_of_names.Holds := by
  w_on; o_law; k_head; (case hw => w_witness2)
  k_fill
  refine L2.walk_of (l := PySem.Challenge.rw_everycoin_k62_gaps_of_names) (n := 63) (k := 8) (x := "script") (CX := fun _ => L2.CX0) (sp := fun w => K62.sp_law _) rfl (by decide) rfl ⟨rfl, by decide, by decide⟩ (fun w h Y => PySem.W.kIn_of Y) ?F (fun _ _ a ns hl hO hS => K62.law_start hl hO hS) (fun _ _ _ _ _ h => h)
  case F =>
    intro w mg fa h KX G hmg
    refine' K62.all_end KX G hmg ?a0 ?l0 ?c0 ?k0 ?a1 ?l1 ?c1 ?k1 ?a2 ?l2 ?c2 ?k2 ?a3 ?l3 ?c3 ?k3 ?a4 ?l4 ?c4 ?k4 ?a5 ?l5 ?c5 ?k5 ?a6 ?l6 ?c6 ?k6 ?a7 ?l7 ?c7 ?k7 ?a8 ?l8 ?c8 ?k8 ?a9 ?l9 ?c9 ?k9 ?a10 ?l10 ?c10 ?k10 ?a11 ?l11 ?c11 ?k11 ?a12 ?l12 ?c12 ?k12 ?a13 ?l13 ?c13 ?k13 ?a14 ?l14 ?c14 ?k14 ?a15 ?l15 ?c15 ?k15 ?a16 ?l16 ?c16 ?k16 ?a17 ?l17 ?c17 ?k17 ?z0 ?z1 ?z2 ?z3 ?z4 ?z5 ?z6 ?z7 ?z8 ?aL ?lL ?aA ?aF
    (case a0 => k_is); (case l0 => k_is); (case c0 => k_is); (case k0 => k_is); (case a1 => k_is); (case l1 => k_is); (case c1 => k_is); (case k1 => k_is); (case a2 => k_is); (case l2 => k_is); (case c2 => k_is); (case k2 => k_is); (case a3 => k_is); (case l3 => k_is); (case c3 => k_is); (case k3 => k_is); (case a4 => k_is); (case l4 => k_is); (case c4 => k_is); (case k4 => k_is); (case a5 => k_is); (case l5 => k_is); (case c5 => k_is); (case k5 => k_is); (case a6 => k_is); (case l6 => k_is); (case c6 => k_is); (case k6 => k_is); (case a7 => k_is); (case l7 => k_is); (case c7 => k_is); (case k7 => k_is); (case a8 => k_is); (case l8 => k_is); (case c8 => k_is); (case k8 => k_is); (case a9 => k_is); (case l9 => k_is); (case c9 => k_is); (case k9 => k_is); (case a10 => k_is); (case l10 => k_is); (case c10 => k_is); (case k10 => k_is); (case a11 => k_is); (case l11 => k_is); (case c11 => k_is); (case k11 => k_is); (case a12 => k_is); (case l12 => k_is); (case c12 => k_is); (case k12 => k_is); (case a13 => k_is); (case l13 => k_is); (case c13 => k_is); (case k13 => k_is); (case a14 => k_is); (case l14 => k_is); (case c14 => k_is); (case k14 => k_is); (case a15 => k_is); (case l15 => k_is); (case c15 => k_is); (case k15 => k_is); (case a16 => k_is); (case l16 => k_is); (case c16 => k_is); (case k16 => k_is); (case a17 => k_is); (case l17 => k_is); (case c17 => k_is); (case k17 => k_is); (case z0 => k_is); (case z1 => k_is); (case z2 => k_is); (case z3 => k_is); (case z4 => k_is); (case z5 => k_is); (case z6 => k_is); (case z7 => k_is); (case z8 => k_is); (case aL => k_is); (case lL => k_is); (case aA => k_is); (case aF => k_is)
