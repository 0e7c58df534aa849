import PyProof.Rows.All
import Wide.All
import OpenK.AllK
import Wide.FinOn
import HandS.ForMost
import HandS.WideBits
import HandS.Style
import HandS.IsInst
import HandS.TupAny
import HandS.Defaults
import HandS.Wide
import HandS.Small
import HandS.Flow
import HandS.RaiseMore
import KE.GoesMore
import KE.GoesEnum
import KE.KBits
import KE.BitLaws
import PySem.PyData
import PyProof.Claim2
import HandS.Nested
import HandS.ExcInit
import KE.KExcSuper
import HandS.ExcIs
import HandS.ExcField
import HandS.Exc
import HandS.TryMany
import HandS.WordsExc
import HandS.Lambda
import HandS.EndTab
import KE.KNest
import HandS.ExcOwn
import PyProof.IsRules
import PySem.Challenge.RW_farbits_k00_forms_told_from_other_values
set_option Elab.async false
set_option linter.all false
set_option maxRecDepth 100000
/-! small helpers over the hand layer, for every law -/
namespace HX
open PySem PySem.Spec PyProof.Rows L2

/-- ends that take P behind, and else what D takes -/
structure Jn (D : Ends) (P : L2.St → Hp → Prop) (D' : Ends) : Prop where
  nx : ∀ σ' H', P σ' H' → D'.nx σ' H'
  ct : ∀ σ' H', D.ct σ' H' → D'.ct σ' H'
  bk : ∀ σ' H', D.bk σ' H' → D'.bk σ' H'
  rt : ∀ v H', D.rt v H' → D'.rt v H'
theorem if_join {c : Prop} [Decidable c] {t u : TS} {D : Ends} {σ : L2.St} {H : Hp} (P : L2.St → Hp → Prop) (hr : ∀ σ' H', P σ' H' → D.nx σ' H')
    (h1 : ∀ D', Jn D P D' → c → t D' σ H) (h2 : ∀ D', Jn D P D' → ¬ c → u D' σ H) : if c then t D σ H else u D σ H := by
  by_cases h : c
  · rw [if_pos h]
    exact h1 _ ⟨hr, fun _ _ h => h, fun _ _ h => h, fun _ _ h => h⟩ h
  · rw [if_neg h]
    exact h2 _ ⟨hr, fun _ _ h => h, fun _ _ h => h, fun _ _ h => h⟩ h
/-- a statement, then the rest: P stands between -/
theorem cut {t u : TS} {D : Ends} {σ : L2.St} {H : Hp} (P : L2.St → Hp → Prop) (h1 : ∀ D', Jn D P D' → t D' σ H) (h2 : ∀ σ' H', P σ' H' → u D σ' H') : tSeq t u D σ H :=
  h1 { D with nx := u D } ⟨h2, fun _ _ h => h, fun _ _ h => h, fun _ _ h => h⟩
theorem ifD {p A B : Prop} [Decidable p] (h1 : p → A) (h2 : ¬ p → B) : if decide p = true then A else B := by
  by_cases h : p
  · rw [if_pos (decide_eq_true h)]
    exact h1 h
  · rw [if_neg (by rw [decide_eq_false h]; exact Bool.false_ne_true)]
    exact h2 h
theorem ifN {p A B : Prop} [Decidable p] (h1 : ¬ p → A) (h2 : p → B) : if (!decide p) = true then A else B := by
  by_cases h : p
  · rw [decide_eq_true h]
    exact iteF (h2 h)
  · rw [decide_eq_false h]
    exact iteT (h1 h)
theorem ifE {a b : Int} {A B : Prop} (h1 : a = b → A) (h2 : a ≠ b → B) : if decide (V.int a = V.int b) = true then A else B :=
  ifD (fun e => h1 (V.int.inj e)) (fun e => h2 fun z => e (congrArg V.int z))
theorem ifNE {a b : Int} {A B : Prop} (h1 : a ≠ b → A) (h2 : a = b → B) : if (!decide (V.int a = V.int b)) = true then A else B :=
  ifN (fun e => h1 fun z => e (congrArg V.int z)) (fun e => h2 (V.int.inj e))
/-- what is shown once and used on several ways -/
theorem keep {Y G : Prop} (hY : Y) (h : Y → G) : G := h hY
/-- a and b: where a is false, and where b is false, the same comes -/
theorem ifAnd {p A X Y : Prop} [Decidable p] (hY : Y) (h : p → Y → A) : if decide p = true then A else (if false = true then X else Y) :=
  ifD (fun hp => h hp hY) (fun _ => iteF hY)
/-- a < b < c as a test: where the first is false, and where the second is -/
theorem ifChain {p A B X : Prop} [Decidable p] (hB : B) (h : p → B → X) : if decide p = true then X else (∃ k, V.bl false = V.bl k ∧ if k = true then A else B) :=
  ifD (fun hp => h hp hB) (fun _ => ⟨false, rfl, iteF hB⟩)
theorem ifOr {p A X Y : Prop} [Decidable p] (hX : X) (h : ¬ p → X → A) : if decide p = true then (if true = true then X else Y) else A :=
  ifD (fun _ => iteT hX) (fun hp => h hp hX)
theorem ifY {c A B : Prop} [Decidable c] (hc : c) (h : A) : if c then A else B := by
  rw [if_pos hc]
  exact h
theorem ifZ {c A B : Prop} [Decidable c] (hc : ¬ c) (h : B) : if c then A else B := by
  rw [if_neg hc]
  exact h
/-- the ends of a loop's body, by what they are known to take -/
structure Bd (D : Ends) (N : L2.St → Hp → Prop) (D' : Ends) : Prop where
  nx : ∀ σ' H', N σ' H' → D'.nx σ' H'
  ct : ∀ σ' H', N σ' H' → D'.ct σ' H'
  bk : ∀ σ' H', D.nx σ' H' → D'.bk σ' H'
  rt : ∀ v H', D.rt v H' → D'.rt v H'
/-- a while's turn: the body for any ends -/
theorem wb {tb : TS} {D : Ends} {m : Nat} {σ : L2.St} {H1 : Hp} {W : Nat → L2.St → Hp → Prop} (h : ∀ D', Bd D (fun σ' H' => ∃ m', m' < m ∧ W m' σ' H') D' → tb D' σ H1) :
    ∃ N : L2.St → Hp → Prop, (∀ σ' H', N σ' H' → ∃ m', m' < m ∧ W m' σ' H') ∧ tb { D with nx := N, ct := N, bk := D.nx } σ H1 :=
  ⟨_, fun _ _ h => h, h _ ⟨fun _ _ h => h, fun _ _ h => h, fun _ _ h => h, fun _ _ h => h⟩⟩
theorem flL {K : PySem.W.Frag} {a : Addr} {xs : List V} {g : TG} {tb : TS} {D : Ends} {σ : L2.St} {H : Hp} (Pv : Nat → L2.St → Hp → Prop) (h0 : Pv 0 σ H) (hl : ∀ i σ H, i ≤ xs.length → Pv i σ H → SqL K H a xs)
    (hs : ∀ i x σ H, xs[i]? = some x → Pv i σ H → ∀ D', Bd D (Pv (i + 1)) D' → g x σ H fun σ2 H2 => tb D' σ2 H2) (hd : ∀ σ H, Pv xs.length σ H → D.nx σ H) :
    ∃ W : Nat → Nat → L2.St → Hp → Prop, (∃ m, W 0 m σ H) ∧ ∀ i m σ H, W i m σ H →
      ((Itl K a).stop i H ∧ D.nx σ H) ∨ ((Itl K a).go i H ∧ ∃ N : L2.St → Hp → Prop, (∀ σ' H', N σ' H' → ∃ m', m' < m ∧ W (i + 1) m' σ' H') ∧ ∀ x H', (Itl K a).yld i H x H' → g x σ H' fun σ2 H2 => tb { D with nx := N, ct := N, bk := D.nx } σ2 H2) :=
  for_list Pv h0 hl (fun i x σ H hx p => hs i x σ H hx p _ ⟨fun _ _ h => h, fun _ _ h => h, fun _ _ h => h, fun _ _ h => h⟩) hd
theorem flT {K : PySem.W.Frag} {a : Addr} {xs : List V} {g : TG} {tb : TS} {D : Ends} {σ : L2.St} {H : Hp} (Pv : Nat → L2.St → Hp → Prop) (h0 : Pv 0 σ H) (hl : ∀ i σ H, i ≤ xs.length → Pv i σ H → SqT K H a xs)
    (hs : ∀ i x σ H, xs[i]? = some x → Pv i σ H → ∀ D', Bd D (Pv (i + 1)) D' → g x σ H fun σ2 H2 => tb D' σ2 H2) (hd : ∀ σ H, Pv xs.length σ H → D.nx σ H) :
    ∃ W : Nat → Nat → L2.St → Hp → Prop, (∃ m, W 0 m σ H) ∧ ∀ i m σ H, W i m σ H →
      ((Itt K a).stop i H ∧ D.nx σ H) ∨ ((Itt K a).go i H ∧ ∃ N : L2.St → Hp → Prop, (∀ σ' H', N σ' H' → ∃ m', m' < m ∧ W (i + 1) m' σ' H') ∧ ∀ x H', (Itt K a).yld i H x H' → g x σ H' fun σ2 H2 => tb { D with nx := N, ct := N, bk := D.nx } σ2 H2) :=
  for_tup Pv h0 hl (fun i x σ H hx p => hs i x σ H hx p _ ⟨fun _ _ h => h, fun _ _ h => h, fun _ _ h => h, fun _ _ h => h⟩) hd
theorem flR {lo : Int} {n : Nat} {g : TG} {tb : TS} {D : Ends} {σ : L2.St} {H : Hp} (Pv : Nat → L2.St → Hp → Prop) (h0 : Pv 0 σ H)
    (hs : ∀ i σ H, i < n → Pv i σ H → ∀ D', Bd D (Pv (i + 1)) D' → g (.int (lo + i)) σ H fun σ2 H2 => tb D' σ2 H2) (hd : ∀ σ H, Pv n σ H → D.nx σ H) :
    ∃ W : Nat → Nat → L2.St → Hp → Prop, (∃ m, W 0 m σ H) ∧ ∀ i m σ H, W i m σ H →
      ((Itr lo n).stop i H ∧ D.nx σ H) ∨ ((Itr lo n).go i H ∧ ∃ N : L2.St → Hp → Prop, (∀ σ' H', N σ' H' → ∃ m', m' < m ∧ W (i + 1) m' σ' H') ∧ ∀ x H', (Itr lo n).yld i H x H' → g x σ H' fun σ2 H2 => tb { D with nx := N, ct := N, bk := D.nx } σ2 H2) :=
  for_range Pv h0 (fun i σ H hx p => hs i σ H hx p _ ⟨fun _ _ h => h, fun _ _ h => h, fun _ _ h => h, fun _ _ h => h⟩) hd
theorem seqC {i : Nat} {v : V} {u : TS} {D : Ends} {σ : L2.St} {H : Hp} (h : u D (σ.set i (some v)) H) : tSeq (tAsg (tC v) (gName i)) u D σ H := h
theorem asgC {i : Nat} {v : V} {D : Ends} {σ : L2.St} {H : Hp} (h : D.nx (σ.set i (some v)) H) : tAsg (tC v) (gName i) D σ H := h
/-- an expression that the proof never comes to -/
def tNevE : TE := fun _ _ _ => False
theorem pe_never {X : Cx} {e : Expr} : PE X e tNevE := ⟨fun _ _ _ _ _ _ h => h.elim⟩
theorem sm_upd {H : Hp} {p : Addr} {o : HO} (h : H p = none) : Same H (upd H p o) := fun b x e => by
  rw [upd_ne (ne_of_none e h)]
  exact e
theorem upd_at {H : Hp} {p : Addr} {o : HO} (_ : H p = none) : upd H p o p = some o := upd_same
theorem sm_mut {H H' : Hp} {p : Addr} {o : HO} (e : Same H H') (h : H p = none) : Same H (upd H' p o) := fun b x z => by
  rw [upd_ne (ne_of_none z h)]
  exact e b x z
theorem new_step {H G : Hp} {p : Addr} {o : HO} (h : H p = none) (e : upd H p o = G) : Same H G ∧ G p = some o := e ▸ ⟨sm_upd h, upd_same⟩
/-- all but p is as it was -/
def But (p : Addr) (H H' : Hp) : Prop := ∀ b o, b ≠ p → H b = some o → H' b = some o
theorem But.refl {p : Addr} (H : Hp) : But p H H := fun _ _ _ h => h
theorem But.trans {p : Addr} {H H1 H2 : Hp} (a : But p H H1) (b : But p H1 H2) : But p H H2 := fun c o h e => b c o h (a c o h e)
theorem But.of {p : Addr} {H H' : Hp} (a : Same H H') : But p H H' := fun b o _ e => a b o e
theorem But.upd {p : Addr} {H H' : Hp} {o : HO} (a : But p H H') : But p H (upd H' p o) := fun b x h e => by
  rw [upd_ne h]
  exact a b x h e
theorem But.new {p q : Addr} {H H' : Hp} {o : HO} (a : But p H H') (h : H' q = none) : But p H (L2.upd H' q o) := a.trans (But.of (sm_upd h))
theorem But.same {p : Addr} {H0 H H' : Hp} (e : Same H0 H) (n : H0 p = none) (a : But p H H') : Same H0 H' := fun b o h => a b o (ne_of_none h n) (e b o h)
/-- a new object, its heap by what is known of it -/
theorem new_by {H : Hp} {o : HO} {Q : Addr → Hp → Prop} (h : ∀ p H', H p = none → Same H H' → H' p = some o → (∀ b, b ≠ p → H' b = H b) → Q p H') : ∀ p, H p = none → Q p (upd H p o) := fun p hp =>
  h p _ hp (sm_upd hp) upd_same fun _ hb => upd_ne hb
theorem Same.tup {K : PySem.W.Frag} {H H' : Hp} {a : Addr} {xs : List V} (e : Same H H') (h : SqT K H a xs) : SqT K H' a xs := by
  rcases h with (h | ⟨o, h⟩) | h
  · exact .inl (.inl (e _ _ h))
  · exact .inl (.inr ⟨o, e _ _ h⟩)
  · exact .inr h
theorem len_le {n : Nat} (h : n ≤ 16000000) : n ≤ sizeLine := Nat.le_trans h (by decide)
theorem len_lt {n : Nat} (h : n < 16000000) : n < sizeLine := Nat.lt_of_lt_of_le h (by decide)
/-- ints that are counted from 0 on -/
def nv (ps : List Nat) : List V := ps.map fun q => .int (q : Nat)
theorem nv_app (ps : List Nat) (q : Nat) : nv (ps ++ [q]) = nv ps ++ [.int (q : Nat)] := by simp [nv]
theorem nv_len (ps : List Nat) : (nv ps).length = ps.length := by simp [nv]
theorem nv_get {ps : List Nat} {i : Nat} {v : V} (h : (nv ps)[i]? = some v) : ∃ q, ps[i]? = some q ∧ v = .int (q : Nat) := by
  unfold nv at h
  rw [List.getElem?_map] at h
  cases e : ps[i]? with
  | none => rw [e] at h; cases h
  | some q => rw [e] at h; exact ⟨q, rfl, (Option.some.inj h).symm⟩
theorem atI_neg1 {xs : List V} {v : V} (h : xs[xs.length - 1]? = some v) : atI xs (-1) = some v := by
  have hne : xs ≠ [] := by
    rintro rfl
    cases h
  have e : xs = xs.dropLast ++ [xs.getLast hne] := (List.dropLast_concat_getLast hne).symm
  have e2 : xs.getLast hne = v := by
    rw [List.getLast_eq_getElem]
    have := List.getElem?_eq_some_iff.mp h
    exact this.2
  rw [e, e2]
  exact atI_last _ _
/-! ### the readings of some calls, by names -/
def rLen (K : PySem.W.Frag) : List V → Hp → VK → Prop := fun xs H Q => ∃ p ys, xs = [.ref p] ∧ (SqL K H p ys ∨ SqT K H p ys) ∧ Q (.int ys.length) H
def rTupOf (K : PySem.W.Frag) : List V → Hp → VK → Prop := fun xs H Q => ∃ p ys, xs = [.ref p] ∧ ((SqL K H p ys ∧ ∀ l, H l = none → Q (.ref l) (upd H l (.tup ys))) ∨ (SqT K H p ys ∧ Q (.ref p) H))
def rLstOf (K : PySem.W.Frag) : List V → Hp → VK → Prop := fun xs H Q => ∃ p ys, xs = [.ref p] ∧ (SqL K H p ys ∨ SqT K H p ys) ∧ ∀ l, H l = none → Q (.ref l) (upd H l (.lst ys))
/-! ### isinstance -/
theorem isi_int {K : PySem.W.Frag} {H : Hp} {i : Int} {n : String} {b : Bool} {Q : VK} (h : kitB "int" n = some b) (q : Q (.bl b) H) : rIsi K [.int i, .ty n] H Q := ⟨_, _, _, _, b, rfl, .ty n, .base (.int i), kit_ty h, q⟩
theorem isi_bl {K : PySem.W.Frag} {H : Hp} {i : Bool} {n : String} {b : Bool} {Q : VK} (h : kitB "bool" n = some b) (q : Q (.bl b) H) : rIsi K [.bl i, .ty n] H Q := ⟨_, _, _, _, b, rfl, .ty n, .base (.bl i), kit_ty h, q⟩
theorem isi_tup {K : PySem.W.Frag} {H : Hp} {a : Addr} {xs : List V} {n : String} {b : Bool} {Q : VK} (e : SqT K H a xs) (h : kitB "tuple" n = some b) (q : Q (.bl b) H) : rIsi K [.ref a, .ty n] H Q := by
  rcases e with (e | ⟨o, e⟩) | ⟨o, its, m, e, c, _⟩
  · exact ⟨_, _, _, _, b, rfl, .ty n, .base (.tup e), kit_ty h, q⟩
  · exact ⟨_, _, _, _, b, rfl, .ty n, .fTuple e, kit_ty h, q⟩
  · exact ⟨_, _, _, _, b, rfl, .ty n, .kTuple e c, kit_ty h, q⟩
theorem isi_lst {K : PySem.W.Frag} {H : Hp} {a : Addr} {xs : List V} {n : String} {b : Bool} {Q : VK} (e : H a = some (.lst xs)) (h : kitB "list" n = some b) (q : Q (.bl b) H) : rIsi K [.ref a, .ty n] H Q := ⟨_, _, _, _, b, rfl, .ty n, .base (.lst e), kit_ty h, q⟩
theorem tyT {K : PySem.W.Frag} {H : Hp} {a : Addr} {xs : List V} (e : SqT K H a xs) : TyX K H (.ref a) (.type "tuple") := by
  rcases e with (e | ⟨o, e⟩) | ⟨o, its, m, e, c, _⟩
  · exact .base (.tup e)
  · exact .fTuple e
  · exact .kTuple e c
theorem tyI {K : PySem.W.Frag} {H : Hp} (i : Int) : TyX K H (.int i) (.type "int") := .base (.int i)
theorem k_ii : kitB "int" "int" = some true := by decide +kernel
theorem k_ib : kitB "int" "bool" = some false := by decide +kernel
theorem k_it : kitB "int" "tuple" = some false := by decide +kernel
theorem k_tt : kitB "tuple" "tuple" = some true := by decide +kernel
theorem k_ti : kitB "tuple" "int" = some false := by decide +kernel
theorem k_tb : kitB "tuple" "bool" = some false := by decide +kernel
/-! ### a dict of three text keys -/
def tri (k1 k2 k3 : Str) (a b c : V) : List (Key × V) := [(.inr k1, a), (.inr k2, b), (.inr k3, c)]
structure Dif (k1 k2 k3 : Str) : Prop where
  n12 : k1 ≠ k2
  n13 : k1 ≠ k3
  n23 : k2 ≠ k3
section
variable {k1 k2 k3 : Str} {a b c v : V} {H : Hp} {p : Addr}
theorem inr_ne {x y : Str} (h : x ≠ y) : ¬ (Sum.inr x : Key) = Sum.inr y := fun e => h (Sum.inr.inj e)
theorem tri_get1 (h : H p = some (.dK (tri k1 k2 k3 a b c))) : DGet H p (.str k1) (some a) := by
  have := DGet.k (k := (.inr k1 : Key)) h
  unfold tri at this
  rw [valV_pos rfl] at this
  exact this
theorem tri_get2 (d : Dif k1 k2 k3) (h : H p = some (.dK (tri k1 k2 k3 a b c))) : DGet H p (.str k2) (some b) := by
  have := DGet.k (k := (.inr k2 : Key)) h
  unfold tri at this
  rw [valV_neg (inr_ne d.n12), valV_pos rfl] at this
  exact this
theorem tri_get3 (d : Dif k1 k2 k3) (h : H p = some (.dK (tri k1 k2 k3 a b c))) : DGet H p (.str k3) (some c) := by
  have := DGet.k (k := (.inr k3 : Key)) h
  unfold tri at this
  rw [valV_neg (inr_ne d.n13), valV_neg (inr_ne d.n23), valV_pos rfl] at this
  exact this
theorem tri_put2 (d : Dif k1 k2 k3) (h : H p = some (.dK (tri k1 k2 k3 a b c))) : DPut H p (.str k2) v (upd H p (.dK (tri k1 k2 k3 a v c))) := by
  have := DPut.k (k := (.inr k2 : Key)) (v := v) h (by show 3 < sizeLine; decide)
  have e : putK (tri k1 k2 k3 a b c) (.inr k2) v = tri k1 k2 k3 a v c := by
    simp [putK, tri, d.n12, d.n23, Ne.symm d.n23]
  rw [e] at this
  exact this
theorem tri_put3 (d : Dif k1 k2 k3) (h : H p = some (.dK (tri k1 k2 k3 a b c))) : DPut H p (.str k3) v (upd H p (.dK (tri k1 k2 k3 a b v))) := by
  have := DPut.k (k := (.inr k3 : Key)) (v := v) h (by show 3 < sizeLine; decide)
  have e : putK (tri k1 k2 k3 a b c) (.inr k3) v = tri k1 k2 k3 a b v := by
    simp [putK, tri, d.n13, d.n23]
  rw [e] at this
  exact this
theorem tri_disp (d : Dif k1 k2 k3) : mergeK [] (tri k1 k2 k3 a b c) = tri k1 k2 k3 a b c := by
  simp [mergeK, putK, tri, d.n12, d.n13, d.n23]
end
/-! ### data -/
theorem dp_ints {K : PySem.W.Frag} {H : Hp} : ∀ ns : List Int, DpAll K H (ns.map V.int) (ns.map PyData.int)
  | [] => .nil
  | n :: r => .cons (.int n) (dp_ints r)
theorem lay_ints : ∀ ns : List Int, PyData.canLayAll0 (ns.map PyData.int) = true
  | [] => rfl
  | n :: r => by
    show (PyData.canLay0 (.int n) && PyData.canLayAll0 (r.map PyData.int)) = true
    rw [lay_ints r]
    rfl
theorem dep_ints : ∀ ns : List Int, PyData.depthAll (ns.map PyData.int) = 0
  | [] => rfl
  | n :: r => by
    show max (PyData.depth (.int n)) (PyData.depthAll (r.map PyData.int)) = 0
    rw [dep_ints r]
    rfl
theorem shaped_ints (ns : List Int) : SeqAt.shaped (.list (ns.map PyData.int)) = true := by
  show (PyData.canLayAll0 (ns.map PyData.int) && decide (PyData.depthAll (ns.map PyData.int) + 1 ≤ 64)) = true
  rw [lay_ints, dep_ints]
  rfl
theorem shaped_intsT (ns : List Int) : SeqAt.shaped (.tuple (ns.map PyData.int)) = true := shaped_ints ns
theorem eqv_nil (ds : List PyData) : PyData.eqv (.list ds) (.list []) = ds.isEmpty := by
  cases ds <;> rfl
/-! ### defs with one default -/
section
variable {P : Program} {w : World} {K : PySem.W.Frag} {mg : Str → Option Value} {base : Heap}
theorem funD_ok0 {x qual : Str} {st : Stmt} {dvs : List V} {kws : List (Str × V)} {f : Addr} {fd : FuncData} {N ps : List Str} {k : Nat} {sp : Sp} (F : FunD K x qual (defArgs st) (defBody st) (defScope st) dvs kws f fd)
    (S : FnScope N ps (defScope st)) (len : ∀ vs H Q E, sp vs H Q E → vs.length = ps.length)
    (hb : ∀ (cdv : Value) (A : Around) (outer : List Env) (s : Shared) (H : Hp) (vs : List V) (Q : VK) (E : XK), Room k (A.deeper (envOfC qual (defScope st) s.heap.objs.size f cdv)) → sp vs H Q E →
      ∃ t, PSs (cxOf CX0 P w K mg base N qual (defScope st) f cdv A outer s H E).nox (defBody st) t ∧ t { nx := fun _ H' => Q .non H', rt := Q } (start N vs) H) : FnOk P w K mg base CX0 (k + 1) f fd ps sp :=
  F.ok S len fun cdv A outer s H vs Q E hr h => by
    obtain ⟨t, h1, h2⟩ := hb cdv A outer s H vs Q E hr h
    exact ⟨t, h1.nox, h2⟩
theorem funD_mk {x qual : Str} {st : Stmt} {dv : V} {u : Value} {f T : Addr} {oc : Value} {od an : Option Addr} {osl : Array (Option Value)} {kV doc pm cdv ct : Value} {oT : Obj} {n : Nat}
    (l : K.lookup f = some ⟨oc, od, .func (PySem.W.fnOf x qual (defArgs st) (defBody st) (defScope st) (.ref T) kV doc pm an cdv ct), osl⟩) (c : PySem.W.codeIn K cdv qual = true) (k : PySem.W.keepIn K (.ref f) = true)
    (lT : K.lookup T = some oT) (hT : oT.data = .seq #[u] n) (r : RelV dv u) :
    FunD K x qual (defArgs st) (defBody st) (defScope st) [dv] [] f (PySem.W.fnOf x qual (defArgs st) (defBody st) (defScope st) (.ref T) kV doc pm an cdv ct) :=
  ⟨⟨oc, od, _, kV, doc, pm, an, cdv, ct, osl, rfl, l, c, .inr ⟨by simp, T, oT, [u], n, rfl, lT, hT, .cons r .nil⟩, .inl rfl⟩, k⟩
theorem binds_nil {fd : FuncData} {ps : List Str} (h : ∃ ds, Vals [] ds ∧ Binds K fd ps ds) : Binds K fd ps [] := by
  obtain ⟨ds, h1, h2⟩ := h
  cases h1
  exact h2
end
/-! ### f(k = v, ..): keywords alone -/
section
variable {X : Cx} {CX : CXT} {k : Nat} {f : Addr} {fd : FuncData} {ps ks : List Str} {sp : Sp} {E : XK} {x : Str} {p pos : Pos} {kws : List Keyword} {tk : TA} {g : List Value → List Value → List Value} {gV : List V → List V → List V}
theorem pe_callN0 (F : FnOk X.prog X.w X.K X.mg X.base CX k f fd ps sp) (hr : Room k X.A) (hg : Gl X x) (hm : X.mg x = some (.ref f)) (hk : PySem.W.keepIn X.K (.ref f) = true) (hb : KBn X.K fd ps 0 ks g gV) (hx : Passes CX X E) (hkw : PK X kws tk)
    (hall : (backToKw pos (keywordEach kws X.env)).all (·.1.isSome) = true := by rfl) (hks : (backToKw pos (keywordEach kws X.env)).filterMap (·.1) = ks := by rfl) (hdb : (x == ("__debug__" : Str)) = false := by decide)
    (hpl : ((backTo pos (starEach [] X.env)).any (·.1) || (backToKw pos (keywordEach kws X.env)).any (·.1.isNone)) = false := by rfl) :
    PE X (.Call (.Name x p) [] kws pos) (tCallN 0 ks.length sp gV E tNil tk) := by
  refine ⟨fun pins s σ H Q I h => ?_⟩
  refine wpAny_Call_Name_kw (ld_glob I hg hm ?_ hdb)
  refine PySem.W.callWith_KW0 (h₀ := X.base) I.ok.mod.kin hk hall ?_ hpl
  refine thn (hkw.run pos pins s σ H _ I h) fun ws s2 ⟨zs, H2, I2, rz, l1, l2, q2⟩ => ⟨I2.kIn, ?_⟩
  rw [hks]
  exact run_fnN (us := []) (vs := []) F hr hb hx I2 .nil rz rfl l2 q2
end
theorem kb_of {K : PySem.W.Frag} {x qual : Str} {st : Stmt} {f : Addr} {fd : FuncData} {ps ks : List Str} {n : Nat} {g : List Value → List Value → List Value} {gV : List V → List V → List V} (F : Fun K x qual st f fd)
    (h : ∀ (kV doc pm : Value) (an : Option Addr) (cdv ct : Value) (us ws : List Value), us.length = n → ws.length = ks.length → bindArgs (PySem.W.fnOf x qual (defArgs st) (defBody st) (defScope st) .none kV doc pm an cdv ct) ⟨us, ks.zip ws⟩ = pure (ps.zip (g us ws)))
    (rel : ∀ {vs : List V} {us : List Value} {zs : List V} {ws : List Value}, Vals vs us → Vals zs ws → Vals (gV vs zs) (g us ws)) : KBn K fd ps n ks g gV := by
  obtain ⟨oc, od, kV, doc, pm, an, cdv, ct, osl, rfl, lk, hcd⟩ := F.ex
  exact ⟨fun s us ws _ h1 h2 => .of_eq (h kV doc pm an cdv ct us ws h1 h2), rel⟩
end HX
set_option Elab.async false
set_option linter.all false
set_option maxRecDepth 100000
/-! defs that ask for a text of nested data (repr): nothing is being shown around them -/
namespace HX
open PySem PySem.Spec PyProof.Rows L2
/-- a def keeps its promise where no repr is under way -/
structure FnG (P : Program) (w : World) (K : PySem.W.Frag) (mg : Str → Option Value) (base : Heap) (k : Nat) (f : Addr) (fd : FuncData) (ps : List Str) (sp : Sp) : Prop where
  ln : ∀ vs H Q E, sp vs H Q E → vs.length = ps.length
  go : ∀ (A : Around) (outer : List Env) (s : Shared) (H : Hp) (args : Args) (us : List Value) (vs : List V) (Q : VK) (E : XK), A.guards = some [] → Room k A → Env0 P w K mg base A outer s H →
    BindsTo s fd args (ps.zip us) → Vals vs us → sp vs H Q E → codeAny (model P w) A (.call (.ref f) args) (CR CX0 outer P w H s Q E) s
theorem FnG.of {P : Program} {w : World} {K : PySem.W.Frag} {mg : Str → Option Value} {base : Heap} {k : Nat} {f : Addr} {fd : FuncData} {ps : List Str} {sp : Sp} (F : FnOk P w K mg base CX0 k f fd ps sp) : FnG P w K mg base k f fd ps sp :=
  ⟨F.len, fun A o s H args us vs Q E _ hr => F.run A o s H args us vs Q E hr⟩
theorem funG {P : Program} {w : World} {K : PySem.W.Frag} {mg : Str → Option Value} {base : Heap} {x qual : Str} {st : Stmt} {f : Addr} {fd : FuncData} {N ps : List Str} {k : Nat} {sp : Sp} (F : Fun K x qual st f fd) (S : FnScope N ps (defScope st))
    (ln : ∀ vs H Q E, sp vs H Q E → vs.length = ps.length)
    (hb : ∀ (cdv : Value) (A : Around) (outer : List Env) (s : Shared) (H : Hp) (vs : List V) (Q : VK) (E : XK), A.guards = some [] → Room k (A.deeper (envOfC qual (defScope st) s.heap.objs.size f cdv)) → sp vs H Q E →
      ∃ t, PSs (cxOf CX0 P w K mg base N qual (defScope st) f cdv A outer s H E).nox (defBody st) t ∧ t { nx := fun _ H' => Q .non H', rt := Q } (start N vs) H) : FnG P w K mg base (k + 1) f fd ps sp := by
  obtain ⟨oc, od, kV, doc, pm, an, cdv, ct, osl, rfl, lk, hcd⟩ := F.ex
  refine ⟨ln, fun A outer s H args us vs Q E hg hr e0 hbd r hsp => ?_⟩
  have hle := ln _ _ _ _ hsp
  have KX : K.In s.heap := e0.mod.kin.keeps (fun b o z => (e0.bs b o z).1)
  have nl : s.heap.NoLimit := e0.mod.nolimit.keeps (fun b o z => (e0.bs b o z).1)
  have hkd : ∀ y ∈ ps.zip us, (defScope st).names.lookup y.1 = some .local ∨ ((defScope st).names.lookup y.1 = some .cell ∧ ((cellsFrom (s.heap.objs.size + 1) (defScope st).names []).lookup y.1).isSome = true) := by
    rintro ⟨n, v⟩ hy
    exact (S.par n (List.of_mem_zip hy).1).elim (fun q => .inl q) (fun q => .inr ⟨q, PySem.W.cellsFrom_some _ _ _ (.inl q)⟩)
  refine codeAny_call_function hr.depth (KX _ _ lk) rfl S.co S.gen rfl (PySem.W.codeRec_of KX hcd) (hbd _ _ _ _ (wpAny_newFunctionEnv_cells S.kind hkd fun env he s1 x => ?_))
  subst he
  refine ⟨nl.keeps x.toInCall.keep, codeAny_func ?_⟩
  obtain ⟨t, ht, hq⟩ := hb cdv A outer s H vs Q E hg (hr.deeper _) hsp
  have I0 : Inv (cxOf CX0 P w K mg base N qual (defScope st) f cdv A outer s H E) [] (start N vs) H s1 := inv_start S hr.hd e0 hle r x
  refine wpAny_mono (ht.nox.run [] s1 (start N vs) H _ I0 hq) (fun fl s' hs => ?_) (fun _ _ z => z)
  match fl, hs with
  | .ret u, ⟨v, σ', H', J, rv, q⟩ => exact ⟨v, H', J.os, J.bare, J.base, J.hok, rv, q⟩
  | .next, ⟨σ', H', J, q⟩ => exact ⟨V.non, H', J.os, J.bare, J.base, J.hok, rfl, q⟩
  | .brk, ⟨_, _, _, q⟩ => exact False.elim q
  | .cont, ⟨_, _, _, q⟩ => exact False.elim q
section
variable {X : Cx} {k : Nat} {f : Addr} {fd : FuncData} {ps : List Str} {sp : Sp} {dvs : List V} {ds : List Value} {E : XK} {x : Str} {p pos : Pos} {e : Expr} {es : List Expr} {t : TA}
theorem pe_callG (F : FnG X.prog X.w X.K X.mg X.base k f fd ps sp) (hgd : X.A.guards = some []) (hr : Room k X.A) (hg : Gl X x) (hm : X.mg x = some (.ref f)) (hk : PySem.W.keepIn X.K (.ref f) = true) (hb : Binds X.K fd ps ds) (hd : Vals dvs ds) (hx : Passes CX0 X E)
    (ha : PA X (e :: es) t) (hdb : (x == ("__debug__" : Str)) = false := by decide) (he : starEach (e :: es) X.env = (false, eval e X.env) :: starEach es X.env := by rfl) (hpl : (backTo pos (starEach es X.env)).any (·.1) = false := by rfl) :
    PE X (.Call (.Name x p) (e :: es) [] pos) (tCall sp dvs E t) := by
  constructor
  intro pins s σ H Q I h
  refine wpAny_Call_Name_kw (ld_glob I hg hm (PySem.W.callWith_K (h₀ := X.base) I.ok.mod.kin hk (thn (ha.run pos pins s σ H _ I h) fun us s1 ⟨vs, H1, I1, r, q⟩ => ⟨I1.kIn, ?_⟩) he hpl) hdb)
  have r2 : Vals (vs ++ dvs) (us ++ ds) := r.append hd
  have hl : (us ++ ds).length = ps.length := by rw [← r2.length]; exact F.ln _ _ _ _ q
  refine wpAny_call (codeAny_mono (F.go X.A X.stack s1 H1 ⟨us, []⟩ (us ++ ds) (vs ++ dvs) Q E hgd hr I1.env0 (hb s1 us I1.kIn hl) r2 q) fun fl s' hq => ?_)
  match fl, hq with
  | .error z, hq => exact hx pins σ H1 s1 z s' I1 hq
  | .ok (.ret u), hq => exact I1.after hq
  | .ok .next, hq => exact False.elim hq
  | .ok .brk, hq => exact False.elim hq
  | .ok .cont, hq => exact False.elim hq
end
/-! ### the law's own call -/
theorem law_callG {P : Program} {w : World} {K : PySem.W.Frag} {mg mb : Str → Option Value} {k : Nat} {fa a : Addr} {fd : FuncData} {x : Str} {sp : Sp} {st : Shared} {vs : List Value} {ns : List Int}
    (KX : K.In st.heap) (hns : st.heap.Ns mainGlobals mg) (hb : st.heap.Ns builtinsNs mb) (hbb : ∀ x : Str, x ≠ "__name__" → mb x = bootBuiltins x) (nl : st.heap.NoLimit) (hg : st.gens = #[])
    (ha : st.heap.get? a = some { cls := .type "list", data := .seq vs.toArray }) (hi : IntsAre vs ns) (hl : ns.length ≤ sizeLine) (hr : Room k callerA)
    (F : ∀ base : Heap, K.In base → base.Ns mainGlobals mg → FnG P w K mg base k fa fd [x] sp) (hbd : ∀ (s : Shared) (u : Value), BindsTo s fd ⟨[u], []⟩ [(x, u)])
    (hsp : ∀ H : Hp, Only H → SqL K H a (ns.map V.int) → sp [.ref a] H (fun v _ => v = .bl true) fun _ _ _ => False) :
    codeAny (model P w) callerA (.call (.ref fa) ⟨[.ref a], []⟩) (fun r s' => r = .ok (.ret (.bool true)) ∧ OldK st.heap s'.heap ∧ s'.os = st.os ∧ AllBare s'.gens) st := by
  have rv := vals_ints hi
  have lv := hi.length
  have main : ∀ H : Hp, Only H → SqL K H a (ns.map V.int) → HOk P w H st.heap → (∀ b, H b ≠ none → b = a) → (H a ≠ none → K.lookup a = none) →
      codeAny (model P w) callerA (.call (.ref fa) ⟨[.ref a], []⟩) (fun r s' => r = .ok (.ret (.bool true)) ∧ OldK st.heap s'.heap ∧ s'.os = st.os ∧ AllBare s'.gens) st := by
    intro H hO hS hok hA hK
    have free : ∀ b, (∀ u, H b = some u → b = a → False) → H b = none := fun b z => by
      match q : H b with
      | none => rfl
      | some u => exact (z u q (hA b (by rw [q]; exact Option.some_ne_none u))).elim
    have nsK : ∀ {b : Addr} {m : Str → Option Value}, st.heap.Ns b m → (hidT st.heap H).Ns b m := fun {b m} ⟨o, es, ep, e, d, r⟩ => ⟨o, es, ep, hidT_get e (free b fun u q z => by
      subst z
      rw [ha] at e
      cases e
      exact nomatch (show Data.seq vs.toArray _ = Data.dict es ep from d)), d, r⟩
    have hKb : K.In (hidT st.heap H) := fun b o e => hidT_get (KX b o e) (free b fun u q z => by
      subst z
      rw [hK (by rw [q]; exact Option.some_ne_none u)] at e
      cases e)
    obtain ⟨mc, c1, c2⟩ := nl
    have e0 : Env0 P w K mg (hidT st.heap H) callerA [] st H := ⟨rfl, ⟨hKb, nsK hns, ⟨mb, nsK hb, hbb⟩, ⟨mc, nsK c1, c2⟩⟩, fun b o e => of_hidT e, Nat.le_of_eq (hidT_size _ _), trivial, (fun b hb => absurd (show b ∈ ([] : List Addr) from hb) List.not_mem_nil), hok, .of_eq hg⟩
    refine codeAny_mono ((F _ hKb (nsK hns)).go callerA [] st H ⟨[.ref a], []⟩ [.ref a] [.ref a] _ _ rfl hr e0 (hbd st (.ref a)) (.cons rfl .nil) (hsp H hO hS)) fun r s' h => ?_
    match r, h with
    | .error e, h => exact (h : False).elim
    | .ok .next, h => exact (h : False).elim
    | .ok .brk, h => exact (h : False).elim
    | .ok .cont, h => exact (h : False).elim
    | .ok (.ret u), ⟨v, H', os, bare, un, hok', r', q⟩ =>
      obtain rfl : v = .bl true := q
      obtain rfl : u = Value.bool true := r'
      refine ⟨rfl, OldK.of_keep fun b o e => ?_, os, bare⟩
      match q : H b with
      | none => exact un.keep b o e q (fun z => absurd (show b ∈ ([] : List Addr) from z) List.not_mem_nil) List.not_mem_nil
      | some u =>
        rcases hO b with z | ⟨ob, ys, z⟩
        · exact nomatch q.symm.trans z
        · have e1 := (hok b _ z).1
          rw [e] at e1
          cases e1
          exact (hok' b _ (un.frzs b _ _ z)).1
  match hk : K.lookup a with
  | some o =>
    have e := KX a o hk
    rw [ha] at e
    cases e
    exact main (fun _ => none) (fun _ => .inl rfl) (.inr ⟨_, vs.toArray, _, hk, rfl, rfl, rfl, by rw [List.size_toArray, lv]; exact hl, by simpa using rv⟩) (fun b u z => nomatch (show (none : Option HO) = some u from z)) (fun b z => absurd rfl z) fun z => absurd rfl z
  | none =>
    refine main (fun b => if b = a then some (.frz { cls := .type "list", data := .seq vs.toArray } (.lst (ns.map V.int))) else none) (fun b => ?_) (.inl (.inr ⟨{ cls := .type "list", data := .seq vs.toArray }, if_pos rfl⟩)) (fun b u z => ?_) (fun b z => ?_) fun _ => hk
    · by_cases hc : b = a
      · exact .inr ⟨_, _, if_pos hc⟩
      · exact .inl (if_neg hc)
    · by_cases hc : b = a
      · cases (if_pos hc).symm.trans z
        subst hc
        exact ⟨ha, by rw [List.length_map]; exact hl, vs, _, rv, ha⟩
      · cases (if_neg hc).symm.trans z
    · by_cases hc : b = a
      · exact hc
      · exact absurd (if_neg hc) z
theorem walk_ofG {l : PySem.W.OpenLaw} {n k : Nat} {q : Program} {loose : List Str} {XP : (Str → Option Value) → Heap → Prop} {YP : World → Heap → Prop} {d : DefRec} {K : Params → PySem.W.Frag} {sp : World → Sp} {x : Str}
    (hn : l.most = some n) (hn2 : n ≤ sizeLine) (hdf : d.params.defaults = []) (hr : Room k callerA) (hY : ∀ (w : World) (h : Heap), YP w h → (K w.params).In h)
    (F : ∀ (w : World) (mg : Str → Option Value) (fa : Addr) (h : Heap), (K w.params).In h → h.Ns mainGlobals mg → mg d.name = some (.ref fa) →
      ∃ fd : FuncData, (∀ (s : Shared) (u : Value), BindsTo s fd ⟨[u], []⟩ [(x, u)]) ∧ ∀ base : Heap, (K w.params).In base → base.Ns mainGlobals mg → FnG l.prog w (K w.params) mg base k fa fd [x] (sp w))
    (hsp : ∀ (w : World) (H : Hp) (a : Addr) (ns : List Int), ns.length ≤ n → Only H → SqL (K w.params) H a (ns.map V.int) → sp w [.ref a] H (fun v _ => v = .bl true) fun _ _ _ => False) :
    PySem.W.WalkO q loose XP YP l.row.toRowW d [] (fun f vs => PySem.call f vs) :=
  Att.attach_call hn hdf fun w s0 s1 mg mb fa o pm cd doc a vs ns G Y ho hd hcd hmg hobj hints hlen hg => by
    obtain ⟨fd, hb, hF⟩ := F w mg fa _ (hY w _ Y) G.T.g hmg
    exact law_callG (hY w _ Y) G.T.g G.T.b G.T.builtins G.T.nolimit hg hobj hints (Nat.le_trans hlen hn2) hr hF hb fun H hO hS => hsp w H a ns hlen hO hS
/-! ### repr of data -/
def rRepr (K : PySem.W.Frag) : List V → Hp → VK → Prop := fun xs H Q => ∃ v d, xs = [v] ∧ Dp K H v d ∧ d.showable = true ∧ d.hasDict = false ∧ d.depth ≤ 60 ∧ d.shown.length ≤ sizeLine ∧ Q (.str d.shown) H
theorem call_repr_data {X : Cx} (hgd : X.A.guards = some []) (hu : X.A.units + 64 < cLine) : CallR X (.builtin "repr") (rRepr X.K) := by
  intro pins s σ H xs us Q I r h
  obtain ⟨v, d, rfl, hd, hs, hn, hdp, hz, q⟩ := h
  obtain ⟨u, rfl, rv⟩ := vals1 r
  obtain ⟨as, rd⟩ := Dp.reads I d v u hd rv
  have ref : ∀ {a : Addr}, u = .ref a → wpAny (model X.prog X.w) X.A (call (.builtin "repr") [u]) (EP X pins σ Q) X.xe s := by
    rintro a rfl
    exact repr_of_reads' rd hs (fun z => absurd (hn.symm.trans z) Bool.false_ne_true) hgd (by omega) (fun _ _ e => e) (fun h' u tk hk => ⟨.str _, H, I.kept hk, ⟨_, rfl⟩, q⟩) hz
  cases rd with
  | none => exact PySem.P.repr_of_none ⟨.str _, H, I.tok _, ⟨_, rfl⟩, q⟩
  | bool b => exact PySem.P.repr_of_bool ⟨.str _, H, I.tok _, ⟨_, rfl⟩, q⟩
  | int i t => exact PySem.P.repr_of_int (by simpa [PyData.showable] using hs) ⟨.str _, H, I.tok _, ⟨_, rfl⟩, q⟩
  | str x t => exact PySem.P.repr_of_str ⟨.str _, H, I.tok _, ⟨_, rfl⟩, q⟩ hz
  | list h1 h2 h3 h4 => exact ref rfl
  | tuple h1 h2 h3 h4 => exact ref rfl
  | dict h1 h2 h3 h4 h5 => exact ref rfl
/-! ### data that can be shown: how long the text is, how deep -/
structure Rp (d : PyData) (n k : Nat) : Prop where
  sh : d.showable = true
  nd : d.hasDict = false
  dp : d.depth ≤ k
  ln : d.shown.length ≤ n
structure RpAll (ds : List PyData) (n k : Nat) : Prop where
  sh : PyData.showableAll ds = true
  nd : PyData.hasDictAll ds = false
  dp : PyData.depthAll ds ≤ k
  ln : piled (PyData.shownAll ds) ≤ n
theorem Rp.mono {d : PyData} {n k n' k' : Nat} (h : Rp d n k) (a : n ≤ n') (b : k ≤ k') : Rp d n' k' := ⟨h.sh, h.nd, Nat.le_trans h.dp b, Nat.le_trans h.ln a⟩
theorem RpAll.mono {d : List PyData} {n k n' k' : Nat} (h : RpAll d n k) (a : n ≤ n') (b : k ≤ k') : RpAll d n' k' := ⟨h.sh, h.nd, Nat.le_trans h.dp b, Nat.le_trans h.ln a⟩
theorem RpAll.nil : RpAll [] 0 0 := ⟨by simp [PyData.showableAll], by simp [PyData.hasDictAll], by simp [PyData.depthAll], by simp [PyData.shownAll, piled]⟩
theorem RpAll.cons {d : PyData} {ds : List PyData} {n m k : Nat} (h : Rp d n k) (hs : RpAll ds m k) : RpAll (d :: ds) (n + 2 + m) k := by
  refine ⟨by simp [PyData.showableAll, h.sh, hs.sh], by simp [PyData.hasDictAll, h.nd, hs.nd], ?_, ?_⟩
  · simp only [PyData.depthAll]
    have := h.dp
    have := hs.dp
    omega
  · simp only [PyData.shownAll, piled_cons]
    have := h.ln
    have := hs.ln
    omega
theorem Rp.tup {ds : List PyData} {n k : Nat} (h : RpAll ds n k) : Rp (.tuple ds) (n + 3) (k + 1) := by
  refine ⟨by simp [PyData.showable, h.sh], by simp [PyData.hasDict, h.nd], by simp only [PyData.depth]; have := h.dp; omega, ?_⟩
  simp only [PyData.shown]
  have hl := h.ln
  generalize PyData.shownAll ds = ts at *
  have hj : (Str.join ", " ts).length ≤ piled ts := by
    by_cases e : ts = []
    · subst e
      decide
    · have := join_length_add ts e
      omega
  unfold tupleText
  rw [strLen_append, strLen_append]
  have h1 : (("(" : Str)).length = 1 := by decide +kernel
  have h2 : ∀ b : Bool, ((if b = true then ",)" else ")" : String) : Str).length ≤ 2 := by decide +kernel
  have := h2 (ts.length == 1)
  omega
theorem Rp.lst {ds : List PyData} {n k : Nat} (h : RpAll ds n k) : Rp (.list ds) (n + 3) (k + 1) := by
  refine ⟨by simp [PyData.showable, h.sh], by simp [PyData.hasDict, h.nd], by simp only [PyData.depth]; have := h.dp; omega, ?_⟩
  simp only [PyData.shown]
  have hl := h.ln
  generalize PyData.shownAll ds = ts at *
  cases ts with
  | nil =>
    rw [listText_nil]
    have : (("[]" : Str)).length = 2 := by decide +kernel
    omega
  | cons t r =>
    have h1 := textFrom_length_pos r 1 (("[" : Str) ++ (if (0 : Nat) > 0 then ", " else "" : String) ++ t) (Nat.succ_pos 0)
    have h2 : (("[" : Str) ++ (if (0 : Nat) > 0 then ", " else "" : String) ++ t).length = 1 + t.length := by
      rw [strLen_append, strLen_append]
      rfl
    have h3 : (listText (t :: r)).length = (textFrom 1 (("[" : Str) ++ (if (0 : Nat) > 0 then ", " else "" : String) ++ t) r).length + 1 := by
      show (textFrom 0 "[" (t :: r) ++ "]").length = _
      rw [strLen_append]
      rfl
    rw [piled_cons] at hl
    omega
theorem Rp.bool (b : Bool) : Rp (.bool b) 5 0 := ⟨by simp [PyData.showable], by simp [PyData.hasDict], by simp [PyData.depth], by cases b <;> decide +kernel⟩
theorem Rp.int {i : Int} (h : i.natAbs < 10 ^ 20) : Rp (.int i) 21 0 := by
  have hz := int_text_length_le10 (k := 20) (by decide) h
  refine ⟨?_, by simp [PyData.hasDict], by simp [PyData.depth], ?_⟩
  · simp only [PyData.showable, decide_eq_true_eq]
    by_cases e : i.natAbs = 0
    · rw [e]
      decide
    · rw [Nat.log2_lt e]
      exact Nat.lt_of_lt_of_le h (Nat.le_trans (by decide : 10 ^ 20 ≤ 2 ^ 70) (Nat.pow_le_pow_right (by decide) (by decide)))
  · simp only [PyData.shown]
    rw [PySem.ofString_length]
    exact hz
theorem Rp.str {x : Str} {n : Nat} (h : (reprText x).length ≤ n) : Rp (.str x) n 0 := ⟨by simp [PyData.showable], by simp [PyData.hasDict], by simp [PyData.depth], by simpa [PyData.shown] using h⟩
/-! ### tuples cut and joined: one way on -/
def rSlB (K : PySem.W.Frag) : V → Option Int → Option Int → Hp → VK → Prop := fun x lo hi H Q => ∃ a xs, x = .ref a ∧ SqT K H a xs ∧ ∀ l H', Same H H' → SqT K H' l (cutV xs lo hi) → Q (.ref l) H'
def rCatB (K : PySem.W.Frag) : R2 := fun x y H Q => ∃ a b xs ys, x = .ref a ∧ y = .ref b ∧ SqT K H a xs ∧ SqT K H b ys ∧ xs.length + ys.length ≤ sizeLine ∧ ∀ l H', Same H H' → SqT K H' l (xs ++ ys) → Q (.ref l) H'
theorem sl_tupB {X : Cx} : SlR X (rSlB X.K) := by
  intro pins s σ H x v vl vu lo hi sl Q I rx hs pl pu h
  obtain ⟨a, xs, rfl, hx, q⟩ := h
  refine sl_tupA pins s σ H _ v vl vu lo hi sl Q I rx hs pl pu ⟨a, xs, rfl, hx, fun hc => q a H (Same.refl _) ?_, fun _ p np => q p _ (sm_upd np) (.inl (.inl upd_same))⟩
  have e : cutV xs lo hi = xs := by
    unfold cutV
    rw [hc.1, hc.2, List.drop_zero, Nat.sub_zero, List.take_length]
  rw [e]
  exact hx
theorem op_catB {X : Cx} : OpR X (binaryOp .Add) (rCatB X.K) := by
  intro pins s σ H x y v u Q I rx ry h
  obtain ⟨a, b, xs, ys, rfl, rfl, ha, hb, hz, q⟩ := h
  refine op_catA pins s σ H _ _ v u Q I rx ry ⟨a, b, xs, ys, rfl, rfl, ha, hb, hz, fun e => q b H (Same.refl _) ?_, fun _ e => q a H (Same.refl _) ?_, fun _ _ p np => q p _ (sm_upd np) (.inl (.inl upd_same))⟩
  · rw [e]
    exact hb
  · rw [e, List.append_nil]
    exact ha
theorem cut_to {xs : List V} {m : Nat} : cutV xs none (some (m : Int)) = xs.take m := by
  unfold cutV
  rw [HT.sIx_nat xs.length xs.length m, HT.sIx_none]
  show List.take (min m xs.length - 0) xs = _
  rw [Nat.sub_zero, List.take_eq_take_iff]
  omega
theorem cut_from {xs : List V} {m : Nat} : cutV xs (some (m : Int)) none = xs.drop m := by
  unfold cutV
  rw [HT.sIx_nat xs.length 0 m, HT.sIx_none]
  by_cases h : m ≤ xs.length
  · rw [Nat.min_eq_left h, List.take_of_length_le (by rw [List.length_drop]; exact Nat.le_refl _)]
  · rw [Nat.min_eq_right (by omega), List.drop_of_length_le (Nat.le_refl _), List.drop_of_length_le (by omega)]
    simp
end HX
set_option Elab.async false
set_option linter.all false
set_option maxRecDepth 100000
/-! for i, x in enumerate(a tuple) -/
namespace HX
open PySem PySem.Spec PyProof.Rows L2
set_option maxHeartbeats 1000000 in
theorem meets_enumT (l : Addr) (items : Array Value) :
    Meets (Builtin.«enumerate.__new__» ⟨[.type "enumerate", .ref l], []⟩) (fun _ R s => s.heap.IsTuple l items ∧
      R (.ok (.ret (.ref (s.heap.push { cls := .type "tuple_iterator", data := .fields #[.ref l, .int 0 0] }).objs.size)))
        { s with heap := (s.heap.push { cls := .type "tuple_iterator", data := .fields #[.ref l, .int 0 0] }).push { cls := .type "enumerate", data := .fields #[.none, .bool false, .ref s.heap.objs.size, rawInt 0, .none, .none] } }) :=
  .of_wp fun prog w A R s h => by
    obtain ⟨hp, g, d, tk, os⟩ := s
    obtain ⟨hT, h⟩ := h
    have hsub := sub_enumerate
    have q1 : ∀ {A' : Around} {E : Value → Shared → Prop} {Q : Value → Shared → Prop}, Q (.ref hp.objs.size) ⟨hp.push { cls := .type "tuple_iterator", data := .fields #[.ref l, .int 0 0] }, g, d, tk, os⟩ → wpAny (model prog w) A' (pyIter (.ref l)) Q E ⟨hp, g, d, tk, os⟩ :=
      fun q => wpAny_pyIter_tuple (s := ⟨hp, g, d, tk, os⟩) hT q
    wp_walk using q1
    refine wpAny_stack_any fun st => wpAny_pure ?_
    split
    · rename_i c _ _ _ _ _
      by_cases hc : (c == Value.type "enumerate") = true
      all_goals (wp_walk using q1; exact ⟨_, rfl, h⟩)
    · wp_walk using q1
      exact ⟨_, rfl, h⟩
theorem call_enumT {prog : Program} {w : World} {A : Around} {E : Value → Shared → Prop} {s : Shared} {l : Addr} {items : Array Value} {Q : Value → Shared → Prop} (hT : s.heap.IsTuple l items)
    (h : ∀ h', IsEnum h' (s.heap.objs.size + 1) s.heap.objs.size 0 .none → h'.IsTupleIter s.heap.objs.size l 0 → h'.objs.size = s.heap.objs.size + 2 → (∀ b o, s.heap.get? b = some o → h'.get? b = some o) →
      Q (.ref (s.heap.objs.size + 1)) { s with heap := h' }) : wpAny (model prog w) A (call (.type "enumerate") [.ref l]) Q E s := by
  refine callType_new F.called_enumerate (by decide) (F.typeCall_enumerate_1 _) (F.newCall_enumerate_1 _) (fun obj => F.args_object_init_2 obj _) F.entry_enumerate_new (meets_enumT l items) ⟨hT, ?_⟩
  have hz : (s.heap.push { cls := .type "tuple_iterator", data := .fields #[.ref l, .int 0 0] }).objs.size = s.heap.objs.size + 1 := Heap.size_push ..
  show _ ∧ _
  rw [hz]
  have he : IsEnum ((s.heap.push { cls := .type "tuple_iterator", data := .fields #[.ref l, .int 0 0] }).push { cls := .type "enumerate", data := .fields #[.none, .bool false, .ref s.heap.objs.size, rawInt 0, .none, .none] }) (s.heap.objs.size + 1) s.heap.objs.size 0 .none := by
    have q := Heap.get?_push_size (s.heap.push { cls := .type "tuple_iterator", data := .fields #[.ref l, .int 0 0] }) (o := { cls := .type "enumerate", data := .fields #[.none, .bool false, .ref s.heap.objs.size, rawInt 0, .none, .none] }) rfl
    rw [hz] at q
    exact q
  exact ⟨⟨_, he, rfl⟩, h _ he ⟨_, Heap.get?_push_of_some _ (Heap.get?_push_size _ rfl), rfl, rfl⟩ (by rw [Heap.size_push, hz]) fun b o x => Heap.get?_push_of_some _ (Heap.get?_push_of_some _ x)⟩
/-- the tuple at a, each item in a new pair -/
def IteT (K : PySem.W.Frag) (a : Addr) : It :=
  ⟨fun i H => ∃ (xs : List V) (x : V), SqT K H a xs ∧ xs[i]? = some x, fun i H v H' => ∃ T x, v = .ref T ∧ H T = none ∧ H' = upd H T (.tup [.int (i : Nat), x]) ∧ ∀ xs, SqT K H a xs → xs[i]? = some x, fun i H => ∃ xs : List V, SqT K H a xs ∧ xs.length ≤ i⟩
theorem turn_enumT {P : Program} {w : World} {K : PySem.W.Frag} {elts : List Expr} {kk : Nat} {tpos : Pos} (a e it : Addr) :
    Turn P w K (.Tuple elts kk tpos) (IteT K a) [e, it] e (fun i h => (∃ old, IsEnum h e it ((i : Nat) : Int) old) ∧ h.IsTupleIter it a i ∧ e ≠ it) where
  mem := by simp
  obj := fun i h st b hb => by
    obtain ⟨⟨old, he⟩, ⟨o, ho, hc, hd⟩, _⟩ := st
    rcases (show b = e ∨ b = it by simpa using hb) with z | z
    · subst z
      exact ⟨_, he, fun v q => nomatch q⟩
    · subst z
      exact ⟨o, ho, fun v q => nomatch hd.symm.trans q⟩
  keep := fun i h h' st k => let ⟨⟨old, he⟩, hi, hne⟩ := st; ⟨⟨old, k e (by simp) _ he⟩, hi.at (fun o q => k it (by simp) o q), hne⟩
  item := by
    intro X hP hw hK hc i pins s σ H E I hf st hg
    subst hP hw hK
    obtain ⟨⟨old, he⟩, hit, hne⟩ := st
    obtain ⟨xs, x, hq, hx⟩ := hg
    obtain ⟨its, rv, p, hz⟩ := I.tuple hq
    obtain ⟨u, hu, ru⟩ := rv.get hx
    have p' : s.heap.IsTuple a its.toArray := p
    have hel : e < s.heap.objs.size := Heap.lt_size he
    have hil : it < s.heap.objs.size := by
      obtain ⟨_, q, _⟩ := hit
      exact Heap.lt_size q
    have hai : a ≠ it := fun z => by
      obtain ⟨o1, g1, c1, _⟩ := hit
      obtain ⟨o2, g2, c2, _⟩ := p'
      rw [z, g1] at g2
      cases g2
      exact nomatch (show ("tuple_iterator" : String) = "tuple" from Value.type.inj (c1.symm.trans c2))
    have hae : e ≠ a := fun z => by
      obtain ⟨o2, g2, c2, _⟩ := p'
      rw [← z] at g2
      have he' : s.heap.get? e = some _ := he
      rw [he'] at g2
      cases g2
      exact nomatch (show ("enumerate" : String) = "tuple" from Value.type.inj c2)
    have hii : i < its.length := (List.getElem?_eq_some_iff.mp hu).1
    refine wpAny_pyNext_enum_itemD (Draws.tuple (A := X.A.in1) (I.ok.hd hc) it a hai its.toArray) he ⟨hit, p'⟩ (by simpa using hii) hne (by simp [hne, hae]) fun y h' tk hPy ho hit' hT hsz hk => ?_
    have hyu : y = u := by
      have q : its.toArray[i]? = some y := hPy
      have q2 : its[i]? = some y := by simpa using q
      rw [hu] at q2
      exact (Option.some.inj q2).symm
    subst hyu
    refine ⟨_, rfl, wpAny_letOwnedTupleGo_enum (s := { s with heap := h', toks := tk + 1 }) ho fun h'' he' sb => ?_⟩
    have hT2 : h''.get? s.heap.objs.size = some { cls := .type "tuple", data := .seq #[.int i tk, y] } := (sb.2 _ (Nat.ne_of_gt hel)).trans hT
    have new : ObjOk X.prog X.w (upd H s.heap.objs.size (.tup [.int (i : Nat), x])) h'' s.heap.objs.size (.tup [.int (i : Nat), x]) :=
      ⟨by show 2 ≤ sizeLine; decide, [.int i tk, y], .cons ⟨_, rfl⟩ (.cons ru .nil), ⟨_, hT2, rfl, _, rfl⟩⟩
    have I1 : Inv X pins σ (upd H s.heap.objs.size (.tup [.int (i : Nat), x])) { s with heap := h'', toks := tk + 1 } :=
      I.turnedNew (ch := [e, it]) (fun b ob hb q => (sb.2 b (fun z => hb (by simp [z]))).trans (hk b ob (fun z => hb (by simp [z])) (fun z => hb (by simp [z])) q)) hf (Nat.le_refl _) new
    refine ⟨.ref s.heap.objs.size, _, I1, rfl, ⟨_, x, rfl, I.hok.fresh (Nat.le_refl _), rfl, fun ys hy => by rw [I.tuple_inj hy hq]; exact hx⟩, ⟨⟨y, ?_⟩, hit'.1.at (fun o q => (sb.2 it (Ne.symm hne)).trans q), hne⟩, fun b hb => ?_⟩
    · rw [show ((i + 1 : Nat) : Int) = (i : Int) + 1 by omega]
      exact he'
    · have hb' : b < s.heap.objs.size := (show b = e ∨ b = it by simpa using hb).elim (fun z => z ▸ hel) (fun z => z ▸ hil)
      rw [upd_ne (Nat.ne_of_lt hb')]
      exact (hf b hb).1
  done := by
    intro X hP hw hK hc i pins s σ H E I hf st hg
    subst hP hw hK
    obtain ⟨⟨old, he⟩, hit, hne⟩ := st
    obtain ⟨xs, hq, hx⟩ := hg
    obtain ⟨its, rv, p, hz⟩ := I.tuple hq
    have p' : s.heap.IsTuple a its.toArray := p
    obtain ⟨f0, f1, f2, f3, f4, f5⟩ := hf it (by simp)
    have hl := rv.length
    have hT : s.TypeIs (.ref e) "enumerate" := ⟨_, he, rfl⟩
    unfold pyNext
    refine wpAny_bind (wpAny_attempt (wpAny_callSpecial?_slot (name := Str.ofString "__next__") hT F.slot_enumerate_next (wpAny_call_entry F.slot_enumerate_next hT F.entry_enumerate_next ?_ (F.args_enumerate_next_1 _))))
    show wpAny _ _ (field (.ref e) 2 >>= _) _ _ _
    refine wpAny_bind (wpAny_field he rfl (x := .ref it) rfl ?_)
    refine wpAny_bind (wpAny_nextOf_tuple_end (A := X.A.in1) (I.ok.hd hc) hit p' (by simp; omega) fun h' z he' hz' => ?_)
    obtain ⟨o, ho, hc'⟩ := hz'
    refine wpAny_bind (wpAny_isInstance (T := "StopIteration") (b := true) ⟨o, ho, hc'⟩ isSubtype_stop ?_)
    exact wpAny_pure ⟨rfl, I.turned (t' := s.toks) (fun b o hb q => he' b o hb q) f0 f1 f3 f4 f5⟩
  self := fun A i s Q E st h => let ⟨⟨_, he⟩, _⟩ := st; wpAny_pyIter_enum he h
def iEnumT (K : PySem.W.Frag) (ta : TA) : TI := fun σ H R => ta σ H fun vs H1 => ∃ a xs, vs = [.ref a] ∧ SqT K H1 a xs ∧ R (IteT K a) H1
theorem pi_enumT {X : Cx} {e : Expr} {ta : TA} {p pos tpos : Pos} {elts : List Expr} {kk : Nat} (hg : Gl X "enumerate") (hm : X.mg "enumerate" = none) (ha : PA X [e] ta) (hs : starEach [e] X.env = [(false, eval e X.env)] := by rfl) :
    PI X (.Tuple elts kk tpos) (.Call (.Name "enumerate" p) [e] [] pos) (iEnumT X.K ta) := by
  constructor
  intro pins s σ H R I h
  refine Call_ (ld_blt I hg hm boot_enumerate (PyProof.Rows.callWith_type1 (thn (ha.run pos pins s σ H _ I h) fun us s1 ⟨vs, H1, I1, r1, q1⟩ => ?_) hs rfl))
  obtain ⟨a, xs, rfl, hq, q⟩ := q1
  obtain ⟨u, rfl, ru⟩ := vals1 r1
  cases ru
  obtain ⟨its, rv, p', hz⟩ := I1.tuple hq
  refine call_enumT (show s1.heap.IsTuple a its.toArray from p') fun h' he hit hsz hk => wpAny_pyIter_enum he ?_
  have I2 : Inv X pins σ H1 { s1 with heap := h' } := I1.kept (t' := s1.toks) hk
  refine ⟨s1.heap.objs.size + 1, [s1.heap.objs.size + 1, s1.heap.objs.size], _, _, H1, rfl, I2, turn_enumT a (s1.heap.objs.size + 1) s1.heap.objs.size, ⟨⟨.none, he⟩, hit, Nat.succ_ne_self _⟩, fun b hb => ?_, q⟩
  have hle : s1.heap.objs.size ≤ b := (show b = s1.heap.objs.size + 1 ∨ b = s1.heap.objs.size by simpa using hb).elim (fun z => z ▸ Nat.le_add_right _ _) (fun z => Nat.le_of_eq z.symm)
  exact I1.fpOk hle (I1.hok.fresh hle)
/-- the loops: the pair is taken apart -/
theorem flE {K : PySem.W.Frag} {a : Addr} {xs : List V} {g : TG} {tb : TS} {D : Ends} {σ : L2.St} {H : Hp} (Pv : Nat → L2.St → Hp → Prop) (h0 : Pv 0 σ H) (hl : ∀ i σ H, i ≤ xs.length → Pv i σ H → SqL K H a xs)
    (hs : ∀ i x σ H, xs[i]? = some x → Pv i σ H → ∀ T, H T = none → ∀ D', Bd D (Pv (i + 1)) D' → g (.ref T) σ (upd H T (.tup [.int (i : Nat), x])) fun σ2 H2 => tb D' σ2 H2) (hd : ∀ σ H, Pv xs.length σ H → D.nx σ H) :
    ∃ W : Nat → Nat → L2.St → Hp → Prop, (∃ m, W 0 m σ H) ∧ ∀ i m σ H, W i m σ H →
      ((Ite K a).stop i H ∧ D.nx σ H) ∨ ((Ite K a).go i H ∧ ∃ N : L2.St → Hp → Prop, (∀ σ' H', N σ' H' → ∃ m', m' < m ∧ W (i + 1) m' σ' H') ∧ ∀ x H', (Ite K a).yld i H x H' → g x σ H' fun σ2 H2 => tb { D with nx := N, ct := N, bk := D.nx } σ2 H2) := by
  refine ⟨fun i m σ H => i + m = xs.length ∧ Pv i σ H, ⟨xs.length, by omega, h0⟩, ?_⟩
  rintro i m σ H ⟨he, hp⟩
  have hq := hl i σ H (by omega) hp
  cases m with
  | zero => exact .inl ⟨⟨xs, hq, by omega⟩, hd σ H ((show i = xs.length by omega) ▸ hp)⟩
  | succ m =>
    have hi : i < xs.length := by omega
    refine .inr ⟨⟨xs, xs[i], hq, by simp [hi]⟩, fun σ' H' => Pv (i + 1) σ' H', fun σ' H' h => ⟨m, Nat.lt_succ_self m, by omega, h⟩, ?_⟩
    rintro v H' ⟨T, x, rfl, nT, rfl, hx⟩
    exact hs i x σ H (hx xs hq) hp T nT _ ⟨fun _ _ h => h, fun _ _ h => h, fun _ _ h => h, fun _ _ h => h⟩
theorem flET {K : PySem.W.Frag} {a : Addr} {xs : List V} {g : TG} {tb : TS} {D : Ends} {σ : L2.St} {H : Hp} (Pv : Nat → L2.St → Hp → Prop) (h0 : Pv 0 σ H) (hl : ∀ i σ H, i ≤ xs.length → Pv i σ H → SqT K H a xs)
    (hs : ∀ i x σ H, xs[i]? = some x → Pv i σ H → ∀ T, H T = none → ∀ D', Bd D (Pv (i + 1)) D' → g (.ref T) σ (upd H T (.tup [.int (i : Nat), x])) fun σ2 H2 => tb D' σ2 H2) (hd : ∀ σ H, Pv xs.length σ H → D.nx σ H) :
    ∃ W : Nat → Nat → L2.St → Hp → Prop, (∃ m, W 0 m σ H) ∧ ∀ i m σ H, W i m σ H →
      ((IteT K a).stop i H ∧ D.nx σ H) ∨ ((IteT K a).go i H ∧ ∃ N : L2.St → Hp → Prop, (∀ σ' H', N σ' H' → ∃ m', m' < m ∧ W (i + 1) m' σ' H') ∧ ∀ x H', (IteT K a).yld i H x H' → g x σ H' fun σ2 H2 => tb { D with nx := N, ct := N, bk := D.nx } σ2 H2) := by
  refine ⟨fun i m σ H => i + m = xs.length ∧ Pv i σ H, ⟨xs.length, by omega, h0⟩, ?_⟩
  rintro i m σ H ⟨he, hp⟩
  have hq := hl i σ H (by omega) hp
  cases m with
  | zero => exact .inl ⟨⟨xs, hq, by omega⟩, hd σ H ((show i = xs.length by omega) ▸ hp)⟩
  | succ m =>
    have hi : i < xs.length := by omega
    refine .inr ⟨⟨xs, xs[i], hq, by simp [hi]⟩, fun σ' H' => Pv (i + 1) σ' H', fun σ' H' h => ⟨m, Nat.lt_succ_self m, by omega, h⟩, ?_⟩
    rintro v H' ⟨T, x, rfl, nT, rfl, hx⟩
    exact hs i x σ H (hx xs hq) hp T nT _ ⟨fun _ _ h => h, fun _ _ h => h, fun _ _ h => h, fun _ _ h => h⟩
end HX
set_option linter.all false
/-! turns and values: integers by the places where their bits change (plain mathematics) -/
namespace TV
/-- the value of ascending turns, the first with sign s -/
def tvs : Int → List Nat → Int
  | _, [] => 0
  | s, t :: r => s * 2 ^ t + tvs (-s) r
def tv (ts : List Nat) : Int := tvs (-1) ts
def Asc : List Nat → Prop
  | [] => True
  | [_] => True
  | a :: b :: r => a < b ∧ Asc (b :: r)
theorem Asc.tail {a : Nat} {r : List Nat} (h : Asc (a :: r)) : Asc r := by
  cases r with
  | nil => trivial
  | cons b r => exact h.2
theorem Asc.lt {a : Nat} : ∀ {r : List Nat}, Asc (a :: r) → ∀ b ∈ r, a < b
  | [], _, b, hb => by simp at hb
  | c :: r, h, b, hb => by
    rcases List.mem_cons.mp hb with rfl | hb
    · exact h.1
    · exact Nat.lt_trans h.1 (Asc.lt h.2 b hb)
theorem asc_cons {a : Nat} {r : List Nat} (h : ∀ b ∈ r, a < b) (hr : Asc r) : Asc (a :: r) := by
  cases r with
  | nil => trivial
  | cons b r => exact ⟨h b (by simp), hr⟩
theorem asc_pairwise : ∀ {l : List Nat}, Asc l ↔ l.Pairwise (· < ·)
  | [] => by simp [Asc]
  | a :: r => by
    rw [List.pairwise_cons]
    constructor
    · intro h
      exact ⟨fun b hb => Asc.lt h b hb, asc_pairwise.mp h.tail⟩
    · rintro ⟨h1, h2⟩
      exact asc_cons h1 (asc_pairwise.mpr h2)
theorem tvs_neg (s : Int) : ∀ ts, tvs (-s) ts = -tvs s ts
  | [] => by simp [tvs]
  | t :: r => by
    have := tvs_neg (-s) r
    simp only [tvs, Int.neg_neg] at *
    rw [Int.neg_mul]
    omega
theorem tv_cons (t : Nat) (r : List Nat) : tv (t :: r) = -(2 ^ t) - tv r := by
  show (-1 : Int) * 2 ^ t + tvs (- -1) r = -(2 ^ t) - tvs (-1) r
  rw [tvs_neg (-1) r]
  omega
theorem tv_nil : tv [] = 0 := rfl
/-- the bit of n at p -/
def tb (n : Int) (p : Nat) : Bool := decide (n / 2 ^ p % 2 = 1)
theorem tb_zero (n : Int) : tb n 0 = decide (n % 2 = 1) := by simp [tb]
theorem tb_succ (n : Int) (p : Nat) : tb n (p + 1) = tb (n / 2) p := by
  unfold tb
  rw [Int.pow_succ, Int.mul_comm, ← Int.ediv_ediv_of_nonneg (by decide)]
/-- how many turns are at most p -/
def cnt (ts : List Nat) (p : Nat) : Nat := ts.countP fun t => decide (t ≤ p)
theorem cnt_nil (p : Nat) : cnt [] p = 0 := rfl
theorem cnt_cons (t : Nat) (r : List Nat) (p : Nat) : cnt (t :: r) p = cnt r p + if t ≤ p then 1 else 0 := by
  unfold cnt
  rw [List.countP_cons]
  simp
theorem cnt_zero {ts : List Nat} {p : Nat} (h : ∀ t ∈ ts, p < t) : cnt ts p = 0 := by
  unfold cnt
  rw [List.countP_eq_zero]
  intro t ht
  have := h t ht
  simp
  omega
/-- halving: the value of shifted turns -/
theorem tv_map_succ : ∀ ts : List Nat, tv (ts.map (· + 1)) = 2 * tv ts
  | [] => rfl
  | t :: r => by
    rw [List.map_cons, tv_cons, tv_cons, tv_map_succ r, Int.pow_succ]
    omega
theorem pred_map {ts : List Nat} (h : ∀ t ∈ ts, 0 < t) : (ts.map (· - 1)).map (· + 1) = ts := by
  rw [List.map_map]
  conv => rhs; rw [← List.map_id ts]
  apply List.map_congr_left
  intro t ht
  have := h t ht
  show t - 1 + 1 = t
  omega
theorem asc_pred : ∀ {ts : List Nat}, Asc ts → (∀ t ∈ ts, 0 < t) → Asc (ts.map (· - 1))
  | [], _, _ => trivial
  | [_], _, _ => trivial
  | a :: b :: r, h, h0 => by
    have ha := h0 a (by simp)
    refine ⟨by have := h.1; show a - 1 < b - 1; omega, asc_pred h.2 fun t ht => h0 t (by simp [ht])⟩
theorem cnt_succ {ts : List Nat} (h : ∀ t ∈ ts, 0 < t) (p : Nat) : cnt ts (p + 1) = cnt (ts.map (· - 1)) p := by
  unfold cnt
  rw [List.countP_map]
  apply List.countP_congr
  intro t ht
  have := h t ht
  simp

/-- the bits of a row of turns: how many are passed, odd or even -/
theorem tb_tv : ∀ (p : Nat) {ts : List Nat}, Asc ts → tb (tv ts) p = decide (cnt ts p % 2 = 1)
  | 0, [], _ => by decide
  | 0, t :: r, h => by
    have hr : ∀ b ∈ r, 0 < b := fun b hb => by have := Asc.lt h b hb; omega
    have e : tv r = 2 * tv (r.map (· - 1)) := by
      rw [← tv_map_succ, pred_map hr]
    rw [tb_zero, tv_cons, cnt_cons, cnt_zero hr, e]
    cases t with
    | zero => simp
    | succ t =>
      rw [Int.pow_succ]
      simp

  | p + 1, [], _ => by
    rw [tb_succ]
    exact tb_tv p (ts := []) trivial
  | p + 1, t :: r, h => by
    have hr : ∀ b ∈ r, 0 < b := fun b hb => by have := Asc.lt h b hb; omega
    have er : tv r = 2 * tv (r.map (· - 1)) := by
      rw [← tv_map_succ, pred_map hr]
    rw [tb_succ]
    cases t with
    | succ t =>
      have h0 : ∀ b ∈ (t + 1) :: r, 0 < b := fun b hb => by
        rcases List.mem_cons.mp hb with rfl | hb
        · omega
        · exact hr b hb
      have e : tv ((t + 1) :: r) = 2 * tv (((t + 1) :: r).map (· - 1)) := by
        rw [← tv_map_succ, pred_map h0]
      rw [e, Int.mul_ediv_cancel_left _ (by decide), tb_tv p (asc_pred h h0), cnt_succ h0]
    | zero =>
      -- n = -1 - 2 m = 2 (-m - 1) + 1
      rw [tv_cons, er]
      have e2 : (-(2 ^ 0) - 2 * tv (r.map (· - 1)) : Int) / 2 = -tv (r.map (· - 1)) - 1 := by
        rw [Int.pow_zero]
        omega
      rw [e2, cnt_cons, if_pos (Nat.zero_le _)]
      have hA : Asc (r.map (· - 1)) := asc_pred h.tail hr
      have ih := tb_tv p hA
      -- the bits of -m - 1 are those of m turned
      have e3 : tb (-tv (r.map (· - 1)) - 1) p = !tb (tv (r.map (· - 1))) p := by
        unfold tb
        generalize tv (r.map (· - 1)) = m
        have hp : (0 : Int) < 2 ^ p := Int.pow_pos (by decide)
        have e4 : (-m - 1) / 2 ^ p = -(m / 2 ^ p) - 1 := by
          have h1 := Int.emod_nonneg m (Int.ne_of_gt hp)
          have h2 := Int.emod_lt_of_pos m hp
          have h3 := Int.mul_ediv_add_emod m (2 ^ p)
          rw [show -m - 1 = (2 ^ p - 1 - m % 2 ^ p) + 2 ^ p * (-(m / 2 ^ p) - 1) by
            rw [Int.mul_sub, Int.mul_neg]
            omega]
          rw [Int.add_mul_ediv_left _ _ (Int.ne_of_gt hp), Int.ediv_eq_zero_of_lt (by omega) (by omega), Int.zero_add]
        rw [e4]
        generalize m / 2 ^ p = q
        rcases Int.emod_two_eq q with e | e
        · simp [e]; omega
        · simp [e]; omega
      rw [e3, ih, cnt_succ hr]
      rcases Nat.mod_two_eq_zero_or_one (cnt (r.map (· - 1)) p) with e | e
      · simp [e]; omega
      · simp [e]; omega
/-- integers with the same bits are equal -/
theorem tb_ext {n m : Int} (h : ∀ p, tb n p = tb m p) : n = m := by
  have key : ∀ (k : Nat) (n m : Int), (∀ p, tb n p = tb m p) → (n - m) % 2 ^ k = 0 := by
    intro k
    induction k with
    | zero => intro n m _; simp
    | succ k ih =>
      intro n m h
      have h0 := h 0
      rw [tb_zero, tb_zero] at h0
      have h1 := ih (n / 2) (m / 2) fun p => by
        have := h (p + 1)
        rwa [tb_succ, tb_succ] at this
      have hm : n % 2 = m % 2 := by
        have e1 := Int.emod_two_eq n
        have e2 := Int.emod_two_eq m
        rcases e1 with e1 | e1 <;> rcases e2 with e2 | e2 <;> simp [e1, e2] at h0 ⊢
      obtain ⟨c, hc⟩ := Int.dvd_of_emod_eq_zero h1
      have : n - m = 2 ^ (k + 1) * c := by
        have e1 : n - m = 2 * (n / 2 - m / 2) := by omega
        rw [e1, hc, Int.pow_succ]
        rw [← Int.mul_assoc, Int.mul_comm 2]
      rw [this, Int.mul_emod_right]
  apply Classical.byContradiction
  intro hne
  have hd := key (n - m).natAbs n m h
  have hlt : (n - m).natAbs < 2 ^ (n - m).natAbs := Nat.lt_two_pow_self
  obtain ⟨c, hc⟩ := Int.dvd_of_emod_eq_zero hd
  have h1 : (n - m).natAbs = 2 ^ (n - m).natAbs * c.natAbs := by
    conv => lhs; rw [hc]
    rw [Int.natAbs_mul, Int.natAbs_pow]
    rfl
  have h2 : c.natAbs ≠ 0 := by
    intro e
    rw [e] at h1
    omega
  have h3 : 2 ^ (n - m).natAbs * 1 ≤ 2 ^ (n - m).natAbs * c.natAbs := Nat.mul_le_mul_left _ (by omega)
  omega
theorem mem_cnt {ts : List Nat} (h : Asc ts) (p : Nat) : p ∈ ts ↔ cnt ts p ≠ (if p = 0 then 0 else cnt ts (p - 1)) := by
  induction ts with
  | nil => simp [cnt]
  | cons t r ih =>
    have ih := ih h.tail
    rw [List.mem_cons, cnt_cons, cnt_cons]
    have hlt := fun b hb => Asc.lt h b hb
    by_cases e : p = t
    · subst e
      have hz : cnt r p = 0 := cnt_zero hlt
      by_cases p0 : p = 0
      · simp [p0] at *

      · have hz2 : cnt r (p - 1) = 0 := cnt_zero fun b hb => by have := hlt b hb; omega
        simp [p0, hz, hz2]
        omega
    · by_cases p0 : p = 0
      · subst p0
        have hz : cnt r 0 = 0 := cnt_zero fun b hb => by have := hlt b hb; omega
        simp at *
        constructor
        · rintro (z | z)
          · omega
          · have := hlt 0 z; omega
        · intro z
          omega
      · simp only [p0, if_false] at *
        rw [ih]
        simp only [e, false_or]
        by_cases c : t ≤ p
        · have c2 : t ≤ p - 1 := by omega
          simp [c, c2]
        · have c2 : ¬ t ≤ p - 1 := by omega
          simp [c, c2]
theorem cnt_mono (ts : List Nat) (p : Nat) : Asc ts → cnt ts p ≤ cnt ts (p + 1) ∧ cnt ts (p + 1) ≤ cnt ts p + 1 := by
  intro h
  induction ts with
  | nil => simp [cnt]
  | cons t r ih =>
    have ih := ih h.tail
    have hlt := fun b hb => Asc.lt h b hb
    rw [cnt_cons, cnt_cons]
    by_cases c : t ≤ p
    · have : t ≤ p + 1 := by omega
      simp [c, this]
      omega
    · by_cases c2 : t ≤ p + 1
      · have e : t = p + 1 := by omega
        have hz : cnt r (p + 1) = 0 := cnt_zero fun b hb => by have := hlt b hb; omega
        have hz2 : cnt r p = 0 := cnt_zero fun b hb => by have := hlt b hb; omega
        simp [c, c2, hz, hz2]
      · simp [c, c2]
        omega
/-- p is a turn exactly if the bit there differs from the one before -/
theorem mem_tb {ts : List Nat} (h : Asc ts) (p : Nat) : p ∈ ts ↔ tb (tv ts) p ≠ (if p = 0 then false else tb (tv ts) (p - 1)) := by
  rw [mem_cnt h, tb_tv p h]
  by_cases p0 : p = 0
  · subst p0
    have : cnt ts 0 ≤ 1 := by
      cases ts with
      | nil => simp [cnt]
      | cons t r =>
        rw [cnt_cons, cnt_zero fun b hb => by have := Asc.lt h b hb; omega]
        split <;> omega
    simp
    omega
  · obtain ⟨q, rfl⟩ : ∃ q, p = q + 1 := ⟨p - 1, by omega⟩
    simp only [Nat.add_sub_cancel, Nat.add_one_ne_zero, if_false]
    rw [tb_tv q h]
    have := cnt_mono ts q h
    have h2 := Nat.mod_two_eq_zero_or_one (cnt ts q)
    have h3 := Nat.mod_two_eq_zero_or_one (cnt ts (q + 1))
    rcases h2 with e2 | e2 <;> rcases h3 with e3 | e3 <;> simp [e2, e3] <;> omega
theorem asc_ext : ∀ {ts us : List Nat}, Asc ts → Asc us → (∀ p, p ∈ ts ↔ p ∈ us) → ts = us
  | [], [], _, _, _ => rfl
  | [], u :: _, _, _, h => absurd ((h u).mpr (by simp)) (by simp)
  | t :: _, [], _, _, h => absurd ((h t).mp (by simp)) (by simp)
  | t :: r, u :: q, h1, h2, h => by
    have e : t = u := by
      have a := (h t).mp (by simp)
      have b := (h u).mpr (by simp)
      rcases List.mem_cons.mp a with a | a
      · exact a
      · rcases List.mem_cons.mp b with b | b
        · exact b.symm
        · have := Asc.lt h2 t a
          have := Asc.lt h1 u b
          omega
    subst e
    congr 1
    refine asc_ext h1.tail h2.tail fun p => ?_
    constructor
    · intro hp
      have := Asc.lt h1 p hp
      rcases List.mem_cons.mp ((h p).mp (by simp [hp])) with z | z
      · omega
      · exact z
    · intro hp
      have := Asc.lt h2 p hp
      rcases List.mem_cons.mp ((h p).mpr (by simp [hp])) with z | z
      · omega
      · exact z
/-- one integer, one row of turns -/
theorem tv_inj {ts us : List Nat} (h1 : Asc ts) (h2 : Asc us) (h : tv ts = tv us) : ts = us :=
  asc_ext h1 h2 fun p => by rw [mem_tb h1, mem_tb h2, h]
/-! ### every integer has its turns -/
theorem asc_succ : ∀ {ts : List Nat}, Asc ts → Asc (ts.map (· + 1))
  | [], _ => trivial
  | [_], _ => trivial
  | a :: b :: r, h => ⟨by have := h.1; show a + 1 < b + 1; omega, asc_succ h.2⟩
theorem turns_ex : ∀ n : Int, ∃ ts, Asc ts ∧ tv ts = n := by
  have key : ∀ (k : Nat) (n : Int), 2 * n.natAbs + (if 0 < n then 1 else 0) ≤ k → ∃ ts, Asc ts ∧ tv ts = n := by
    intro k
    induction k with
    | zero =>
      intro n h
      have : n = 0 := by omega
      subst this
      exact ⟨[], trivial, rfl⟩
    | succ k ih =>
      intro n h
      by_cases h0 : n = 0
      · subst h0
        exact ⟨[], trivial, rfl⟩
      rcases Int.emod_two_eq n with e | e
      · obtain ⟨ts, h1, h2⟩ := ih (n / 2) (by split at h <;> split <;> omega)
        exact ⟨ts.map (· + 1), asc_succ h1, by rw [tv_map_succ, h2]; omega⟩
      · obtain ⟨ts, h1, h2⟩ := ih (-(n / 2) - 1) (by split at h <;> split <;> omega)
        refine ⟨0 :: ts.map (· + 1), asc_cons (fun b hb => ?_) (asc_succ h1), ?_⟩
        · obtain ⟨c, _, rfl⟩ := List.mem_map.mp hb
          omega
        · rw [tv_cons, tv_map_succ, h2, Int.pow_zero]
          omega
  intro n
  exact key _ n (Nat.le_refl _)
/-! ### the marks: a one at each turn -/
open PySem PyProof.Rows PySem.W in
theorem tb_and (x y : Int) : ∀ p, tb (Builtin.bitAnd x y) p = (tb x p && tb y p) := by
  intro p
  induction p generalizing x y with
  | zero =>
    rw [tb_zero, tb_zero, tb_zero, kbt_halves x y]
    have h1 := Int.emod_two_eq x
    have h2 := Int.emod_two_eq y
    rcases h1 with h1 | h1 <;> rcases h2 with h2 | h2 <;> simp [h1, h2] <;> omega
  | succ p ih =>
    rw [tb_succ, tb_succ, tb_succ, ← ih]
    congr 1
    rw [kbt_halves x y]
    split <;> omega
open PySem PyProof.Rows PySem.W in
theorem tb_xor (x y : Int) : ∀ p, tb (Builtin.bitXor x y) p = (tb x p ^^ tb y p) := by
  intro p
  induction p generalizing x y with
  | zero =>
    rw [tb_zero, tb_zero, tb_zero, bitXor_and x y]
    have h1 := Int.emod_two_eq x
    have h2 := Int.emod_two_eq y
    rcases h1 with h1 | h1 <;> rcases h2 with h2 | h2 <;> simp [h1, h2] <;> omega
  | succ p ih =>
    rw [tb_succ, tb_succ, tb_succ, ← ih]
    congr 1
    rw [bitXor_and, bitXor_and, kbt_halves x y]
    have h1 := Int.emod_two_eq x
    have h2 := Int.emod_two_eq y
    rcases h1 with h1 | h1 <;> rcases h2 with h2 | h2 <;> simp [h1, h2] <;> omega
/-- the sum of the powers of two at the turns -/
def psum : List Nat → Int
  | [] => 0
  | t :: r => 2 ^ t + psum r
theorem psum_map_succ : ∀ ts : List Nat, psum (ts.map (· + 1)) = 2 * psum ts
  | [] => rfl
  | t :: r => by
    rw [List.map_cons, psum, psum, psum_map_succ r, Int.pow_succ]
    omega
theorem psum_nonneg : ∀ ts : List Nat, 0 ≤ psum ts
  | [] => Int.le_refl _
  | t :: r => by
    have := psum_nonneg r
    have : (0 : Int) < 2 ^ t := Int.pow_pos (by decide)
    show 0 ≤ 2 ^ t + psum r
    omega
theorem psum_low {t : Nat} : ∀ {r : List Nat}, (∀ b ∈ r, t < b) → ∃ c, psum r = 2 ^ (t + 1) * c
  | [], _ => ⟨0, by simp [psum]⟩
  | b :: r, h => by
    obtain ⟨c, e⟩ := psum_low (r := r) fun x hx => h x (by simp [hx])
    have hb := h b (by simp)
    refine ⟨2 ^ (b - (t + 1)) + c, ?_⟩
    rw [psum, e, Int.mul_add, ← Int.pow_add]
    congr 3
    omega
theorem psum_cons {t : Nat} {r : List Nat} (h : Asc (t :: r)) : ∃ c, psum (t :: r) = 2 ^ t * (2 * c + 1) := by
  obtain ⟨c, e⟩ := psum_low fun b hb => Asc.lt h b hb
  refine ⟨c, ?_⟩
  rw [psum, e, Int.pow_succ, Int.mul_add, Int.mul_one, ← Int.mul_assoc]
  omega
theorem tb_psum : ∀ (p : Nat) {ts : List Nat}, Asc ts → tb (psum ts) p = decide (p ∈ ts)
  | p, [], _ => by simp [psum, tb]
  | 0, t :: r, h => by
    have hr : ∀ b ∈ r, 0 < b := fun b hb => by have := Asc.lt h b hb; omega
    have e : psum r = 2 * psum (r.map (· - 1)) := by rw [← psum_map_succ, pred_map hr]
    have hn : 0 ∉ r := fun z => by have := hr 0 z; omega
    rw [tb_zero, psum, e]
    cases t with
    | zero => simp
    | succ t =>
      rw [Int.pow_succ]
      simp [hn]

  | p + 1, t :: r, h => by
    have hr : ∀ b ∈ r, 0 < b := fun b hb => by have := Asc.lt h b hb; omega
    have er : psum r = 2 * psum (r.map (· - 1)) := by rw [← psum_map_succ, pred_map hr]
    have hA := asc_pred h.tail hr
    have hm : ∀ {l : List Nat}, (∀ b ∈ l, 0 < b) → (p ∈ l.map (· - 1) ↔ p + 1 ∈ l) := fun {l} hl => by
      rw [List.mem_map]
      constructor
      · rintro ⟨a, ha, e⟩
        have := hl a ha
        have : a = p + 1 := by omega
        exact this ▸ ha
      · intro hp
        exact ⟨p + 1, hp, by omega⟩
    rw [tb_succ, psum]
    cases t with
    | zero =>
      rw [er, show ((2 : Int) ^ 0 + 2 * psum (r.map (· - 1))) / 2 = psum (r.map (· - 1)) by rw [Int.pow_zero]; omega, tb_psum p hA]
      simp [hm hr]
    | succ t =>
      have h0 : ∀ b ∈ (t + 1) :: r, 0 < b := fun b hb => by
        rcases List.mem_cons.mp hb with rfl | hb
        · omega
        · exact hr b hb
      have e : (2 : Int) ^ (t + 1) + psum r = 2 * psum (((t + 1) :: r).map (· - 1)) := by
        show psum ((t + 1) :: r) = _
        rw [← psum_map_succ, pred_map h0]
      rw [e, Int.mul_ediv_cancel_left _ (by decide), tb_psum p (asc_pred h h0)]
      exact decide_eq_decide.mpr (hm h0)
theorem tb_dbl (n : Int) (p : Nat) : tb (n * 2) p = if p = 0 then false else tb n (p - 1) := by
  cases p with
  | zero => simp [tb_zero]
  | succ p => rw [tb_succ, Int.mul_ediv_cancel _ (by decide)]; simp
open PySem PyProof.Rows PySem.W in
theorem marks {ts : List Nat} (h : Asc ts) : Builtin.bitXor (tv ts) (tv ts * 2) = psum ts := by
  apply tb_ext
  intro p
  rw [tb_xor, tb_dbl, tb_psum p h]
  have := mem_tb h p
  by_cases hp : p ∈ ts
  · rw [decide_eq_true hp]
    have := this.mp hp
    revert this
    cases tb (tv ts) p <;> cases (if p = 0 then false else tb (tv ts) (p - 1)) <;> simp
  · rw [decide_eq_false hp]
    have h2 : ¬ _ := fun z => hp (this.mpr z)
    revert h2
    cases tb (tv ts) p <;> cases (if p = 0 then false else tb (tv ts) (p - 1)) <;> simp
open PySem PyProof.Rows PySem.W in
/-- one step of reading the marks -/
theorem low_mark {t : Nat} {r : List Nat} (h : Asc (t :: r)) : Builtin.bitAnd (psum (t :: r)) (-psum (t :: r)) = 2 ^ t := by
  obtain ⟨c, e⟩ := psum_cons h
  rw [e]
  exact kbt_low t c
open PySem PyProof.Rows PySem.W in
theorem off_mark {t : Nat} {r : List Nat} (h : Asc (t :: r)) : Builtin.bitXor (psum (t :: r)) (2 ^ t) = psum r := by
  obtain ⟨c, e⟩ := psum_cons h
  have hp : (0 : Int) < 2 ^ t := Int.pow_pos (by decide)
  rw [bitXor_and, kbt_bit]
  have e2 : psum (t :: r) / 2 ^ t % 2 = 1 := by
    rw [e, Int.mul_ediv_cancel_left _ (Int.ne_of_gt hp)]
    omega
  rw [e2, psum]
  omega
theorem psum_pos {t : Nat} {r : List Nat} : 0 < psum (t :: r) := by
  have := psum_nonneg r
  have : (0 : Int) < 2 ^ t := Int.pow_pos (by decide)
  show 0 < 2 ^ t + psum r
  omega
/-! ### the sign of a row of turns -/
theorem tv_bound : ∀ {ts : List Nat} {k : Nat}, Asc ts → (∀ t ∈ ts, t < k) → -(2 ^ k) < tv ts ∧ tv ts < 2 ^ k
  | [], k, _, _ => by
    have : (0 : Int) < 2 ^ k := Int.pow_pos (by decide)
    rw [tv_nil]
    omega
  | [t], k, h, hb => by
    have h1 := hb t (by simp)
    have h2 : (2 : Int) ^ t < 2 ^ k := Int.pow_lt_pow_of_lt (by decide) h1
    have h3 : (0 : Int) < 2 ^ t := Int.pow_pos (by decide)
    rw [tv_cons, tv_nil]
    omega
  | t :: u :: r, k, h, hb => by
    -- the rest is between -2^k and 2^k, and has a low part
    have ih := tv_bound h.tail (fun x hx => hb x (by simp [hx]))
    have h1 := hb t (by simp)
    have h3 : (0 : Int) < 2 ^ t := Int.pow_pos (by decide)
    -- tv (u :: r) is a multiple of 2 ^ (t + 1)
    have hm : ∀ {l : List Nat}, (∀ b ∈ l, t < b) → ∃ c, tv l = 2 ^ (t + 1) * c := by
      intro l
      induction l with
      | nil => intro _; exact ⟨0, by simp [tv_nil]⟩
      | cons b l ihl =>
        intro hl
        obtain ⟨c, e⟩ := ihl fun x hx => hl x (by simp [hx])
        have hbt := hl b (by simp)
        refine ⟨-(2 ^ (b - (t + 1))) - c, ?_⟩
        rw [tv_cons, e, Int.mul_sub, Int.mul_neg, ← Int.pow_add]
        congr 3
        omega
    obtain ⟨c, e⟩ := hm fun b hb => Asc.lt h b hb
    have e2 : (2 : Int) ^ k = 2 ^ (t + 1) * 2 ^ (k - (t + 1)) := by
      rw [← Int.pow_add]
      congr 1
      omega
    rw [tv_cons]
    have h4 : (2 : Int) ^ (t + 1) = 2 * 2 ^ t := by rw [Int.pow_succ]; omega
    rw [e, e2] at ih
    have hq : (0 : Int) < 2 ^ (t + 1) := Int.pow_pos (by decide)
    have a1 : -(2 ^ (k - (t + 1))) < c := by
      have := ih.1
      rw [← Int.mul_neg] at this
      exact Int.lt_of_mul_lt_mul_left this (Int.le_of_lt hq)
    have a2 : c < 2 ^ (k - (t + 1)) := Int.lt_of_mul_lt_mul_left ih.2 (Int.le_of_lt hq)
    rw [e, e2]
    generalize hz : (2 : Int) ^ (k - (t + 1)) = z at *
    generalize hy : (2 : Int) ^ (t + 1) = y at *
    have b1 : y * (c + 1) ≤ y * z := Int.mul_le_mul_of_nonneg_left (by omega) (by omega)
    have b2 : y * (-z + 1) ≤ y * c := Int.mul_le_mul_of_nonneg_left (by omega) (by omega)
    rw [Int.mul_add, Int.mul_one] at b1 b2
    rw [Int.mul_neg] at b2
    omega
/-- the sign of a row: odd rows are below 0 -/
theorem tv_sign : ∀ {ts : List Nat} {t : Nat}, Asc (ts ++ [t]) → (tv (ts ++ [t]) < 0 ↔ ts.length % 2 = 0) ∧ tv (ts ++ [t]) ≠ 0 := by
  intro ts t h
  have hlow : ∀ x ∈ ts, x < t := by
    have := asc_pairwise.mp h
    rw [List.pairwise_append] at this
    exact fun x hx => this.2.2 x hx t (by simp)
  have hA : Asc ts := by
    have := asc_pairwise.mp h
    rw [List.pairwise_append] at this
    exact asc_pairwise.mpr this.1
  have hb := tv_bound hA hlow
  have e : tv (ts ++ [t]) = tv ts + (if ts.length % 2 = 0 then -(2 ^ t) else 2 ^ t) := by
    clear hb hA hlow h
    induction ts with
    | nil => simp [tv_cons, tv_nil]
    | cons a r ih =>
      rw [List.cons_append, tv_cons, tv_cons, ih, List.length_cons]
      split <;> split <;> omega
  rw [e]
  split <;> constructor <;> omega
end TV
set_option linter.all false
/-! forms as data: their values; forms of one value are one form -/
namespace FM
open PySem TV
/-! ### ranges -/
theorem tb_shift (n : Int) (k p : Nat) : tb (n / 2 ^ k) p = tb n (k + p) := by
  unfold tb
  rw [Int.pow_add, Int.ediv_ediv_of_nonneg (Int.le_of_lt (Int.pow_pos (by decide)))]
theorem tb_top (p : Nat) : tb 0 p = false := by simp [tb]
theorem tb_neg1 : ∀ p : Nat, tb (-1) p = true
  | 0 => by decide
  | p + 1 => by
    rw [tb_succ]
    exact tb_neg1 p
theorem cnt_all {ts : List Nat} {p : Nat} (h : ∀ t ∈ ts, t ≤ p) : cnt ts p = ts.length := by
  unfold cnt
  rw [List.countP_eq_length]
  intro t ht
  simp
  exact h t ht
/-- all turns at most k: exactly the integers of k bits and a sign -/
theorem tv_range {ts : List Nat} {k : Nat} (h : Asc ts) : (∀ t ∈ ts, t ≤ k) ↔ -(2 ^ k) ≤ tv ts ∧ tv ts < 2 ^ k := by
  have hp : (0 : Int) < 2 ^ k := Int.pow_pos (by decide)
  have iff1 : (-(2 ^ k) ≤ tv ts ∧ tv ts < 2 ^ k) ↔ (tv ts / 2 ^ k = 0 ∨ tv ts / 2 ^ k = -1) := by
    have h1 := Int.emod_nonneg (tv ts) (Int.ne_of_gt hp)
    have h2 := Int.emod_lt_of_pos (tv ts) hp
    have h3 := Int.mul_ediv_add_emod (tv ts) (2 ^ k)
    generalize tv ts / 2 ^ k = q at *
    generalize tv ts % 2 ^ k = r at *
    generalize (2 : Int) ^ k = z at *
    constructor
    · rintro ⟨a, b⟩
      have c1 : q < 1 := by
        apply Int.lt_of_mul_lt_mul_left (a := z) _ (by omega)
        omega
      have c2 : -2 < q := by
        apply Int.lt_of_mul_lt_mul_left (a := z) _ (by omega)
        omega
      omega
    · rintro (e | e)
      · subst e; omega
      · subst e; omega
  rw [iff1]
  constructor
  · intro ha
    have hc : ∀ p, tb (tv ts / 2 ^ k) p = decide (ts.length % 2 = 1) := fun p => by
      rw [tb_shift, tb_tv _ h, cnt_all fun t ht => by have := ha t ht; omega]
    by_cases e : ts.length % 2 = 1
    · right
      apply tb_ext
      intro p
      rw [hc, tb_neg1, decide_eq_true e]
    · left
      apply tb_ext
      intro p
      rw [hc, tb_top, decide_eq_false e]
  · intro hq t ht
    apply Nat.le_of_not_lt
    intro hlt
    have := (mem_tb h t).mp ht
    apply this
    rw [if_neg (by omega)]
    have hc : ∀ p q, k ≤ p → k ≤ q → tb (tv ts) p = tb (tv ts) q := fun p q hp hq' => by
      have e1 : tb (tv ts) p = tb (tv ts / 2 ^ k) (p - k) := by rw [tb_shift]; congr 1; omega
      have e2 : tb (tv ts) q = tb (tv ts / 2 ^ k) (q - k) := by rw [tb_shift]; congr 1; omega
      rw [e1, e2]
      rcases hq with e | e <;> rw [e]
      · rw [tb_top, tb_top]
      · rw [tb_neg1, tb_neg1]
    exact hc _ _ (by omega) (by omega)
theorem asc_len {k : Nat} : ∀ {ts : List Nat} {a : Nat}, Asc ts → (∀ t ∈ ts, a ≤ t ∧ t ≤ k) → ts.length ≤ k + 1 - a
  | [], a, _, _ => Nat.zero_le _
  | t :: r, a, h, hb => by
    have h1 := hb t (by simp)
    have := asc_len (a := t + 1) h.tail fun x hx => ⟨Asc.lt h x hx, (hb x (by simp [hx])).2⟩
    rw [List.length_cons]
    omega
/-! ### forms -/
mutual
def val : PyData → Int
  | .int i => i
  | .tuple ds => tv (vals ds)
  | _ => 0
def vals : List PyData → List Nat
  | [] => []
  | d :: r => (val d).toNat :: vals r
end
mutual
def Fm : PyData → Prop
  | .int i => -(2 ^ 64) ≤ i ∧ i < 2 ^ 64
  | .tuple ds => FmAll ds ∧ Asc (vals ds) ∧ ∃ t ∈ vals ds, 64 < t
  | _ => False
def FmAll : List PyData → Prop
  | [] => True
  | d :: r => Fm d ∧ 0 ≤ val d ∧ FmAll r
end
theorem val_int (i : Int) : val (.int i) = i := by simp [val]
theorem val_tuple (ds : List PyData) : val (.tuple ds) = tv (vals ds) := by simp [val]
theorem vals_nil : vals [] = [] := by simp [vals]
theorem vals_cons (d : PyData) (r : List PyData) : vals (d :: r) = (val d).toNat :: vals r := by simp [vals]
theorem fm_int (i : Int) : Fm (.int i) ↔ -(2 ^ 64) ≤ i ∧ i < 2 ^ 64 := by simp [Fm]
theorem fm_tuple (ds : List PyData) : Fm (.tuple ds) ↔ FmAll ds ∧ Asc (vals ds) ∧ ∃ t ∈ vals ds, 64 < t := by simp [Fm]
theorem fmAll_nil : FmAll [] := by simp [FmAll]
theorem fmAll_cons (d : PyData) (r : List PyData) : FmAll (d :: r) ↔ Fm d ∧ 0 ≤ val d ∧ FmAll r := by simp [FmAll]
theorem vals_len : ∀ ds : List PyData, (vals ds).length = ds.length
  | [] => by simp [vals]
  | d :: r => by rw [vals_cons, List.length_cons, vals_len r, List.length_cons]
theorem vals_app : ∀ ds es : List PyData, vals (ds ++ es) = vals ds ++ vals es
  | [], es => by simp [vals]
  | d :: r, es => by rw [List.cons_append, vals_cons, vals_cons, vals_app r es, List.cons_append]
theorem fmAll_app : ∀ ds es : List PyData, FmAll (ds ++ es) ↔ FmAll ds ∧ FmAll es
  | [], es => by simp [FmAll]
  | d :: r, es => by
    rw [List.cons_append, fmAll_cons, fmAll_cons, fmAll_app r es]
    exact ⟨fun ⟨a, b, c, e⟩ => ⟨⟨a, b, c⟩, e⟩, fun ⟨⟨a, b, c⟩, e⟩ => ⟨a, b, c, e⟩⟩
theorem fmAll_mem : ∀ {ds : List PyData}, FmAll ds → ∀ d ∈ ds, Fm d ∧ 0 ≤ val d
  | [], _, d, hd => by simp at hd
  | e :: r, h, d, hd => by
    rw [fmAll_cons] at h
    rcases List.mem_cons.mp hd with rfl | hd
    · exact ⟨h.1, h.2.1⟩
    · exact fmAll_mem h.2.2 d hd
theorem mem_vals : ∀ {ds : List PyData} {t : Nat}, t ∈ vals ds ↔ ∃ d ∈ ds, (val d).toNat = t
  | [], t => by simp [vals]
  | e :: r, t => by
    rw [vals_cons, List.mem_cons, mem_vals (ds := r)]
    constructor
    · rintro (h | ⟨d, h1, h2⟩)
      · exact ⟨e, by simp, h.symm⟩
      · exact ⟨d, by simp [h1], h2⟩
    · rintro ⟨d, h1, h2⟩
      rcases List.mem_cons.mp h1 with rfl | h1
      · exact .inl h2.symm
      · exact .inr ⟨d, h1, h2⟩
/-- a tuple form is no plain integer -/
theorem tuple_far {ds : List PyData} (h : Fm (.tuple ds)) : ¬ (-(2 ^ 64) ≤ val (.tuple ds) ∧ val (.tuple ds) < 2 ^ 64) := by
  rw [fm_tuple] at h
  rw [val_tuple, ← tv_range h.2.1]
  intro hc
  obtain ⟨t, ht, h64⟩ := h.2.2
  have := hc t ht
  omega
mutual
theorem fm_inj : ∀ {d e : PyData}, Fm d → Fm e → val d = val e → d = e
  | .int i, .int j, _, _, h => by
    rw [val_int, val_int] at h
    rw [h]
  | .int i, .tuple es, hd, he, h => by
    rw [fm_int] at hd
    rw [val_int] at h
    exact absurd (h ▸ hd) (tuple_far he)
  | .tuple ds, .int j, hd, he, h => by
    rw [fm_int] at he
    rw [val_int] at h
    exact absurd (h ▸ he) (tuple_far hd)
  | .tuple ds, .tuple es, hd, he, h => by
    have hd' := (fm_tuple ds).mp hd
    have he' := (fm_tuple es).mp he
    rw [val_tuple, val_tuple] at h
    rw [fmAll_inj hd'.1 he'.1 (tv_inj hd'.2.1 he'.2.1 h)]
  | .none, _, hd, _, _ => by simp [Fm] at hd
  | .bool _, _, hd, _, _ => by simp [Fm] at hd
  | .str _, _, hd, _, _ => by simp [Fm] at hd
  | .list _, _, hd, _, _ => by simp [Fm] at hd
  | .dict _, _, hd, _, _ => by simp [Fm] at hd
  | .int _, .none, _, he, _ => by simp [Fm] at he
  | .int _, .bool _, _, he, _ => by simp [Fm] at he
  | .int _, .str _, _, he, _ => by simp [Fm] at he
  | .int _, .list _, _, he, _ => by simp [Fm] at he
  | .int _, .dict _, _, he, _ => by simp [Fm] at he
  | .tuple _, .none, _, he, _ => by simp [Fm] at he
  | .tuple _, .bool _, _, he, _ => by simp [Fm] at he
  | .tuple _, .str _, _, he, _ => by simp [Fm] at he
  | .tuple _, .list _, _, he, _ => by simp [Fm] at he
  | .tuple _, .dict _, _, he, _ => by simp [Fm] at he
theorem fmAll_inj : ∀ {ds es : List PyData}, FmAll ds → FmAll es → vals ds = vals es → ds = es
  | [], [], _, _, _ => rfl
  | [], e :: r, _, _, h => by
    rw [vals_nil, vals_cons] at h
    cases h
  | d :: r, [], _, _, h => by
    rw [vals_nil, vals_cons] at h
    cases h
  | d :: r, e :: q, hd, he, h => by
    rw [vals_cons, vals_cons] at h
    injection h with h1 h2
    rw [fmAll_cons] at hd he
    have h0 := hd.2.1
    have h0' := he.2.1
    rw [fm_inj hd.1 he.1 (by omega), fmAll_inj hd.2.2 he.2.2 h2]
end
/-! ### sizes -/
mutual
def wt : PyData → Nat
  | .tuple ds => 1 + wtAll ds
  | _ => 1
def wtAll : List PyData → Nat
  | [] => 0
  | d :: r => wt d + wtAll r
end
theorem wt_int (i : Int) : wt (.int i) = 1 := by simp [wt]
theorem wt_tuple (ds : List PyData) : wt (.tuple ds) = 1 + wtAll ds := by simp [wt]
theorem wtAll_nil : wtAll [] = 0 := by simp [wtAll]
theorem wtAll_cons (d : PyData) (r : List PyData) : wtAll (d :: r) = wt d + wtAll r := by simp [wtAll]
theorem wtAll_app : ∀ ds es : List PyData, wtAll (ds ++ es) = wtAll ds + wtAll es
  | [], es => by simp [wtAll]
  | d :: r, es => by rw [List.cons_append, wtAll_cons, wtAll_cons, wtAll_app r es, Nat.add_assoc]
/-- small turns as data -/
def iD (ts : List Nat) : List PyData := ts.map fun t => .int (t : Nat)
theorem vals_iD : ∀ ts : List Nat, vals (iD ts) = ts
  | [] => by simp [iD, vals]
  | t :: r => by
    show vals (.int (t : Nat) :: iD r) = _
    rw [vals_cons, vals_iD r, val_int]
    rfl
theorem fmAll_iD : ∀ {ts : List Nat}, (∀ t ∈ ts, t < 2 ^ 64) → FmAll (iD ts)
  | [], _ => by simp [iD, FmAll]
  | t :: r, h => by
    show FmAll (.int (t : Nat) :: iD r)
    rw [fmAll_cons, val_int, fm_int]
    have := h t (by simp)
    exact ⟨by omega, by omega, fmAll_iD fun x hx => h x (by simp [hx])⟩
theorem wtAll_iD : ∀ ts : List Nat, wtAll (iD ts) = ts.length
  | [] => by simp [iD, wtAll]
  | t :: r => by
    show wtAll (.int (t : Nat) :: iD r) = _
    rw [wtAll_cons, wtAll_iD r, wt_int, List.length_cons]
    omega
/-- no other value has this form: the plain forms, the forms of few turns -/
theorem fm_small {ts : List Nat} (h : Asc ts) (hb : ∀ t ∈ ts, t < 2 ^ 64) (h64 : ∃ t ∈ ts, 64 < t) : Fm (.tuple (iD ts)) ∧ val (.tuple (iD ts)) = tv ts := by
  rw [fm_tuple, val_tuple, vals_iD]
  exact ⟨⟨fmAll_iD hb, h, h64⟩, rfl⟩
end FM
set_option Elab.async false
set_option linter.all false
set_option maxRecDepth 100000
/-! data of any kind, a dict {64: 65} among it: what isinstance tells, how deep, how large -/
namespace HX
open PySem PySem.Spec PyProof.Rows L2 FM TV
mutual
inductive Dz (K : PySem.W.Frag) (H : Hp) : V → PyData → Prop
  | non : Dz K H .non .none
  | bl (b : Bool) : Dz K H (.bl b) (.bool b)
  | int (i : Int) : Dz K H (.int i) (.int i)
  | str (x : Str) : Dz K H (.str x) (.str x)
  | lst {a : Addr} {xs : List V} {ds : List PyData} : H a = some (.lst xs) → DzAll K H xs ds → Dz K H (.ref a) (.list ds)
  | tup {a : Addr} {xs : List V} {ds : List PyData} : SqT K H a xs → DzAll K H xs ds → Dz K H (.ref a) (.tuple ds)
  | dct {a : Addr} : H a = some (.dK [(.inl 64, .int 65)]) → Dz K H (.ref a) (.dict [(.int 64, .int 65)])
inductive DzAll (K : PySem.W.Frag) (H : Hp) : List V → List PyData → Prop
  | nil : DzAll K H [] []
  | cons {v : V} {vs : List V} {d : PyData} {ds : List PyData} : Dz K H v d → DzAll K H vs ds → DzAll K H (v :: vs) (d :: ds)
end
section
variable {K : PySem.W.Frag} {H H' : Hp}
theorem DzAll.len : ∀ {xs : List V} {ds : List PyData}, DzAll K H xs ds → xs.length = ds.length
  | _, _, .nil => rfl
  | _, _, .cons _ t => by rw [List.length_cons, List.length_cons, t.len]
theorem DzAll.get : ∀ {xs : List V} {ds : List PyData}, DzAll K H xs ds → ∀ {i : Nat} {v : V}, xs[i]? = some v → ∃ d, ds[i]? = some d ∧ Dz K H v d
  | _, _, .cons h _, 0, v, e => by
    cases e
    exact ⟨_, rfl, h⟩
  | _, _, .cons _ t, i + 1, v, e => t.get (i := i) e
mutual
theorem Dz.same (e : Same H H') : ∀ {v : V} {d : PyData}, Dz K H v d → Dz K H' v d
  | _, _, .non => .non
  | _, _, .bl b => .bl b
  | _, _, .int i => .int i
  | _, _, .str x => .str x
  | _, _, .lst h t => .lst (e _ _ h) (DzAll.same e t)
  | _, _, .tup h t => .tup (h.imp (fun h => h.elim (fun h => .inl (e _ _ h)) fun ⟨o, h⟩ => .inr ⟨o, e _ _ h⟩) id) (DzAll.same e t)
  | _, _, .dct h => .dct (e _ _ h)
theorem DzAll.same (e : Same H H') : ∀ {xs : List V} {ds : List PyData}, DzAll K H xs ds → DzAll K H' xs ds
  | _, _, .nil => .nil
  | _, _, .cons h t => .cons (Dz.same e h) (DzAll.same e t)
end
def isTd : PyData → Bool
  | .tuple _ => true
  | _ => false
def isId : PyData → Bool
  | .int _ => true
  | .bool _ => true
  | _ => false
def isBd : PyData → Bool
  | .bool _ => true
  | _ => false
/-- the kind of a value -/
theorem Dz.ty {v : V} {d : PyData} (h : Dz K H v d) : ∃ n : String, TyX K H v (.type n) ∧ kitB n "tuple" = some (isTd d) ∧ kitB n "int" = some (isId d) ∧ kitB n "bool" = some (isBd d) := by
  cases h with
  | non => exact ⟨"NoneType", .base .non, (show kitB "NoneType" "tuple" = some false by decide +kernel), (show kitB "NoneType" "int" = some false by decide +kernel), (show kitB "NoneType" "bool" = some false by decide +kernel)⟩
  | bl b => exact ⟨"bool", .base (.bl b), (show kitB "bool" "tuple" = some false by decide +kernel), (show kitB "bool" "int" = some true by decide +kernel), (show kitB "bool" "bool" = some true by decide +kernel)⟩
  | int i => exact ⟨"int", .base (.int i), (show kitB "int" "tuple" = some false by decide +kernel), (show kitB "int" "int" = some true by decide +kernel), (show kitB "int" "bool" = some false by decide +kernel)⟩
  | str x => exact ⟨"str", .base (.str x), (show kitB "str" "tuple" = some false by decide +kernel), (show kitB "str" "int" = some false by decide +kernel), (show kitB "str" "bool" = some false by decide +kernel)⟩
  | lst h _ => exact ⟨"list", .base (.lst h), (show kitB "list" "tuple" = some false by decide +kernel), (show kitB "list" "int" = some false by decide +kernel), (show kitB "list" "bool" = some false by decide +kernel)⟩
  | tup h _ => exact ⟨"tuple", tyT h, (show kitB "tuple" "tuple" = some true by decide +kernel), (show kitB "tuple" "int" = some false by decide +kernel), (show kitB "tuple" "bool" = some false by decide +kernel)⟩
  | dct h => exact ⟨"dict", .base (.dK h), (show kitB "dict" "tuple" = some false by decide +kernel), (show kitB "dict" "int" = some false by decide +kernel), (show kitB "dict" "bool" = some false by decide +kernel)⟩
theorem isi_z {v : V} {n : String} {b : Bool} {m : String} {Q : VK} (t : TyX K H v (.type m)) (k : kitB m n = some b) (q : Q (.bl b) H) : rIsi K [v, .ty n] H Q := ⟨_, _, _, _, b, rfl, .ty n, t, kit_ty k, q⟩
theorem Dz.isT {v : V} {d : PyData} {Q : VK} (h : Dz K H v d) (q : Q (.bl (isTd d)) H) : rIsi K [v, .ty "tuple"] H Q := by
  obtain ⟨n, t, k1, _, _⟩ := h.ty
  exact isi_z t k1 q
theorem Dz.isI {v : V} {d : PyData} {Q : VK} (h : Dz K H v d) (q : Q (.bl (isId d)) H) : rIsi K [v, .ty "int"] H Q := by
  obtain ⟨n, t, _, k1, _⟩ := h.ty
  exact isi_z t k1 q
theorem Dz.isB {v : V} {d : PyData} {Q : VK} (h : Dz K H v d) (q : Q (.bl (isBd d)) H) : rIsi K [v, .ty "bool"] H Q := by
  obtain ⟨n, t, _, _, k1⟩ := h.ty
  exact isi_z t k1 q
mutual
/-- a form is plain data -/
theorem Dz.dp : ∀ {v : V} {d : PyData}, Dz K H v d → Fm d → Dp K H v d
  | _, _, .non, f => by simp [Fm] at f
  | _, _, .bl b, f => by simp [Fm] at f
  | _, _, .int i, _ => .int i
  | _, _, .str x, f => by simp [Fm] at f
  | _, _, .lst _ _, f => by simp [Fm] at f
  | _, _, .tup h t, f => .tup h (DzAll.dp t ((fm_tuple _).mp f).1)
  | _, _, .dct _, f => by simp [Fm] at f
theorem DzAll.dp : ∀ {xs : List V} {ds : List PyData}, DzAll K H xs ds → FmAll ds → DpAll K H xs ds
  | _, _, .nil, _ => .nil
  | _, _, .cons h t, f => .cons (Dz.dp h ((fmAll_cons _ _).mp f).1) (DzAll.dp t ((fmAll_cons _ _).mp f).2.2)
end
end
/-! ### how deep, how large -/
mutual
def td : PyData → Nat
  | .tuple ds => tdAll ds + 1
  | _ => 0
def tdAll : List PyData → Nat
  | [] => 0
  | d :: r => max (td d) (tdAll r)
end
mutual
def tz : PyData → Nat
  | .tuple ds => tzAll ds + 1
  | _ => 1
def tzAll : List PyData → Nat
  | [] => 0
  | d :: r => tz d + tzAll r
end
mutual
/-- what room_left tells -/
def rl : PyData → Int → Nat → Int
  | .tuple ds, room, 0 => -1
  | .tuple ds, room, lv + 1 => rlAll ds (room - 1) lv
  | _, room, _ => room - 1
def rlAll : List PyData → Int → Nat → Int
  | [], left, _ => left
  | d :: r, left, lv => if left < 0 then left else rlAll r (rl d left lv) lv
end
theorem tz_pos (d : PyData) : 1 ≤ tz d := by
  cases d <;> simp [tz]
mutual
theorem rl_room : ∀ (d : PyData) (room : Int) (lv : Nat), 0 ≤ room → (0 ≤ rl d room lv ↔ td d ≤ lv ∧ (tz d : Int) ≤ room) ∧ (td d ≤ lv → (tz d : Int) ≤ room → rl d room lv = room - tz d)
  | .tuple ds, room, 0, h => by
    refine ⟨⟨fun z => ?_, fun z => ?_⟩, fun z => ?_⟩
    · simp [rl] at z
    · simp [td] at z
    · simp [td] at z
  | .tuple ds, room, lv + 1, h => by
    have e1 : rl (.tuple ds) room (lv + 1) = rlAll ds (room - 1) lv := by simp [rl]
    have e2 : td (.tuple ds) = tdAll ds + 1 := by simp [td]
    have e3 : tz (.tuple ds) = tzAll ds + 1 := by simp [tz]
    rw [e1, e2, e3]
    by_cases h1 : 0 ≤ room - 1
    · obtain ⟨g1, g2⟩ := rlAll_room ds (room - 1) lv h1
      refine ⟨⟨fun z => ?_, fun ⟨z1, z2⟩ => ?_⟩, fun z1 z2 => ?_⟩
      · have := g1.mp z
        exact ⟨by omega, by omega⟩
      · exact g1.mpr ⟨by omega, by omega⟩
      · rw [g2 (by omega) (by omega)]
        omega
    · have g := rlAll_neg ds (room - 1) lv (by omega)
      rw [g]
      refine ⟨⟨fun z => absurd z h1, fun ⟨_, z⟩ => absurd z (by omega)⟩, fun _ z => absurd z (by omega)⟩
  | .none, room, lv, h => by simp [rl, td, tz] <;> omega
  | .bool b, room, lv, h => by simp [rl, td, tz] <;> omega
  | .int i, room, lv, h => by simp [rl, td, tz] <;> omega
  | .str s, room, lv, h => by simp [rl, td, tz] <;> omega
  | .list ds, room, lv, h => by simp [rl, td, tz] <;> omega
  | .dict ds, room, lv, h => by simp [rl, td, tz] <;> omega
theorem rlAll_room : ∀ (ds : List PyData) (left : Int) (lv : Nat), 0 ≤ left → (0 ≤ rlAll ds left lv ↔ tdAll ds ≤ lv ∧ (tzAll ds : Int) ≤ left) ∧ (tdAll ds ≤ lv → (tzAll ds : Int) ≤ left → rlAll ds left lv = left - tzAll ds)
  | [], left, lv, h => by simp [rlAll, tdAll, tzAll]
  | d :: r, left, lv, h => by
    have e1 : rlAll (d :: r) left lv = if left < 0 then left else rlAll r (rl d left lv) lv := by simp [rlAll]
    have e2 : tdAll (d :: r) = max (td d) (tdAll r) := by simp [tdAll]
    have e3 : tzAll (d :: r) = tz d + tzAll r := by simp [tzAll]
    obtain ⟨g1, g2⟩ := rl_room d left lv h
    rw [e1, e2, e3, if_neg (by omega)]
    by_cases h1 : 0 ≤ rl d left lv
    · obtain ⟨k1, k2⟩ := g1.mp h1
      have k3 := g2 k1 k2
      obtain ⟨f1, f2⟩ := rlAll_room r (rl d left lv) lv h1
      refine ⟨⟨fun z => ?_, fun ⟨z1, z2⟩ => ?_⟩, fun z1 z2 => ?_⟩
      · have := f1.mp z
        exact ⟨by omega, by omega⟩
      · exact f1.mpr ⟨by omega, by omega⟩
      · rw [f2 (by omega) (by omega), k3]
        omega
    · have g := rlAll_neg r (rl d left lv) lv (by omega)
      rw [g]
      have h2 : ¬ (td d ≤ lv ∧ (tz d : Int) ≤ left) := fun z => h1 (g1.mpr z)
      refine ⟨⟨fun z => absurd z h1, fun ⟨z1, z2⟩ => absurd ⟨by omega, by omega⟩ h2⟩, fun z1 z2 => absurd ⟨by omega, by omega⟩ h2⟩
theorem rlAll_neg : ∀ (ds : List PyData) (left : Int) (lv : Nat), left < 0 → rlAll ds left lv = left
  | [], left, lv, h => by simp [rlAll]
  | d :: r, left, lv, h => by
    have e1 : rlAll (d :: r) left lv = if left < 0 then left else rlAll r (rl d left lv) lv := by simp [rlAll]
    rw [e1, if_pos h]
end
section
variable {K : PySem.W.Frag} {H H' : Hp}
/-- a tuple, or a thing that is not looked into -/
theorem Dz.tup_or {v : V} {d : PyData} (h : Dz K H v d) : (∃ a xs ds, v = .ref a ∧ d = .tuple ds ∧ SqT K H a xs ∧ DzAll K H xs ds) ∨ (isTd d = false ∧ (∀ room lv, rl d room lv = room - 1) ∧ td d = 0) := by
  cases h with
  | tup h t => exact .inl ⟨_, _, _, rfl, rfl, h, t⟩
  | non => exact .inr ⟨rfl, fun _ _ => by simp [rl], by simp [td]⟩
  | bl b => exact .inr ⟨rfl, fun _ _ => by simp [rl], by simp [td]⟩
  | int i => exact .inr ⟨rfl, fun _ _ => by simp [rl], by simp [td]⟩
  | str x => exact .inr ⟨rfl, fun _ _ => by simp [rl], by simp [td]⟩
  | lst h t => exact .inr ⟨rfl, fun _ _ => by simp [rl], by simp [td]⟩
  | dct h => exact .inr ⟨rfl, fun _ _ => by simp [rl], by simp [td]⟩
theorem sqT_keep {a : Addr} {xs : List V} (e : Same H H') (h : SqT K H a xs) : SqT K H' a xs := h.imp (fun h => h.elim (fun h => .inl (e _ _ h)) fun ⟨o, h⟩ => .inr ⟨o, e _ _ h⟩) id
end
/-- repr of a truth -/
theorem call_repr_bl {X : Cx} : CallR X (.builtin "repr") (fun xs H Q => ∃ b : Bool, xs = [.bl b] ∧ Q (.str (PyData.bool b).shown) H) := by
  intro pins s σ H xs us Q I r h
  obtain ⟨b, rfl, q⟩ := h
  obtain ⟨u, rfl, rv⟩ := vals1 r
  obtain rfl : u = Value.bool b := rv
  exact PySem.P.repr_of_bool ⟨.str _, H, I.tok _, ⟨_, rfl⟩, q⟩
theorem shown_bl (a b : Bool) : decide (V.str (PyData.bool a).shown = V.str (PyData.bool b).shown) = (a == b) := by
  cases a <;> cases b <;> decide +kernel
end HX
set_option Elab.async false
set_option linter.all false
set_option maxRecDepth 100000
/-! repr of data of any kind, where a list and a dict are not both in it -/
namespace HX
open PySem PySem.Spec PyProof.Rows L2 FM TV
structure Rq (d : PyData) (n k : Nat) : Prop where
  sh : d.showable = true
  dp : d.depth ≤ k
  ln : d.shown.length ≤ n
structure RqAll (ds : List PyData) (n k : Nat) : Prop where
  sh : PyData.showableAll ds = true
  dp : PyData.depthAll ds ≤ k
  ln : piled (PyData.shownAll ds) ≤ n
theorem Rq.mono {d : PyData} {n k n' k' : Nat} (h : Rq d n k) (a : n ≤ n') (b : k ≤ k') : Rq d n' k' := ⟨h.sh, Nat.le_trans h.dp b, Nat.le_trans h.ln a⟩
theorem RqAll.mono {d : List PyData} {n k n' k' : Nat} (h : RqAll d n k) (a : n ≤ n') (b : k ≤ k') : RqAll d n' k' := ⟨h.sh, Nat.le_trans h.dp b, Nat.le_trans h.ln a⟩
theorem RqAll.nil {k : Nat} : RqAll [] 0 k := ⟨by simp [PyData.showableAll], by simp [PyData.depthAll], by simp [PyData.shownAll, piled]⟩
theorem Rp.rq {d : PyData} {n k : Nat} (h : Rp d n k) : Rq d n k := ⟨h.sh, h.dp, h.ln⟩
theorem RqAll.cons {d : PyData} {ds : List PyData} {n m k : Nat} (h : Rq d n k) (hs : RqAll ds m k) : RqAll (d :: ds) (n + 2 + m) k := by
  refine ⟨by simp [PyData.showableAll, h.sh, hs.sh], ?_, ?_⟩
  · simp only [PyData.depthAll]
    have := h.dp
    have := hs.dp
    omega
  · simp only [PyData.shownAll, piled_cons]
    have := h.ln
    have := hs.ln
    omega
theorem Rq.tup {ds : List PyData} {n k : Nat} (h : RqAll ds n k) : Rq (.tuple ds) (n + 3) (k + 1) := by
  refine ⟨by simp [PyData.showable, h.sh], by simp only [PyData.depth]; have := h.dp; omega, ?_⟩
  simp only [PyData.shown]
  have hl := h.ln
  generalize PyData.shownAll ds = ts at *
  have hj : (Str.join ", " ts).length ≤ piled ts := by
    by_cases e : ts = []
    · subst e
      decide
    · have := join_length_add ts e
      omega
  unfold tupleText
  rw [strLen_append, strLen_append]
  have h1 : (("(" : Str)).length = 1 := by decide +kernel
  have h2 : ∀ b : Bool, ((if b = true then ",)" else ")" : String) : Str).length ≤ 2 := by decide +kernel
  have := h2 (ts.length == 1)
  omega
theorem Rq.lst {ds : List PyData} {n k : Nat} (h : RqAll ds n k) : Rq (.list ds) (n + 3) (k + 1) := by
  refine ⟨by simp [PyData.showable, h.sh], by simp only [PyData.depth]; have := h.dp; omega, ?_⟩
  simp only [PyData.shown]
  have hl := h.ln
  generalize PyData.shownAll ds = ts at *
  cases ts with
  | nil =>
    rw [listText_nil]
    have : (("[]" : Str)).length = 2 := by decide +kernel
    omega
  | cons t r =>
    have h1 := textFrom_length_pos r 1 (("[" : Str) ++ (if (0 : Nat) > 0 then ", " else "" : String) ++ t) (Nat.succ_pos 0)
    have h2 : (("[" : Str) ++ (if (0 : Nat) > 0 then ", " else "" : String) ++ t).length = 1 + t.length := by
      rw [strLen_append, strLen_append]
      rfl
    have h3 : (listText (t :: r)).length = (textFrom 1 (("[" : Str) ++ (if (0 : Nat) > 0 then ", " else "" : String) ++ t) r).length + 1 := by
      show (textFrom 0 "[" (t :: r) ++ "]").length = _
      rw [strLen_append]
      rfl
    rw [piled_cons] at hl
    omega
mutual
/-- no list is in it -/
def noL : PyData → Bool
  | .list _ => false
  | .tuple ds => noLs ds
  | _ => true
def noLs : List PyData → Bool
  | [] => true
  | d :: r => noL d && noLs r
end
section
variable {X : Cx} {pins : List (Addr × Obj)} {σ : L2.St} {H : Hp} {s : Shared}
mutual
theorem Dz.reads (I : Inv X pins σ H s) : ∀ {v : V} {d : PyData} {u : Value}, Dz X.K H v d → RelV v u → ∃ as, Reads s.heap u d as ∧ (noL d = true → sysModules ∉ as)
  | _, _, _, .non, r => by
    cases r
    exact ⟨_, Reads.none, fun _ z => nomatch z⟩
  | _, _, _, .bl b, r => by
    cases r
    exact ⟨_, Reads.bool b, fun _ z => nomatch z⟩
  | _, _, _, .int i, r => by
    obtain ⟨t, rfl⟩ := r
    exact ⟨_, Reads.int i t, fun _ z => nomatch z⟩
  | _, _, _, .str x, r => by
    obtain ⟨t, rfl⟩ := r
    exact ⟨_, Reads.str x t, fun _ z => nomatch z⟩
  | _, _, _, .lst hs ha, r => by
    cases r
    obtain ⟨its, rv, ⟨o, n, ho, hc, _, hd⟩, _⟩ := I.list (.inl (.inl hs))
    obtain ⟨as, hr, _⟩ := DzAll.reads I ha rv
    exact ⟨_, Reads.list ho hc hd hr, fun z => nomatch z⟩
  | _, _, _, .tup hs ha, r => by
    cases r
    obtain ⟨its, rv, ⟨o, ho, hc, n, hd⟩, _⟩ := I.tuple hs
    obtain ⟨as, hr, hn⟩ := DzAll.reads I ha rv
    exact ⟨_, Reads.tuple ho hc hd hr, fun z => hn z⟩
  | .ref a, _, _, .dct ha, r => by
    cases r
    obtain ⟨_, hsys, vs, kv, o, es, ep, ho, hx, hd, hk, hp, nd⟩ := I.hok a _ ha
    cases kv with
    | cons h1 h2 =>
      cases h2
      obtain ⟨e1, t1, e2⟩ := h1
      generalize ees : es.toList = L at hp
      cases hp with
      | cons k1 k2 k3 =>
        cases k3
        rename_i q e
        have k1' : keyIs q.1 e.key = true := k1
        rw [← e1] at k1'
        obtain ⟨i, t, ei, ek⟩ | ⟨x, t, ei, ek⟩ := keyIs_shape k1'
        · cases ei
          refine ⟨_, Reads.dict (kvs := [(.int 64, .int 65)]) (as := [] ++ []) (bs := [] ++ []) ho hx.1 hd ?_ ?_, fun _ z => ?_⟩
          · rw [ees]
            exact ReadsAll.cons (by show Reads s.heap e.key (.int 64) []; rw [ek]; exact Reads.int 64 t) ReadsAll.nil
          · rw [ees]
            exact ReadsAll.cons (by show Reads s.heap e.val (.int 65) []; rw [k2, e2]; exact Reads.int 65 t1) ReadsAll.nil
          · have z' : sysModules = a := by simpa using z
            rw [z'] at hsys
            simp at hsys
        · cases ei
theorem DzAll.reads (I : Inv X pins σ H s) : ∀ {vs : List V} {ds : List PyData} {us : List Value}, DzAll X.K H vs ds → Vals vs us → ∃ as, ReadsAll s.heap us ds as ∧ (noLs ds = true → sysModules ∉ as)
  | _, _, _, .nil, r => by
    cases r
    exact ⟨_, ReadsAll.nil, fun _ z => nomatch z⟩
  | _, _, _, .cons h1 h2, r => by
    cases r with
    | cons r1 r2 =>
      obtain ⟨as, q1, n1⟩ := Dz.reads I h1 r1
      obtain ⟨bs, q2, n2⟩ := DzAll.reads I h2 r2
      refine ⟨_, ReadsAll.cons q1 q2, fun z y => ?_⟩
      rw [noLs, Bool.and_eq_true] at z
      rcases List.mem_append.mp y with y | y
      · exact n1 z.1 y
      · exact n2 z.2 y
end
end
def rReprD (K : PySem.W.Frag) : List V → Hp → VK → Prop := fun xs H Q => ∃ v d, xs = [v] ∧ Dz K H v d ∧ d.showable = true ∧ (d.hasDict = false ∨ noL d = true) ∧ d.depth ≤ 60 ∧ d.shown.length ≤ sizeLine ∧ Q (.str d.shown) H
theorem call_repr_dz {X : Cx} (hgd : X.A.guards = some []) (hu : X.A.units + 64 < cLine) : CallR X (.builtin "repr") (rReprD X.K) := by
  intro pins s σ H xs us Q I r h
  obtain ⟨v, d, rfl, hd, hs, hn, hdp, hz, q⟩ := h
  obtain ⟨u, rfl, rv⟩ := vals1 r
  obtain ⟨as, rd, hsm⟩ := Dz.reads I hd rv
  have ref : ∀ {a : Addr}, u = .ref a → wpAny (model X.prog X.w) X.A (call (.builtin "repr") [u]) (EP X pins σ Q) X.xe s := by
    rintro a rfl
    exact repr_of_reads' rd hs (fun z => hn.elim (fun hn => absurd (hn.symm.trans z) Bool.false_ne_true) hsm) hgd (by omega) (fun _ _ e => e) (fun h' u tk hk => ⟨.str _, H, I.kept hk, ⟨_, rfl⟩, q⟩) hz
  cases rd with
  | none => exact PySem.P.repr_of_none ⟨.str _, H, I.tok _, ⟨_, rfl⟩, q⟩
  | bool b => exact PySem.P.repr_of_bool ⟨.str _, H, I.tok _, ⟨_, rfl⟩, q⟩
  | int i t => exact PySem.P.repr_of_int (by simpa [PyData.showable] using hs) ⟨.str _, H, I.tok _, ⟨_, rfl⟩, q⟩
  | str x t => exact PySem.P.repr_of_str ⟨.str _, H, I.tok _, ⟨_, rfl⟩, q⟩ hz
  | list h1 h2 h3 h4 => exact ref rfl
  | tuple h1 h2 h3 h4 => exact ref rfl
  | dict h1 h2 h3 h4 h5 => exact ref rfl
end HX
set_option Elab.async false
set_option linter.all false
set_option maxRecDepth 100000
/-! t[::-1], t a tuple -/
namespace HT
open PySem PySem.Spec PyProof.Rows
section
variable {prog : Program} {w : World} {A : Around} {E : Value → Shared → Prop} {s : Shared}
theorem adjust_rev (n : Nat) : Builtin.Slice.sliceAdjust none none (-1) (n : Int) = ((n : Int) - 1, -1) := by
  unfold Builtin.Slice.sliceAdjust
  rfl
theorem places_rev (n : Nat) : Builtin.Slice.slicePlaces ((n : Int) - 1) (-1) (-1) = n := by
  unfold Builtin.Slice.slicePlaces
  have h1 : ¬ ((-1 : Int) > 0) := by decide
  rw [if_neg h1, show (-(-1) : Int) = 1 by decide, Int.ediv_one]
  split <;> omega
theorem sliceApplied_rev {sl : Addr} {u : Tok} {n : Nat} {Q : Int × Int × Nat → Shared → Prop} (hs : s.heap.IsSliceOf sl .none .none (.int (-1) u))
    (h : Q ((n : Int) - 1, -1, n) s) : wpAny (model prog w) A (Builtin.Slice.sliceApplied (.ref sl) (pure (n : Int))) Q E s := by
  obtain ⟨os, hos, hcs, hds⟩ := id hs
  unfold Builtin.Slice.sliceApplied Builtin.Slice.sliceFields
  refine wpAny_bind (wpAny_bind (wpAny_field hos hds (x := .none) rfl (wpAny_bind (wpAny_field hos hds (x := .none) rfl (wpAny_bind (wpAny_field hos hds (x := .int (-1) u) rfl (wpAny_pure ?_)))))))
  refine wpAny_bind (slicePart_int ?_)
  show wpAny _ _ (if ((-1 : Int) == 0) = true then _ else _) _ _ s
  rw [if_neg (by decide)]
  refine wpAny_bind (slicePart_none (wpAny_bind (slicePart_none (wpAny_bind (wpAny_pure ?_)))))
  show wpAny _ _ (match Builtin.Slice.sliceAdjust none none (-1) (n : Int) with | (lo, hi) => pure (lo, (-1 : Int), Builtin.Slice.slicePlaces lo hi (-1))) _ _ s
  rw [adjust_rev n]
  show wpAny _ _ (pure ((n : Int) - 1, (-1 : Int), Builtin.Slice.slicePlaces ((n : Int) - 1) (-1) (-1))) _ _ s
  rw [places_rev]
  exact wpAny_pure h
theorem pick_rev (xs : Array Value) : ((List.range xs.size).filterMap fun (m : Nat) => xs[((xs.size : Int) - 1 + (m : Int) * (-1)).toNat]?).toArray = xs.toList.reverse.toArray := by
  congr 1
  apply List.ext_getElem?
  intro i
  have key : ∀ k, k ≤ xs.size → (List.range k).filterMap (fun (m : Nat) => xs[((xs.size : Int) - 1 + (m : Int) * (-1)).toNat]?) = xs.toList.reverse.take k := fun k => by
    induction k with
    | zero => intro _; simp
    | succ k ih =>
      intro hk
      rw [List.range_succ, List.filterMap_append, ih (by omega), List.take_add_one]
      congr 1
      have e : ((xs.size : Int) - 1 + (k : Int) * (-1)).toNat = xs.size - 1 - k := by omega
      have hl : k < xs.toList.length := by rw [Array.length_toList]; omega
      rw [List.filterMap_cons, List.filterMap_nil, e, List.getElem?_reverse hl, Array.length_toList, Array.getElem?_toList]
      cases xs[xs.size - 1 - k]? <;> rfl
  rw [key _ (Nat.le_refl _), List.take_of_length_le (by rw [List.length_reverse, Array.length_toList]; exact Nat.le_refl _)]
theorem getItem_tuple_rev {t sl : Addr} {items : Array Value} {u : Tok} {Q : Value → Shared → Prop} (ht : IsTup s.heap t items) (hs : s.heap.IsSliceOf sl .none .none (.int (-1) u))
    (h : Q (.ref s.heap.objs.size) { s with heap := s.heap.push { cls := .type "tuple", data := .seq items.toList.reverse.toArray } })
    (hsz : items.size ≤ sizeLine) : wpAny (model prog w) A (getItem (.ref t) (.ref sl)) Q E s := by
  have htake : sizeOk (.seq items.toList.reverse.toArray) := by
    show items.toList.reverse.toArray.size ≤ sizeLine
    rw [List.size_toArray, List.length_reverse, Array.length_toList]
    exact hsz
  obtain ⟨os, hos, hcs, hds⟩ := id hs
  have hTs : s.TypeIs (.ref sl) "slice" := ⟨os, hos, hcs⟩
  unfold getItem
  try with_reducible refine wpAny_holding ?_
  first | refine wpAny_bind (wpAny_pure ?_) | skip
  refine wpAny_bind (wpAny_sequenceKey ht.typeIs (by decide) ?_)
  refine wpAny_bind (wpAny_callSpecial?_slot (name := Str.ofString "__getitem__") ht.typeIs PyProof.Rows.slot_tuple_getitem
    (wpAny_call_entry PyProof.Rows.slot_tuple_getitem ht.typeIs entry_tuple_getitem ?_ (args_tuple_getitem _ _)))
  show wpAny _ _ (Builtin.Tuple.tupleItemsOf (.ref t) >>= _) _ _ s
  refine wpAny_bind (tupleItemsOf_ ht ?_)
  refine wpAny_bind (wpAny_typeOf hTs ?_)
  rw [if_pos (by decide)]
  refine wpAny_bind (sliceApplied_rev hs ?_)
  have hno : ¬ ((((items.size : Int) - 1) == 0 && (-1 : Int) == 1 && items.size == items.size) = true) := by
    intro q
    rw [Bool.and_eq_true, Bool.and_eq_true] at q
    exact absurd q.1.2 (by decide)
  show wpAny _ _ (if (((items.size : Int) - 1) == 0 && (-1 : Int) == 1 && items.size == items.size) = true then _ else _) _ _ s
  rw [if_neg hno, pick_rev]
  first
    | exact wpAny_bind (m := Builtin.Tuple.tupleExact _) (wpAny_newObj_type (wpAny_pure ⟨_, rfl, wpAny_pure h⟩) htake)
    | exact wpAny_bind (m := Builtin.Tuple.tupleExact _) (wpAny_newObj_type (wpAny_bind (wpAny_pure (wpAny_pure ⟨_, rfl, wpAny_pure h⟩))) htake)
    | exact wpAny_bind (wpAny_bind (m := Builtin.Tuple.tupleExact _) (wpAny_newObj_type (wpAny_pure (wpAny_pure ⟨_, rfl, wpAny_pure h⟩)) htake))
    | exact wpAny_bind (wpAny_bind (m := Builtin.Tuple.tupleExact _) (wpAny_newObj_type (wpAny_pure ⟨_, rfl, wpAny_pure h⟩) htake))
end
end HT
namespace HX
open PySem PySem.Spec PyProof.Rows L2
def tRevT (K : PySem.W.Frag) (te : TE) : TE := fun σ H Q => te σ H fun x H1 => ∃ a xs, x = .ref a ∧ SqT K H1 a xs ∧ ∀ p, H1 p = none → Q (.ref p) (upd H1 p (.tup xs.reverse))
theorem pe_revT {X : Cx} {e : Expr} {te : TE} {k : Nat} {p1 p2 p3 pos : Pos} (he : PE X e te) : PE X (.Subscript e (.Slice none none (some (.UnaryOp .USub (.Constant (.int 1) k p1) p2)) p3) pos) (tRevT X.K te) := by
  refine ⟨fun pins s σ H Q I h => ?_⟩
  refine Subscript_ (thn (he.run pins s σ H _ I h) fun v s1 ⟨x, H1, I1, r1, q1⟩ => ?_)
  obtain ⟨a, xs, ex, hx, q⟩ := q1
  subst ex
  cases r1
  have hst : PO X (some (.UnaryOp .USub (.Constant (.int 1) k p1) p2)) (tPart (tUn (rU fun i => .int (-i)) (tC (.int 1)))) := po_some (pe_un un_neg pe_int)
  refine wpAny_Slice (thn (po_none.run pins s1 σ H1 (fun o H2 => o = none ∧ H2 = H1) I1 ⟨rfl, rfl⟩) fun vl s2 ⟨l, H2, I2, pl, el, e2⟩ => ?_)
  subst el e2
  refine thn (po_none.run pins s2 σ H2 (fun o H3 => o = none ∧ H3 = H2) I2 ⟨rfl, rfl⟩) fun vu s3 ⟨u, H3, I3, pu, eu, e3⟩ => ?_
  subst eu e3
  refine thn (hst.run pins s3 σ H3 (fun o H4 => o = some (-1) ∧ H4 = H3) I3 ⟨1, rfl, -1, rfl, rfl, rfl⟩) fun vs s4 ⟨o, H4, I4, ps, eo, e4⟩ => ?_
  subst eo e4
  have I5 : Inv X pins σ H4 { s4 with heap := s4.heap.push { cls := .type "slice", data := .fields #[vl, vu, vs] } } := I4.kept (t' := s4.toks) fun b ob q => Heap.get?_push_of_some _ q
  obtain ⟨its, r, ht, hz⟩ := I5.tuple hx
  have hlen := r.length
  cases pl
  cases pu
  cases ps
  show wpAny (model X.prog X.w) X.A (subscriptTail e (.Slice none none (some (.UnaryOp .USub (.Constant (.int 1) k p1) p2)) p3) (.ref a) (.ref s4.heap.objs.size)) (EP X pins σ Q) X.xe _
  refine tail_any (ops := [.ref a, .ref s4.heap.objs.size]) ht.typeIs (PyProof.Rows.slot_tuple_getitem.lookup) ?_ (by with_unfolding_all rfl)
  refine HT.getItem_tuple_rev ht (Heap.IsSliceOf.new _ _ _ _) ?_ (by rw [List.size_toArray]; omega)
  refine ⟨.ref _, _, I5.laid (t' := s4.toks) (o := .tup xs.reverse) (fun b ob q => Heap.get?_push_of_some _ q) (Nat.le_refl _) ?_, rfl, q _ (I5.hok.fresh (Nat.le_refl _))⟩
  exact ⟨by rw [List.length_reverse]; exact hz, _, r.reverse, IsTup.new _ _⟩
end HX
set_option Elab.async false
set_option linter.all false
set_option maxRecDepth 100000
/-! data in the heap: forms stay where nothing but lists, dicts and objects change -/
namespace DX
open PySem PySem.Spec PyProof.Rows L2 HX TV FM
/-- what can't be written stays -/
def Tk (H H' : Hp) : Prop := ∀ a o, H a = some o → ¬ Mut (some o) → (∀ ps, o ≠ .tbl ps) → H' a = some o
theorem Tk.refl (H : Hp) : Tk H H := fun _ _ h _ _ => h
theorem Tk.trans {H H1 H2 : Hp} (a : Tk H H1) (b : Tk H1 H2) : Tk H H2 := fun x o h m n => b x o (a x o h m n) m n
theorem tk_same {H H' : Hp} (a : Same H H') : Tk H H' := fun x o h _ _ => a x o h
theorem tk_but {p : Addr} {H H' : Hp} (a : But p H H') (m : Mut (H p)) : Tk H H' := fun x o h n _ => a x o (fun e => by
  subst e
  rw [h] at m
  exact n m) h
theorem tk_mut {p : Addr} {H : Hp} {o : HO} (m : Mut (H p)) : Tk H (upd H p o) := fun x u h n _ => by
  rw [upd_ne (fun e => by
    subst e
    rw [h] at m
    exact n m)]
  exact h
theorem tk_tup {K : PySem.W.Frag} {H H' : Hp} {a : Addr} {xs : List V} (e : Tk H H') (h : SqT K H a xs) : SqT K H' a xs := by
  rcases h with (h | ⟨o, h⟩) | h
  · exact .inl (.inl (e _ _ h (fun z => z) fun ps z => nomatch z))
  · exact .inl (.inr ⟨o, e _ _ h (fun z => z) fun ps z => nomatch z⟩)
  · exact .inr h
mutual
theorem dp_tk {K : PySem.W.Frag} {H H' : Hp} (e : Tk H H') : ∀ {d : PyData} {v : V}, Fm d → Dp K H v d → Dp K H' v d
  | .int i, _, _, h => by
    cases h
    exact .int i
  | .tuple ds, _, f, h => by
    rw [fm_tuple] at f
    cases h with
    | tup h1 h2 => exact .tup (tk_tup e h1) (dpAll_tk e f.1 h2)
  | .none, _, f, _ => by simp [Fm] at f
  | .bool _, _, f, _ => by simp [Fm] at f
  | .str _, _, f, _ => by simp [Fm] at f
  | .list _, _, f, _ => by simp [Fm] at f
  | .dict _, _, f, _ => by simp [Fm] at f
theorem dpAll_tk {K : PySem.W.Frag} {H H' : Hp} (e : Tk H H') : ∀ {ds : List PyData} {vs : List V}, FmAll ds → DpAll K H vs ds → DpAll K H' vs ds
  | [], _, _, h => by
    cases h
    exact .nil
  | d :: r, _, f, h => by
    rw [fmAll_cons] at f
    cases h with
    | cons h1 h2 => exact .cons (dp_tk e f.1 h1) (dpAll_tk e f.2.2 h2)
end
theorem dpAll_len {K : PySem.W.Frag} {H : Hp} : ∀ {ds : List PyData} {vs : List V}, DpAll K H vs ds → vs.length = ds.length
  | [], _, h => by
    cases h
    rfl
  | d :: r, _, h => by
    cases h with
    | cons h1 h2 => rw [List.length_cons, dpAll_len h2, List.length_cons]
theorem dpAll_app {K : PySem.W.Frag} {H : Hp} : ∀ {ds es : List PyData} {vs us : List V}, DpAll K H vs ds → DpAll K H us es → DpAll K H (vs ++ us) (ds ++ es)
  | [], _, _, _, h, h' => by
    cases h
    exact h'
  | d :: r, _, _, _, h, h' => by
    cases h with
    | cons h1 h2 => exact .cons h1 (dpAll_app h2 h')
theorem dpAll_get {K : PySem.W.Frag} {H : Hp} : ∀ {ds : List PyData} {vs : List V} {i : Nat} {v : V}, DpAll K H vs ds → vs[i]? = some v → ∃ d, ds[i]? = some d ∧ Dp K H v d
  | [], _, i, v, h, e => by
    cases h
    simp at e
  | d :: r, _, i, v, h, e => by
    cases h with
    | cons h1 h2 =>
      cases i with
      | zero =>
        simp at e
        subst e
        exact ⟨d, rfl, h1⟩
      | succ i =>
        obtain ⟨d', h3, h4⟩ := dpAll_get (i := i) (v := v) h2 (by simpa using e)
        exact ⟨d', by simpa using h3, h4⟩
theorem dp_nv {K : PySem.W.Frag} {H : Hp} : ∀ ts : List Nat, DpAll K H (nv ts) (iD ts)
  | [] => .nil
  | t :: r => .cons (.int _) (dp_nv r)
/-! data that can be laid and compared: forms -/
mutual
theorem fm_lay : ∀ {d : PyData}, Fm d → PyData.canLay0 d = true
  | .int i, _ => by simp [PyData.canLay0]
  | .tuple ds, f => by
    rw [fm_tuple] at f
    simp only [PyData.canLay0]
    exact fmAll_lay f.1
  | .none, f => by simp [Fm] at f
  | .bool _, f => by simp [Fm] at f
  | .str _, f => by simp [Fm] at f
  | .list _, f => by simp [Fm] at f
  | .dict _, f => by simp [Fm] at f
theorem fmAll_lay : ∀ {ds : List PyData}, FmAll ds → PyData.canLayAll0 ds = true
  | [], _ => by simp [PyData.canLayAll0]
  | d :: r, f => by
    rw [fmAll_cons] at f
    simp only [PyData.canLayAll0, fm_lay f.1, fmAll_lay f.2.2, Bool.and_self]
end
theorem shaped_fm {d : PyData} (h : Fm d) (hd : d.depth ≤ 64) : SeqAt.shaped d = true := by
  unfold SeqAt.shaped
  rw [fm_lay h, decide_eq_true hd]
  rfl
theorem shaped_fms {ds : List PyData} (h : FmAll ds) (hd : PyData.depthAll ds ≤ 60) : SeqAt.shaped (.list ds) = true := by
  show (PyData.canLayAll0 ds && decide (PyData.depthAll ds + 1 ≤ 64)) = true
  rw [fmAll_lay h, decide_eq_true (by omega)]
  rfl
theorem depth_int (i : Int) : PyData.depth (.int i) = 0 := by simp [PyData.depth]
theorem depth_tuple (ds : List PyData) : PyData.depth (.tuple ds) = PyData.depthAll ds + 1 := by simp [PyData.depth]
theorem depthAll_nil : PyData.depthAll [] = 0 := by simp [PyData.depthAll]
theorem depthAll_cons (d : PyData) (r : List PyData) : PyData.depthAll (d :: r) = max d.depth (PyData.depthAll r) := by simp [PyData.depthAll]
theorem depthAll_le : ∀ {ds : List PyData} {k : Nat}, PyData.depthAll ds ≤ k ↔ ∀ d ∈ ds, d.depth ≤ k
  | [], k => by simp [PyData.depthAll]
  | d :: r, k => by
    rw [depthAll_cons]
    constructor
    · intro h e he
      rcases List.mem_cons.mp he with rfl | he
      · omega
      · exact depthAll_le.mp (by omega) e he
    · intro h
      have h1 := h d (by simp)
      have h2 := depthAll_le (ds := r) (k := k) |>.mpr fun e he => h e (by simp [he])
      omega
theorem depthAll_iD (ts : List Nat) : PyData.depthAll (iD ts) = 0 := by
  have : PyData.depthAll (iD ts) ≤ 0 := depthAll_le.mpr fun d hd => by
    obtain ⟨t, _, rfl⟩ := List.mem_map.mp hd
    rw [depth_int]
    exact Nat.le_refl _
  omega
theorem shaped_iD (ts : List Nat) : SeqAt.shaped (.list (iD ts)) = true := by
  have : iD ts = (ts.map fun t => ((t : Nat) : Int)).map PyData.int := by
    unfold iD
    rw [List.map_map]
    rfl
  rw [this]
  exact shaped_ints _
end DX
set_option Elab.async false
set_option linter.all false
set_option maxRecDepth 100000
/-! fields and codes: the law's own far places (plain mathematics) -/
namespace FB
open PySem TV FM DX
theorem even_pos {ts : List Nat} (h : Asc ts) (hn : ts ≠ []) (he : ts.length % 2 = 0) : 0 < tv ts := by
  obtain ⟨a, r, e⟩ : ∃ a r, ts = r ++ [a] := ⟨ts.getLast hn, ts.dropLast, (List.dropLast_concat_getLast hn).symm⟩
  subst e
  have := tv_sign h
  simp at he
  have h1 : ¬ tv (r ++ [a]) < 0 := fun z => by
    have := this.1.mp z
    omega
  have := this.2
  omega
theorem big_of {ts : List Nat} {t k : Nat} (h : Asc ts) (h0 : 0 ≤ tv ts) (ht : t ∈ ts) (hk : k < t) : 2 ^ k ≤ tv ts := by
  apply Int.le_of_not_gt
  intro hc
  have hp : (0 : Int) < 2 ^ k := Int.pow_pos (by decide)
  have := (tv_range h).mpr ⟨by omega, hc⟩ t ht
  omega
theorem pow_big {n : Nat} (h : 10 ≤ n) : n + 500 ≤ 2 ^ n := by
  induction n with
  | zero => omega
  | succ n ih =>
    by_cases e : n = 9
    · subst e
      decide
    · have := ih (by omega)
      rw [Nat.pow_succ]
      omega
/-- the four fields: a small place and far ones with many zero bits at the low end, ascending with room between them -/
structure Fields (fs : List PyData) : Prop where
  ex : ∃ (f1 : Nat) (es2 es3 : List PyData), fs = [.int 0, .int (f1 : Nat), .tuple es2, .tuple es3] ∧ 130 ≤ f1 ∧ f1 < 2 ^ 64 ∧ Fm (.tuple es2) ∧ Fm (.tuple es3) ∧ (∀ t ∈ vals es2, 150 ≤ t) ∧ (∀ t ∈ vals es3, 150 ≤ t) ∧
    (2 : Int) ^ 140 ≤ val (.tuple es2) ∧ val (.tuple es2) + 400 ≤ val (.tuple es3) ∧ PyData.depthAll es2 ≤ 0 ∧ PyData.depthAll es3 ≤ 2 ∧ es2.length ≤ 100 ∧ es3.length ≤ 100 ∧ wtAll es2 ≤ 14 ∧ wtAll es3 ≤ 14
/-- a second field: turns from 200 on -/
structure Sec (ts : List Nat) : Prop where
  asc : Asc ts
  ne : ts ≠ []
  even : ts.length % 2 = 0
  low : ∀ t ∈ ts, 200 ≤ t
  top : ∀ t ∈ ts, t < 2 ^ 64
  len : ts.length ≤ 4
theorem Sec.fm {ts : List Nat} (h : Sec ts) : Fm (.tuple (iD ts)) ∧ val (.tuple (iD ts)) = tv ts ∧ (2 : Int) ^ 140 ≤ tv ts := by
  obtain ⟨a, ha⟩ := List.exists_mem_of_ne_nil ts h.ne
  obtain ⟨f, e⟩ := fm_small h.asc h.top ⟨a, ha, by have := h.low a ha; omega⟩
  exact ⟨f, e, big_of h.asc (Int.le_of_lt (even_pos h.asc h.ne h.even)) ha (by have := h.low a ha; omega)⟩
theorem tv2 (a b : Nat) : tv [a, b] = 2 ^ b - 2 ^ a := by
  rw [tv_cons, tv_cons, tv_nil]
  omega
/-- the third field, in its three makes: some turn of it is the second field -/
theorem fields_of {f1 : Nat} {ts : List Nat} {es : List PyData} (h1 : 130 ≤ f1) (h2 : f1 < 2 ^ 64) (S : Sec ts) (hF : FmAll es) (hA : Asc (vals es)) (he : es.length % 2 = 0) (hl : ∀ t ∈ vals es, 150 ≤ t) (hm : .tuple (iD ts) ∈ es)
    (hd : PyData.depthAll es ≤ 2) (hlen : es.length ≤ 100) (hw : wtAll es ≤ 14) : Fields [.int 0, .int (f1 : Nat), .tuple (iD ts), .tuple es] := by
  obtain ⟨f, e, hb⟩ := S.fm
  have hmem : (val (.tuple (iD ts))).toNat ∈ vals es := mem_vals.mpr ⟨_, hm, rfl⟩
  have hne : vals es ≠ [] := List.ne_nil_of_mem hmem
  have hev : (vals es).length % 2 = 0 := by rw [vals_len]; exact he
  have hpos := even_pos hA hne hev
  have h140 : (2 : Nat) ^ 140 ≤ (val (.tuple (iD ts))).toNat := by
    rw [e]
    have : ((2 ^ 140 : Nat) : Int) = (2 : Int) ^ 140 := by simp
    omega
  have h64 : ∃ t ∈ vals es, 64 < t := ⟨_, hmem, Nat.lt_of_lt_of_le (by decide) h140⟩
  refine ⟨f1, iD ts, es, rfl, h1, h2, f, (fm_tuple _).mpr ⟨hF, hA, h64⟩, fun t ht => ?_, hl, e ▸ hb, ?_, by rw [depthAll_iD]; exact Nat.le_refl _, hd, by have := S.len; simp [iD]; omega, hlen, by rw [wtAll_iD]; have := S.len; omega, hw⟩
  · rw [vals_iD] at ht
    have := S.low t ht
    omega
  · rw [val_tuple es]
    have hb2 := big_of hA (Int.le_of_lt hpos) hmem (k := (val (.tuple (iD ts))).toNat - 1) (by omega)
    have hp := pow_big (n := (val (.tuple (iD ts))).toNat - 1) (by omega)
    have hc : (((2 : Nat) ^ ((val (.tuple (iD ts))).toNat - 1) : Nat) : Int) = (2 : Int) ^ ((val (.tuple (iD ts))).toNat - 1) := by simp
    generalize (2 : Int) ^ ((val (.tuple (iD ts))).toNat - 1) = z at *
    generalize (2 : Nat) ^ ((val (.tuple (iD ts))).toNat - 1) = y at *
    have e0 : 0 ≤ val (.tuple (iD ts)) := by omega
    omega
/-- what a third field must be -/
structure Third (ts : List Nat) (es : List PyData) : Prop where
  fm : FmAll es
  asc : Asc (vals es)
  even : es.length % 2 = 0
  low : ∀ t ∈ vals es, 150 ≤ t
  mem : .tuple (iD ts) ∈ es
  dep : PyData.depthAll es ≤ 2
  len : es.length ≤ 100
  wt : wtAll es ≤ 14
theorem Third.fields {f1 : Nat} {ts : List Nat} {es : List PyData} (h : Third ts es) (h1 : 130 ≤ f1) (h2 : f1 < 2 ^ 64) (S : Sec ts) : Fields [.int 0, .int (f1 : Nat), .tuple (iD ts), .tuple es] :=
  fields_of h1 h2 S h.fm h.asc h.even h.low h.mem h.dep h.len h.wt
theorem Sec.big {ts : List Nat} (S : Sec ts) : 2 ^ 140 ≤ (tv ts).toNat := by
  have h := S.fm.2.2
  have : ((2 ^ 140 : Nat) : Int) = (2 : Int) ^ 140 := by simp
  omega
theorem thirdA {ts : List Nat} {g : Nat} (S : Sec ts) (h1 : 150 ≤ g) (h2 : g < 400) : Third ts [.int (g : Nat), .tuple (iD ts)] := by
  obtain ⟨f, e, hb⟩ := S.fm
  have hB := S.big
  have hv : vals [.int (g : Nat), .tuple (iD ts)] = [g, (tv ts).toNat] := by
    rw [vals_cons, vals_cons, vals_nil, val_int, e]
    rfl
  have h140 : (400 : Nat) < 2 ^ 140 := by decide
  refine ⟨?_, ?_, by simp, ?_, by simp, ?_, by simp, by simp only [wtAll_cons, wtAll_nil, wt_int, wt_tuple, wtAll_iD, List.length_cons]; have := S.len; omega⟩
  · rw [fmAll_cons, fmAll_cons, fm_int, val_int]
    exact ⟨by omega, by omega, f, by omega, fmAll_nil⟩
  · rw [hv]
    exact ⟨by omega, trivial⟩
  · rw [hv]
    intro t ht
    simp at ht
    omega
  · rw [depthAll_cons, depthAll_cons, depthAll_nil, depth_int, depth_tuple, depthAll_iD]
    decide
theorem thirdB {ts : List Nat} {x : Nat} (S : Sec ts) (h2 : x < 64) : Third ts [.tuple (iD ts), .tuple (iD (x :: 64 :: ts))] := by
  obtain ⟨f, e, hb⟩ := S.fm
  have hB := S.big
  have h140 : (2 : Nat) ^ 65 < 2 ^ 140 := by decide
  have hA : Asc (x :: 64 :: ts) := asc_cons (fun b hb => by
    rcases List.mem_cons.mp hb with rfl | hb
    · exact h2
    · have := S.low b hb; omega) (asc_cons (fun b hb => by have := S.low b hb; omega) S.asc)
  have ht : ∀ t ∈ x :: 64 :: ts, t < 2 ^ 64 := fun t ht => by
    rcases List.mem_cons.mp ht with rfl | ht
    · omega
    · rcases List.mem_cons.mp ht with rfl | ht
      · omega
      · exact S.top t ht
  obtain ⟨a, ha⟩ := List.exists_mem_of_ne_nil ts S.ne
  obtain ⟨f2, e2⟩ := fm_small hA ht ⟨a, by simp [ha], by have := S.low a ha; omega⟩
  have e3 : tv (x :: 64 :: ts) = 2 ^ 64 - 2 ^ x + tv ts := by
    rw [tv_cons, tv_cons]
    omega
  have hx : (2 : Int) ^ x < 2 ^ 64 := Int.pow_lt_pow_of_lt (by decide) h2
  have hv : vals [.tuple (iD ts), .tuple (iD (x :: 64 :: ts))] = [(tv ts).toNat, (2 ^ 64 - 2 ^ x + tv ts).toNat] := by
    rw [vals_cons, vals_cons, vals_nil, e, e2, e3]
  refine ⟨?_, ?_, by simp, ?_, by simp, ?_, by simp, by simp only [wtAll_cons, wtAll_nil, wt_int, wt_tuple, wtAll_iD, List.length_cons]; have := S.len; omega⟩
  · rw [fmAll_cons, fmAll_cons]
    exact ⟨f, by omega, f2, by omega, fmAll_nil⟩
  · rw [hv]
    exact ⟨by omega, trivial⟩
  · rw [hv]
    intro t ht
    simp at ht
    omega
  · rw [depthAll_cons, depthAll_cons, depthAll_nil, depth_tuple, depth_tuple, depthAll_iD, depthAll_iD]
    decide
theorem thirdC {ts : List Nat} {g : Nat} (S : Sec ts) (h1 : 150 ≤ g) (h2 : g < 400) : Third ts [.int (g : Nat), .int ((g + 1 : Nat) : Int), .tuple (iD ts), .tuple [.int (g : Nat), .tuple (iD ts)]] := by
  obtain ⟨f, e, hb⟩ := S.fm
  have hB := S.big
  have h140 : (2 : Nat) ^ 65 < 2 ^ 140 := by decide
  have TA := thirdA S h1 h2
  have hva : vals [.int (g : Nat), .tuple (iD ts)] = [g, (tv ts).toNat] := by
    rw [vals_cons, vals_cons, vals_nil, val_int, e]
    rfl
  have hpos := even_pos TA.asc (by rw [hva]; simp) (by rw [hva]; simp)
  have hbig := big_of TA.asc (Int.le_of_lt hpos) (t := (tv ts).toNat) (k := (tv ts).toNat - 1) (by rw [hva]; simp) (by omega)
  have hp := pow_big (n := (tv ts).toNat - 1) (by omega)
  have hc : (((2 : Nat) ^ ((tv ts).toNat - 1) : Nat) : Int) = (2 : Int) ^ ((tv ts).toNat - 1) := by simp
  have fA : Fm (.tuple [.int (g : Nat), .tuple (iD ts)]) := (fm_tuple _).mpr ⟨TA.fm, TA.asc, (tv ts).toNat, by rw [hva]; simp, by omega⟩
  rw [← val_tuple] at hbig hpos
  have hv : vals [.int (g : Nat), .int ((g + 1 : Nat) : Int), .tuple (iD ts), .tuple [.int (g : Nat), .tuple (iD ts)]] = [g, g + 1, (tv ts).toNat, (val (.tuple [.int (g : Nat), .tuple (iD ts)])).toNat] := by
    rw [vals_cons, vals_cons, vals_cons, vals_cons, vals_nil, val_int, val_int, e]
    rfl
  generalize hW : val (.tuple [.int (g : Nat), .tuple (iD ts)]) = W at *
  generalize (2 : Int) ^ ((tv ts).toNat - 1) = z at *
  generalize (2 : Nat) ^ ((tv ts).toNat - 1) = y at *
  refine ⟨?_, ?_, by simp, ?_, by simp, ?_, by simp, by simp only [wtAll_cons, wtAll_nil, wt_int, wt_tuple, wtAll_iD, List.length_cons]; have := S.len; omega⟩
  · rw [fmAll_cons, fmAll_cons, fmAll_cons, fmAll_cons, fm_int, fm_int, val_int, val_int, hW]
    exact ⟨by omega, by omega, by omega, by omega, f, by omega, fA, by omega, fmAll_nil⟩
  · rw [hv]
    exact ⟨by omega, by omega, by omega, trivial⟩
  · rw [hv]
    intro t ht
    simp at ht
    omega
  · have h5 : PyData.depthAll [.int (g : Nat), .tuple (iD ts)] = 1 := by
      rw [depthAll_cons, depthAll_cons, depthAll_nil, depth_int, depth_tuple, depthAll_iD]
      decide
    rw [depthAll_cons, depthAll_cons, depthAll_cons, depthAll_cons, depthAll_nil, depth_int, depth_int, depth_tuple, depth_tuple, depthAll_iD, h5]
    decide
end FB
set_option Elab.async false
set_option linter.all false
set_option maxRecDepth 100000
/-! order of turns; codes and the far numbers they stand for (plain mathematics) -/
namespace FC
open PySem TV FM DX FB
theorem tv_snoc (r : List Nat) (a : Nat) : tv (r ++ [a]) = tv r + (if r.length % 2 = 0 then -(2 ^ a) else 2 ^ a) := by
  induction r with
  | nil => simp [tv_cons, tv_nil]
  | cons x r ih =>
    rw [List.cons_append, tv_cons, tv_cons, ih, List.length_cons]
    split <;> split <;> omega
theorem tv_append (r s : List Nat) : tv (r ++ s) = tv r + (if r.length % 2 = 0 then tv s else -tv s) := by
  induction r with
  | nil => simp [tv_nil]
  | cons x r ih =>
    rw [List.cons_append, tv_cons, tv_cons, ih, List.length_cons]
    split <;> split <;> omega
theorem asc_snoc {r : List Nat} {a : Nat} : Asc (r ++ [a]) ↔ Asc r ∧ ∀ x ∈ r, x < a := by
  rw [asc_pairwise, asc_pairwise, List.pairwise_append]
  constructor
  · rintro ⟨h1, _, h3⟩
    exact ⟨h1, fun x hx => h3 x hx a (by simp)⟩
  · rintro ⟨h1, h2⟩
    exact ⟨h1, by simp, fun x hx y hy => by simp at hy; subst hy; exact h2 x hx⟩
/-- the order of two rows of turns, from the top -/
def lessD : List Nat → List Nat → Bool
  | [], [] => false
  | [], _ :: s => decide (s.length % 2 = 1)
  | _ :: r, [] => decide (r.length % 2 = 0)
  | a :: r, b :: s =>
    if r.length % 2 ≠ s.length % 2 then decide (r.length % 2 = 0)
    else if a = b then lessD r s
    else if a < b then decide (s.length % 2 = 1)
    else decide (r.length % 2 = 0)
theorem snoc_cases (l : List Nat) : l = [] ∨ ∃ r a, l = r ++ [a] := by
  by_cases h : l = []
  · exact .inl h
  · exact .inr ⟨l.dropLast, l.getLast h, (List.dropLast_concat_getLast h).symm⟩
theorem top_out {r : List Nat} {a k : Nat} (h : Asc (r ++ [a])) (hk : k < a) : (r.length % 2 = 1 → 2 ^ k ≤ tv (r ++ [a])) ∧ (r.length % 2 = 0 → tv (r ++ [a]) < -(2 ^ k)) := by
  have hs := tv_sign h
  have hp : (0 : Int) < 2 ^ k := Int.pow_pos (by decide)
  have hr := (tv_range (k := k) h)
  have hno : ¬ (-(2 ^ k) ≤ tv (r ++ [a]) ∧ tv (r ++ [a]) < 2 ^ k) := fun z => by
    have := hr.mpr z a (by simp)
    omega
  constructor
  · intro hl
    have h1 : ¬ tv (r ++ [a]) < 0 := fun z => by
      have := hs.1.mp z
      omega
    omega
  · intro hl
    have h1 := hs.1.mpr hl
    omega
theorem less_iff : ∀ (n : Nat) (ts us : List Nat), ts.length ≤ n → Asc ts → Asc us → (lessD ts.reverse us.reverse = true ↔ tv ts < tv us) := by
  intro n
  induction n with
  | zero =>
    intro ts us hn hA hB
    have : ts = [] := List.length_eq_zero_iff.mp (by omega)
    subst this
    rcases snoc_cases us with rfl | ⟨s, b, rfl⟩
    · simp [lessD]
    · have hs := tv_sign hB
      rw [List.reverse_append]
      show decide (s.reverse.length % 2 = 1) = true ↔ tv [] < _
      rw [decide_eq_true_iff, List.length_reverse, tv_nil]
      constructor
      · intro h
        have : ¬ tv (s ++ [b]) < 0 := fun z => by have := hs.1.mp z; omega
        have := hs.2
        omega
      · intro h
        have : ¬ s.length % 2 = 0 := fun z => by have := hs.1.mpr z; omega
        omega
  | succ n ih =>
    intro ts us hn hA hB
    rcases snoc_cases ts with rfl | ⟨r, a, rfl⟩
    · exact ih [] us (Nat.zero_le _) hA hB
    rcases snoc_cases us with rfl | ⟨s, b, rfl⟩
    · have hs := tv_sign hA
      rw [List.reverse_append]
      show decide (r.reverse.length % 2 = 0) = true ↔ _ < tv []
      rw [decide_eq_true_iff, List.length_reverse, tv_nil]
      exact hs.1.symm
    · have hsA := tv_sign hA
      have hsB := tv_sign hB
      obtain ⟨hr, hra⟩ := asc_snoc.mp hA
      obtain ⟨hs, hsb⟩ := asc_snoc.mp hB
      rw [List.reverse_append, List.reverse_append]
      show (if r.reverse.length % 2 ≠ s.reverse.length % 2 then decide (r.reverse.length % 2 = 0) else if a = b then lessD r.reverse s.reverse else if a < b then decide (s.reverse.length % 2 = 1) else decide (r.reverse.length % 2 = 0)) = true ↔ _
      rw [List.length_reverse, List.length_reverse]
      by_cases hpar : r.length % 2 ≠ s.length % 2
      · rw [if_pos hpar, decide_eq_true_iff]
        constructor
        · intro h
          have h1 := hsA.1.mpr h
          have h2 : ¬ tv (s ++ [b]) < 0 := fun z => by have := hsB.1.mp z; omega
          omega
        · intro h
          apply Classical.byContradiction
          intro hc
          have h1 : ¬ tv (r ++ [a]) < 0 := fun z => hc (hsA.1.mp z)
          have h2 := hsB.1.mpr (by omega)
          omega
      · rw [if_neg hpar]
        have hpar' : r.length % 2 = s.length % 2 := by omega
        by_cases e : a = b
        · subst e
          rw [if_pos rfl, ih r s (by simp at hn; omega) hr hs, tv_snoc, tv_snoc, hpar']
          split <;> omega
        · rw [if_neg e]
          by_cases hlt : a < b
          · rw [if_pos hlt, decide_eq_true_iff]
            have hin : ∀ t ∈ r ++ [a], t ≤ b - 1 := fun t ht => by
              rcases List.mem_append.mp ht with ht | ht
              · have := hra t ht; omega
              · simp at ht; omega
            have hrg := (tv_range hA).mp hin
            have ho := top_out hB (k := b - 1) (by omega)
            constructor
            · intro h
              have := ho.1 h
              omega
            · intro h
              apply Classical.byContradiction
              intro hc
              have := ho.2 (by omega)
              omega
          · rw [if_neg hlt, decide_eq_true_iff]
            have hin : ∀ t ∈ s ++ [b], t ≤ a - 1 := fun t ht => by
              rcases List.mem_append.mp ht with ht | ht
              · have := hsb t ht; omega
              · simp at ht; omega
            have hrg := (tv_range hB).mp hin
            have ho := top_out hA (k := a - 1) (by omega)
            constructor
            · intro h
              have := ho.2 h
              omega
            · intro h
              apply Classical.byContradiction
              intro hc
              have := ho.1 (by omega)
              omega
theorem less_map {f : Nat → Nat} : ∀ (r s : List Nat), (∀ x ∈ r, ∀ y ∈ s, (x < y → f x < f y) ∧ (y < x → f y < f x)) → lessD (r.map f) (s.map f) = lessD r s
  | [], [], _ => rfl
  | [], b :: s, _ => by simp [lessD]
  | a :: r, [], _ => by simp [lessD]
  | a :: r, b :: s, h => by
    have hab := h a (by simp) b (by simp)
    show lessD (f a :: r.map f) (f b :: s.map f) = lessD (a :: r) (b :: s)
    simp only [lessD, List.length_map]
    have e1 : (f a = f b) ↔ a = b := by
      constructor
      · intro e
        rcases Nat.lt_trichotomy a b with c | c | c
        · have := hab.1 c; omega
        · exact c
        · have := hab.2 c; omega
      · rintro rfl; rfl
    have e2 : (f a < f b) ↔ a < b := by
      constructor
      · intro e
        rcases Nat.lt_trichotomy a b with c | c | c
        · exact c
        · subst c; omega
        · have := hab.2 c; omega
      · exact hab.1
    rw [less_map r s fun x hx y hy => h x (by simp [hx]) y (by simp [hy])]
    simp only [e1, e2]
theorem asc_map {f : Nat → Nat} {ts : List Nat} (h : Asc ts) (hf : ∀ x ∈ ts, ∀ y ∈ ts, x < y → f x < f y) : Asc (ts.map f) := by
  rw [asc_pairwise] at *
  rw [List.pairwise_map]
  exact h.imp_of_mem fun ha hb hab => hf _ ha _ hb hab
/-- places moved, the order kept: the values keep their order -/
theorem tv_map_lt {f : Nat → Nat} {ts us : List Nat} (hA : Asc ts) (hB : Asc us) (hf : ∀ x ∈ ts ++ us, ∀ y ∈ ts ++ us, x < y → f x < f y) (h : tv ts < tv us) : tv (ts.map f) < tv (us.map f) := by
  have hA' := asc_map hA fun x hx y hy => hf x (by simp [hx]) y (by simp [hy])
  have hB' := asc_map hB fun x hx y hy => hf x (by simp [hx]) y (by simp [hy])
  rw [← less_iff _ _ _ (Nat.le_refl _) hA' hB', ← List.map_reverse, ← List.map_reverse]
  rw [less_map]
  · exact (less_iff _ _ _ (Nat.le_refl _) hA hB).mpr h
  · intro x hx y hy
    simp at hx hy
    exact ⟨hf x (by simp [hx]) y (by simp [hy]), hf y (by simp [hy]) x (by simp [hx])⟩
/-! ### the turns of an integer as a function -/
noncomputable def turnsOf (n : Int) : List Nat := Classical.choose (turns_ex n)
theorem turnsOf_asc (n : Int) : Asc (turnsOf n) := (Classical.choose_spec (turns_ex n)).1
theorem turnsOf_tv (n : Int) : tv (turnsOf n) = n := (Classical.choose_spec (turns_ex n)).2
theorem turnsOf_eq {ts : List Nat} (h : Asc ts) : turnsOf (tv ts) = ts := tv_inj (turnsOf_asc _) h (turnsOf_tv _)
theorem turnsOf_is {ts : List Nat} {n : Int} (h : Asc ts) (e : tv ts = n) : turnsOf n = ts := e ▸ turnsOf_eq h
theorem even_of_nonneg {ts : List Nat} (h : Asc ts) (h0 : 0 ≤ tv ts) : ts.length % 2 = 0 := by
  rcases snoc_cases ts with rfl | ⟨r, a, rfl⟩
  · rfl
  · have := tv_sign h
    simp
    apply Classical.byContradiction
    intro hc
    have := this.1.mpr (by omega)
    omega
/-! ### digits of two hundred bits -/
def num : List Nat → Int
  | [] => 0
  | a :: r => (a : Int) + 2 ^ 200 * num r
theorem num_nonneg : ∀ ps : List Nat, 0 ≤ num ps
  | [] => Int.le_refl _
  | a :: r => by
    have := num_nonneg r
    have h2 : (0 : Int) ≤ 2 ^ 200 * num r := Int.mul_nonneg (Int.le_of_lt (Int.pow_pos (by decide))) this
    show 0 ≤ (a : Int) + 2 ^ 200 * num r
    omega
theorem num_set : ∀ (ps : List Nat) (d y : Nat) (a : Nat), ps[d]? = some a → num (ps.set d (a + y)) = num ps + y * 2 ^ (200 * d)
  | [], d, y, a, h => by simp at h
  | b :: r, 0, y, a, h => by
    simp at h
    subst h
    show ((b + y : Nat) : Int) + 2 ^ 200 * num r = (b : Int) + 2 ^ 200 * num r + y * 2 ^ 0
    rw [Int.pow_zero]
    omega
  | b :: r, d + 1, y, a, h => by
    have ih := num_set r d y a (by simpa using h)
    show (b : Int) + 2 ^ 200 * num (r.set d (a + y)) = (b : Int) + 2 ^ 200 * num r + y * 2 ^ (200 * (d + 1))
    rw [ih, Int.mul_add, show 200 * (d + 1) = 200 + 200 * d by omega, Int.pow_add]
    have : (2 : Int) ^ 200 * (y * 2 ^ (200 * d)) = y * (2 ^ 200 * 2 ^ (200 * d)) := by
      rw [← Int.mul_assoc, Int.mul_comm (2 ^ 200) (y : Int), Int.mul_assoc]
    rw [this]
    omega
theorem num_zero : ∀ m : Nat, num (List.replicate m 0) = 0
  | 0 => rfl
  | m + 1 => by
    show ((0 : Nat) : Int) + 2 ^ 200 * num (List.replicate m 0) = 0
    rw [num_zero m]
    simp
/-- m digits below B -/
def Dg (m B : Nat) (c : Int) : Prop := ∃ ps : List Nat, ps.length = m ∧ (∀ a ∈ ps, a < B) ∧ c = num ps
theorem Dg.mono {m B B' : Nat} {c : Int} (h : Dg m B c) (l : B ≤ B') : Dg m B' c := by
  obtain ⟨ps, h1, h2, h3⟩ := h
  exact ⟨ps, h1, fun a ha => Nat.lt_of_lt_of_le (h2 a ha) l, h3⟩
theorem Dg.nonneg {m B : Nat} {c : Int} (h : Dg m B c) : 0 ≤ c := by
  obtain ⟨ps, _, _, rfl⟩ := h
  exact num_nonneg ps
theorem Dg.zero {m B : Nat} (h : 0 < B) : Dg m B 0 := ⟨List.replicate m 0, by simp, fun a ha => by
  rw [List.mem_replicate] at ha
  omega, (num_zero m).symm⟩
theorem Dg.add {m B Y : Nat} {c : Int} (h : Dg m B c) {d y : Nat} (hd : d < m) (hy : y < Y) : Dg m (B + Y) (c + y * 2 ^ (200 * d)) := by
  obtain ⟨ps, h1, h2, rfl⟩ := h
  have hg : ps[d]? = some ps[d] := List.getElem?_eq_getElem (by omega)
  refine ⟨ps.set d (ps[d] + y), by simp [h1], fun a ha => ?_, (num_set ps d y _ hg).symm⟩
  rcases List.mem_or_eq_of_mem_set ha with ha | ha
  · have := h2 a ha; omega
  · have := h2 ps[d] (List.getElem_mem _)
    omega
theorem tb_add {a q : Nat} {c : Int} (ha : a < 2 ^ 200) : tb ((a : Int) + 2 ^ 200 * c) q = if q < 200 then tb (a : Int) q else tb c (q - 200) := by
  have hp : (0 : Int) < 2 ^ q := Int.pow_pos (by decide)
  split
  · rename_i hq
    unfold tb
    have e : (2 : Int) ^ 200 * c = 2 ^ q * (2 * (2 ^ (199 - q) * c)) := by
      rw [← Int.mul_assoc, ← Int.mul_assoc, ← Int.pow_succ, ← Int.pow_add]
      congr 2
      omega
    rw [e, Int.add_mul_ediv_left _ _ (Int.ne_of_gt hp)]
    congr 1
    apply propext
    constructor <;> intro h <;> omega
  · rename_i hq
    have e : ((a : Int) + 2 ^ 200 * c) / 2 ^ 200 = c := by
      rw [Int.add_mul_ediv_left _ _ (Int.ne_of_gt (Int.pow_pos (by decide)))]
      rw [Int.ediv_eq_zero_of_lt (by omega) (by
        have : ((2 ^ 200 : Nat) : Int) = (2 : Int) ^ 200 := by simp
        omega)]
      omega
    have := tb_shift ((a : Int) + 2 ^ 200 * c) 200 (q - 200)
    rw [e] at this
    rw [this]
    congr 1
    omega
theorem tb_small {a k q : Nat} (ha : a < 2 ^ k) (hq : k ≤ q) : tb (a : Int) q = false := by
  unfold tb
  have h1 : (a : Int) < 2 ^ q := by
    have : a < 2 ^ q := Nat.lt_of_lt_of_le ha (Nat.pow_le_pow_right (by decide) hq)
    have h3 : ((2 ^ q : Nat) : Int) = (2 : Int) ^ q := by simp
    omega
  rw [Int.ediv_eq_zero_of_lt (by omega) h1]
  rfl
/-- no turn of a code lies high in its digit -/
theorem dg_turns : ∀ (ps : List Nat), (∀ a ∈ ps, a < 2 ^ 100) → ∀ q, (ps.length ≤ q / 200 ∨ 100 ≤ q % 200) → tb (num ps) q = false
  | [], _, q, _ => tb_top q
  | a :: r, h, q, hq => by
    have ha := h a (by simp)
    have ha2 : a < 2 ^ 200 := Nat.lt_of_lt_of_le ha (Nat.pow_le_pow_right (by decide) (by decide))
    show tb ((a : Int) + 2 ^ 200 * num r) q = false
    rw [tb_add ha2]
    split
    · refine tb_small ha ?_
      simp at hq
      omega
    · refine dg_turns r (fun x hx => h x (by simp [hx])) (q - 200) ?_
      simp at hq
      omega
/-- a code's turns: fields below m, steps up to 101 -/
def CodeOk (m : Nat) (c : Int) : Prop := 0 ≤ c ∧ ∀ t ∈ turnsOf c, t / 200 < m ∧ t % 200 ≤ 101
theorem Dg.code {m B : Nat} {c : Int} (h : Dg m B c) (hB : B ≤ 2 ^ 100) : CodeOk m c := by
  refine ⟨h.nonneg, fun t ht => ?_⟩
  obtain ⟨ps, h1, h2, rfl⟩ := h
  have hz := dg_turns ps fun a ha => Nat.lt_of_lt_of_le (h2 a ha) hB
  have hm := (mem_tb (turnsOf_asc (num ps)) t).mp ht
  rw [turnsOf_tv] at hm
  apply Classical.byContradiction
  intro hc
  apply hm
  by_cases h0 : t = 0
  · subst h0
    rw [if_pos rfl]
    exact hz 0 (by omega)
  · rw [if_neg h0, hz t (by omega), hz (t - 1) (by omega)]
theorem code_range {m : Nat} {c : Int} (h : CodeOk m c) : -(2 ^ (200 * m)) ≤ c ∧ c < 2 ^ (200 * m) := by
  have := (tv_range (k := 200 * m) (turnsOf_asc c)).mp fun t ht => by
    have := h.2 t ht
    omega
  rwa [turnsOf_tv] at this
/-- where field i lies -/
def Fi (fs : List PyData) (i : Nat) : Nat := (val (fs.getD i (.int 0))).toNat
def phi (fs : List PyData) (t : Nat) : Nat := Fi fs (t / 200) + t % 200
theorem fields_step {fs : List PyData} (F : Fields fs) : ∀ i j, i < j → j < 4 → Fi fs i + 102 ≤ Fi fs j := by
  obtain ⟨f1, es2, es3, rfl, h1, h2, _, _, _, _, h3, h4, _⟩ := F.ex
  have e0 : Fi [.int 0, .int (f1 : Nat), .tuple es2, .tuple es3] 0 = 0 := by
    show (val (.int 0)).toNat = 0
    rw [val_int]; rfl
  have e1 : Fi [.int 0, .int (f1 : Nat), .tuple es2, .tuple es3] 1 = f1 := by
    show (val (.int (f1 : Nat))).toNat = f1
    rw [val_int]; omega
  have e2 : Fi [.int 0, .int (f1 : Nat), .tuple es2, .tuple es3] 2 = (val (.tuple es2)).toNat := rfl
  have e3 : Fi [.int 0, .int (f1 : Nat), .tuple es2, .tuple es3] 3 = (val (.tuple es3)).toNat := rfl
  have h140 : (2 : Int) ^ 65 < 2 ^ 140 := by decide
  intro i j hij hj
  have hi : i = 0 ∨ i = 1 ∨ i = 2 := by omega
  have hj' : j = 1 ∨ j = 2 ∨ j = 3 := by omega
  rcases hi with rfl | rfl | rfl <;> rcases hj' with rfl | rfl | rfl <;> first | omega | (simp only [e0, e1, e2, e3]; omega)
theorem phi_lt {fs : List PyData} (F : Fields fs) {m t u : Nat} (hm : m ≤ 4) (ht : t / 200 < m ∧ t % 200 ≤ 101) (hu : u / 200 < m ∧ u % 200 ≤ 101) (h : t < u) : phi fs t < phi fs u := by
  unfold phi
  by_cases e : t / 200 = u / 200
  · rw [e]
    omega
  · have := fields_step F (t / 200) (u / 200) (by omega) (by omega)
    omega
/-- the far number of a code -/
noncomputable def Phi (fs : List PyData) (c : Int) : Int := tv ((turnsOf c).map (phi fs))
theorem phi_asc {fs : List PyData} (F : Fields fs) {m : Nat} {c : Int} (hm : m ≤ 4) (h : CodeOk m c) : Asc ((turnsOf c).map (phi fs)) :=
  asc_map (turnsOf_asc c) fun x hx y hy hxy => phi_lt F hm (h.2 x hx) (h.2 y hy) hxy
theorem Phi_nonneg {fs : List PyData} (F : Fields fs) {m : Nat} {c : Int} (hm : m ≤ 4) (h : CodeOk m c) : 0 ≤ Phi fs c := by
  have hA := phi_asc F hm h
  have he := even_of_nonneg (turnsOf_asc c) (by rw [turnsOf_tv]; exact h.1)
  by_cases hn : (turnsOf c).map (phi fs) = []
  · unfold Phi
    rw [hn]
    exact Int.le_refl _
  · exact Int.le_of_lt (even_pos hA hn (by rw [List.length_map]; exact he))
theorem Phi_lt {fs : List PyData} (F : Fields fs) {m : Nat} {c d : Int} (hm : m ≤ 4) (hc : CodeOk m c) (hd : CodeOk m d) (h : c < d) : Phi fs c < Phi fs d := by
  refine tv_map_lt (turnsOf_asc c) (turnsOf_asc d) (fun x hx y hy hxy => ?_) (by rw [turnsOf_tv, turnsOf_tv]; exact h)
  have good : ∀ z ∈ turnsOf c ++ turnsOf d, z / 200 < m ∧ z % 200 ≤ 101 := fun z hz => (List.mem_append.mp hz).elim (hc.2 z) (hd.2 z)
  exact phi_lt F hm (good x hx) (good y hy) hxy
/-- a far place: a field and a step -/
theorem place_far {es : List PyData} {us : List Nat} {j : Nat} (hF : Fm (.tuple es)) (hl : ∀ t ∈ vals es, 150 ≤ t) (h0 : 0 ≤ val (.tuple es)) (hA : Asc us) (hj : tv us = j) (hu : ∀ t ∈ us, t ≤ 100) :
    Fm (.tuple (iD us ++ es)) ∧ val (.tuple (iD us ++ es)) = val (.tuple es) + j := by
  have hF' := (fm_tuple es).mp hF
  have he := even_of_nonneg hA (by omega)
  rw [fm_tuple, val_tuple, val_tuple, vals_app, vals_iD, fmAll_app, tv_append, if_pos he]
  refine ⟨⟨⟨fmAll_iD fun t ht => by have := hu t ht; omega, hF'.1⟩, ?_, ?_⟩, by omega⟩
  · rw [asc_pairwise, List.pairwise_append]
    exact ⟨asc_pairwise.mp hA, asc_pairwise.mp hF'.2.1, fun x hx y hy => by have := hu x hx; have := hl y hy; omega⟩
  · obtain ⟨t, ht, h64⟩ := hF'.2.2
    exact ⟨t, by simp [ht], h64⟩
/-- a little above the plain numbers: few turns -/
theorem near_int {d : PyData} (f : Fm d) (h0 : 0 ≤ val d) (hp : val d < 2 ^ 64) : wt d = 1 := by
  have e : d = .int (val d) := by
    cases d with
    | int i => rw [val_int]
    | tuple ds => exact absurd ⟨by omega, hp⟩ (tuple_far f)
    | none => simp [Fm] at f
    | bool _ => simp [Fm] at f
    | str _ => simp [Fm] at f
    | list _ => simp [Fm] at f
    | dict _ => simp [Fm] at f
  rw [e, wt_int]
/-- the weight of a code's turn, at most; of a code -/
def cw (t : Nat) : Nat := if t < 200 then 1 else 23
noncomputable def cwt (c : Int) : Nat := 1 + ((turnsOf c).map cw).sum
theorem near64 {d : PyData} (f : Fm d) (h0 : 0 ≤ val d) (h1 : val d < 2 ^ 64 + 102) : wt d ≤ 23 := by
  by_cases hp : val d < 2 ^ 64
  · rw [near_int f h0 hp]
    decide
  · obtain ⟨us, hA, e⟩ := turns_ex (val d - 2 ^ 64)
    have hb : ∀ t ∈ us, t ≤ 7 := (tv_range hA).mpr ⟨by omega, by omega⟩
    have hl := asc_len (a := 0) hA fun t ht => ⟨Nat.zero_le _, hb t ht⟩
    have hev : us.length % 2 = 0 := by
      by_cases hn : us = []
      · subst hn
        rfl
      · obtain ⟨a, r, rfl⟩ : ∃ a r, us = r ++ [a] := ⟨us.getLast hn, us.dropLast, (List.dropLast_concat_getLast hn).symm⟩
        have := tv_sign hA
        have h2 : ¬ tv (r ++ [a]) < 0 := by omega
        rw [this.1] at h2
        simp
        omega
    have hA2 : Asc (us ++ [64, 65]) := asc_pairwise.mpr (List.pairwise_append.mpr ⟨asc_pairwise.mp hA, by simp, fun x hx y hy => by
      have := hb x hx
      simp at hy
      omega⟩)
    obtain ⟨f1, f2⟩ := fm_small hA2 (fun t ht => by
      rcases List.mem_append.mp ht with ht | ht
      · have := hb t ht
        omega
      · simp at ht
        omega) ⟨65, by simp, by decide⟩
    have e2 : tv (us ++ [64, 65]) = tv us + tv [64, 65] := by
      rw [tv_append, if_pos hev]
    have e3 : tv [64, 65] = 2 ^ 64 := by decide
    rw [fm_inj f f1 (by rw [f2, e2, e3, e]; omega), wt_tuple, wtAll_iD, List.length_append]
    simp
    omega
/-- how many turns a code has -/
theorem code_len {m : Nat} {c : Int} {ts : List Nat} (hA : Asc ts) (h : ∀ t ∈ ts, t / 200 < m ∧ t % 200 ≤ 101) (hm : m ≤ 4) : ts.length ≤ 408 := by
  have h2 : Asc (ts.map fun t => t / 200 * 102 + t % 200) := asc_map hA fun x hx y hy hxy => by
    have := h x hx
    have := h y hy
    omega
  have h3 := asc_len (a := 0) (k := 407) h2 fun t ht => by
    obtain ⟨x, hx, rfl⟩ := List.mem_map.mp ht
    have := h x hx
    omega
  rw [List.length_map] at h3
  omega
theorem cw_sum : ∀ ts : List Nat, (ts.map cw).sum ≤ 23 * ts.length
  | [] => by simp
  | t :: r => by
    have := cw_sum r
    simp only [List.map_cons, List.sum_cons, List.length_cons]
    have : cw t ≤ 23 := by unfold cw; split <;> omega
    omega
theorem CodeOk.cwt {m : Nat} {c : Int} (h : CodeOk m c) (hm : m ≤ 4) : cwt c ≤ 12300 := by
  have h1 := code_len (c := c) (turnsOf_asc c) h.2 hm
  have h2 := cw_sum (turnsOf c)
  unfold FC.cwt
  omega
theorem cwts_le {m : Nat} (hm : m ≤ 4) : ∀ {cs : List Int}, (∀ c ∈ cs, CodeOk m c) → (cs.map cwt).sum ≤ 12300 * cs.length
  | [], _ => by simp
  | c :: r, h => by
    have h1 := (h c (by simp)).cwt hm
    have h2 := cwts_le hm (cs := r) fun x hx => h x (by simp [hx])
    simp only [List.map_cons, List.sum_cons, List.length_cons]
    omega
end FC
set_option Elab.async false
set_option linter.all false
set_option maxRecDepth 100000
/-! sums of powers of two at far places, known by sums at near places -/
namespace MS
open PySem PySem.Spec TV FM FC
theorem tv_map_add (Q : Nat) (ts : List Nat) : tv (ts.map (· + Q)) = 2 ^ Q * tv ts := by
  induction Q with
  | zero => simp
  | succ Q ih =>
    have : ts.map (· + (Q + 1)) = (ts.map (· + Q)).map (· + 1) := by
      rw [List.map_map]
      rfl
    rw [this, tv_map_succ, ih, Int.pow_succ, Int.mul_comm (2 ^ Q) 2, Int.mul_assoc]
theorem asc_map_add (Q : Nat) {ts : List Nat} (h : Asc ts) : Asc (ts.map (· + Q)) := asc_map h fun x _ y _ hxy => by omega
theorem turns_app {L Hh : Int} {Q : Nat} (hL : ∀ t ∈ turnsOf L, t < Q) : turnsOf (L + 2 ^ Q * Hh) = turnsOf L ++ (turnsOf (if (turnsOf L).length % 2 = 0 then Hh else -Hh)).map (· + Q) := by
  refine turnsOf_is ?_ ?_
  · refine asc_pairwise.mpr (List.pairwise_append.mpr ⟨asc_pairwise.mp (turnsOf_asc L), asc_pairwise.mp (asc_map_add Q (turnsOf_asc _)), fun x hx y hy => ?_⟩)
    obtain ⟨z, _, rfl⟩ := List.mem_map.mp hy
    have := hL x hx
    omega
  · rw [tv_append, tv_map_add, turnsOf_tv, turnsOf_tv]
    by_cases h : (turnsOf L).length % 2 = 0
    · rw [if_pos h, if_pos h]
    · rw [if_neg h, if_neg h, Int.mul_neg, Int.neg_neg]
theorem stretch {L Hh : Int} {Q δ : Nat} (hL : ∀ t ∈ turnsOf L, t < Q) : turnsOf (L + 2 ^ (Q + δ) * Hh) = (turnsOf (L + 2 ^ Q * Hh)).map fun t => if t < Q then t else t + δ := by
  rw [turns_app hL, turns_app (Q := Q + δ) fun t ht => by have := hL t ht; omega, List.map_append, List.map_map]
  congr 1
  · conv => lhs; rw [← List.map_id (turnsOf L)]
    refine List.map_congr_left fun t ht => ?_
    rw [if_pos (hL t ht)]
    rfl
  · refine List.map_congr_left fun t _ => ?_
    show t + (Q + δ) = if t + Q < Q then t + Q else t + Q + δ
    rw [if_neg (by omega)]
    omega
/-- the sum of the terms, each at its place -/
def Sm (T : List (Nat × Int)) (π : Nat → Nat) : Int := (T.map fun t => t.2 * 2 ^ π t.1).sum
def Ab (T : List (Nat × Int)) : Nat := (T.map fun t => t.2.natAbs).sum
theorem Sm_congr {T : List (Nat × Int)} {π π' : Nat → Nat} (h : ∀ t ∈ T, π t.1 = π' t.1) : Sm T π = Sm T π' := by
  unfold Sm
  congr 1
  refine List.map_congr_left fun t ht => ?_
  rw [h t ht]
theorem Sm_split {π : Nat → Nat} (k : Nat) : ∀ T : List (Nat × Int), Sm T π = Sm (T.filter fun t => decide (t.1 < k)) π + Sm (T.filter fun t => !decide (t.1 < k)) π
  | [] => rfl
  | t :: r => by
    have ih := Sm_split (π := π) k r
    unfold Sm at *
    rw [List.map_cons, List.sum_cons, ih]
    by_cases h : t.1 < k
    · rw [List.filter_cons_of_pos (by simpa using h), List.filter_cons_of_neg (by simpa using h), List.map_cons, List.sum_cons, Int.add_assoc]
    · rw [List.filter_cons_of_neg (by simpa using h), List.filter_cons_of_pos (by simpa using h), List.map_cons, List.sum_cons]
      omega
theorem Sm_lift {π : Nat → Nat} {Q : Nat} : ∀ {T : List (Nat × Int)}, (∀ t ∈ T, Q ≤ π t.1) → Sm T π = 2 ^ Q * Sm T fun i => π i - Q
  | [], _ => by simp [Sm]
  | t :: r, h => by
    have ih := Sm_lift (π := π) (Q := Q) (T := r) fun t ht => h t (by simp [ht])
    unfold Sm at *
    rw [List.map_cons, List.sum_cons, ih, List.map_cons, List.sum_cons, Int.mul_add]
    congr 1
    have e : π t.1 = Q + (π t.1 - Q) := by
      have := h t (by simp)
      omega
    show t.2 * 2 ^ π t.1 = 2 ^ Q * (t.2 * 2 ^ (π t.1 - Q))
    conv => lhs; rw [e, Int.pow_add]
    rw [Int.mul_left_comm]
theorem Ab_filter (p : Nat × Int → Bool) : ∀ T, Ab (T.filter p) ≤ Ab T
  | [] => Nat.le_refl _
  | t :: r => by
    have ih := Ab_filter p r
    unfold Ab at *
    rw [List.map_cons, List.sum_cons]
    cases h : p t
    · rw [List.filter_cons_of_neg (by simp [h])]
      omega
    · rw [List.filter_cons_of_pos h, List.map_cons, List.sum_cons]
      omega
theorem Sm_abs {π : Nat → Nat} {b : Nat} : ∀ {T : List (Nat × Int)}, (∀ t ∈ T, π t.1 ≤ b) → (Sm T π).natAbs ≤ Ab T * 2 ^ b
  | [], _ => by simp [Sm]
  | t :: r, h => by
    have ih := Sm_abs (π := π) (b := b) (T := r) fun t ht => h t (by simp [ht])
    unfold Sm Ab at *
    rw [List.map_cons, List.sum_cons, List.map_cons, List.sum_cons, Nat.add_mul]
    have h1 : (t.2 * 2 ^ π t.1).natAbs ≤ t.2.natAbs * 2 ^ b := by
      rw [Int.natAbs_mul, Int.natAbs_pow]
      exact Nat.mul_le_mul_left _ (Nat.pow_le_pow_right (by decide) (h t (by simp)))
    have := Int.natAbs_add_le (t.2 * 2 ^ π t.1) (r.map fun t => t.2 * 2 ^ π t.1).sum
    omega
theorem turns_lt {n : Int} {b c : Nat} (h : n.natAbs ≤ 2 ^ c * 2 ^ b) : ∀ t ∈ turnsOf n, t ≤ b + c + 1 := by
  refine (tv_range (turnsOf_asc n)).mpr ?_
  rw [turnsOf_tv]
  have e : (2 : Int) ^ (b + c + 1) = ((2 ^ c * 2 ^ b * 2 : Nat) : Int) := by
    rw [Int.pow_succ, Nat.add_comm b c, Int.pow_add]
    simp
  have hp : 0 < 2 ^ c * 2 ^ b := Nat.mul_pos (Nat.pow_pos (by decide)) (Nat.pow_pos (by decide))
  rw [e]
  omega
theorem stretch_sum {T : List (Nat × Int)} {π π' : Nat → Nat} {k Q δ : Nat} (hlow : ∀ t ∈ T, t.1 < k → π t.1 + 120 ≤ Q ∧ π' t.1 = π t.1) (hhigh : ∀ t ∈ T, k ≤ t.1 → Q ≤ π t.1 ∧ π' t.1 = π t.1 + δ) (hb : Ab T ≤ 2 ^ 100) :
    turnsOf (Sm T π') = (turnsOf (Sm T π)).map fun t => if t < Q then t else t + δ := by
  have e1 := Sm_split (π := π) k T
  have e2 := Sm_split (π := π') k T
  have l1 : ∀ t ∈ T.filter (fun t => decide (t.1 < k)), t ∈ T ∧ t.1 < k := fun t ht => by simpa using List.mem_filter.mp ht
  have l2 : ∀ t ∈ T.filter (fun t => !decide (t.1 < k)), t ∈ T ∧ k ≤ t.1 := fun t ht => by simpa using List.mem_filter.mp ht
  have e3 : Sm (T.filter fun t => decide (t.1 < k)) π' = Sm (T.filter fun t => decide (t.1 < k)) π := Sm_congr fun t ht => (hlow t (l1 t ht).1 (l1 t ht).2).2
  have e4 : Sm (T.filter fun t => !decide (t.1 < k)) π = 2 ^ Q * _ := Sm_lift fun t ht => (hhigh t (l2 t ht).1 (l2 t ht).2).1
  have e5 : Sm (T.filter fun t => !decide (t.1 < k)) π' = 2 ^ (Q + δ) * _ := Sm_lift fun t ht => by
    have := hhigh t (l2 t ht).1 (l2 t ht).2
    omega
  have e6 : Sm (T.filter fun t => !decide (t.1 < k)) (fun i => π' i - (Q + δ)) = Sm (T.filter fun t => !decide (t.1 < k)) (fun i => π i - Q) := Sm_congr fun t ht => by
    have := hhigh t (l2 t ht).1 (l2 t ht).2
    show π' t.1 - (Q + δ) = π t.1 - Q
    omega
  rw [e1, e2, e3, e4, e5, e6]
  refine stretch fun t ht => ?_
  by_cases hn : T.filter (fun t => decide (t.1 < k)) = []
  · rw [hn] at ht
    have : turnsOf (Sm [] π) = [] := turnsOf_is (ts := []) trivial rfl
    rw [this] at ht
    exact absurd ht (by simp)
  · obtain ⟨u, hu⟩ := List.exists_mem_of_ne_nil _ hn
    have hq := (hlow u (l1 u hu).1 (l1 u hu).2).1
    have h1 := Sm_abs (π := π) (b := Q - 120) (T := T.filter fun t => decide (t.1 < k)) fun t ht => by
      have := (hlow t (l1 t ht).1 (l1 t ht).2).1
      omega
    have h2 := Nat.le_trans (Ab_filter (fun t => decide (t.1 < k)) T) hb
    have h3 := Nat.le_trans h1 (Nat.mul_le_mul_right (2 ^ (Q - 120)) h2)
    have := turns_lt (c := 100) h3 t ht
    omega
/-- places near and far: the same steps, but that a step of 120 may stand for a longer one -/
structure Near (n : Nat) (q P : Nat → Nat) : Prop where
  z : q 0 = 0
  s : ∀ k, k + 1 < n → q k ≤ q (k + 1) ∧ ((P (k + 1) = P k + (q (k + 1) - q k)) ∨ (q (k + 1) = q k + 120 ∧ P k + 120 ≤ P (k + 1)))
theorem Near.mono {n : Nat} {q P : Nat → Nat} (h : Near n q P) {i : Nat} : ∀ {j : Nat}, i ≤ j → j < n → q i ≤ q j ∧ q j - q i + P i ≤ P j
  | 0, hij, hj => by
    have : i = 0 := by omega
    subst this
    omega
  | j + 1, hij, hj => by
    by_cases e : i = j + 1
    · subst e
      omega
    · have ih := h.mono (i := i) (j := j) (by omega) (by omega)
      have := h.s j hj
      omega
theorem Near.le {n : Nat} {q P : Nat → Nat} (h : Near n q P) {i : Nat} (hi : i < n) : q i ≤ P i := by
  have := h.mono (Nat.zero_le i) hi
  have := h.z
  omega
def At (n : Nat) (q : Nat → Nat) (at_ : Nat → Nat) (t : Nat) : Prop := at_ t < n ∧ q (at_ t) ≤ t ∧ (at_ t + 1 = n ∨ t < q (at_ t + 1))
theorem near_turns {n : Nat} {q P at_ : Nat → Nat} {T : List (Nat × Int)} (N : Near n q P) (hT : ∀ t ∈ T, t.1 < n) (hb : Ab T ≤ 2 ^ 100) (ha : ∀ t ∈ turnsOf (Sm T q), At n q at_ t) :
    turnsOf (Sm T P) = (turnsOf (Sm T q)).map fun t => t + (P (at_ t) - q (at_ t)) := by
  let Dk : Nat → Nat := fun k => if k = 0 then 0 else P (k - 1) - q (k - 1)
  let πk : Nat → Nat → Nat := fun k i => if i < k then q i else P i - Dk k
  let fk : Nat → Nat → Nat := fun k t => if k ≤ at_ t then t + (P (at_ t) - q (at_ t)) - Dk k else t
  have main : ∀ j, j ≤ n → turnsOf (Sm T (πk (n - j))) = (turnsOf (Sm T q)).map (fk (n - j)) := by
    intro j
    induction j with
    | zero =>
      intro _
      have e1 : Sm T (πk (n - 0)) = Sm T q := Sm_congr fun t ht => by
        show (if t.1 < n - 0 then q t.1 else _) = _
        rw [if_pos (show t.1 < n - 0 from hT t ht)]
      have e2 : (turnsOf (Sm T q)).map (fk (n - 0)) = (turnsOf (Sm T q)).map id := List.map_congr_left fun t ht => by
        show (if n - 0 ≤ at_ t then _ else t) = t
        rw [if_neg (by have := (ha t ht).1; omega)]
      rw [e1, e2, List.map_id]
    | succ j ih =>
      intro hj
      have ih := ih (by omega)
      obtain ⟨k, hk⟩ : ∃ k, n - (j + 1) = k := ⟨_, rfl⟩
      have hk1 : n - j = k + 1 := by omega
      have hkn : k < n := by omega
      rw [hk]
      rw [hk1] at ih
      have hD1 : Dk (k + 1) = P k - q k := by
        show (if k + 1 = 0 then 0 else P (k + 1 - 1) - q (k + 1 - 1)) = _
        rw [if_neg (by omega), Nat.add_sub_cancel]
      have hqk := N.le hkn
      have hmono : ∀ i, k ≤ i → i < n → q k ≤ q i ∧ q i - q k + P k ≤ P i := fun i h1 h2 => N.mono h1 h2
      have hDle : Dk k ≤ P k - q k ∧ (Dk k = P k - q k ∨ ∀ i, i < k → q i + 120 ≤ q k) := by
        show (if k = 0 then 0 else P (k - 1) - q (k - 1)) ≤ P k - q k ∧ ((if k = 0 then 0 else P (k - 1) - q (k - 1)) = P k - q k ∨ _)
        by_cases h0 : k = 0
        · rw [if_pos h0]
          exact ⟨Nat.zero_le _, .inr fun i hi => by omega⟩
        · rw [if_neg h0]
          have hs := N.s (k - 1) (by omega)
          rw [show k - 1 + 1 = k by omega] at hs
          have hq1 := N.le (i := k - 1) (by omega)
          refine ⟨by omega, ?_⟩
          rcases hs.2 with hs2 | hs2
          · left
            omega
          · right
            intro i hi
            have := (N.mono (i := i) (j := k - 1) (by omega) (by omega)).1
            omega
      have hat : ∀ t ∈ turnsOf (Sm T q), (at_ t < k → t < q k) ∧ (k ≤ at_ t → q k ≤ t ∧ P k - q k ≤ P (at_ t) - q (at_ t)) := fun t ht => by
        obtain ⟨a1, a2, a3⟩ := ha t ht
        refine ⟨fun h => ?_, fun h => ?_⟩
        · have := (N.mono (i := at_ t + 1) (j := k) (by omega) hkn).1
          omega
        · have := hmono (at_ t) h a1
          have := N.le a1
          omega
      by_cases hδ : Dk k = P k - q k
      · have e1 : Sm T (πk k) = Sm T (πk (k + 1)) := Sm_congr fun t ht => by
          have htn := hT t ht
          show (if t.1 < k then q t.1 else P t.1 - Dk k) = (if t.1 < k + 1 then q t.1 else P t.1 - Dk (k + 1))
          by_cases h1 : t.1 < k
          · rw [if_pos h1, if_pos (by omega)]
          · rw [if_neg h1]
            by_cases h2 : t.1 = k
            · rw [if_pos (by omega), h2]
              omega
            · rw [if_neg (by omega), hD1, hδ]
        rw [e1, ih]
        refine List.map_congr_left fun t ht => ?_
        have hh := hat t ht
        show (if k + 1 ≤ at_ t then t + (P (at_ t) - q (at_ t)) - Dk (k + 1) else t) = (if k ≤ at_ t then t + (P (at_ t) - q (at_ t)) - Dk k else t)
        by_cases h1 : k + 1 ≤ at_ t
        · rw [if_pos h1, if_pos (by omega), hD1, hδ]
        · rw [if_neg h1]
          by_cases h2 : k ≤ at_ t
          · have : at_ t = k := by omega
            rw [if_pos h2, this]
            omega
          · rw [if_neg h2]
      · have hcap := hDle.2.resolve_left hδ
        have hst := stretch_sum (T := T) (π := πk (k + 1)) (π' := πk k) (k := k) (Q := q k) (δ := P k - q k - Dk k) (fun t ht hlt => ?_) (fun t ht hge => ?_) hb
        · rw [hst, ih, List.map_map]
          refine List.map_congr_left fun t ht => ?_
          have hh := hat t ht
          show (if fk (k + 1) t < q k then fk (k + 1) t else fk (k + 1) t + (P k - q k - Dk k)) = (if k ≤ at_ t then t + (P (at_ t) - q (at_ t)) - Dk k else t)
          by_cases h2 : k ≤ at_ t
          · have h3 := hh.2 h2
            rw [if_pos h2]
            by_cases h1 : k + 1 ≤ at_ t
            · have ef : fk (k + 1) t = t + (P (at_ t) - q (at_ t)) - Dk (k + 1) := if_pos h1
              rw [ef, hD1, if_neg (by omega)]
              omega
            · have ef : fk (k + 1) t = t := if_neg h1
              have : at_ t = k := by omega
              rw [ef, if_neg (by omega), this]
              omega
          · have ef : fk (k + 1) t = t := if_neg (by omega)
            rw [if_neg h2, ef, if_pos (hh.1 (by omega))]
        · refine ⟨?_, ?_⟩
          · show (if t.1 < k + 1 then q t.1 else _) + 120 ≤ q k
            rw [if_pos (by omega)]
            exact hcap _ hlt
          · show (if t.1 < k then q t.1 else _) = (if t.1 < k + 1 then q t.1 else _)
            rw [if_pos hlt, if_pos (by omega)]
        · have hm := hmono t.1 hge (hT t ht)
          show q k ≤ (if t.1 < k + 1 then q t.1 else P t.1 - Dk (k + 1)) ∧ (if t.1 < k then q t.1 else P t.1 - Dk k) = (if t.1 < k + 1 then q t.1 else P t.1 - Dk (k + 1)) + (P k - q k - Dk k)
          rw [if_neg (show ¬ t.1 < k by omega), hD1]
          by_cases h2 : t.1 = k
          · rw [if_pos (show t.1 < k + 1 by omega), h2]
            omega
          · rw [if_neg (show ¬ t.1 < k + 1 by omega)]
            omega
  have h0 := main n (Nat.le_refl n)
  rw [Nat.sub_self] at h0
  have e1 : Sm T (πk 0) = Sm T P := Sm_congr fun t _ => by
    show (if t.1 < 0 then q t.1 else P t.1 - 0) = P t.1
    rw [if_neg (by omega)]
    rfl
  rw [← e1, h0]
  refine List.map_congr_left fun t ht => ?_
  show (if 0 ≤ at_ t then t + (P (at_ t) - q (at_ t)) - 0 else t) = _
  rw [if_pos (Nat.zero_le _)]
  rfl
end MS
set_option Elab.async false
set_option linter.all false
set_option maxRecDepth 100000
/-! how many turns a sum of powers of two has -/
namespace MS
open PySem PySem.Spec TV FM FC
noncomputable def tau (n : Int) : Nat := (turnsOf n).length
theorem turns_dbl (m : Int) : turnsOf (2 * m) = (turnsOf m).map (· + 1) := turnsOf_is (asc_succ (turnsOf_asc m)) (by rw [tv_map_succ, turnsOf_tv])
theorem tau_dbl (m : Int) : tau (2 * m) = tau m := by
  unfold tau
  rw [turns_dbl, List.length_map]
theorem zero_turn (m : Int) : 0 ∈ turnsOf m ↔ m % 2 = 1 := by
  have := mem_tb (turnsOf_asc m) 0
  rw [turnsOf_tv, if_pos rfl, tb_zero] at this
  rw [this]
  simp
theorem tau_odd (m : Int) : tau (2 * m + 1) = tau m + if m % 2 = 0 then 2 else 0 := by
  by_cases h : m % 2 = 0
  · rw [if_pos h]
    have h0 : ∀ t ∈ turnsOf m, 0 < t := fun t ht => by
      apply Nat.pos_of_ne_zero
      intro e
      subst e
      have := (zero_turn m).mp ht
      omega
    have e : turnsOf (2 * m + 1) = 0 :: 1 :: (turnsOf m).map (· + 1) := by
      refine turnsOf_is (asc_cons (fun b hb => ?_) (asc_cons (fun b hb => ?_) (asc_succ (turnsOf_asc m)))) ?_
      · simp only [List.mem_cons, List.mem_map] at hb
        rcases hb with rfl | ⟨t, _, rfl⟩
        · decide
        · omega
      · obtain ⟨t, ht, rfl⟩ := List.mem_map.mp hb
        have := h0 t ht
        omega
      · rw [tv_cons, tv_cons, tv_map_succ, turnsOf_tv]
        omega
    unfold tau
    rw [e]
    simp
  · rw [if_neg h]
    have hz := (zero_turn m).mpr (by omega)
    have hA := turnsOf_asc m
    have hv := turnsOf_tv m
    unfold tau
    cases ht : turnsOf m with
    | nil => rw [ht] at hz; exact absurd hz (by simp)
    | cons a r =>
      rw [ht] at hz hA hv
      have ha : a = 0 := by
        rcases List.mem_cons.mp hz with e | e
        · exact e.symm
        · have := hA.lt 0 e
          omega
      subst ha
      have e : turnsOf (2 * m + 1) = 0 :: r.map (· + 1) := by
        refine turnsOf_is (asc_cons (fun b hb => ?_) (asc_succ hA.tail)) ?_
        · obtain ⟨t, _, rfl⟩ := List.mem_map.mp hb
          omega
        · rw [tv_cons, tv_map_succ]
          rw [tv_cons] at hv
          omega
      rw [e]
      simp
theorem half_ind {p : Int → Prop} (h0 : p 0) (h1 : p (-1)) (hs : ∀ m, p m → p (2 * m) ∧ p (2 * m + 1)) : ∀ n, p n := by
  have : ∀ k : Nat, ∀ n : Int, n.natAbs ≤ k → p n := by
    intro k
    induction k with
    | zero =>
      intro n hn
      have : n = 0 := by omega
      exact this ▸ h0
    | succ k ih =>
      intro n hn
      by_cases e0 : n = 0
      · exact e0 ▸ h0
      · by_cases e1 : n = -1
        · exact e1 ▸ h1
        · have := hs (n / 2) (ih (n / 2) (by omega))
          by_cases e : n % 2 = 0
          · have e2 : n = 2 * (n / 2) := by omega
            rw [e2]
            exact this.1
          · have e2 : n = 2 * (n / 2) + 1 := by omega
            rw [e2]
            exact this.2
  intro n
  exact this n.natAbs n (Nat.le_refl _)
theorem tau_zero : tau 0 = 0 := by
  unfold tau
  rw [show turnsOf 0 = [] from turnsOf_is (ts := []) trivial rfl]
  rfl
theorem tau_neg1 : tau (-1) = 1 := by
  unfold tau
  rw [turnsOf_is (ts := [0]) trivial (by decide)]
  rfl
theorem tau_one : tau 1 = 2 := by
  unfold tau
  rw [turnsOf_is (ts := [0, 1]) ⟨by decide, trivial⟩ (by decide)]
  rfl
theorem tau_s : ∀ n : Int, tau (n + 1) ≤ tau n + (if n % 2 = 0 then 2 else 0) ∧ tau n ≤ tau (n + 1) + (if n % 2 = 0 then 0 else 2) := by
  refine half_ind ?_ ?_ fun m ih => ⟨?_, ?_⟩
  · rw [show (0 : Int) + 1 = 1 by decide, tau_zero, tau_one]
    simp
  · rw [show (-1 : Int) + 1 = 0 by decide, tau_zero, tau_neg1]
    simp
  · rw [tau_odd, tau_dbl, if_pos (show 2 * m % 2 = 0 by omega), if_pos (show 2 * m % 2 = 0 by omega)]
    split <;> omega
  · rw [show 2 * m + 1 + 1 = 2 * (m + 1) by omega, tau_dbl, tau_odd, if_neg (show ¬ (2 * m + 1) % 2 = 0 by omega), if_neg (show ¬ (2 * m + 1) % 2 = 0 by omega)]
    obtain ⟨h1, h2⟩ := ih
    split at h1 <;> split at h2 <;> split <;> omega
/-- one more power of two, one less: two more turns at most -/
theorem tau_pow : ∀ (p : Nat) (n : Int), tau (n + 2 ^ p) ≤ tau n + 2 ∧ tau n ≤ tau (n + 2 ^ p) + 2
  | 0, n => by
    have := tau_s n
    rw [show (2 : Int) ^ 0 = 1 from rfl]
    obtain ⟨h1, h2⟩ := this
    split at h1 <;> split at h2 <;> omega
  | p + 1, n => by
    have ih := tau_pow p (n / 2)
    by_cases e : n % 2 = 0
    · have e1 : n = 2 * (n / 2) := by omega
      have e2 : n + 2 ^ (p + 1) = 2 * (n / 2 + 2 ^ p) := by rw [Int.pow_succ]; omega
      rw [e2, tau_dbl]
      have e3 : tau n = tau (n / 2) := by
        conv => lhs; rw [e1]
        exact tau_dbl _
      rw [e3]
      exact ih
    · have e1 : n = 2 * (n / 2) + 1 := by omega
      have e2 : n + 2 ^ (p + 1) = 2 * (n / 2 + 2 ^ p) + 1 := by rw [Int.pow_succ]; omega
      have e3 : tau n = tau (n / 2) + if n / 2 % 2 = 0 then 2 else 0 := by
        conv => lhs; rw [e1]
        exact tau_odd _
      rw [e2, tau_odd, e3]
      cases p with
      | zero =>
        rw [show (2 : Int) ^ 0 = 1 from rfl]
        have h := tau_s (n / 2)
        by_cases e4 : n / 2 % 2 = 0
        · rw [if_pos e4, if_neg (by omega)]
          rw [if_pos e4, if_pos e4] at h
          have e5 : n / 2 = 2 * (n / 2 / 2) := by omega
          have h6 := tau_dbl (n / 2 / 2)
          have h7 := tau_odd (n / 2 / 2)
          rw [← e5] at h6 h7
          omega
        · rw [if_neg e4, if_pos (by omega)]
          rw [if_neg e4, if_neg e4] at h
          omega
      | succ p =>
        have : (2 : Int) ^ (p + 1) = 2 ^ p * 2 := Int.pow_succ 2 p
        by_cases e4 : n / 2 % 2 = 0
        · rw [if_pos e4, if_pos (by omega)]
          omega
        · rw [if_neg e4, if_neg (by omega)]
          omega
theorem tau_mul {p : Nat} : ∀ (k : Nat) (n : Int), tau (n + k * 2 ^ p) ≤ tau n + 2 * k ∧ tau (n - k * 2 ^ p) ≤ tau n + 2 * k
  | 0, n => by simp
  | k + 1, n => by
    have ih := tau_mul (p := p) k n
    have h1 := (tau_pow p (n + k * 2 ^ p)).1
    have h2 := (tau_pow p (n - k * 2 ^ p - 2 ^ p)).2
    rw [show n - k * 2 ^ p - 2 ^ p + 2 ^ p = n - k * 2 ^ p by omega] at h2
    rw [show n + ((k + 1 : Nat) : Int) * 2 ^ p = n + k * 2 ^ p + 2 ^ p by rw [Int.natCast_add, Int.add_mul]; simp; omega, show n - ((k + 1 : Nat) : Int) * 2 ^ p = n - k * 2 ^ p - 2 ^ p by rw [Int.natCast_add, Int.add_mul]; simp; omega]
    omega
theorem tau_add (n c : Int) (p : Nat) : tau (n + c * 2 ^ p) ≤ tau n + 2 * c.natAbs := by
  have := tau_mul (p := p) c.natAbs n
  by_cases h : 0 ≤ c
  · have e : ((c.natAbs : Nat) : Int) = c := by omega
    rw [e] at this
    exact this.1
  · have e : ((c.natAbs : Nat) : Int) = -c := by omega
    rw [e, Int.neg_mul, Int.sub_neg] at this
    exact this.2
theorem tau_Sm {π : Nat → Nat} : ∀ T : List (Nat × Int), tau (Sm T π) ≤ 2 * Ab T
  | [] => by
    show tau 0 ≤ _
    rw [tau_zero]
    exact Nat.zero_le _
  | t :: r => by
    have ih := tau_Sm (π := π) r
    have := tau_add (Sm r π) t.2 (π t.1)
    unfold Sm Ab at *
    rw [List.map_cons, List.sum_cons, List.map_cons, List.sum_cons, Int.add_comm]
    omega
end MS
set_option Elab.async false
set_option linter.all false
set_option maxRecDepth 100000
/-! codes: digits, few turns in the far fields; the places that they stand for, near and far -/
namespace FD
open PySem PySem.Spec TV FM FB FC MS
/-- m digits below B; w turns at most in the far fields -/
def Dw (m B w : Nat) (c : Int) : Prop := ∃ (a : Nat) (r : List Nat), r.length + 1 = m ∧ a < B ∧ (∀ x ∈ r, x < B) ∧ c = (a : Int) + 2 ^ 200 * num r ∧ tau (num r) ≤ w
theorem Dw.dg {m B w : Nat} {c : Int} (h : Dw m B w c) : Dg m B c := by
  obtain ⟨a, r, h1, h2, h3, h4, h5⟩ := h
  exact ⟨a :: r, h1, fun x hx => (List.mem_cons.mp hx).elim (fun e => e ▸ h2) (h3 x), h4⟩
theorem Dw.mono {m B B' w w' : Nat} {c : Int} (h : Dw m B w c) (l : B ≤ B') (l2 : w ≤ w') : Dw m B' w' c := by
  obtain ⟨a, r, h1, h2, h3, h4, h5⟩ := h
  exact ⟨a, r, h1, by omega, fun x hx => by have := h3 x hx; omega, h4, by omega⟩
theorem Dw.code {m B w : Nat} {c : Int} (h : Dw m B w c) (hB : B ≤ 2 ^ 100) : CodeOk m c := h.dg.code hB
theorem Dw.nonneg {m B w : Nat} {c : Int} (h : Dw m B w c) : 0 ≤ c := h.dg.nonneg
theorem Dw.nat {m B x : Nat} (hm : 1 ≤ m) (hx : x < B) : Dw m B 0 (x : Nat) := by
  refine ⟨x, List.replicate (m - 1) 0, by simp; omega, hx, fun y hy => ?_, ?_, ?_⟩
  · rw [List.mem_replicate] at hy
    omega
  · rw [num_zero]
    simp
  · rw [num_zero, tau_zero]
    exact Nat.le_refl _
theorem Dw.add {m B Y w y : Nat} {c : Int} (h : Dw m B w c) (hy : y < Y) : Dw m (B + Y) w (c + (y : Nat)) := by
  obtain ⟨a, r, h1, h2, h3, rfl, h5⟩ := h
  exact ⟨a + y, r, h1, by omega, fun x hx => by have := h3 x hx; omega, by omega, h5⟩
/-- a number of at most two signed powers -/
def Two (y : Nat) : Prop := ∃ (a b : Nat) (s : Int), s.natAbs ≤ 1 ∧ (y : Int) = 2 ^ a + s * 2 ^ b
theorem Two.shl {y : Nat} (h : Two y) (k : Nat) : Two (y * 2 ^ k) := by
  obtain ⟨a, b, s, hs, e⟩ := h
  refine ⟨a + k, b + k, s, hs, ?_⟩
  rw [Int.pow_add, Int.pow_add, ← Int.mul_assoc, ← Int.add_mul, ← e]
  simp
theorem Dw.far {m B Y w y d : Nat} {c : Int} (h : Dw m B w c) (h0 : 1 ≤ d) (hd : d < m) (hy : y < Y) (ht : Two y) : Dw m (B + Y) (w + 4) (c + (y : Nat) * 2 ^ (200 * d)) := by
  obtain ⟨a, r, h1, h2, h3, rfl, h5⟩ := h
  obtain ⟨e, rfl⟩ : ∃ e, d = e + 1 := ⟨d - 1, by omega⟩
  have hg : r[e]? = some r[e] := List.getElem?_eq_getElem (by omega)
  have hn := num_set r e y _ hg
  refine ⟨a, r.set e (r[e] + y), by simp [h1], by omega, fun x hx => ?_, ?_, ?_⟩
  · rcases List.mem_or_eq_of_mem_set hx with hx | hx
    · have := h3 x hx; omega
    · have := h3 r[e] (List.getElem_mem _)
      omega
  · rw [hn, Int.mul_add, show 200 * (e + 1) = 200 + 200 * e by omega, Int.pow_add, Int.mul_left_comm]
    omega
  · rw [hn]
    obtain ⟨p, q, s, hs, ey⟩ := ht
    rw [ey, Int.add_mul, ← Int.pow_add, Int.mul_assoc, ← Int.pow_add, ← Int.add_assoc]
    have h6 := tau_add (num r + 2 ^ (p + 200 * e)) s (q + 200 * e)
    have h7 := (tau_pow (p + 200 * e) (num r)).1
    omega
/-- the far number of a row of digits from field j on -/
def far (fs : List PyData) : Nat → List Nat → Int
  | _, [] => 0
  | j, a :: r => (a : Int) * 2 ^ Fi fs j + far fs (j + 1) r
theorem Phi_far {fs : List PyData} : ∀ (ps : List Nat) (j : Nat), (∀ a ∈ ps, a < 2 ^ 100) → tv ((turnsOf (num ps)).map fun t => Fi fs (j + t / 200) + t % 200) = far fs j ps
  | [], j, _ => by
    rw [show turnsOf (num []) = [] from turnsOf_is (ts := []) trivial rfl]
    rfl
  | a :: r, j, h => by
    have ih := Phi_far (fs := fs) r (j + 1) fun x hx => h x (by simp [hx])
    have ha := h a (by simp)
    have hb : ∀ t ∈ turnsOf (a : Int), t ≤ 100 := by
      refine (tv_range (turnsOf_asc _)).mpr ?_
      rw [turnsOf_tv]
      have : ((2 ^ 100 : Nat) : Int) = 2 ^ 100 := by simp
      omega
    have he : (turnsOf (a : Int)).length % 2 = 0 := even_of_nonneg (turnsOf_asc _) (by rw [turnsOf_tv]; omega)
    show tv ((turnsOf ((a : Int) + 2 ^ 200 * num r)).map _) = (a : Int) * 2 ^ Fi fs j + far fs (j + 1) r
    rw [turns_app (Q := 200) fun t ht => by have := hb t ht; omega, if_pos he, List.map_append, tv_append, List.length_map, if_pos he, List.map_map, ← ih]
    congr 1
    · have : (turnsOf (a : Int)).map (fun t => Fi fs (j + t / 200) + t % 200) = (turnsOf (a : Int)).map (· + Fi fs j) := List.map_congr_left fun t ht => by
        have := hb t ht
        show Fi fs (j + t / 200) + t % 200 = t + Fi fs j
        rw [show j + t / 200 = j by omega]
        omega
      rw [this, tv_map_add, turnsOf_tv, Int.mul_comm]
    · congr 1
      refine List.map_congr_left fun t ht => ?_
      show Fi fs (j + (t + 200) / 200) + (t + 200) % 200 = Fi fs (j + 1 + t / 200) + t % 200
      rw [show j + (t + 200) / 200 = j + 1 + t / 200 by omega]
      omega
theorem Phi_num {fs : List PyData} {ps : List Nat} (h : ∀ a ∈ ps, a < 2 ^ 100) : Phi fs (num ps) = far fs 0 ps := by
  rw [← Phi_far ps 0 h]
  unfold Phi
  congr 1
  refine List.map_congr_left fun t _ => ?_
  unfold phi
  rw [Nat.zero_add]
theorem Fi_zero {fs : List PyData} (F : Fields fs) : Fi fs 0 = 0 := by
  obtain ⟨f1, es2, es3, rfl, _⟩ := F.ex
  show (val (.int 0)).toNat = 0
  rw [val_int]
  rfl
theorem Dg.split {m B : Nat} {c : Int} (h : Dg m B c) (hm : 1 ≤ m) : ∃ (a : Nat) (r : List Nat), r.length + 1 = m ∧ a < B ∧ (∀ x ∈ r, x < B) ∧ c = (a : Int) + 2 ^ 200 * num r := by
  obtain ⟨ps, h1, h2, rfl⟩ := h
  cases ps with
  | nil => simp at h1; omega
  | cons a r => exact ⟨a, r, h1, h2 a (by simp), fun x hx => h2 x (by simp [hx]), rfl⟩
/-- the weight of a code of few far turns -/
theorem Dw.cwt {m B : Nat} {c : Int} (h : Dw m B 8 c) (hB : B ≤ 2 ^ 61) : cwt c ≤ 247 := by
  obtain ⟨a, r, h1, h2, h3, rfl, h5⟩ := h
  have hb : ∀ t ∈ turnsOf (a : Int), t ≤ 61 := by
    refine (tv_range (turnsOf_asc _)).mpr ?_
    rw [turnsOf_tv]
    have : ((2 ^ 61 : Nat) : Int) = 2 ^ 61 := by simp
    omega
  have hl := asc_len (a := 0) (turnsOf_asc (a : Int)) fun t ht => ⟨Nat.zero_le _, hb t ht⟩
  have he : (turnsOf (a : Int)).length % 2 = 0 := even_of_nonneg (turnsOf_asc _) (by rw [turnsOf_tv]; omega)
  unfold FC.cwt
  rw [turns_app (Q := 200) fun t ht => by have := hb t ht; omega, if_pos he, List.map_append, List.sum_append]
  have e1 : (turnsOf (a : Int)).map cw = (turnsOf (a : Int)).map fun _ => 1 := List.map_congr_left fun t ht => by
    unfold cw
    rw [if_pos (by have := hb t ht; omega)]
  have e2 := cw_sum ((turnsOf (num r)).map (· + 200))
  have e3 : ((turnsOf (a : Int)).map fun _ => 1).sum = (turnsOf (a : Int)).length := by
    generalize turnsOf (a : Int) = l
    induction l with
    | nil => rfl
    | cons x y ih => simp only [List.map_cons, List.sum_cons, List.length_cons, ih]; omega
  rw [e1, e3]
  rw [List.length_map] at e2
  unfold tau at h5
  omega
theorem cwts_dw {m B : Nat} (hB : B ≤ 2 ^ 61) : ∀ {cs : List Int}, (∀ c ∈ cs, Dw m B 8 c) → (cs.map FC.cwt).sum ≤ 247 * cs.length
  | [], _ => by simp
  | c :: r, h => by
    have h1 := (h c (by simp)).cwt hB
    have h2 := cwts_dw hB (cs := r) fun x hx => h x (by simp [hx])
    simp only [List.map_cons, List.sum_cons, List.length_cons]
    omega
/-- a little further in field nought -/
theorem Phi_step {fs : List PyData} (F : Fields fs) {m B y : Nat} {c : Int} (h : Dg m B c) (hm : 1 ≤ m) (hB : B + y ≤ 2 ^ 100) : Phi fs (c + (y : Nat)) = Phi fs c + (y : Nat) := by
  obtain ⟨a, r, h1, h2, h3, rfl⟩ := Dg.split h hm
  have e1 : ((a : Int) + 2 ^ 200 * num r) = num (a :: r) := rfl
  have e2 : ((a : Int) + 2 ^ 200 * num r + (y : Nat)) = num ((a + y) :: r) := by
    show _ = ((a + y : Nat) : Int) + 2 ^ 200 * num r
    omega
  rw [e2, e1, Phi_num fun x hx => ?_, Phi_num fun x hx => ?_]
  · show ((a + y : Nat) : Int) * 2 ^ Fi fs 0 + _ = (a : Int) * 2 ^ Fi fs 0 + _ + (y : Nat)
    rw [Fi_zero F, Int.pow_zero]
    omega
  · rcases List.mem_cons.mp hx with rfl | hx
    · omega
    · have := h3 x hx
      omega
  · rcases List.mem_cons.mp hx with rfl | hx
    · omega
    · have := h3 x hx
      omega
/-- codes near one another: places so, too; codes apart: places so, too -/
theorem Phi_gap {fs : List PyData} (F : Fields fs) {m B : Nat} {c d : Int} (hc : Dg m B c) (hd : Dg m B d) (hm : 1 ≤ m) (hm4 : m ≤ 4) (hB : B ≤ 2 ^ 90) (h : c ≤ d) :
    (d - c < 120 → Phi fs d = Phi fs c + (d - c)) ∧ (120 ≤ d - c → Phi fs c + 120 ≤ Phi fs d) := by
  constructor
  · intro hlt
    have := Phi_step F (y := (d - c).toNat) hc hm (by omega)
    have e : (((d - c).toNat : Nat) : Int) = d - c := by omega
    rw [e, show c + (d - c) = d by omega] at this
    exact this
  · intro hge
    have h1 := Phi_step F (y := 120) hc hm (by omega)
    have h2 : CodeOk m (c + ((120 : Nat) : Int)) := by
      have := hc.add (d := 0) (y := 120) (Y := 121) (by omega) (by decide)
      rw [Nat.mul_zero, Int.pow_zero, Int.mul_one] at this
      exact this.code (by omega)
    have e : ((120 : Nat) : Int) = 120 := rfl
    rw [e] at h1 h2
    by_cases hz : c + 120 = d
    · rw [← hz, h1]
      exact Int.le_refl _
    · have := Phi_lt F hm4 h2 (hd.code (by omega)) (by omega)
      omega
/-- the turns that codes stand for -/
noncomputable def Phis (fs : List PyData) (cs : List Int) : List Nat := cs.map fun c => (Phi fs c).toNat
theorem Phis_asc {fs : List PyData} (F : Fields fs) {m : Nat} (hm : m ≤ 4) {cs : List Int} (h : cs.Pairwise (· < ·)) (hc : ∀ c ∈ cs, CodeOk m c) : Asc (Phis fs cs) := by
  rw [asc_pairwise]
  unfold Phis
  rw [List.pairwise_map]
  refine h.imp_of_mem fun {a b} ha hb hab => ?_
  have h1 := Phi_lt F hm (hc a ha) (hc b hb) hab
  have h2 := Phi_nonneg F hm (hc a ha)
  omega
/-- the code with number k of a row -/
def cd (cs : List Int) (k : Nat) : Int := cs.getD k 0
/-- the near places of a row of codes -/
def qN (cs : List Int) : Nat → Nat
  | 0 => 0
  | k + 1 => qN cs k + (min (cd cs (k + 1) - cd cs k) 120).toNat
theorem cd_at {cs : List Int} {k : Nat} (h : k < cs.length) : cs[k]? = some (cd cs k) := by
  unfold cd
  rw [List.getD_eq_getElem?_getD, List.getElem?_eq_getElem h]
  rfl
theorem cd_mem {cs : List Int} {k : Nat} (h : k < cs.length) : cd cs k ∈ cs := List.mem_of_getElem? (cd_at h)
theorem cd_le {cs : List Int} (hs : cs.Pairwise (· ≤ ·)) {i j : Nat} (hij : i ≤ j) (hj : j < cs.length) : cd cs i ≤ cd cs j := by
  by_cases e : i = j
  · rw [e]
    exact Int.le_refl _
  · have h1 := cd_at (cs := cs) (k := i) (by omega)
    have h2 := cd_at hj
    obtain ⟨h1', e1⟩ := List.getElem?_eq_some_iff.mp h1
    obtain ⟨h2', e2⟩ := List.getElem?_eq_some_iff.mp h2
    rw [← e1, ← e2]
    exact List.pairwise_iff_getElem.mp hs i j h1' h2' (by omega)
theorem qN_step {cs : List Int} (hs : cs.Pairwise (· ≤ ·)) {k : Nat} (hk : k + 1 < cs.length) : qN cs k ≤ qN cs (k + 1) ∧ ((qN cs (k + 1) : Int) = qN cs k + (cd cs (k + 1) - cd cs k) ∧ cd cs (k + 1) - cd cs k < 120 ∨ qN cs (k + 1) = qN cs k + 120 ∧ 120 ≤ cd cs (k + 1) - cd cs k) := by
  have := cd_le hs (show k ≤ k + 1 by omega) hk
  show qN cs k ≤ qN cs k + _ ∧ (((qN cs k + _ : Nat) : Int) = _ ∧ _ ∨ qN cs k + _ = _ ∧ _)
  omega
theorem qN_eq {cs : List Int} (hs : cs.Pairwise (· ≤ ·)) {i : Nat} : ∀ {j : Nat}, i ≤ j → j < cs.length → cd cs i = cd cs j → qN cs i = qN cs j
  | 0, hij, hj, e => by
    have : i = 0 := by omega
    rw [this]
  | j + 1, hij, hj, e => by
    by_cases z : i = j + 1
    · rw [z]
    · have h1 := cd_le hs (show i ≤ j by omega) (show j < cs.length by omega)
      have h2 := cd_le hs (show j ≤ j + 1 by omega) hj
      have ih := qN_eq hs (i := i) (j := j) (by omega) (by omega) (by omega)
      have := qN_step hs hj
      omega
theorem near_codes {fs : List PyData} (F : Fields fs) {m B : Nat} {cs : List Int} (hs : cs.Pairwise (· ≤ ·)) (hc : ∀ c ∈ cs, Dg m B c) (hm : 1 ≤ m) (hm4 : m ≤ 4) (hB : B ≤ 2 ^ 90) : Near cs.length (qN cs) fun k => (Phi fs (cd cs k)).toNat := by
  refine ⟨rfl, fun k hk => ?_⟩
  have h1 := qN_step hs hk
  have h2 := cd_le hs (show k ≤ k + 1 by omega) hk
  have d1 := hc _ (cd_mem (show k < cs.length by omega))
  have d2 := hc _ (cd_mem hk)
  have g := Phi_gap F d1 d2 hm hm4 hB h2
  have n1 := Phi_nonneg F hm4 (d1.code (by omega))
  have n2 := Phi_nonneg F hm4 (d2.code (by omega))
  refine ⟨h1.1, ?_⟩
  show (Phi fs (cd cs (k + 1))).toNat = (Phi fs (cd cs k)).toNat + (qN cs (k + 1) - qN cs k) ∨ _
  rcases h1.2 with ⟨e, hlt⟩ | ⟨e, hge⟩
  · left
    have := g.1 hlt
    omega
  · right
    have := g.2 hge
    refine ⟨e, ?_⟩
    show (Phi fs (cd cs k)).toNat + 120 ≤ (Phi fs (cd cs (k + 1))).toNat
    omega
/-- terms by the numbers of their codes -/
def ixT (cs : List Int) (ts : List (Int × Int)) : List (Nat × Int) := ts.map fun t => (cs.idxOf t.1, t.2)
def AbT (ts : List (Int × Int)) : Nat := (ts.map fun t => t.2.natAbs).sum
theorem Ab_ix (cs : List Int) (ts : List (Int × Int)) : Ab (ixT cs ts) = AbT ts := by
  unfold Ab AbT ixT
  rw [List.map_map]
  rfl
theorem Sm_ix (cs : List Int) (ts : List (Int × Int)) (π : Nat → Nat) : Sm (ixT cs ts) π = (ts.map fun t => t.2 * 2 ^ π (cs.idxOf t.1)).sum := by
  unfold Sm ixT
  rw [List.map_map]
  rfl
theorem cd_ix {cs : List Int} {c : Int} (h : c ∈ cs) : cs.idxOf c < cs.length ∧ cd cs (cs.idxOf c) = c := by
  have h1 := List.idxOf_lt_length_iff.mpr h
  refine ⟨h1, ?_⟩
  have := cd_at h1
  rw [List.getElem?_eq_getElem h1, List.getElem_idxOf h1] at this
  exact (Option.some.inj this).symm
theorem spot_eq {cs : List Int} (hs : cs.Pairwise (· ≤ ·)) {i : Nat} (hi : i < cs.length) : qN cs (cs.idxOf (cd cs i)) = qN cs i := by
  obtain ⟨h1, h2⟩ := cd_ix (cd_mem hi)
  rcases Nat.le_total (cs.idxOf (cd cs i)) i with h | h
  · exact qN_eq hs h hi h2
  · exact (qN_eq hs h h1 h2.symm).symm
theorem qN_le (cs : List Int) : ∀ k, qN cs k ≤ 120 * k
  | 0 => Nat.le_refl _
  | k + 1 => by
    have := qN_le cs k
    show qN cs k + _ ≤ _
    omega
/-- what the sum at near places tells -/
theorem summed {m B w : Nat} {cs : List Int} {ts : List (Int × Int)} {at_ : Nat → Nat} (hs : cs.Pairwise (· ≤ ·)) (hc : ∀ c ∈ cs, Dw m B w c) (hm : 1 ≤ m) (hm4 : m ≤ 4) (hB : B ≤ 2 ^ 80) (ht : ∀ t ∈ ts, t.1 ∈ cs) (hb : AbT ts ≤ 2 ^ 100)
    (ha : ∀ t ∈ turnsOf (Sm (ixT cs ts) (qN cs)), At cs.length (qN cs) at_ t) {ds : List Int} (hd : ds = (turnsOf (Sm (ixT cs ts) (qN cs))).map fun t => cd cs (at_ t) + (t : Nat) - (qN cs (at_ t) : Nat)) :
    ds.Pairwise (· < ·) ∧ (∀ d ∈ ds, Dw m (B + 122) w d) ∧ ds.length ≤ 2 * AbT ts ∧ ∀ fs, Fields fs → tv (Phis fs ds) = (ts.map fun t => t.2 * 2 ^ (Phi fs t.1).toNat).sum := by
  have hix : ∀ t ∈ ixT cs ts, t.1 < cs.length := fun t h => by
    obtain ⟨u, hu, rfl⟩ := List.mem_map.mp h
    exact (cd_ix (ht u hu)).1
  have hAb : Ab (ixT cs ts) ≤ 2 ^ 100 := by rw [Ab_ix]; exact hb
  have qm : ∀ {i j : Nat}, i ≤ j → j < cs.length → qN cs i ≤ qN cs j := fun {i j} => by
    intro hij hj
    induction j with
    | zero => rw [show i = 0 by omega]; exact Nat.le_refl _
    | succ j ih =>
      by_cases e : i = j + 1
      · rw [e]; exact Nat.le_refl _
      · have := ih (by omega) (by omega)
        have := (qN_step hs hj).1
        omega
  have small : ∀ t ∈ turnsOf (Sm (ixT cs ts) (qN cs)), t - qN cs (at_ t) ≤ 121 := fun t h => by
    obtain ⟨a1, a2, a3⟩ := ha t h
    rcases a3 with a3 | a3
    · have h1 := Sm_abs (π := qN cs) (b := qN cs (at_ t)) (T := ixT cs ts) fun u hu => qm (by have := hix u hu; omega) a1
      have h2 := turns_lt (c := 100) (Nat.le_trans h1 (Nat.mul_le_mul_right _ hAb)) t h
      omega
    · have : qN cs (at_ t + 1) ≤ qN cs (at_ t) + 120 := by
        show qN cs (at_ t) + _ ≤ _
        omega
      omega
  have hdg : ∀ d ∈ ds, Dw m (B + 122) w d := fun d h => by
    rw [hd] at h
    obtain ⟨t, h1, rfl⟩ := List.mem_map.mp h
    obtain ⟨a1, a2, a3⟩ := ha t h1
    have := (hc _ (cd_mem a1)).add (Y := 122) (y := t - qN cs (at_ t)) (by have := small t h1; omega)
    rw [show cd cs (at_ t) + (t : Nat) - (qN cs (at_ t) : Nat) = cd cs (at_ t) + ((t - qN cs (at_ t) : Nat) : Int) by omega]
    exact this
  refine ⟨?_, hdg, ?_, fun fs F => ?_⟩
  · rw [hd, List.pairwise_map]
    refine (asc_pairwise.mp (turnsOf_asc _)).imp_of_mem fun {t u} h1 h2 hlt => ?_
    obtain ⟨a1, a2, a3⟩ := ha t h1
    obtain ⟨b1, b2, b3⟩ := ha u h2
    have hle : at_ t ≤ at_ u := by
      apply Nat.le_of_not_lt
      intro hc
      have := qm (i := at_ u + 1) (j := at_ t) (by omega) a1
      omega
    by_cases e : at_ t = at_ u
    · rw [e]
      omega
    · have h3 := qN_step hs (k := at_ t) (by omega)
      have h4 := cd_le hs (i := at_ t + 1) (j := at_ u) (by omega) b1
      omega
  · rw [hd, List.length_map, ← Ab_ix cs]
    exact tau_Sm _
  · have N := near_codes F hs (fun c h => (hc c h).dg) hm hm4 (by omega)
    have e1 : Phis fs ds = turnsOf (Sm (ixT cs ts) fun k => (Phi fs (cd cs k)).toNat) := by
      rw [near_turns N hix hAb ha, hd]
      unfold Phis
      rw [List.map_map]
      refine List.map_congr_left fun t h => ?_
      obtain ⟨a1, a2, a3⟩ := ha t h
      have d1 := hc _ (cd_mem a1)
      have h1 := Phi_step F (y := t - qN cs (at_ t)) d1.dg hm (by have := small t h; omega)
      have h2 := Phi_nonneg F hm4 (d1.code (by omega))
      have h3 := N.le a1
      show (Phi fs (cd cs (at_ t) + (t : Nat) - (qN cs (at_ t) : Nat))).toNat = t + ((Phi fs (cd cs (at_ t))).toNat - qN cs (at_ t))
      rw [show cd cs (at_ t) + (t : Nat) - (qN cs (at_ t) : Nat) = cd cs (at_ t) + ((t - qN cs (at_ t) : Nat) : Int) by omega, h1]
      omega
    rw [e1, turnsOf_tv, Sm_ix]
    congr 1
    refine List.map_congr_left fun t h => ?_
    rw [(cd_ix (ht t h)).2]
end FD
set_option Elab.async false
set_option linter.all false
set_option maxRecDepth 100000
/-! what the program's functions of forms compute (plain mathematics) -/
namespace PM
open PySem TV FM DX FB FC HX L2
/-! ### equality of forms -/
mutual
theorem eqv_fm : ∀ {d e : PyData}, Fm d → Fm e → PyData.eqv d e = true → d = e
  | .int i, .int j, _, _, h => by
    simp only [PyData.eqv, beq_iff_eq] at h
    rw [h]
  | .int i, .tuple es, _, _, h => by simp [PyData.eqv] at h
  | .tuple ds, .int j, _, _, h => by simp [PyData.eqv] at h
  | .tuple ds, .tuple es, f, g, h => by
    rw [fm_tuple] at f g
    simp only [PyData.eqv] at h
    rw [eqvAll_fm f.1 g.1 h]
  | .none, _, f, _, _ => by simp [Fm] at f
  | .bool _, _, f, _, _ => by simp [Fm] at f
  | .str _, _, f, _, _ => by simp [Fm] at f
  | .list _, _, f, _, _ => by simp [Fm] at f
  | .dict _, _, f, _, _ => by simp [Fm] at f
  | .int _, .none, _, g, _ => by simp [Fm] at g
  | .int _, .bool _, _, g, _ => by simp [Fm] at g
  | .int _, .str _, _, g, _ => by simp [Fm] at g
  | .int _, .list _, _, g, _ => by simp [Fm] at g
  | .int _, .dict _, _, g, _ => by simp [Fm] at g
  | .tuple _, .none, _, g, _ => by simp [Fm] at g
  | .tuple _, .bool _, _, g, _ => by simp [Fm] at g
  | .tuple _, .str _, _, g, _ => by simp [Fm] at g
  | .tuple _, .list _, _, g, _ => by simp [Fm] at g
  | .tuple _, .dict _, _, g, _ => by simp [Fm] at g
theorem eqvAll_fm : ∀ {ds es : List PyData}, FmAll ds → FmAll es → PyData.eqvAll ds es = true → ds = es
  | [], [], _, _, _ => rfl
  | [], e :: r, _, _, h => by simp [PyData.eqvAll] at h
  | d :: r, [], _, _, h => by simp [PyData.eqvAll] at h
  | d :: r, e :: q, f, g, h => by
    rw [fmAll_cons] at f g
    simp only [PyData.eqvAll, Bool.and_eq_true] at h
    rw [eqv_fm f.1 g.1 h.1, eqvAll_fm f.2.2 g.2.2 h.2]
end
theorem eqv_val {d e : PyData} (f : Fm d) (g : Fm e) : PyData.eqv d e = decide (val d = val e) := by
  by_cases h : val d = val e
  · rw [decide_eq_true h, fm_inj f g h]
    exact SeqAt.eqv_refl _ (fm_lay g)
  · rw [decide_eq_false h]
    cases q : PyData.eqv d e with
    | false => rfl
    | true => exact absurd (by rw [eqv_fm f g q]) h
theorem eqv_self {d : PyData} (f : Fm d) : PyData.eqv d d = true := by rw [eqv_val f f, decide_eq_true rfl]
/-! ### forms as texts -/
mutual
theorem rp_fm : ∀ {d : PyData}, Fm d → d.showable = true ∧ d.hasDict = false ∧ d.shown.length + 2 ≤ 25 * wt d
  | .int i, f => by
    rw [fm_int] at f
    have h := Rp.int (i := i) (by omega)
    rw [wt_int]
    exact ⟨h.sh, h.nd, by have := h.ln; omega⟩
  | .tuple ds, f => by
    rw [fm_tuple] at f
    obtain ⟨h1, h2, h3⟩ := rpAll_fm f.1
    have h := Rp.tup (n := 25 * wtAll ds) (k := PyData.depthAll ds) ⟨h1, h2, Nat.le_refl _, h3⟩
    rw [wt_tuple]
    exact ⟨h.sh, h.nd, by have := h.ln; omega⟩
  | .none, f => by simp [Fm] at f
  | .bool _, f => by simp [Fm] at f
  | .str _, f => by simp [Fm] at f
  | .list _, f => by simp [Fm] at f
  | .dict _, f => by simp [Fm] at f
theorem rpAll_fm : ∀ {ds : List PyData}, FmAll ds → PyData.showableAll ds = true ∧ PyData.hasDictAll ds = false ∧ piled (PyData.shownAll ds) ≤ 25 * wtAll ds
  | [], _ => ⟨by simp [PyData.showableAll], by simp [PyData.hasDictAll], by simp [PyData.shownAll, piled]⟩
  | d :: r, f => by
    rw [fmAll_cons] at f
    obtain ⟨a1, a2, a3⟩ := rp_fm f.1
    obtain ⟨b1, b2, b3⟩ := rpAll_fm f.2.2
    refine ⟨by simp [PyData.showableAll, a1, b1], by simp [PyData.hasDictAll, a2, b2], ?_⟩
    simp only [PyData.shownAll, piled_cons, wtAll_cons]
    omega
end
theorem rp_form {d : PyData} (f : Fm d) : Rp d (25 * wt d) d.depth := by
  obtain ⟨h1, h2, h3⟩ := rp_fm f
  exact ⟨h1, h2, Nat.le_refl _, by omega⟩
/-! ### order -/
def sg (a b : Int) : Int := if a < b then -1 else if b < a then 1 else 0
theorem sg_lt {a b : Int} (h : a < b) : sg a b = -1 := if_pos h
theorem sg_gt {a b : Int} (h : b < a) : sg a b = 1 := by
  unfold sg
  rw [if_neg (by omega), if_pos h]
theorem sg_eq {a b : Int} (h : a = b) : sg a b = 0 := by
  unfold sg
  rw [if_neg (by omega), if_neg (by omega)]
theorem top_lt {a b : List Nat} {x y : Nat} (ha : Asc (a ++ [x])) (hb : Asc (b ++ [y])) (hp : a.length % 2 = b.length % 2) (h : x < y) :
    (a.length % 2 = 1 → tv (a ++ [x]) < tv (b ++ [y])) ∧ (a.length % 2 = 0 → tv (b ++ [y]) < tv (a ++ [x])) := by
  have h1 := top_out hb h
  have h2 := (tv_range (k := x) ha).mp (fun t ht => by
    rcases List.mem_append.mp ht with ht | ht
    · exact Nat.le_of_lt ((asc_snoc.mp ha).2 t ht)
    · rw [List.mem_singleton.mp ht]
      exact Nat.le_refl _)
  constructor
  · intro e
    have := h1.1 (by omega)
    omega
  · intro e
    have := h1.2 (by omega)
    omega
theorem split_at {A : List Nat} {c x : Nat} (hc : c < A.length) (hx : A[A.length - 1 - c]? = some x) : A = (A.take (A.length - 1 - c) ++ [x]) ++ A.drop (A.length - c) := by
  have e : A.take (A.length - c) = A.take (A.length - 1 - c) ++ [x] := by
    have : A.length - c = (A.length - 1 - c) + 1 := by omega
    rw [this, List.take_add_one, hx]
    rfl
  rw [← e, List.take_append_drop]
theorem asc_app {a b : List Nat} (h : Asc (a ++ b)) : Asc a ∧ Asc b := by
  have := asc_pairwise.mp h
  rw [List.pairwise_append] at this
  exact ⟨asc_pairwise.mpr this.1, asc_pairwise.mpr this.2.1⟩
theorem ord_diff {A B : List Nat} {c x y : Nat} (hA : Asc A) (hB : Asc B) (h1 : c < A.length) (h2 : c < B.length) (hs : A.drop (A.length - c) = B.drop (B.length - c)) (hp : A.length % 2 = B.length % 2)
    (hx : A[A.length - 1 - c]? = some x) (hy : B[B.length - 1 - c]? = some y) (h : x < y) : ((A.length + c) % 2 = 0 → tv A < tv B) ∧ ((A.length + c) % 2 = 1 → tv B < tv A) := by
  have eA := split_at h1 hx
  have eB := split_at h2 hy
  have la : (A.take (A.length - 1 - c)).length = A.length - 1 - c := by rw [List.length_take]; omega
  have lb : (B.take (B.length - 1 - c)).length = B.length - 1 - c := by rw [List.length_take]; omega
  have hA' := hA
  have hB' := hB
  rw [eA] at hA'
  rw [eB] at hB'
  have q := top_lt (asc_app hA').1 (asc_app hB').1 (by omega) h
  have vA : tv A = tv (A.take (A.length - 1 - c) ++ [x]) + (if (A.take (A.length - 1 - c) ++ [x]).length % 2 = 0 then tv (A.drop (A.length - c)) else -tv (A.drop (A.length - c))) := by
    rw [← tv_append, ← eA]
  have vB : tv B = tv (B.take (B.length - 1 - c) ++ [y]) + (if (B.take (B.length - 1 - c) ++ [y]).length % 2 = 0 then tv (B.drop (B.length - c)) else -tv (B.drop (B.length - c))) := by
    rw [← tv_append, ← eB]
  rw [List.length_append, la, List.length_singleton] at vA
  rw [List.length_append, lb, List.length_singleton, ← hs] at vB
  have hpp : (A.length - 1 - c + 1) % 2 = (B.length - 1 - c + 1) % 2 := by omega
  rw [← hpp] at vB
  rw [la] at q
  constructor
  · intro e
    have := q.1 (by omega)
    omega
  · intro e
    have := q.2 (by omega)
    omega
theorem ord_short {A B : List Nat} (hA : Asc A) (hB : Asc B) (h : A.length < B.length) (hs : A = B.drop (B.length - A.length)) (hp : A.length % 2 = B.length % 2) : tv A < tv B := by
  have e : B = B.take (B.length - A.length) ++ A := by
    conv => lhs; rw [← List.take_append_drop (B.length - A.length) B]
    rw [← hs]
  have hl : (B.take (B.length - A.length)).length = B.length - A.length := by rw [List.length_take]; omega
  have v : tv B = tv (B.take (B.length - A.length)) + (if (B.take (B.length - A.length)).length % 2 = 0 then tv A else -tv A) := by
    rw [← tv_append, ← e]
  have hB' := hB
  rw [e] at hB'
  have := even_pos (asc_app hB').1 (by intro z; rw [z] at hl; simp at hl; omega) (by omega)
  rw [hl, if_pos (by omega)] at v
  omega
/-! ### rows: places with two marks -/
abbrev Row := PyData × Bool × Bool
def bi (b : Bool) : Int := if b then 1 else 0
def bn (b : Bool) : Nat := if b then 1 else 0
theorem bi_bn (b : Bool) : bi b = (bn b : Nat) := by cases b <;> rfl
def vl (d : PyData) : Nat := (val d).toNat
def rowD (r : Row) : PyData := .tuple [r.1, .int (bi r.2.1), .int (bi r.2.2)]
def pA (R : List Row) : List PyData := (R.filter (·.2.1)).map (·.1)
def pB (R : List Row) : List PyData := (R.filter (·.2.2)).map (·.1)
def pR (R : List Row) : List PyData := R.map (·.1)
structure Mg (A B : List PyData) (R : List Row) : Prop where
  a : pA R = A
  b : pB R = B
  fm : FmAll (pR R)
  asc : Asc (vals (pR R))
  wt : wtAll (pR R) ≤ wtAll A + wtAll B
  mem : ∀ p ∈ pR R, p ∈ A ∨ p ∈ B
theorem vals_map (ds : List PyData) : vals ds = ds.map vl := by
  induction ds with
  | nil => simp [vals]
  | cons d r ih => rw [vals_cons, ih]; rfl
theorem pR_app (R S : List Row) : pR (R ++ S) = pR R ++ pR S := by simp [pR]
theorem pA_app (R S : List Row) : pA (R ++ S) = pA R ++ pA S := by simp [pA]
theorem pB_app (R S : List Row) : pB (R ++ S) = pB R ++ pB S := by simp [pB]
/-- one more row -/
theorem Mg.snoc {A B : List PyData} {R : List Row} (h : Mg A B R) {p : PyData} {m n : Bool} (hmn : (m || n) = true) (f : Fm p) (h0 : 0 ≤ val p) (hlt : ∀ r ∈ R, vl r.1 < vl p) :
    Mg (if m then A ++ [p] else A) (if n then B ++ [p] else B) (R ++ [(p, m, n)]) := by
  refine ⟨?_, ?_, ?_, ?_, ?_, ?_⟩
  · rw [pA_app, h.a]
    cases m <;> simp [pA]
  · rw [pB_app, h.b]
    cases n <;> simp [pB]
  · rw [pR_app, fmAll_app]
    refine ⟨h.fm, ?_⟩
    show FmAll [p]
    rw [fmAll_cons]
    exact ⟨f, h0, fmAll_nil⟩
  · rw [pR_app, vals_app]
    show Asc (vals (pR R) ++ vals [p])
    rw [vals_cons, vals_nil, asc_snoc]
    refine ⟨h.asc, fun x hx => ?_⟩
    rw [vals_map] at hx
    obtain ⟨d, hd, rfl⟩ := List.mem_map.mp hx
    obtain ⟨r, hr, rfl⟩ := List.mem_map.mp hd
    exact hlt r hr
  · have hw := h.wt
    rw [pR_app, wtAll_app]
    show wtAll (pR R) + wtAll [p] ≤ _
    rw [wtAll_cons, wtAll_nil]
    cases m <;> cases n <;> simp [wtAll_app, wtAll_cons, wtAll_nil] at hmn ⊢ <;> omega
  · intro x hx
    rw [pR_app] at hx
    rcases List.mem_append.mp hx with hx | hx
    · rcases h.mem x hx with z | z
      · left
        cases m <;> simp [z]
      · right
        cases n <;> simp [z]
    · have hx : x = p := List.mem_singleton.mp hx
      subst hx
      cases m <;> cases n <;> simp at hmn ⊢
/-! ### combined -/
def comb (f : Bool → Bool → Bool) : Bool → Bool → Bool → List Row → List PyData
  | _, _, _, [] => []
  | o, t, b, (p, m, n) :: R => if f (o ^^ m) (t ^^ n) = b then comb f (o ^^ m) (t ^^ n) b R else p :: comb f (o ^^ m) (t ^^ n) (f (o ^^ m) (t ^^ n)) R
def par (n : Nat) : Bool := decide (n % 2 = 1)
theorem par_zero : par 0 = false := rfl
theorem par_succ (n : Nat) : par (n + 1) = !par n := by
  unfold par
  by_cases h : n % 2 = 1
  · rw [decide_eq_true h, decide_eq_false (by omega)]
    rfl
  · rw [decide_eq_false h, decide_eq_true (by omega)]
    rfl
theorem cnt_big {ds : List PyData} {q p : Nat} (h : ∀ x ∈ vals ds, p < x) (hq : q ≤ p) : cnt (vals ds) q = 0 := cnt_zero fun t ht => by have := h t ht; omega
theorem comb_sub (f : Bool → Bool → Bool) : ∀ (R : List Row) (o t b : Bool), (comb f o t b R).Sublist (pR R)
  | [], _, _, _ => .slnil
  | (p, m, n) :: R, o, t, b => by
    unfold comb
    split
    · exact .cons _ (comb_sub f R _ _ _)
    · exact .cons_cons _ (comb_sub f R _ _ _)
theorem pA_sub (R : List Row) : (pA R).Sublist (pR R) := (List.filter_sublist (l := R)).map _
theorem pB_sub (R : List Row) : (pB R).Sublist (pR R) := (List.filter_sublist (l := R)).map _
theorem vals_sub {ds es : List PyData} (h : ds.Sublist es) : (vals ds).Sublist (vals es) := by
  rw [vals_map, vals_map]
  exact h.map _
theorem asc_sub {a b : List Nat} (h : a.Sublist b) (hb : Asc b) : Asc a := asc_pairwise.mpr ((asc_pairwise.mp hb).sublist h)
theorem fmAll_sub {ds es : List PyData} (h : ds.Sublist es) (f : FmAll es) : FmAll ds := by
  induction h with
  | slnil => exact fmAll_nil
  | cons a _ ih => exact ih ((fmAll_cons _ _).mp f).2.2
  | cons_cons a _ ih =>
    rw [fmAll_cons] at f ⊢
    exact ⟨f.1, f.2.1, ih f.2.2⟩
theorem comb_par (f : Bool → Bool → Bool) : ∀ (R : List Row) (o t b : Bool), Asc (vals (pR R)) → f o t = b → ∀ q,
    (b ^^ par (cnt (vals (comb f o t b R)) q)) = f (o ^^ par (cnt (vals (pA R)) q)) (t ^^ par (cnt (vals (pB R)) q))
  | [], o, t, b, _, h, q => by
    simp [comb, pA, pB, vals, cnt, par, h]
  | (p, m, n) :: R, o, t, b, hA, h, q => by
    have hA1 : Asc (vl p :: vals (pR R)) := by
      have : vals (pR ((p, m, n) :: R)) = vl p :: vals (pR R) := by show vals (p :: pR R) = _; rw [vals_cons]; rfl
      rw [this] at hA
      exact hA
    have hlt := Asc.lt hA1
    by_cases hq : vl p ≤ q
    · have ea : par (cnt (vals (pA ((p, m, n) :: R))) q) = (m ^^ par (cnt (vals (pA R)) q)) := by
        cases m
        · simp [pA]
        · show par (cnt (vals (p :: pA R)) q) = _
          rw [vals_cons, cnt_cons]
          show par (_ + if vl p ≤ q then 1 else 0) = _
          rw [if_pos hq, par_succ]
          simp
      have eb : par (cnt (vals (pB ((p, m, n) :: R))) q) = (n ^^ par (cnt (vals (pB R)) q)) := by
        cases n
        · simp [pB]
        · show par (cnt (vals (p :: pB R)) q) = _
          rw [vals_cons, cnt_cons]
          show par (_ + if vl p ≤ q then 1 else 0) = _
          rw [if_pos hq, par_succ]
          simp
      rw [ea, eb, ← Bool.xor_assoc, ← Bool.xor_assoc]
      unfold comb
      split
      · rename_i e
        exact comb_par f R _ _ _ hA1.tail e q
      · rename_i e
        rw [← comb_par f R _ _ _ hA1.tail rfl q, vals_cons, cnt_cons]
        show (b ^^ par (_ + if vl p ≤ q then 1 else 0)) = _
        rw [if_pos hq, par_succ]
        generalize f (o ^^ m) (t ^^ n) = z at *
        generalize par _ = y
        revert e
        cases z <;> cases b <;> cases y <;> decide
    · have big : ∀ {ds : List PyData}, ds.Sublist (pR ((p, m, n) :: R)) → par (cnt (vals ds) q) = false := fun {ds} hs => by
        rw [cnt_zero fun x hx => ?_]
        · rfl
        · have hx' := (vals_sub hs).subset hx
          have : vals (pR ((p, m, n) :: R)) = vl p :: vals (pR R) := by show vals (p :: pR R) = _; rw [vals_cons]; rfl
          rw [this] at hx'
          rcases List.mem_cons.mp hx' with rfl | hx'
          · omega
          · have := hlt x hx'
            omega
      rw [big (comb_sub f _ _ _ _), big (pA_sub _), big (pB_sub _)]
      simp [h]
theorem tb_par {ts : List Nat} (h : Asc ts) (p : Nat) : tb (tv ts) p = par (cnt ts p) := tb_tv p h
theorem comb_tb {f : Bool → Bool → Bool} {A B : List PyData} {R : List Row} (M : Mg A B R) (h : f false false = false) (q : Nat) :
    tb (tv (vals (comb f false false false R))) q = f (tb (tv (vals A)) q) (tb (tv (vals B)) q) := by
  have hA : Asc (vals A) := by rw [← M.a]; exact asc_sub (vals_sub (pA_sub R)) M.asc
  have hB : Asc (vals B) := by rw [← M.b]; exact asc_sub (vals_sub (pB_sub R)) M.asc
  rw [tb_par (asc_sub (vals_sub (comb_sub f R _ _ _)) M.asc), tb_par hA, tb_par hB, ← M.a, ← M.b]
  have := comb_par f R false false false M.asc h q
  simpa using this
end PM
set_option Elab.async false
set_option linter.all false
set_option maxRecDepth 100000
/-! sums, neighbours (plain mathematics) -/
namespace PM
open PySem TV FM DX FB FC HX L2
theorem mul_pm (s P : Int) (h : s = 0 ∨ s = 1 ∨ s = -1) : s * P = if s = 0 then 0 else if s = 1 then P else -P := by
  rcases h with rfl | rfl | rfl
  · simp
  · simp
  · rw [if_neg (by decide), if_neg (by decide)]
    omega
/-- a sequence of turns and one more place -/
theorem tv_snoc_d (ds : List PyData) (p : PyData) : tv (vals (ds ++ [p])) = tv (vals ds) + (2 * ((ds.length % 2 : Nat) : Int) - 1) * 2 ^ vl p := by
  rw [vals_app, vals_cons, vals_nil, tv_snoc, vals_len]
  show _ + (if _ then -(2 ^ vl p) else 2 ^ vl p) = _
  by_cases h : ds.length % 2 = 0
  · rw [if_pos h, h]
    simp
  · have h1 : ds.length % 2 = 1 := by omega
    rw [if_neg h, h1]
    simp
theorem fmAll_snoc {ds : List PyData} {p : PyData} (f : FmAll ds) (g : Fm p) (h : 0 ≤ val p) : FmAll (ds ++ [p]) := by
  rw [fmAll_app, fmAll_cons]
  exact ⟨f, g, h, fmAll_nil⟩
theorem asc_snoc_d {ds : List PyData} {p : PyData} (f : Asc (vals ds)) (h : ∀ x ∈ vals ds, x < vl p) : Asc (vals (ds ++ [p])) := by
  rw [vals_app, vals_cons, vals_nil, asc_snoc]
  exact ⟨f, h⟩
/-- the next place, if there is one -/
def nxt (R : List Row) (i : Nat) : Nat := match R[i]? with
  | some r => vl r.1
  | none => 0
/-- the state of a sum ahead of row i -/
structure Ad (R : List Row) (i : Nat) (c0 : Int) (F : List PyData) (o t c b : Nat) : Prop where
  fm : FmAll F
  asc : Asc (vals F)
  lt : ∀ f ∈ vals F, ∀ r, R[i]? = some r → f < vl r.1
  pb : F.length % 2 = b
  po : (pA (R.take i)).length % 2 = o
  pt : (pB (R.take i)).length % 2 = t
  hc : c ≤ 1
  eq : ∃ r : Int, (o : Int) + t = r + c ∧ (r = b ∨ i < R.length) ∧ tv (vals F) = tv (vals (pA (R.take i))) + tv (vals (pB (R.take i))) + c0 + (r - b) * 2 ^ nxt R i
  ln : F.length ≤ 2 * i
theorem Ad.start {R : List Row} {c0 : Nat} (h1 : c0 ≤ 1) (h : c0 = 1 → nxt R 0 = 0 ∧ 0 < R.length) : Ad R 0 c0 [] 0 0 c0 0 := by
  refine ⟨fmAll_nil, by rw [vals_nil]; trivial, by simp [vals], rfl, rfl, rfl, h1, ⟨-(c0 : Int), by omega, ?_, ?_⟩, by simp⟩
  · by_cases e : c0 = 1
    · exact .inr (h e).2
    · exact .inl (by omega)
  · show tv (vals []) = tv (vals []) + tv (vals []) + c0 + (-(c0 : Int) - (0 : Nat)) * 2 ^ nxt R 0
    rw [vals_nil, tv_nil]
    by_cases e : c0 = 1
    · rw [(h e).1, e]
      decide
    · have : c0 = 0 := by omega
      rw [this]
      simp
theorem pA_take {R : List Row} {i : Nat} {p : PyData} {m n : Bool} (h : R[i]? = some (p, m, n)) : pA (R.take (i + 1)) = pA (R.take i) ++ (if m then [p] else []) := by
  rw [List.take_add_one, h, pA_app]
  cases m <;> simp [pA]
theorem pB_take {R : List Row} {i : Nat} {p : PyData} {m n : Bool} (h : R[i]? = some (p, m, n)) : pB (R.take (i + 1)) = pB (R.take i) ++ (if n then [p] else []) := by
  rw [List.take_add_one, h, pB_app]
  cases n <;> simp [pB]
/-- a turn more: the length's bit and the value -/
theorem turn_more (ds : List PyData) (p : PyData) (m : Bool) : (ds ++ (if m then [p] else [])).length % 2 = (ds.length % 2 + bn m) % 2 ∧
    tv (vals (ds ++ (if m then [p] else []))) = tv (vals ds) + (((ds.length % 2 : Nat) : Int) - (((ds.length % 2 + bn m) % 2 : Nat) : Int)) * 2 ^ vl p := by
  cases m
  · simp [bn]
  · refine ⟨by simp [bn], ?_⟩
    show tv (vals (ds ++ [p])) = _
    rw [tv_snoc_d]
    have : ds.length % 2 = 0 ∨ ds.length % 2 = 1 := by omega
    rcases this with e | e <;> rw [e] <;> simp [bn]
theorem nxt_some {R : List Row} {i : Nat} {r : Row} (h : R[i]? = some r) : nxt R i = vl r.1 := by
  unfold nxt
  rw [h]
/-- the numbers of one step -/
theorem add_nums {o t c o' t' h c' r' : Nat} (h1 : o' ≤ 1) (h2 : t' ≤ 1) (h3 : c ≤ 1) (e1 : h = (o' + t' + c) % 2) (e2 : c' = (o' + t' + c) / 2) (e3 : r' = (o' + t' + c') % 2) : (o' : Int) + t' = r' + c' ∧ (h : Int) = r' + c - c' ∧ c' ≤ 1 ∧ h ≤ 1 ∧ r' ≤ 1 := by
  omega
/-- row i is taken: here the bit at its place, rest the one behind it -/
theorem Ad.step {R : List Row} {i : Nat} {c0 : Int} {F : List PyData} {o t c b : Nat} (S : Ad R i c0 F o t c b) (hA : Asc (vals (pR R))) (hF : FmAll (pR R)) {p : PyData} {m n : Bool} (hr : R[i]? = some (p, m, n))
    {o' t' h c' r' : Nat} (eo : o' = (o + bn m) % 2) (et : t' = (t + bn n) % 2) (e1 : h = (o' + t' + c) % 2) (e2 : c' = (o' + t' + c) / 2) (e3 : r' = (o' + t' + c') % 2)
    {F1 : List PyData} (hF1 : F1 = if h = b then F else F ++ [p]) :
    (r' = h → Ad R (i + 1) c0 F1 o' t' c' h) ∧
    (r' ≠ h → ∀ f, Fm f → val f = val p + 1 → (i + 1 = R.length ∨ ∃ s, R[i + 1]? = some s ∧ vl s.1 ≠ vl f) → Ad R (i + 1) c0 (F1 ++ [f]) o' t' c' r') ∧
    (r' ≠ h → (∃ s, R[i + 1]? = some s ∧ vl s.1 = vl p + 1) → Ad R (i + 1) c0 F1 o' t' c' h) := by
  obtain ⟨hc, hcc, hc1, hh1, hr1⟩ := add_nums (o := o) (t := t) (c := c) (o' := o') (t' := t') (h := h) (c' := c') (r' := r') (by omega) (by omega) S.hc e1 e2 e3
  obtain ⟨r, q1, q2, q3⟩ := S.eq
  have hpm : p ∈ pR R := List.mem_map.mpr ⟨_, List.mem_of_getElem? hr, rfl⟩
  obtain ⟨fp, p0⟩ := fmAll_mem hF p hpm
  have ta := turn_more (pA (R.take i)) p m
  have tb' := turn_more (pB (R.take i)) p n
  rw [← pA_take hr, S.po, ← eo] at ta
  rw [← pB_take hr, S.pt, ← et] at tb'
  rw [nxt_some hr] at q3
  have ltp : ∀ x ∈ vals F, x < vl p := fun x hx => S.lt x hx _ hr
  -- F1
  have f1 : FmAll F1 := by
    rw [hF1]
    split
    · exact S.fm
    · exact fmAll_snoc S.fm fp p0
  have a1 : Asc (vals F1) := by
    rw [hF1]
    split
    · exact S.asc
    · exact asc_snoc_d S.asc ltp
  have l1 : ∀ x ∈ vals F1, x ≤ vl p := by
    rw [hF1]
    split
    · exact fun x hx => Nat.le_of_lt (ltp x hx)
    · intro x hx
      rw [vals_app, vals_cons, vals_nil] at hx
      rcases List.mem_append.mp hx with hx | hx
      · exact Nat.le_of_lt (ltp x hx)
      · exact Nat.le_of_eq (List.mem_singleton.mp hx)
  have p1 : F1.length % 2 = h := by
    rw [hF1]
    have := S.pb
    split
    · omega
    · rw [List.length_append, List.length_singleton]
      omega
  have n1 : F1.length ≤ 2 * i + 1 := by
    rw [hF1]
    have := S.ln
    split
    · omega
    · rw [List.length_append, List.length_singleton]
      omega
  have v1 : tv (vals F1) = tv (vals F) + ((b : Int) - h) * 2 ^ vl p := by
    rw [hF1]
    by_cases e : h = b
    · rw [if_pos e, e]
      simp
    · rw [if_neg e, tv_snoc_d, S.pb]
      have : (2 * ((b : Nat) : Int) - 1) = (b : Int) - h := by
        have := S.pb
        omega
      rw [this]
  have hasc : ∀ s, R[i + 1]? = some s → vl p < vl s.1 := fun s hs => by
    have := asc_pairwise.mp hA
    rw [vals_map, pR, List.map_map, List.pairwise_iff_getElem] at this
    obtain ⟨x1, x2⟩ := List.getElem?_eq_some_iff.mp hr
    obtain ⟨y1, y2⟩ := List.getElem?_eq_some_iff.mp hs
    have z := this i (i + 1) (by simpa using x1) (by simpa using y1) (by omega)
    simp only [List.getElem_map, Function.comp, x2, y2] at z
    exact z
  -- the value, with rest times what is open behind
  have main : tv (vals F1) = tv (vals (pA (R.take (i + 1)))) + tv (vals (pB (R.take (i + 1)))) + c0 + ((r' : Int) - h) * 2 ^ (vl p + 1) := by
    rw [v1, q3, ta.2, tb'.2, Int.pow_succ]
    generalize (2 : Int) ^ vl p = P
    generalize tv (vals (pA (R.take i))) = a
    generalize tv (vals (pB (R.take i))) = d
    have e5 : ((r : Int) - b) + (b - h) = ((o : Int) - o') + (t - t') + ((r' : Int) - h) * 2 := by omega
    have e6 : ((r : Int) - b) * P + (b - h) * P = ((o : Int) - o') * P + (t - t') * P + ((r' : Int) - h) * (P * 2) := by
      rw [← Int.add_mul, e5, Int.add_mul, Int.add_mul, Int.mul_assoc, Int.mul_comm 2 P]
    omega
  refine ⟨fun e => ?_, fun e f ff vf hn => ?_, fun e hn => ?_⟩
  · refine ⟨f1, a1, fun x hx s hs => Nat.lt_of_le_of_lt (l1 x hx) (hasc s hs), p1, ta.1, tb'.1, hc1, ⟨(r' : Int), hc, .inl (by rw [e]), ?_⟩, by omega⟩
    rw [main, e]
    simp
  · have vf' : vl f = vl p + 1 := by
      clear hn
      unfold vl
      omega
    have k1 : (F1 ++ [f]).length % 2 = r' := by
      clear hn
      rw [List.length_append, List.length_singleton]
      omega
    have k2 : (F1 ++ [f]).length ≤ 2 * (i + 1) := by
      clear hn
      rw [List.length_append, List.length_singleton]
      omega
    have k3 : 0 ≤ val f := by
      clear hn
      omega
    have k4 : ∀ x ∈ vals F1, x < vl f := fun x hx => by
      clear hn
      have := l1 x hx
      omega
    refine ⟨fmAll_snoc f1 ff k3, asc_snoc_d a1 k4, fun x hx s hs => ?_, k1, ta.1, tb'.1, hc1, ⟨(r' : Int), hc, .inl rfl, ?_⟩, k2⟩
    · have h1 := hasc s hs
      have h2 : vl s.1 ≠ vl f := by
        rcases hn with hn | ⟨s', hs', hne⟩
        · rw [List.getElem?_eq_none (by omega)] at hs
          cases hs
        · rw [hs] at hs'
          cases hs'
          exact hne
      clear hn
      rw [vals_app, vals_cons, vals_nil] at hx
      rcases List.mem_append.mp hx with hx | hx
      · have := l1 x hx
        omega
      · have : x = vl f := List.mem_singleton.mp hx
        omega
    · clear hn
      rw [tv_snoc_d, p1, main, vf']
      have : (2 * ((h : Nat) : Int) - 1) = (h : Int) - r' := by omega
      rw [this]
      generalize (2 : Int) ^ (vl p + 1) = P
      have : ((r' : Int) - h) * P + (h - r') * P = 0 := by
        rw [← Int.add_mul]
        have : ((r' : Int) - h) + (h - r') = 0 := by omega
        rw [this, Int.zero_mul]
      simp
      omega
  · obtain ⟨s, hs, vs⟩ := hn
    refine ⟨f1, a1, fun x hx s' hs' => Nat.lt_of_le_of_lt (l1 x hx) (hasc s' hs'), p1, ta.1, tb'.1, hc1, ⟨(r' : Int), hc, .inr (List.getElem?_eq_some_iff.mp hs).1, ?_⟩, by omega⟩
    rw [main, nxt_some hs, vs]
theorem Ad.done {R : List Row} {c0 : Int} {F : List PyData} {o t c b : Nat} (S : Ad R R.length c0 F o t c b) : tv (vals F) = tv (vals (pA R)) + tv (vals (pB R)) + c0 := by
  obtain ⟨r, _, q2, q3⟩ := S.eq
  rcases q2 with e | e
  · rw [q3, e, List.take_of_length_le (Nat.le_refl _)]
    simp
  · omega
/-! ### one place put in or taken out -/
structure Tog (A : List PyData) (p : PyData) (B : List PyData) : Prop where
  ex : ∃ L S : List PyData, A = L ++ S ∧ (∀ x ∈ L, vl x < vl p) ∧ ((∃ S', S = p :: S' ∧ B = L ++ S') ∨ ((∀ x ∈ S, vl p < vl x) ∧ B = L ++ p :: S))
theorem Tog.row {A B : List PyData} {p : PyData} (h : Tog A p B) (fA : FmAll A) (hA : Asc (vals A)) (f : Fm p) (h0 : 0 ≤ val p) : FmAll B ∧ Asc (vals B) := by
  obtain ⟨L, S, rfl, h1, h2⟩ := h.ex
  rw [fmAll_app] at fA
  rw [vals_app] at hA
  obtain ⟨a1, a2⟩ := asc_app hA
  have a3 := asc_pairwise.mp hA
  rw [List.pairwise_append] at a3
  rcases h2 with ⟨S', rfl, rfl⟩ | ⟨h3, rfl⟩
  · rw [fmAll_app, vals_app]
    rw [fmAll_cons] at fA
    refine ⟨⟨fA.1, fA.2.2.2⟩, asc_pairwise.mpr (List.pairwise_append.mpr ⟨asc_pairwise.mp a1, ?_, fun x hx y hy => a3.2.2 x hx y ?_⟩)⟩
    · rw [vals_cons] at a2
      exact asc_pairwise.mp a2.tail
    · rw [vals_cons]
      exact List.mem_cons_of_mem _ hy
  · rw [fmAll_app, fmAll_cons, vals_app, vals_cons]
    have lv : ∀ x ∈ vals L, x < vl p := fun x hx => by
      rw [vals_map] at hx
      obtain ⟨d, hd, rfl⟩ := List.mem_map.mp hx
      exact h1 d hd
    have sv : ∀ x ∈ vals S, vl p < x := fun x hx => by
      rw [vals_map] at hx
      obtain ⟨d, hd, rfl⟩ := List.mem_map.mp hx
      exact h3 d hd
    refine ⟨⟨fA.1, f, h0, fA.2⟩, asc_pairwise.mpr (List.pairwise_append.mpr ⟨asc_pairwise.mp a1, asc_pairwise.mp (asc_cons sv a2), fun x hx y hy => ?_⟩)⟩
    rcases List.mem_cons.mp hy with rfl | hy
    · exact lv x hx
    · exact a3.2.2 x hx y hy
theorem Tog.len {A B : List PyData} {p : PyData} (h : Tog A p B) : B.length ≤ A.length + 1 := by
  obtain ⟨L, S, rfl, h1, h2⟩ := h.ex
  rcases h2 with ⟨S', rfl, rfl⟩ | ⟨h3, rfl⟩ <;> simp only [List.length_append, List.length_cons] <;> omega
theorem Tog.wt {A B : List PyData} {p : PyData} (h : Tog A p B) : wtAll B ≤ wtAll A + wt p := by
  obtain ⟨L, S, rfl, h1, h2⟩ := h.ex
  rcases h2 with ⟨S', rfl, rfl⟩ | ⟨h3, rfl⟩ <;> simp only [wtAll_app, wtAll_cons] <;> omega
theorem Tog.mem {A B : List PyData} {p : PyData} (h : Tog A p B) : ∀ x ∈ B, x ∈ A ∨ x = p := by
  obtain ⟨L, S, rfl, h1, h2⟩ := h.ex
  rcases h2 with ⟨S', rfl, rfl⟩ | ⟨h3, rfl⟩
  · intro x hx
    simp only [List.mem_append, List.mem_cons] at hx ⊢
    rcases hx with hx | hx
    · exact .inl (.inl hx)
    · exact .inl (.inr (.inr hx))
  · intro x hx
    simp only [List.mem_append, List.mem_cons] at hx ⊢
    rcases hx with hx | hx | hx
    · exact .inl (.inl hx)
    · exact .inr hx
    · exact .inl (.inr hx)
/-- x + 1 where bit 0 is 1: x has the turns 0, a, .. -/
theorem Tog.odd {a p : PyData} {r B : List PyData} (h : Tog (a :: r) p B) (hA : Asc (vals (a :: r))) (hp : vl p = vl a + 1) : tv (vals B) = 2 ^ vl a + tv (vals r) := by
  obtain ⟨L, S, e, h1, h2⟩ := h.ex
  have hlt : ∀ x ∈ r, vl a < vl x := fun x hx => by
    rw [vals_cons] at hA
    refine Asc.lt hA _ ?_
    rw [vals_map]
    exact List.mem_map.mpr ⟨x, hx, rfl⟩
  have hL : L = [a] ∧ S = r := by
    cases L with
    | nil =>
      rcases h2 with ⟨S', rfl, _⟩ | ⟨h3, _⟩
      · injection e with e1 e2
        subst e1
        omega
      · have e' : S = a :: r := e.symm
        have := h3 a (by rw [e']; simp)
        omega
    | cons l L =>
      injection e with e1 e2
      subst e1
      cases L with
      | nil => exact ⟨rfl, e2.symm⟩
      | cons l2 L =>
        have g1 := h1 l2 (by simp)
        have g2 := hlt l2 (by rw [e2]; simp)
        omega
  obtain ⟨rfl, rfl⟩ := hL
  have hv : ∀ d : PyData, ∀ l, tv (vals (d :: l)) = -(2 ^ vl d) - tv (vals l) := fun d l => by
    rw [vals_cons, tv_cons]
    rfl
  rcases h2 with ⟨S', rfl, rfl⟩ | ⟨h3, rfl⟩
  · show tv (vals (a :: S')) = _
    rw [hv, hv, hp, Int.pow_succ]
    omega
  · show tv (vals (a :: p :: S)) = _
    rw [hv, hv, hp, Int.pow_succ]
    omega
/-- x + 1 where bit 0 is 0 -/
theorem Tog.even {p : PyData} {A B : List PyData} (h : Tog A p B) (hp : vl p = 1) (h0 : ∀ x ∈ A, 0 < vl x) : tv (vals B) = -2 - tv (vals A) ∧ ∀ x ∈ B, 0 < vl x := by
  obtain ⟨L, S, rfl, h1, h2⟩ := h.ex
  have hL : L = [] := by
    cases L with
    | nil => rfl
    | cons l L =>
      have g1 := h1 l (by simp)
      have g2 := h0 l (by simp)
      omega
  subst hL
  have hv : ∀ d : PyData, ∀ l, tv (vals (d :: l)) = -(2 ^ vl d) - tv (vals l) := fun d l => by
    rw [vals_cons, tv_cons]
    rfl
  rcases h2 with ⟨S', rfl, rfl⟩ | ⟨h3, rfl⟩
  · simp only [List.nil_append] at *
    rw [hv, hp]
    refine ⟨?_, fun x hx => h0 x (by simp [hx])⟩
    have : (2 : Int) ^ 1 = 2 := by decide
    omega
  · simp only [List.nil_append] at *
    rw [hv, hp]
    refine ⟨?_, fun x hx => ?_⟩
    · have : (2 : Int) ^ 1 = 2 := by decide
      omega
    · rcases List.mem_cons.mp hx with rfl | hx
      · omega
      · exact h0 x hx
theorem tv_zero (l : List PyData) : tv (vals (.int 0 :: l)) = -1 - tv (vals l) := by
  rw [vals_cons, tv_cons, val_int]
  rfl
theorem asc_zero {l : List PyData} (h : Asc (vals l)) (h0 : ∀ x ∈ l, 0 < vl x) : Asc (vals (.int 0 :: l)) := by
  rw [vals_cons, val_int]
  refine asc_cons (fun b hb => ?_) h
  rw [vals_map] at hb
  obtain ⟨d, hd, rfl⟩ := List.mem_map.mp hb
  exact h0 d hd
theorem fmAll_zero {l : List PyData} (h : FmAll l) : FmAll (.int 0 :: l) := by
  rw [fmAll_cons, fm_int, val_int]
  exact ⟨by decide, by decide, h⟩
/-! ### bits -/
theorem tb_not (x : Int) (p : Nat) : tb (-x - 1) p = !tb x p := by
  unfold tb
  have hp : (0 : Int) < 2 ^ p := Int.pow_pos (by decide)
  have e : (-x - 1) / 2 ^ p = -(x / 2 ^ p) - 1 := by
    have h1 := Int.emod_nonneg x (Int.ne_of_gt hp)
    have h2 := Int.emod_lt_of_pos x hp
    have h3 := Int.mul_ediv_add_emod x (2 ^ p)
    generalize x / 2 ^ p = q at *
    generalize x % 2 ^ p = s at *
    have e1 : -x - 1 = (2 ^ p - 1 - s) + 2 ^ p * (-q - 1) := by
      rw [← h3, Int.mul_sub, Int.mul_neg]
      omega
    rw [e1, Int.add_mul_ediv_left _ _ (Int.ne_of_gt hp), Int.ediv_eq_zero_of_lt (by omega) (by omega)]
    omega
  rw [e]
  generalize x / 2 ^ p = q
  by_cases h : q % 2 = 1
  · rw [decide_eq_true h, decide_eq_false (by omega)]
    rfl
  · rw [decide_eq_false h, decide_eq_true (by omega)]
    rfl
end PM
namespace PM
open PySem TV FM DX FB FC HX L2
theorem tb_or (x y : Int) (p : Nat) : tb (Builtin.bitOr x y) p = (tb x p || tb y p) := by
  unfold Builtin.bitOr Builtin.bitNot
  rw [tb_not, tb_and, tb_not, tb_not]
  cases tb x p <;> cases tb y p <;> rfl
/-! ### forms: small facts -/
theorem fm_plain {d : PyData} (h : Fm d) (h1 : -(2 ^ 64) ≤ val d) (h2 : val d < 2 ^ 64) : d = .int (val d) := by
  cases d with
  | int i => rw [val_int]
  | tuple ds => exact absurd ⟨h1, h2⟩ (tuple_far h)
  | none => simp [Fm] at h
  | bool _ => simp [Fm] at h
  | str _ => simp [Fm] at h
  | list _ => simp [Fm] at h
  | dict _ => simp [Fm] at h
theorem fm_cases {d : PyData} (h : Fm d) : (∃ i, d = .int i) ∨ ∃ ds, d = .tuple ds := by
  cases d with
  | int i => exact .inl ⟨i, rfl⟩
  | tuple ds => exact .inr ⟨ds, rfl⟩
  | none => simp [Fm] at h
  | bool _ => simp [Fm] at h
  | str _ => simp [Fm] at h
  | list _ => simp [Fm] at h
  | dict _ => simp [Fm] at h
theorem ds_small : ∀ {ds : List PyData}, FmAll ds → (∀ t ∈ vals ds, t ≤ 64) → ds = iD (vals ds)
  | [], _, _ => by simp [vals, iD]
  | d :: r, f, h => by
    rw [fmAll_cons] at f
    rw [vals_cons] at h ⊢
    have h1 := h (val d).toNat (by simp)
    have h0 := f.2.1
    have e := fm_plain f.1 (by omega) (by omega)
    show d :: r = .int ((val d).toNat : Nat) :: iD (vals r)
    rw [← ds_small f.2.2 fun t ht => h t (by simp [ht])]
    congr 1
    rw [show (((val d).toNat : Nat) : Int) = val d by omega]
    exact e
theorem nv_of {K : PySem.W.Frag} {H : Hp} : ∀ {ts : List Nat} {vs : List V}, DpAll K H vs (iD ts) → vs = nv ts
  | [], _, h => by
    cases h
    rfl
  | t :: r, _, h => by
    cases h with
    | cons h1 h2 =>
      cases h1
      show _ = .int (t : Nat) :: nv r
      rw [nv_of h2]
theorem last_is {α : Type} {l : List α} (h : l ≠ []) : ∃ a r, l = r ++ [a] := ⟨l.getLast h, l.dropLast, (List.dropLast_concat_getLast h).symm⟩
theorem fm_ne {ds : List PyData} (h : Fm (.tuple ds)) : ds ≠ [] := by
  rintro rfl
  obtain ⟨t, ht, _⟩ := ((fm_tuple _).mp h).2.2
  rw [vals_nil] at ht
  simp at ht
theorem wt_pos (d : PyData) : 1 ≤ wt d := by
  cases d <;> simp [wt]
theorem len_wt : ∀ ds : List PyData, ds.length ≤ wtAll ds
  | [] => by simp [wtAll]
  | d :: r => by
    have := len_wt r
    have := wt_pos d
    rw [wtAll_cons, List.length_cons]
    omega
theorem wt_mem : ∀ {ds : List PyData} {e : PyData}, e ∈ ds → wt e ≤ wtAll ds
  | d :: r, e, h => by
    rw [wtAll_cons]
    rcases List.mem_cons.mp h with rfl | h
    · omega
    · have := wt_mem h
      omega
theorem dep_mem {ds : List PyData} {e : PyData} (h : e ∈ ds) : e.depth ≤ PyData.depthAll ds := depthAll_le.mp (Nat.le_refl _) e h
theorem val_neg {ds : List PyData} (h : Fm (.tuple ds)) : val (.tuple ds) < 0 ↔ ds.length % 2 = 1 := by
  obtain ⟨a, r, e⟩ := last_is (fm_ne h)
  have hA := ((fm_tuple _).mp h).2.1
  rw [val_tuple]
  have : vals ds = vals r ++ [vl a] := by rw [e, vals_app, vals_cons, vals_nil]; rfl
  rw [this] at hA ⊢
  rw [(tv_sign hA).1, vals_len, e]
  simp
  omega
theorem fm_last {ds : List PyData} {a : PyData} (h : Fm (.tuple (ds ++ [a]))) : 64 < vl a := by
  obtain ⟨f, hA, t, ht, h64⟩ := (fm_tuple _).mp h
  rw [vals_app, vals_cons, vals_nil] at hA ht
  have := (asc_snoc.mp hA).2
  rcases List.mem_append.mp ht with ht | ht
  · have := this t ht
    show 64 < (val a).toNat
    omega
  · rw [List.mem_singleton.mp ht] at h64
    exact h64
theorem dpAll_at {K : PySem.W.Frag} {H : Hp} {ds : List PyData} {us : List V} {i : Nat} {d : PyData} (h : DpAll K H us ds) (e : ds[i]? = some d) : ∃ v, us[i]? = some v ∧ Dp K H v d := by
  have hl := dpAll_len h
  have hi := (List.getElem?_eq_some_iff.mp e).1
  have h1 : us[i]? = some (us[i]'(by omega)) := by simp [show i < us.length by omega]
  obtain ⟨d', e', h2⟩ := dpAll_get h h1
  rw [e] at e'
  cases e'
  exact ⟨_, h1, h2⟩
theorem intBits_le {n : Int} {k : Nat} (h1 : -(2 ^ k) ≤ n) (h2 : n ≤ 2 ^ k) : Builtin.Int.intBits n ≤ k + 1 := by
  unfold Builtin.Int.intBits
  split
  · omega
  · rename_i hn
    have h0 : n.natAbs ≠ 0 := fun z => hn (by simpa using z)
    have h3 : ((2 ^ k : Nat) : Int) = (2 : Int) ^ k := by simp
    have : n.natAbs.log2 < k + 1 := by
      rw [Nat.log2_lt h0, Nat.pow_succ]
      have : 0 < 2 ^ k := Nat.pow_pos (by decide)
      omega
    omega
end PM
namespace PM
open PySem TV FM DX FB FC HX L2
def isI : PyData → Bool
  | .int _ => true
  | _ => false
def isT : PyData → Bool
  | .tuple _ => true
  | _ => false
theorem isI_int (i : Int) : isI (.int i) = true := rfl
theorem isI_tup (ds : List PyData) : isI (.tuple ds) = false := rfl
def tyOf (d : PyData) : String := if isI d then "int" else "tuple"
theorem ty_f {K : PySem.W.Frag} {H : Hp} {v : V} {d : PyData} (hD : Dp K H v d) (f : Fm d) : TyX K H v (.type (tyOf d)) := by
  rcases fm_cases f with ⟨i, rfl⟩ | ⟨ds, rfl⟩
  · cases hD
    exact tyI i
  · cases hD with
    | tup h1 h2 => exact tyT h1
theorem kit_fi {d : PyData} (f : Fm d) : kitB (tyOf d) "int" = some (isI d) := by
  rcases fm_cases f with ⟨i, rfl⟩ | ⟨ds, rfl⟩
  · exact k_ii
  · exact k_ti
theorem kit_ft {d : PyData} (f : Fm d) : kitB (tyOf d) "tuple" = some (!isI d) := by
  rcases fm_cases f with ⟨i, rfl⟩ | ⟨ds, rfl⟩
  · exact k_it
  · exact k_tt
theorem ifB {b : Bool} {A X Y : Prop} (hY : Y) (h : b = true → Y → A) : if b = true then A else (if false = true then X else Y) := by
  cases b
  · exact iteF (iteF hY)
  · exact iteT (h rfl hY)
theorem ifBD {b : Bool} {A B : Prop} (h1 : b = true → A) (h2 : b = false → B) : if b = true then A else B := by
  cases b
  · exact iteF (h2 rfl)
  · exact iteT (h1 rfl)
theorem fm_isI {d : PyData} (f : Fm d) (h : isI d = true) : ∃ i, d = .int i := by
  rcases fm_cases f with ⟨i, rfl⟩ | ⟨ds, rfl⟩
  · exact ⟨i, rfl⟩
  · cases h
theorem fm_isT {d : PyData} (f : Fm d) (h : isI d = false) : ∃ ds, d = .tuple ds := by
  rcases fm_cases f with ⟨i, rfl⟩ | ⟨ds, rfl⟩
  · cases h
  · exact ⟨ds, rfl⟩
theorem neg_len {ts : List Nat} (h : Asc ts) : tv ts < 0 ↔ ts.length % 2 = 1 := by
  by_cases hn : ts = []
  · subst hn
    simp [tv_nil]
  · obtain ⟨a, r, rfl⟩ := last_is hn
    rw [(tv_sign h).1]
    simp
    omega
theorem atI_at {xs : List V} {n : Nat} {i : Int} {v : V} (h : xs[n]? = some v) (e : i = (n : Nat)) : atI xs i = some v := by
  subst e
  exact atI_nat h
theorem drop_more {α : Type} {A : List α} {c : Nat} {a : α} (hc : c < A.length) (h : A[A.length - 1 - c]? = some a) : A.drop (A.length - (c + 1)) = a :: A.drop (A.length - c) := by
  obtain ⟨h1, h2⟩ := List.getElem?_eq_some_iff.mp h
  have e : A.length - (c + 1) = A.length - 1 - c := by omega
  rw [e, List.drop_eq_getElem_cons h1, h2]
  congr 2
  omega
theorem vals_drop (ds : List PyData) (n : Nat) : (vals ds).drop n = vals (ds.drop n) := by
  rw [vals_map, vals_map, List.map_drop]
theorem vals_at {ds : List PyData} {n : Nat} {d : PyData} (h : ds[n]? = some d) : (vals ds)[n]? = some (vl d) := by
  rw [vals_map, List.getElem?_map, h]
  rfl
end PM
set_option Elab.async false
set_option linter.all false
set_option maxRecDepth 100000
/-! data without lists; merging two rows -/
namespace PM
open PySem TV FM DX FB FC HX L2
mutual
def Im : PyData → Prop
  | .tuple ds => ImAll ds
  | .list _ => False
  | .dict _ => False
  | _ => True
def ImAll : List PyData → Prop
  | [] => True
  | d :: r => Im d ∧ ImAll r
end
theorem im_int (i : Int) : Im (.int i) := by simp [Im]
theorem im_bool (i : Bool) : Im (.bool i) := by simp [Im]
theorem im_str (i : Str) : Im (.str i) := by simp [Im]
theorem im_none : Im .none := by simp [Im]
theorem im_tuple (ds : List PyData) : Im (.tuple ds) ↔ ImAll ds := by simp [Im]
theorem imAll_nil : ImAll [] := by simp [ImAll]
theorem imAll_cons (d : PyData) (r : List PyData) : ImAll (d :: r) ↔ Im d ∧ ImAll r := by simp [ImAll]
mutual
theorem im_fm : ∀ {d : PyData}, Fm d → Im d
  | .int i, _ => im_int i
  | .tuple ds, f => by
    rw [fm_tuple] at f
    rw [im_tuple]
    exact imAll_fm f.1
  | .none, f => by simp [Fm] at f
  | .bool _, f => by simp [Fm] at f
  | .str _, f => by simp [Fm] at f
  | .list _, f => by simp [Fm] at f
  | .dict _, f => by simp [Fm] at f
theorem imAll_fm : ∀ {ds : List PyData}, FmAll ds → ImAll ds
  | [], _ => imAll_nil
  | d :: r, f => by
    rw [fmAll_cons] at f
    rw [imAll_cons]
    exact ⟨im_fm f.1, imAll_fm f.2.2⟩
end
mutual
theorem dp_im {K : PySem.W.Frag} {H H' : Hp} (e : Tk H H') : ∀ {d : PyData} {v : V}, Im d → Dp K H v d → Dp K H' v d
  | .int i, _, _, h => by
    cases h
    exact .int i
  | .tuple ds, _, f, h => by
    rw [im_tuple] at f
    cases h with
    | tup h1 h2 => exact .tup (tk_tup e h1) (dpAll_im e f h2)
  | .none, _, _, h => by
    cases h
    exact .non
  | .bool b, _, _, h => by
    cases h
    exact .bl b
  | .str x, _, _, h => by
    cases h
    exact .str x
  | .list _, _, f, _ => by simp [Im] at f
  | .dict _, _, f, _ => by simp [Im] at f
theorem dpAll_im {K : PySem.W.Frag} {H H' : Hp} (e : Tk H H') : ∀ {ds : List PyData} {vs : List V}, ImAll ds → DpAll K H vs ds → DpAll K H' vs ds
  | [], _, _, h => by
    cases h
    exact .nil
  | d :: r, _, f, h => by
    rw [imAll_cons] at f
    cases h with
    | cons h1 h2 => exact .cons (dp_im e f.1 h1) (dpAll_im e f.2 h2)
end
theorem im_row {r : Row} (f : Fm r.1) : Im (rowD r) := by
  unfold rowD
  rw [im_tuple, imAll_cons, imAll_cons, imAll_cons]
  exact ⟨im_fm f, im_int _, im_int _, imAll_nil⟩
theorem im_rows : ∀ {R : List Row}, FmAll (pR R) → ImAll (R.map rowD)
  | [], _ => imAll_nil
  | r :: R, f => by
    have f' : FmAll (r.1 :: pR R) := f
    rw [fmAll_cons] at f'
    rw [List.map_cons, imAll_cons]
    exact ⟨im_row f'.1, im_rows f'.2.2⟩
structure MgI (A B : List PyData) (R : List Row) (i j : Nat) : Prop where
  mg : Mg (A.take i) (B.take j) R
  la : ∀ r ∈ R, ∀ x ∈ A.drop i, vl r.1 < vl x
  lb : ∀ r ∈ R, ∀ x ∈ B.drop j, vl r.1 < vl x
  hi : i ≤ A.length
  hj : j ≤ B.length
  ln : R.length ≤ i + j
theorem MgI.start (A B : List PyData) : MgI A B [] 0 0 := ⟨⟨rfl, rfl, fmAll_nil, by show Asc (vals []); rw [vals_nil]; trivial, by show wtAll [] ≤ _; rw [wtAll_nil]; exact Nat.zero_le _, by simp [pR]⟩, by simp, by simp, Nat.zero_le _, Nat.zero_le _, by simp⟩
theorem take_one {A : List PyData} {i : Nat} {a : PyData} (h : A[i]? = some a) : A.take (i + 1) = A.take i ++ [a] := by
  rw [List.take_add_one, h]
  rfl
theorem drop_one {A : List PyData} {i : Nat} {a : PyData} (h : A[i]? = some a) : A.drop i = a :: A.drop (i + 1) := by
  obtain ⟨hi, e⟩ := List.getElem?_eq_some_iff.mp h
  rw [List.drop_eq_getElem_cons hi, e]
theorem asc_tail {A : List PyData} {i : Nat} {a : PyData} (hA : Asc (vals A)) (h : A[i]? = some a) : ∀ x ∈ A.drop (i + 1), vl a < vl x := fun x hx => by
  have h1 : Asc (vals (A.drop i)) := by
    rw [← vals_drop]
    exact asc_sub (List.drop_sublist _ _) hA
  rw [drop_one h, vals_cons] at h1
  refine Asc.lt h1 _ ?_
  rw [vals_map]
  exact List.mem_map.mpr ⟨x, hx, rfl⟩
theorem MgI.left {A B : List PyData} {R : List Row} {i j : Nat} (S : MgI A B R i j) {a : PyData} (fA : FmAll A) (hA : Asc (vals A)) (h : A[i]? = some a) (hB : ∀ x ∈ B.drop j, vl a < vl x) : MgI A B (R ++ [(a, true, false)]) (i + 1) j := by
  have hm := fmAll_mem fA a (List.mem_of_getElem? h)
  have hi := (List.getElem?_eq_some_iff.mp h).1
  have ha : a ∈ A.drop i := by rw [drop_one h]; simp
  refine ⟨?_, fun r hr x hx => ?_, fun r hr x hx => ?_, hi, S.hj, by rw [List.length_append, List.length_singleton]; have := S.ln; omega⟩
  · rw [take_one h]
    exact S.mg.snoc (m := true) (n := false) rfl hm.1 hm.2 (fun r hr => S.la r hr a ha)
  · rcases List.mem_append.mp hr with hr | hr
    · exact S.la r hr x (by rw [drop_one h]; simp [hx])
    · rw [List.mem_singleton.mp hr]
      exact asc_tail hA h x hx
  · rcases List.mem_append.mp hr with hr | hr
    · exact S.lb r hr x hx
    · rw [List.mem_singleton.mp hr]
      exact hB x hx
theorem MgI.right {A B : List PyData} {R : List Row} {i j : Nat} (S : MgI A B R i j) {b : PyData} (fB : FmAll B) (hB : Asc (vals B)) (h : B[j]? = some b) (hA : ∀ x ∈ A.drop i, vl b < vl x) : MgI A B (R ++ [(b, false, true)]) i (j + 1) := by
  have hm := fmAll_mem fB b (List.mem_of_getElem? h)
  have hj := (List.getElem?_eq_some_iff.mp h).1
  have hb : b ∈ B.drop j := by rw [drop_one h]; simp
  refine ⟨?_, fun r hr x hx => ?_, fun r hr x hx => ?_, S.hi, hj, by rw [List.length_append, List.length_singleton]; have := S.ln; omega⟩
  · rw [take_one h]
    exact S.mg.snoc (m := false) (n := true) rfl hm.1 hm.2 (fun r hr => S.lb r hr b hb)
  · rcases List.mem_append.mp hr with hr | hr
    · exact S.la r hr x hx
    · rw [List.mem_singleton.mp hr]
      exact hA x hx
  · rcases List.mem_append.mp hr with hr | hr
    · exact S.lb r hr x (by rw [drop_one h]; simp [hx])
    · rw [List.mem_singleton.mp hr]
      exact asc_tail hB h x hx
theorem MgI.both {A B : List PyData} {R : List Row} {i j : Nat} (S : MgI A B R i j) {a : PyData} (fA : FmAll A) (hA : Asc (vals A)) (hB : Asc (vals B)) (h : A[i]? = some a) (h2 : B[j]? = some a) : MgI A B (R ++ [(a, true, true)]) (i + 1) (j + 1) := by
  have hm := fmAll_mem fA a (List.mem_of_getElem? h)
  have hi := (List.getElem?_eq_some_iff.mp h).1
  have hj := (List.getElem?_eq_some_iff.mp h2).1
  have ha : a ∈ A.drop i := by rw [drop_one h]; simp
  refine ⟨?_, fun r hr x hx => ?_, fun r hr x hx => ?_, hi, hj, by rw [List.length_append, List.length_singleton]; have := S.ln; omega⟩
  · rw [take_one h, take_one h2]
    exact S.mg.snoc (m := true) (n := true) rfl hm.1 hm.2 (fun r hr => S.la r hr a ha)
  · rcases List.mem_append.mp hr with hr | hr
    · exact S.la r hr x (by rw [drop_one h]; simp [hx])
    · rw [List.mem_singleton.mp hr]
      exact asc_tail hA h x hx
  · rcases List.mem_append.mp hr with hr | hr
    · exact S.lb r hr x (by rw [drop_one h2]; simp [hx])
    · rw [List.mem_singleton.mp hr]
      exact asc_tail hB h2 x hx
theorem MgI.done {A B : List PyData} {R : List Row} {i j : Nat} (S : MgI A B R i j) (h1 : A.length ≤ i) (h2 : B.length ≤ j) : Mg A B R := by
  have := S.mg
  rw [List.take_of_length_le h1, List.take_of_length_le h2] at this
  exact this
/-- p or q as a test: the body once -/
theorem ifOrQ (q : Prop) {p A X Y : Prop} [Decidable p] (hX : p ∨ q → X) (h : ¬ p → (p ∨ q → X) → A) : if decide p = true then (if true = true then X else Y) else A :=
  ifD (fun hp => iteT (hX (.inl hp))) (fun hp => h hp hX)
/-- the three ways of an order of two places -/
theorem sg_ways {a b : PyData} (fa : Fm a) (fb : Fm b) (ha : 0 ≤ val a) (hb : 0 ≤ val b) : (sg (val a) (val b) < 0 → vl a < vl b) ∧ (0 < sg (val a) (val b) → vl b < vl a) ∧ (sg (val a) (val b) = 0 → a = b) := by
  unfold sg vl
  split
  · exact ⟨fun _ => by omega, fun z => by omega, fun z => by omega⟩
  · split
    · exact ⟨fun z => by omega, fun _ => by omega, fun z => by omega⟩
    · exact ⟨fun z => by omega, fun z => by omega, fun _ => fm_inj fa fb (by omega)⟩
end PM
namespace PM
open PySem TV FM DX FB FC HX L2
/-- the rows of a sum: those of two numbers, ahead of them perhaps the place 0 -/
structure Rs (A B : List PyData) (R : List Row) (c : Nat) : Prop where
  a : pA R = A
  b : pB R = B
  fm : FmAll (pR R)
  asc : Asc (vals (pR R))
  wt : wtAll (pR R) ≤ wtAll A + wtAll B + 1
  mem : ∀ p ∈ pR R, p ∈ A ∨ p ∈ B ∨ p = .int 0
  ln : R.length ≤ A.length + B.length + 1
  st : c = 1 → nxt R 0 = 0 ∧ 0 < R.length
theorem Mg.rs {A B : List PyData} {R : List Row} {c : Nat} (M : Mg A B R) (hl : R.length ≤ A.length + B.length) (h : c = 1 → nxt R 0 = 0 ∧ 0 < R.length) : Rs A B R c :=
  ⟨M.a, M.b, M.fm, M.asc, by have := M.wt; omega, fun p hp => (M.mem p hp).elim .inl (fun z => .inr (.inl z)), by omega, h⟩
theorem Mg.rs0 {A B : List PyData} {R : List Row} {c : Nat} (M : Mg A B R) (hl : R.length ≤ A.length + B.length) {r : Row} (h : R[0]? = some r) (h0 : val r.1 ≠ 0) : Rs A B ((.int 0, false, false) :: R) c := by
  have hr0 : ∀ x ∈ pR R, 0 < vl x := fun x hx => by
    cases R with
    | nil => cases h
    | cons s S =>
      simp at h
      subst h
      have hs : 0 ≤ val s.1 := (fmAll_mem M.fm s.1 (by simp [pR])).2
      have ha := M.asc
      have e : pR (s :: S) = s.1 :: pR S := rfl
      rw [e, vals_cons] at ha
      have p0 : 0 < vl s.1 := by unfold vl; omega
      rw [e] at hx
      rcases List.mem_cons.mp hx with rfl | hx
      · exact p0
      · have := Asc.lt ha (vl x) (by rw [vals_map]; exact List.mem_map.mpr ⟨x, hx, rfl⟩)
        unfold vl at *
        omega
  have e : pR ((.int 0, false, false) :: R) = .int 0 :: pR R := rfl
  refine ⟨?_, ?_, ?_, ?_, ?_, ?_, by rw [List.length_cons]; omega, fun _ => ⟨?_, by simp⟩⟩
  · rw [← M.a]
    simp [pA]
  · rw [← M.b]
    simp [pB]
  · rw [e]
    exact fmAll_zero M.fm
  · rw [e]
    exact asc_zero M.asc hr0
  · rw [e, wtAll_cons, wt_int]
    have := M.wt
    omega
  · intro p hp
    rw [e] at hp
    rcases List.mem_cons.mp hp with rfl | hp
    · exact .inr (.inr rfl)
    · exact (M.mem p hp).elim .inl (fun z => .inr (.inl z))
  · show vl (.int 0) = 0
    unfold vl
    rw [val_int]
    rfl
theorem Rs.sum {A B : List PyData} {R : List Row} {c : Nat} (S : Rs A B R c) {F : List PyData} {o t k b : Nat} (h : Ad R R.length c F o t k b) : tv (vals F) = tv (vals A) + tv (vals B) + c := by
  rw [h.done, S.a, S.b]
/-- the numbers 0 and 1 -/
theorem xor_n {o : Nat} (h : o ≤ 1) (m : Bool) : Builtin.bitXor ((o : Nat) : Int) (bi m) = (((o + bn m) % 2 : Nat) : Int) := by
  have : o = 0 ∨ o = 1 := by omega
  rcases this with rfl | rfl <;> cases m <;> decide
theorem and_n (n : Nat) : Builtin.bitAnd ((n : Nat) : Int) 1 = ((n % 2 : Nat) : Int) := by
  rw [PyProof.Rows.bitAnd_m1]
  omega
end PM
namespace PM
open PySem TV FM DX FB FC HX L2
theorem range_div {n : Int} {k : Nat} : (-(2 ^ k) ≤ n ∧ n < 2 ^ k) ↔ ∀ p, k ≤ p → tb n p = tb n k := by
  obtain ⟨ts, hA, rfl⟩ := turns_ex n
  rw [← tv_range hA]
  constructor
  · intro h p hp
    rw [tb_par hA, tb_par hA, cnt_all fun t ht => Nat.le_trans (h t ht) hp, cnt_all h]
  · intro h t ht
    apply Nat.le_of_not_lt
    intro hlt
    refine (mem_tb hA t).mp ht ?_
    rw [if_neg (by omega), h t (by omega), h (t - 1) (by omega)]
theorem range_f {a b r : Int} {k : Nat} {f : Bool → Bool → Bool} (ha : -(2 ^ k) ≤ a ∧ a < 2 ^ k) (hb : -(2 ^ k) ≤ b ∧ b < 2 ^ k) (h : ∀ p, tb r p = f (tb a p) (tb b p)) : -(2 ^ k) ≤ r ∧ r < 2 ^ k := by
  rw [range_div] at *
  intro p hp
  rw [h, h, ha p hp, hb p hp]
theorem range_and {a b : Int} {k : Nat} (ha : -(2 ^ k) ≤ a ∧ a < 2 ^ k) (hb : -(2 ^ k) ≤ b ∧ b < 2 ^ k) : -(2 ^ k) ≤ Builtin.bitAnd a b ∧ Builtin.bitAnd a b < 2 ^ k := range_f (f := fun x y => x && y) ha hb fun p => tb_and a b p
theorem range_or {a b : Int} {k : Nat} (ha : -(2 ^ k) ≤ a ∧ a < 2 ^ k) (hb : -(2 ^ k) ≤ b ∧ b < 2 ^ k) : -(2 ^ k) ≤ Builtin.bitOr a b ∧ Builtin.bitOr a b < 2 ^ k := range_f (f := fun x y => x || y) ha hb fun p => tb_or a b p
theorem range_xor {a b : Int} {k : Nat} (ha : -(2 ^ k) ≤ a ∧ a < 2 ^ k) (hb : -(2 ^ k) ≤ b ∧ b < 2 ^ k) : -(2 ^ k) ≤ Builtin.bitXor a b ∧ Builtin.bitXor a b < 2 ^ k := range_f (f := fun x y => x ^^ y) ha hb fun p => tb_xor a b p
/-- the form of an int whose turns are plain -/
theorem form_ex {m : Int} {k : Nat} (hk : k ≤ 900000) (h1 : -(2 ^ k) ≤ m) (h2 : m < 2 ^ k) : ∃ d, Fm d ∧ val d = m ∧ wt d ≤ k + 3 ∧ d.depth ≤ 1 := by
  by_cases hp : -(2 ^ 64) ≤ m ∧ m < 2 ^ 64
  · exact ⟨.int m, (fm_int m).mpr hp, val_int m, by rw [wt_int]; omega, by rw [depth_int]; omega⟩
  · obtain ⟨ts, hA, e⟩ := turns_ex m
    subst e
    have hb := (tv_range hA).mpr ⟨h1, h2⟩
    have h64 : ∃ t ∈ ts, 64 < t := by
      apply Classical.byContradiction
      intro hc
      apply hp
      rw [← tv_range hA]
      intro t ht
      apply Nat.le_of_not_lt
      intro hlt
      exact hc ⟨t, ht, hlt⟩
    obtain ⟨f1, f2⟩ := fm_small hA (fun t ht => by have := hb t ht; omega) h64
    have hl := asc_len (a := 0) hA fun t ht => ⟨Nat.zero_le _, hb t ht⟩
    exact ⟨_, f1, f2, by rw [wt_tuple, wtAll_iD]; omega, by rw [depth_tuple, depthAll_iD]; omega⟩
theorem form_lim {r : PyData} {m : Int} {k : Nat} (hk : k ≤ 900000) (h1 : -(2 ^ k) ≤ m) (h2 : m < 2 ^ k) (f : Fm r) (e : val r = m) : wt r ≤ k + 3 ∧ r.depth ≤ 1 := by
  obtain ⟨d, f', e', w, dp⟩ := form_ex hk h1 h2
  rw [fm_inj f f' (e.trans e'.symm)]
  exact ⟨w, dp⟩
end PM
set_option Elab.async false
set_option linter.all false
set_option maxRecDepth 100000
/-! the package's error classes: __init__ begins with super().__init__(..) -/
namespace HX
open PySem PySem.Spec PyProof.Rows L2 NdefX
/-- what the written part says of such a class at C and of its __init__ at fI: the cell cc of __class__, the code object at cda -/
structure SupC (P : Program) (K : PySem.W.Frag) (mg : Str → Option Value) (C fI cc : Addr) (F : NF) : Prop where
  oex : OexC K C
  fn : ∃ oc od doc pm ctv osl, K.lookup fI = some ⟨oc, od, .func (F.fd doc pm ctv), osl⟩
  cd : PySem.W.codeIn K (.ref F.c) F.qual = true
  file : ∃ ccl cdd vs ccs file tf, K.lookup F.c = some ⟨ccl, cdd, .fields vs, ccs⟩ ∧ vs[2]? = some (.str file tf) ∧ ((P.main.file : Str) == file) = true
  cl : F.cl = [(("__class__" : Str), cc)]
  cell : ∃ cl cld csl, K.lookup cc = some ⟨cl, cld, .cell (some (.ref C)), csl⟩
  sub : PySem.W.mroIn K C (.ref C) = some true
  ve : PySem.W.subIn K (.ref C) (.type "ValueError") = some true
  any : PySem.W.nsIn K cStatics "thirdparty.any" = some none
  sup : PySem.W.ks_superIn K C C "__init__" = some (some (.builtin "ValueError.__init__"))
  ms : mg "super" = none
  top : (P.main.scope.names.lookup ("super" : Str)).isSome = false
section
variable {P : Program} {w : World} {K : PySem.W.Frag} {mg : Str → Option Value} {base : Heap} {C fI cc : Addr} {F : NF}
theorem fn_super {k : Nat} {N ps : List Str} {sp : Sp} {e : Expr} {es : List Expr} {rest : List Stmt} {p0 p1 p2 p3 p4 : Pos} {ar : Arg} {doc0 pm0 ctv0 : Value} {oc0 : Value} {od0 : Option Addr} {osl0 : Array (Option Value)} (T : SupC P K mg C fI cc F)
    (lk : K.lookup fI = some ⟨oc0, od0, .func (F.fd doc0 pm0 ctv0), osl0⟩) (S : NScope N ps ["__class__"] F.scope)
    (hb : F.body = .Expr (.Call (.Attribute (.Call (.Name "super" p0) [] [] p1) "__init__" p2) (e :: es) [] p3) p4 :: rest) (hp : (F.params.posonlyargs ++ F.params.args).head? = some ar) (har : ps[0]? = some ar.arg)
    (hks : F.scope.names.lookup ("super" : Str) = some .globalImplicit) (len : ∀ vs H Q E, sp vs H Q E → vs.length = ps.length)
    (hbody : ∀ (A : Around) (outer : List Env) (s : Shared) (H : Hp) (vs : List V) (Q : VK) (E : XK), Room k (A.deeper (envF F fI s.heap.objs.size)) → sp vs H Q E →
      ∃ (a : Addr) (ys : List V) (ta : TA) (t : TS), vs = .ref a :: ys ∧ H a = some (exo a C none) ∧ PA (ncx CX0 P w K mg base N F fI A outer s H E) (e :: es) ta ∧ PSs (ncx CX0 P w K mg base N F fI A outer s H E) rest t ∧
        ta (startF N vs [none]) H (fun us H1 => H1 = H ∧ us.length ≤ 1000) ∧ t { nx := fun _ H' => Q .non H', rt := Q } (startF N vs [none]) H)
    {pl : Addr → Sem Bool} (he : ∀ L : Addr, eval (.Call (.Attribute (.Call (.Name "super" p0) [] [] p1) "__init__" p2) (e :: es) [] p3) (envF F fI L) = (do
      let ov ← attributeBase (.Call (.Name "super" p0) [] [] p1) "__init__" (envF F fI L) (eval (.Call (.Name "super" p0) [] [] p1) (envF F fI L))
      standAt p2.atName
      let (f, first) ← holding [ov] (getMethod ov "__init__" (pl L))
      callWith p3 f first (backTo p3 (starEach (e :: es) (envF F fI L))) []))
    (hs : ∀ L : Addr, swapsWith (.Call (.Attribute (.Call (.Name "super" p0) [] [] p1) "__init__" p2) (e :: es) [] p3) none p4.line (envF F fI L) = pure false) (hi : ∀ L : Addr, interactive (envF F fI L) = false)
    (hst : ∀ L : Addr, starEach (e :: es) (envF F fI L) = (false, eval e (envF F fI L)) :: starEach es (envF F fI L)) (hpl : ∀ L : Addr, (backTo p3 (starEach es (envF F fI L))).any (·.1) = false) :
    FnOk P w K mg base CX0 (k + 1) fI (F.fd doc0 pm0 ctv0) ps sp := by
  refine ⟨len, fun A outer s H args us vs Q E hr e0 hbd r hsp => ?_⟩
  have hl := len _ _ _ _ hsp
  have KX : K.In s.heap := e0.mod.kin.keeps (fun b o z => (e0.bs b o z).1)
  have nl : s.heap.NoLimit := e0.mod.nolimit.keeps (fun b o z => (e0.bs b o z).1)
  obtain ⟨cl, cld, csl, hcell⟩ := T.cell
  obtain ⟨ccl, cdd, fvs, ccs, file, tf, hcode, hvs, hfile⟩ := T.file
  have cells : CellsAt F.cl ["__class__"] [none] s.heap H := by
    rw [T.cl]
    refine ⟨rfl, fun y c hy => ?_, fun x y c hx hy => ?_, fun i y hi => ?_⟩
    · have e1 : c = cc := by
        by_cases hyc : y = ("__class__" : Str)
        · subst hyc
          simpa [List.lookup] using hy.symm
        · have : (y == ("__class__" : Str)) = false := by simpa using hyc
          simp [List.lookup, this] at hy
      subst e1
      exact ⟨(e0.bs _ _ (e0.mod.kin _ _ hcell)).2, _, ⟨_, KX _ _ hcell, rfl⟩⟩
    · have key : ∀ {z : Str} {c : Addr}, List.lookup z [(("__class__" : Str), cc)] = some c → z = "__class__" := fun {z c} h => by
        by_cases hz : z = ("__class__" : Str)
        · exact hz
        · have : (z == ("__class__" : Str)) = false := by simpa using hz
          simp [List.lookup, this] at h
      rw [key hx, key hy]
    · have : y = "__class__" ∧ i = 0 := by
        cases i with
        | zero => exact ⟨by simpa using hi.symm, rfl⟩
        | succ i => simp at hi
      obtain ⟨rfl, rfl⟩ := this
      refine ⟨cc, by simp [List.lookup], fun v hv => ?_⟩
      simp at hv
  obtain ⟨a, ys, ta, t, rfl, ea, pa, prest, ha, hq⟩ := hbody A outer s H vs Q E (hr.deeper _) hsp
  refine PySem.ks_codeAny_call_defAt (fd := F.fd doc0 pm0 ctv0) (body := F.body) (binds := ps.zip us) hr.depth (KX _ _ lk) rfl nl (PySem.W.codeRec_of KX T.cd) rfl hbd S.nocell (fun ⟨n, _⟩ hy => S.par n (List.of_mem_zip hy).1) (fun h1 hns kp => ?_) S.co S.gen S.kind
  have I : Inv (ncx CX0 P w K mg base N F fI A outer s H E) [] (startF N (.ref a :: ys) [none]) H { s with heap := h1, toks := s.toks + (ps.zip us).length } := inv_startN S hr.hd e0 hl r cells hns kp
  show PySem.wpAt (model P w) (A.deeper (envF F fI s.heap.objs.size)) (.func F.body (envF F fI s.heap.objs.size)) (execs F.body (envF F fI s.heap.objs.size)) _ _ _
  rw [hb]
  refine PySem.ks_wpAt_execs_cons (PySem.ks_wpAt_Expr_any (PySem.ks_wpAt_MethodCall (PySem.ks_wpAt_super_base hks (S.frk _ (by simp)) (by decide) rfl (kp _ _ (KX _ _ lk)) rfl hp rfl (kp _ _ (KX _ _ hcode)) rfl hvs hfile T.top ?_) (he _)) (hi _) (hs _))
  have K1 : K.In h1 := I.kIn
  have G1 : h1.Ns mainGlobals mg := I.mod.glob.keeps I.bk
  obtain ⟨mb, B1, B2⟩ := I.mod.blt
  refine PySem.W.ks_loadName_global S.kind hks (Calls.loadGlobal_builtin (env := envF F fI s.heap.objs.size) G1 T.ms (B1.keeps I.bk) ((B2 _ (by decide +kernel)).trans (by decide +kernel)) ⟨rfl, ?_⟩)
  refine wpAny_loadName_free S.kind (S.frk _ (by simp)) (by show List.lookup _ F.cl = some cc; rw [T.cl]; rfl) ⟨_, K1 _ _ hcell, rfl⟩ ?_
  obtain ⟨t1, ho⟩ := exo_at I.hok ea
  have hz : us[0]? = some (.ref a) := by
    cases r with
    | cons r1 r2 =>
      cases r1
      rfl
  have ndP : ps.Nodup := by
    have q := S.nd.sublist (List.take_sublist (ps.length + 1) N)
    rw [show N.take (ps.length + 1) = ps ++ [("__class__" : Str)] from S.pre] at q
    exact (List.nodup_append.mp q).1
  refine wpAny_loadName_local S.kind (S.par _ (List.mem_of_getElem? har)) hns (zip_look ndP har hz) ?_
  obtain ⟨nm, q, Nn, bs, bm, sn, sub, ab, col, dd, k0, k1, k2, k3, k5, hC, hbm⟩ := T.oex.cls
  have ia : PySem.W.InstAt h1 a { cls := .ref C, dict := none, data := .fields #[.ref t1, .none, .none, .none, .bool false, .none] } C none := ⟨ho, rfl, rfl, trivial⟩
  refine ks_wpAny_isType_cls (K1 _ _ hC) rfl ⟨rfl, ?_⟩
  refine ks_wpAny_call_super (K1 _ _ hC) rfl ho rfl (fun c z => nomatch z) (PySem.W.looks_mroIn K1 T.sub) (fun h2 eso k2' => ?_)
  have hcl : PySem.W.clsIn K C = some { name := nm, bases := bs, mro := .ref C :: bm, ns := Nn, qualname := q, hasDict := true, slotNames := sn, subclasses := sub, abstract := ab, collection := col, hasDel := false } := by
    unfold PySem.W.clsIn
    rw [hC]
    all_goals rfl
  have K2 : K.In h2 := fun b o z => k2' b o (K1 b o z)
  have ia2 : PySem.W.InstAt h2 a { cls := .ref C, dict := none, data := .fields #[.ref t1, .none, .none, .none, .bool false, .none] } C none := ⟨k2' _ _ ho, rfl, rfl, trivial⟩
  have hsup := T.sup
  unfold PySem.W.ks_superIn at hsup
  rw [hcl] at hsup
  have lt12 : h1.objs.size < h2.objs.size := Heap.lt_size eso
  refine PySem.W.kxs_getMethod PySem.W.kxs_ValueError eso (PySem.W.looks_opaque K2 T.any) (l₀ := .ref C :: bm) ((PySem.W.looks_clsIn K2 hcl).andThen .now) rfl K2 hsup (ia2.type.andThen (PySem.W.looks_subIn K2 T.ve)) (PySem.W.ks_ne K2 ia2 hcl) (by decide) ?_
  have k3' : ∀ b o, h1.get? b = some o → (h2.push (PySem.W.kxs_mw "ValueError.__init__" a)).get? b = some o := fun b o z => Heap.get?_push_of_some _ (k2' b o z)
  have I3 := I.kept (h' := h2.push (PySem.W.kxs_mw "ValueError.__init__" a)) (t' := s.toks + (ps.zip us).length + 1) k3'
  have hu3 : (h2.push (PySem.W.kxs_mw "ValueError.__init__" a)).get? h2.objs.size = some (PySem.W.kxs_mw "ValueError.__init__" a) := Heap.get?_push_size _ rfl
  have I4 : Inv (ncx CX0 P w K mg base N F fI A outer s H E) [(h2.objs.size, PySem.W.kxs_mw "ValueError.__init__" a)] (startF N (.ref a :: ys) [none]) H { s with heap := h2.push (PySem.W.kxs_mw "ValueError.__init__" a), toks := s.toks + (ps.zip us).length + 1 } :=
    I3.pins_of fun p hp' => by
      have e' : p = (h2.objs.size, PySem.W.kxs_mw "ValueError.__init__" a) := by simpa using hp'
      subst e'
      exact ⟨hu3, I.hok.fresh (Nat.le_of_lt lt12), Nat.ne_of_gt (Nat.lt_trans I.lt lt12), I.nofs (Nat.le_of_lt lt12), fun v z => nomatch z⟩
  show wpAny _ _ (callWith p3 (.ref h2.objs.size) [] (backTo p3 (starEach (e :: es) (envF F fI s.heap.objs.size))) []) _ _ _
  have hall : (backTo p3 (starEach (e :: es) (envF F fI s.heap.objs.size))).any (·.1) = false := by
    rw [hst]
    show (false || (backTo p3 (starEach es (envF F fI s.heap.objs.size))).any (·.1)) = false
    rw [hpl]
    rfl
  refine PySem.W.kxs_callWith (i := "ValueError.__init__") (x := a) hall ?_
  have hsp2 : wpAny (model P w) (A.deeper (envF F fI s.heap.objs.size)) (spliced (backTo p3 (starEach (e :: es) (envF F fI s.heap.objs.size)))) (fun vs' s1 => ∃ zs : List V, Inv (ncx CX0 P w K mg base N F fI A outer s H E) [(h2.objs.size, PySem.W.kxs_mw "ValueError.__init__" a)] (startF N (.ref a :: ys) [none]) H s1 ∧ Vals zs vs' ∧ zs.length ≤ 1000)
      (ncx CX0 P w K mg base N F fI A outer s H E).xe { s with heap := h2.push (PySem.W.kxs_mw "ValueError.__init__" a), toks := s.toks + (ps.zip us).length + 1 } :=
    thn (pa.run p3 _ _ _ H _ I4 ha) fun us' s1 ⟨zs, H1, J, rz, eH, hz'⟩ => by
      subst eH
      exact ⟨zs, J, rz, hz'⟩
  rw [hst] at hsp2 ⊢
  refine Calls.evalArgs_plain (wpAny_mono hsp2 (fun us' s1 h => ?_) fun _ _ z => z)
  obtain ⟨zs, J, rz, hz'⟩ := h
  have hu5 := (J.pin (h2.objs.size, PySem.W.kxs_mw "ValueError.__init__" a) (by simp)).1
  refine ⟨hu5, ?_⟩
  obtain ⟨t5, ho5⟩ := exo_at J.hok ea
  have K5 : K.In s1.heap := J.kIn
  have hlz : us'.length ≤ sizeLine := by
    rw [← rz.length, sizeLine_eq]
    omega
  -- behind super().__init__(..) the rest is as it was
  have fin : ∀ s6, Inv (ncx CX0 P w K mg base N F fI A outer s H E) [(h2.objs.size, PySem.W.kxs_mw "ValueError.__init__" a)] (startF N (.ref a :: ys) [none]) H s6 →
      wpAny (model P w) (A.deeper (envF F fI s.heap.objs.size)) (execs rest (envF F fI s.heap.objs.size)) (fun f s' => CR CX0 outer P w H s Q E (.ok (.ret (match f with | .ret v => v | _ => .none))) s') (ncx CX0 P w K mg base N F fI A outer s H E).xe s6 := fun s6 J6 => by
    refine wpAny_mono (prest.run _ s6 _ H _ J6 hq) (fun fl s' hs' => ?_) (fun _ _ z => z)
    match fl, hs' with
    | .ret u, ⟨v, σ', H', J, rv, q'⟩ => exact ⟨v, H', J.os, J.bare, J.base, J.hok, rv, q'⟩
    | .next, ⟨σ', H', J, q'⟩ => exact ⟨V.non, H', J.os, J.bare, J.base, J.hok, rfl, q'⟩
    | .brk, ⟨_, _, _, q'⟩ => exact False.elim q'
    | .cont, ⟨_, _, _, q'⟩ => exact False.elim q'
  have fin2 : ∀ h', (∀ b o, b ≠ a → s1.heap.get? b = some o → h'.get? b = some o) → h'.get? a = some ({ cls := .ref C, dict := none, data := .fields #[.ref s1.heap.objs.size, .none, .none, .none, .bool false, .none] } : Obj) →
      Inv (ncx CX0 P w K mg base N F fI A outer s H E) [(h2.objs.size, PySem.W.kxs_mw "ValueError.__init__" a)] (startF N (.ref a :: ys) [none]) H { s1 with heap := h' } := fun h' kk hx => by
    have J7 := J.write (t' := s1.toks) (x := a) (e := a) (o := exo a C none) (by rw [ea]; exact True.intro) (.inl rfl) kk ⟨_, hx⟩ (exo_ok hx)
    have eu : upd H a (exo a C none) = H := by
      funext b
      by_cases hb' : b = a
      · rw [hb', upd_same, ea]
      · rw [upd_ne hb']
    rw [eu] at J7
    exact J7
  obtain ⟨hh, g, d, tk, os⟩ := s1
  show wpAny _ _ (call (.ref h2.objs.size) us') _ _ _
  refine wpAny_call (codeAny_of_tree ?_)
  show wpAny _ (A.deeper (envF F fI s.heap.objs.size)).in1 (callAny (.ref h2.objs.size) ⟨us', []⟩) _ _ _
  simp only [callAny]
  refine wpAny_bind (wpAny_load hu5 ?_)
  simp only [PySem.W.kxs_mw, show (Value.type "method-wrapper" == Value.type "method" || Value.type "method-wrapper" == Value.type "builtin_function_or_method" || Value.type "method-wrapper" == Value.type "method-wrapper") = true by decide, if_true]
  refine PySem.W.KFB.if_so (by decide) ?_
  refine wpAny_bind (PySem.W.check_bound_init PySem.F.excBase_ValueError.toExcCallFacts (K5 _ _ hC) ho5 rfl ?_)
  refine wpAny_bind (wpAny_pure (wpAny_pure ?_))
  refine ⟨plainId_quiet PySem.F.excBase_ValueError.init.plain _, codeAny_builtin PySem.F.excBase_ValueError.initEntry ?_⟩
  refine PySem.W.exc_init_tree (cls := .ref C) (t0 := t5) (dv := none) (c2 := .none) (c3 := .none) (b4 := .bool false) ho5 hlz (fun h' kk hx _ => ?_)
  exact PySem.wpAt_of_wpAny (fin _ (fin2 h' kk hx))
end
end HX
set_option Elab.async false
set_option linter.all false
set_option maxRecDepth 100000
/-! errors with fields: isinstance(e, C) in an except suite; __init__ of one and of two fields; raise -/
namespace HX
open PySem PySem.Spec PySem.Calls PyProof.Rows L2 NdefX
section
open PySem.W
variable {prog : Program} {w : World} {A : Around} {E : Value → Shared → Prop} {s : Shared} {K : Frag} {x D : Addr} {ox : Obj} {od : Option Obj}
theorem findObj_any {C : Addr} {name : Str} {a g : Value} (hc : (clsIn K C).isSome = true) (ha : findIn K (.ref C) name = some (some a)) (hg : specialIn K a "__get__" = some (some g)) (ht : takesIn K a = some true) : findObj K C od name = some (.bind g a) := by
  obtain ⟨cd, hcd⟩ := Option.isSome_iff_exists.mp hc
  unfold findObj
  rw [hcd, Option.bind_some, ha, Option.bind_some]
  simp [hg, ht]
theorem kin_classF {Q : Option Value → Shared → Prop} (C : ExcC K D) (X : K.In s.heap) (I : InstAt s.heap x ox D od) (h : Q (some (.ref D)) { s with toks := s.toks + 1 }) : wpAny (model prog w) A (getAttr? (.ref x) "__class__") Q E s := by
  have hf : findObj K D od "__class__" = some (.bind (.builtin "getset_descriptor.__get__") (.builtin "object.__class__")) := findObj_any (by obtain ⟨cd, hc, _⟩ := any_some C.hd; rw [hc]; rfl) C.ha C.hn C.ht
  obtain ⟨hp, g, d, t, os⟩ := s
  have L0 := I.type (M := model prog w)
  have L3 := looks_find (M := model prog w) X I hf
  have sub : Looks (model prog w) hp (isInstance (.ref x) (.type "BaseException")) true := L0.andThen (looks_subIn X C.hs)
  have hx2 : (Value.builtin "BaseException.__getattribute__" == Value.builtin "object.__getattribute__") = false := by decide +kernel
  unfold getAttr? getAttrBy? getAttrBy
  refine wpAny_bind (wpAny_mkText (wpAny_bind (wpAny_attempt (wpAny_holding (wpAny_bind (L0.at (wpAny_bind ((looks_findIn (M := model prog w) X C.hg).at ?_))))))))
  show wpAny _ _ (if (onTheHeap (Value.ref D) && Value.builtin "BaseException.__getattribute__" == Value.builtin "object.__getattribute__") = true then _ else _) _ _ _
  rw [show (onTheHeap (Value.ref D) && Value.builtin "BaseException.__getattribute__" == Value.builtin "object.__getattribute__") = false by rw [hx2]; rfl, if_neg Bool.false_ne_true]
  unfold getAttrByItsOwn hookBefore
  refine wpAny_bind ?_
  rw [if_pos (show onTheHeap (Value.ref D) = true from rfl)]
  refine (looks_findIn (M := model prog w) X C.hk).at (wpAny_bind (wpAny_attempt (wpAny_holding ?_)))
  unfold callGetattribute
  rw [show (false && onTheHeap (Value.builtin "BaseException.__getattribute__")) = false from rfl, if_neg Bool.false_ne_true]
  unfold boundAndCalled
  rw [PySem.F.excAttr_ValueError.ga.bind (.ref x)]
  refine wpAny_bind (wpAny_pure ?_)
  show wpAny _ _ (call (.builtin "BaseException.__getattribute__") [.ref x, .str "__class__" t]) _ _ _
  refine wpAny_call (codeAny_call_builtin PySem.F.excAttr_ValueError.ga.plain PySem.F.entry_bexc_ga (@check_slot (model prog w) _ _ ⟨hp, g, d, t + 1, os⟩ "BaseException.__getattribute__" "BaseException" "__getattribute__" (.ref x) [.str "__class__" t] [] _ (by decide +kernel) (by decide +kernel) sub (PySem.F.args_bexc_ga (.ref x) (.str "__class__" t)) ?_))
  unfold Builtin.«object.__getattribute__»
  refine wpAny_bind (wpAny_of_eq (a := ((Value.ref x : Value), [Value.str "__class__" t])) (by first | rfl | (simp only [slotArgs]; rfl)) ?_)
  refine wpAny_bind (wpAny_pure (wpAny_bind (L0.at (wpAny_bind (L3.at ?_)))))
  show wpAny _ _ (holding [Value.builtin "object.__class__"] (call (.builtin "getset_descriptor.__get__") [.builtin "object.__class__", .ref x, .ref D]) >>= ret) _ _ _
  refine wpAny_bind (wpAny_holding (wpAny_call (class_get (s := ⟨hp, g, d, t + 1, os⟩) (ox := ox) (od := od) X I C.hm (wpAny_pure ?_))))
  show wpAny _ _ (handedOut (.ref D)) _ _ _
  rw [handedOut_of (v := .ref D) rfl]
  first
    | exact wpAny_pure (wpAny_pure h)
    | exact wpAny_pure h
    | exact wpAny_pure (wpAny_bind (wpAny_pure (wpAny_pure h)))
theorem kitx_excF (C : ExcC K D) : KitX K (.ref x) (.ref D) (fun h => ∃ od, InstAt h x ox D od) where
  ty := fun _ _ _ ⟨_, I⟩ => I.type
  it := fun _ _ X _ => by
    obtain ⟨cdD, hcD, _⟩ := any_some C.hd
    unfold clsIn at hcD
    split at hcD
    · rename_i c' d' cd' sl' ho
      exact fun A' Q' E' s' k q => by
        unfold isType loadHead
        exact wpAny_bind (wpAny_loadPart (k _ _ (X _ _ ho)) (wpAny_pure q))
    · cases hcD
  ne := fun h tp dd its n sl X htp => Bool.eq_false_iff.mpr fun q => by
    obtain ⟨cdD, hcD, _⟩ := any_some C.hd
    have e : D = tp := Value.ref.inj (beq_iff_eq.mp q)
    subst e
    unfold clsIn at hcD
    split at hcD
    · rename_i c' d' cd' sl' ho
      cases (X _ _ ho).symm.trans htp
    · cases hcD
  ca := fun X ⟨_, I⟩ k => kin_classF C X I k
end
/-- isinstance(e, c), e the error with fields that the suite holds -/
def rIsF (K : PySem.W.Frag) (a : Addr) (cls : Value) (d : Option Addr) : List V → Hp → VK → Prop := fun xs H Q => ∃ (D dd : Addr) (c : V) (cv : Value) (b : Bool) (fs : List (Str × V)), cls = .ref D ∧ d = some dd ∧ ExcC K D ∧ xs = [.ref a, c] ∧ (∀ u, L2.RelV c u → u = cv) ∧ PySem.W.kitOne K (.ref D) cv = some b ∧ H dd = some (.xd fs) ∧ Q (.bl b) H
theorem call_isF {X : Cx} {a : Addr} {cls : Value} {d : Option Addr} {oe : Obj} {pn : List (Addr × Obj)} (hz : Zc cls d oe) (hf : ∃ vs, oe.data = .fields vs) : CallR (X.suite a ((a, oe) :: pn)) (.builtin "isinstance") (rIsF X.K a cls d) := by
  intro pins s σ H xs us Q I r h
  obtain ⟨D, dd, c, cv, b, fs, rfl, rfl, C, rfl, hcv, e, ed, q⟩ := h
  obtain ⟨u1, u2, rfl, rx, rt⟩ := vals2 r
  cases rx
  have ec := hcv _ rt
  subst ec
  obtain ⟨hget, _⟩ := I.pin (a, oe) (List.mem_append.mpr (.inl List.mem_cons_self))
  obtain ⟨vs, hv⟩ := hf
  have hx : ObjOk X.prog X.w H s.heap dd (.xd fs) := I.hok dd _ ed
  obtain ⟨mA, hns, _⟩ := hx
  obtain ⟨oD, es, ep, hoD, _⟩ := hns
  have J : ∃ od, PySem.W.InstAt s.heap a oe D od := by
    obtain ⟨oc, odd, oda, osl⟩ := oe
    obtain ⟨h1, h2⟩ := hz
    dsimp only at h1 h2 hv
    subst h1 h2 hv
    exact ⟨some oD, hget, rfl, rfl, hoD⟩
  exact PySem.W.kia_one (kitx_excF C) I.kIn J e (fun z => nomatch z) fun tk => ⟨.bl b, H, I.kept (t' := tk) fun _ _ z => z, rfl, q⟩
/-- what the written part says of an error class at C under the name x, of its __init__ at fI -/
structure Err (K : PySem.W.Frag) (mg : Str → Option Value) (x : Str) (fields : List Str) (C fI cc : Addr) (F : NF) : Prop where
  g : mg x = some (.ref C)
  oex : OexC K C
  iC : PySem.W.findIn K (.ref C) "__init__" = some (some (.ref fI))
  tI : PySem.W.typeIn K (.ref fI) = some (.type "function")
  noF : ∀ f ∈ fields, PySem.W.findIn K (.ref C) f = some none
  fn : ∃ oc od doc pm ctv osl, K.lookup fI = some ⟨oc, od, .func (F.fd doc pm ctv), osl⟩
  cd : PySem.W.codeIn K (.ref F.c) F.qual = true
  file : ∃ ccl cdd vs ccs tf, K.lookup F.c = some ⟨ccl, cdd, .fields vs, ccs⟩ ∧ vs[2]? = some (.str "/claim/cut.py" tf)
  cl : F.cl = [(("__class__" : Str), cc)]
  cell : ∃ cl cld csl, K.lookup cc = some ⟨cl, cld, .cell (some (.ref C)), csl⟩
  sub : PySem.W.mroIn K C (.ref C) = some true
  ve : PySem.W.subIn K (.ref C) (.type "ValueError") = some true
  any : PySem.W.nsIn K cStatics "thirdparty.any" = some none
  sup : PySem.W.ks_superIn K C C "__init__" = some (some (.builtin "ValueError.__init__"))
  ms : mg "super" = none
  xf : XfC K C
  ex : ExcC K C
  te : PySem.W.exmOne K (.ref C) (.ref C) = some true
  kv : PySem.W.kitOne K (.ref C) (.type "ValueError") = some true
/-- what the program must say, so that super() finds its frame -/
structure PF (P : Program) : Prop where
  file : ((P.main.file : Str) == "/claim/cut.py") = true
  top : (P.main.scope.names.lookup ("super" : Str)).isSome = false
theorem Err.sup' {P : Program} {K : PySem.W.Frag} {mg : Str → Option Value} {x : Str} {fs : List Str} {C fI cc : Addr} {F : NF} (T : Err K mg x fs C fI cc F) (hP : PF P) : SupC P K mg C fI cc F := by
  obtain ⟨ccl, cdd, vs, ccs, tf, h1, h2⟩ := T.file
  exact ⟨T.oex, T.fn, T.cd, ⟨ccl, cdd, vs, ccs, _, tf, h1, h2, hP.file⟩, T.cl, T.cell, T.sub, T.ve, T.any, T.sup, T.ms, hP.top⟩
/-- __init__ of one field, of two fields -/
def spE1 (C : Addr) (f : Str) : Sp := fun vs H Q _ => ∃ (a : Addr) (y : V), vs = [.ref a, y] ∧ H a = some (exo a C none) ∧ ∀ dx, H dx = none → dx ≠ a → Q .non (upd (upd H dx (exd dx [(f, y)])) a (exo a C (some dx)))
def spE2 (C : Addr) (f g : Str) : Sp := fun vs H Q _ => ∃ (a : Addr) (y z : V), vs = [.ref a, y, z] ∧ H a = some (exo a C none) ∧ ∀ dx, H dx = none → dx ≠ a → Q .non (upd (upd (upd H dx (exd dx [(f, y)])) a (exo a C (some dx))) dx (exd dx [(g, z), (f, y)]))
theorem made_eq {H1 H2 : Hp} {a d : Addr} {o : HO} (ha : H1 a = none) (h : ∀ b, b ≠ a → b ≠ d → H2 b = H1 b) (hne : d ≠ a) : upd (del H2 a) d o = upd H1 d o := by
  funext b
  by_cases hd : b = d
  · rw [hd, upd_same, upd_same]
  · rw [upd_ne hd, upd_ne hd]
    by_cases hb : b = a
    · rw [hb, del_same, ha]
    · rw [del_ne hb, h b hb hd]
theorem raise1 {C : Addr} {f : Str} {H1 : Hp} {y : V} {Q : XK} (h : ∀ d, H1 d = none → Q (.ref C) (some d) (upd H1 d (.xd [(f, y)]))) :
    [y].length ≤ 1000 ∧ ∀ a, H1 a = none → spE1 C f (.ref a :: ([y] ++ [])) (upd H1 a (exo a C none))
      (fun v H2 => v = .non ∧ ∃ (d : Addr) (fs : List (Str × V)), H2 a = some (exo a C (some d)) ∧ H2 d = some (exd d fs) ∧ H1 d = none ∧ Q (.ref C) (some d) (upd (del H2 a) d (.xd fs))) (fun _ _ _ => False) := by
  refine ⟨by show 1 ≤ 1000; decide, fun a na => ⟨a, y, rfl, upd_same, fun dx ndx ne => ?_⟩⟩
  rw [upd_ne ne] at ndx
  refine ⟨rfl, dx, _, upd_same, (upd_ne ne).trans upd_same, ndx, ?_⟩
  rw [made_eq na (fun b hb hd => by rw [upd_ne hb, upd_ne hd, upd_ne hb]) ne]
  exact h dx ndx
theorem raise2 {C : Addr} {f g : Str} {H1 : Hp} {y z : V} {Q : XK} (h : ∀ d, H1 d = none → Q (.ref C) (some d) (upd H1 d (.xd [(g, z), (f, y)]))) :
    [y, z].length ≤ 1000 ∧ ∀ a, H1 a = none → spE2 C f g (.ref a :: ([y, z] ++ [])) (upd H1 a (exo a C none))
      (fun v H2 => v = .non ∧ ∃ (d : Addr) (fs : List (Str × V)), H2 a = some (exo a C (some d)) ∧ H2 d = some (exd d fs) ∧ H1 d = none ∧ Q (.ref C) (some d) (upd (del H2 a) d (.xd fs))) (fun _ _ _ => False) := by
  refine ⟨by show 2 ≤ 1000; decide, fun a na => ⟨a, y, z, rfl, upd_same, fun dx ndx ne => ?_⟩⟩
  rw [upd_ne ne] at ndx
  refine ⟨rfl, dx, _, (upd_ne (Ne.symm ne)).trans upd_same, upd_same, ndx, ?_⟩
  rw [made_eq na (fun b hb hd => by rw [upd_ne hd, upd_ne hb, upd_ne hd, upd_ne hb]) ne]
  exact h dx ndx
theorem pass00 {X : Cx} {E : XK} : Passes CX0 X E := fun _ _ _ _ _ _ _ h => h.elim
end HX
set_option Elab.async false
set_option linter.all false
set_option maxRecDepth 100000
/-! the law's own call: tables of code objects (lambdas in its body), and nothing is being shown around it -/
namespace HX
open PySem PySem.Spec PyProof.Rows L2
def empT : Obj := { cls := .none, data := .fields #[] }
theorem law_callTG {P : Program} {w : World} {K : PySem.W.Frag} {mg mb : Str → Option Value} {k : Nat} {fa a : Addr} {cs : List (Addr × Addr)} {fd : FuncData} {x : Str} {sp : Sp} {st : Shared} {vs : List Value} {ns : List Int}
    (KX : K.In st.heap) (hns : st.heap.Ns mainGlobals mg) (hb : st.heap.Ns builtinsNs mb) (hbb : ∀ x : Str, x ≠ "__name__" → mb x = bootBuiltins x) (nl : st.heap.NoLimit) (hg : st.gens = #[])
    (hT : ∀ p ∈ cs, st.heap.get? p.2 = some empT) (nT : ∀ p ∈ cs, K.lookup p.2 = none) (C : ∀ p ∈ cs, PySem.W.CodeHd st.heap p.1 p.2)
    (hbm : ∃ (bm : Addr) (ob : Obj), mg "__builtins__" = some (.ref bm) ∧ bm ≠ builtinsNs ∧ st.heap.get? bm = some ob ∧ ob.cls = .type "module" ∧ ob.dict = some builtinsNs ∧ ob.data = .plain)
    (ha : st.heap.get? a = some { cls := .type "list", data := .seq vs.toArray }) (hi : IntsAre vs ns) (hl : ns.length ≤ sizeLine) (hr : Room k callerA)
    (F : ∀ base : Heap, K.In base → base.Ns mainGlobals mg → (∀ p ∈ cs, LamX.TabB base mg p.1 p.2) → FnG P w K mg base k fa fd [x] sp) (hbd : ∀ (s : Shared) (u : Value), BindsTo s fd ⟨[u], []⟩ [(x, u)])
    (hsp : ∀ H : Hp, (∀ p ∈ cs, H p.2 = some (.tbl #[])) → SqL K H a (ns.map V.int) → sp [.ref a] H (fun v _ => v = .bl true) fun _ _ _ => False) :
    codeAny (model P w) callerA (.call (.ref fa) ⟨[.ref a], []⟩) (fun r s' => r = .ok (.ret (.bool true)) ∧ OldK st.heap s'.heap ∧ s'.os = st.os ∧ AllBare s'.gens) st := by
  have rv := vals_ints hi
  have lv := hi.length
  let Tb : Addr → Prop := fun b => ∃ p ∈ cs, p.2 = b
  have tbE : ∀ {b : Addr}, Tb b → st.heap.get? b = some empT := fun {b} ⟨p, hp, e⟩ => e ▸ hT p hp
  have aT : ¬ Tb a := fun z => by
    have := (tbE z).symm.trans ha
    exact nomatch congrArg Obj.data (Option.some.inj this)
  have main : ∀ H : Hp, (∀ b, Tb b → H b = some (.tbl #[])) → (∀ b, H b = none ∨ Tb b ∨ (b = a ∧ ∃ ob ys, H b = some (.frz ob (.lst ys)))) → SqL K H a (ns.map V.int) → HOk P w H st.heap → (H a ≠ none → K.lookup a = none) →
      codeAny (model P w) callerA (.call (.ref fa) ⟨[.ref a], []⟩) (fun r s' => r = .ok (.ret (.bool true)) ∧ OldK st.heap s'.heap ∧ s'.os = st.os ∧ AllBare s'.gens) st := by
    intro H hH hO hS hok hK
    -- what is neither a list nor an empty row of fields is not followed
    have free : ∀ {b : Addr} {o : Obj}, st.heap.get? b = some o → o.data ≠ (Data.seq vs.toArray : Data) → o.data ≠ .fields #[] → H b = none := fun {b o} e h1 h2 => by
      rcases hO b with z | z | ⟨z, _⟩
      · exact z
      · rw [tbE z] at e
        cases e
        exact absurd rfl h2
      · rw [z, ha] at e
        cases e
        exact absurd rfl h1
    have nsK : ∀ {b : Addr} {m : Str → Option Value}, st.heap.Ns b m → (hidT st.heap H).Ns b m := fun {b m} ⟨o, es, ep, e, d, r⟩ =>
      ⟨o, es, ep, hidT_get e (free e (fun z => nomatch d.symm.trans z) (fun z => nomatch d.symm.trans z)), d, r⟩
    have hKb : K.In (hidT st.heap H) := fun b o e => hidT_get (KX b o e) (by
      rcases hO b with z | ⟨p, hp, z⟩ | ⟨z, ob, ys, z2⟩
      · exact z
      · rw [← z, nT p hp] at e
        cases e
      · subst z
        rw [hK (by rw [z2]; exact Option.some_ne_none _)] at e
        cases e)
    obtain ⟨mc, c1, c2⟩ := nl
    have TB : ∀ p ∈ cs, LamX.TabB (hidT st.heap H) mg p.1 p.2 := fun p hp => by
      refine ⟨?_, ?_, fun z => ?_⟩
      · obtain ⟨o, us, file, tf, flags, tg, inF, text, tt, e1, r1, r2, r3, rest⟩ := C p hp
        refine ⟨o, us, file, tf, flags, tg, inF, text, tt, hidT_get e1 (free e1 (fun z => nomatch r2.symm.trans z) fun z => ?_), r1, r2, r3, rest⟩
        have := Data.fields.inj (r2.symm.trans z)
        rw [this] at r3
        simp at r3
      · obtain ⟨bm, ob, b1, b2, b3, b4, b5, b6⟩ := hbm
        refine ⟨bm, ob, b1, b2, fun q => ?_, fun q => ?_, hidT_get b3 (free b3 (fun z => nomatch b6.symm.trans z) (fun z => nomatch b6.symm.trans z)), b4, b5, b6⟩
        · obtain ⟨o, es, ep, e, hd, _⟩ := hns
          rw [q, e] at b3
          cases b3
          exact nomatch hd.symm.trans b6
        · rw [q, hT p hp] at b3
          cases b3
          cases b6
      · obtain ⟨o, es, ep, e, hd, _⟩ := hns
        rw [z, hT p hp] at e
        cases e
        cases hd
    have e0 : Env0 P w K mg (hidT st.heap H) callerA [] st H := ⟨rfl, ⟨hKb, nsK hns, ⟨mb, nsK hb, hbb⟩, ⟨mc, nsK c1, c2⟩⟩, fun b o e => of_hidT e, Nat.le_of_eq (hidT_size _ _), trivial, (fun b hb => absurd (show b ∈ ([] : List Addr) from hb) List.not_mem_nil), hok, .of_eq hg⟩
    refine codeAny_mono ((F _ hKb (nsK hns) TB).go callerA [] st H ⟨[.ref a], []⟩ [.ref a] [.ref a] _ _ rfl hr e0 (hbd st (.ref a)) (.cons rfl .nil) (hsp H (fun p hp => hH p.2 ⟨p, hp, rfl⟩) hS)) fun r s' h => ?_
    match r, h with
    | .error e, h => exact (h : False).elim
    | .ok .next, h => exact (h : False).elim
    | .ok .brk, h => exact (h : False).elim
    | .ok .cont, h => exact (h : False).elim
    | .ok (.ret u), ⟨v, H', os, bare, un, hok', r', q⟩ =>
      obtain rfl : v = .bl true := q
      obtain rfl : u = Value.bool true := r'
      have keep : ∀ b o, ¬ Tb b → st.heap.get? b = some o → s'.heap.get? b = some o := fun b o nb e => by
        rcases hO b with z | z | ⟨_, ob, ys, z⟩
        · exact un.keep b o e z (fun y => absurd (show b ∈ ([] : List Addr) from y) List.not_mem_nil) List.not_mem_nil
        · exact absurd z nb
        · have e1 := (hok b _ z).1
          rw [e] at e1
          cases e1
          exact (hok' b _ (un.frzs b _ _ z)).1
      have grown : ∀ b, Tb b → ∃ more : Array Value, s'.heap.get? b = some { cls := .none, data := .fields more } := fun b hb => by
        obtain ⟨more, z⟩ := un.tbls b #[] (hH b hb)
        exact ⟨_, hok' b _ z⟩
      refine ⟨rfl, ⟨fun b o e => ?_, fun b o e => ?_⟩, os, bare⟩
      · by_cases hb : Tb b
        · obtain ⟨more, hm⟩ := grown b hb
          obtain ⟨p, hp, ep⟩ := hb
          subst ep
          rw [hT p hp] at e
          cases e
          exact .inr (.inl ⟨((C p hp).tab (hT p hp)).isCodeTable, rfl, #[], more, rfl, by rw [Array.empty_append]; exact hm⟩)
        · exact .inl (keep b o hb e)
      · by_cases hb : Tb b
        · obtain ⟨more, hm⟩ := grown b hb
          exact ⟨_, hm⟩
        · exact ⟨o, keep b o hb e⟩
  have dec : ∀ b, Decidable (Tb b) := fun b => Classical.propDecidable _
  match hk : K.lookup a with
  | some o =>
    have e := KX a o hk
    rw [ha] at e
    cases e
    refine main (fun b => @ite _ (Tb b) (dec b) (some (.tbl #[])) none) (fun b hb => if_pos hb) (fun b => ?_) (.inr ⟨_, vs.toArray, _, hk, rfl, rfl, rfl, by rw [List.size_toArray, lv]; exact hl, by simpa using rv⟩) (fun b u z => ?_) fun z => absurd (if_neg aT) z
    · by_cases hb : Tb b
      · exact .inr (.inl hb)
      · exact .inl (if_neg hb)
    · by_cases hb : Tb b
      · cases (if_pos hb).symm.trans z
        exact tbE hb
      · cases (if_neg hb).symm.trans z
  | none =>
    refine main (fun b => if b = a then some (.frz { cls := .type "list", data := .seq vs.toArray } (.lst (ns.map V.int))) else @ite _ (Tb b) (dec b) (some (.tbl #[])) none) (fun b hb => ?_) (fun b => ?_) (.inl (.inr ⟨{ cls := .type "list", data := .seq vs.toArray }, if_pos rfl⟩)) (fun b u z => ?_) fun _ => hk
    · exact (if_neg (show ¬ b = a from fun e => aT (e ▸ hb))).trans (if_pos hb)
    · by_cases hc : b = a
      · exact .inr (.inr ⟨hc, _, _, if_pos hc⟩)
      · by_cases hb : Tb b
        · exact .inr (.inl hb)
        · exact .inl ((if_neg hc).trans (if_neg hb))
    · by_cases hc : b = a
      · cases (if_pos hc).symm.trans z
        subst hc
        exact ⟨ha, by rw [List.length_map]; exact hl, vs, _, rv, ha⟩
      · have z1 := (if_neg hc).symm.trans z
        by_cases hb : Tb b
        · cases (if_pos hb).symm.trans z1
          exact tbE hb
        · cases (if_neg hb).symm.trans z1
/-- what is known of the law's promise at the head's heap -/
structure LawG (l : PySem.W.OpenLaw) (w : World) (K : PySem.W.Frag) (k n : Nat) (x : Str) (mg : Str → Option Value) (fa : Addr) (h : Heap) (fd : FuncData) (cs : List (Addr × Addr)) (sp : Sp) : Prop where
  tab : ∀ p ∈ cs, h.get? p.2 = some empT
  out : ∀ p ∈ cs, K.lookup p.2 = none
  hd : ∀ p ∈ cs, PySem.W.CodeHd h p.1 p.2
  bnd : ∀ (s : Shared) (u : Value), BindsTo s fd ⟨[u], []⟩ [(x, u)]
  say : ∀ (H : Hp) (a : Addr) (ns : List Int), ns.length ≤ n → (∀ p ∈ cs, H p.2 = some (.tbl #[])) → SqL K H a (ns.map V.int) → sp [.ref a] H (fun v _ => v = .bl true) fun _ _ _ => False
  fn : ∀ base : Heap, K.In base → base.Ns mainGlobals mg → (∀ p ∈ cs, LamX.TabB base mg p.1 p.2) → FnG l.prog w K mg base k fa fd [x] sp
theorem walk_ofTG {l : PySem.W.OpenLaw} {n k : Nat} {q : Program} {loose : List Str} {XP : (Str → Option Value) → Heap → Prop} {YP : World → Heap → Prop} {d : DefRec} {K : Params → PySem.W.Frag} {x : Str}
    (hn : l.most = some n) (hn2 : n ≤ sizeLine) (hdf : d.params.defaults = []) (hr : Room k callerA) (hY : ∀ (w : World) (h : Heap), YP w h → (K w.params).In h)
    (F : ∀ (w : World) (mg : Str → Option Value) (fa : Addr) (h : Heap), YP w h → (K w.params).In h → h.Ns mainGlobals mg → mg d.name = some (.ref fa) →
      (∀ (y : Str) (c P : Addr), ((recsOf q).any fun e => e.name == y) = true → PySem.W.tabIn (K w.params) y = some (c, P) → PySem.W.CodeHd h c P ∧ h.get? P = some empT) → ∃ fd cs sp, LawG l w (K w.params) k n x mg fa h fd cs sp) :
    PySem.W.WalkO q loose XP YP l.row.toRowW d [] (fun f vs => PySem.call f vs) :=
  Att.attach_call hn hdf fun w s0 s1 mg mb fa o pm cd doc a vs ns G Y ho hd hcd hmg hobj hints hlen hg => by
    obtain ⟨fd, cs, sp, L⟩ := F w mg fa _ Y (hY w _ Y) G.T.g hmg fun y c P hy ht => by
      obtain ⟨e, he⟩ : ∃ e, (recsOf q).find? (fun e => e.name == y) = some e := by
        rw [← Option.isSome_iff_exists, List.find?_isSome]
        simpa [List.any_eq_true] using hy
      exact PySem.W.tab_of G.T (hY w _ Y) he ht
    exact law_callTG (hY w _ Y) G.T.g G.T.b G.T.builtins G.T.nolimit hg L.tab L.out L.hd G.T.bmain hobj hints (Nat.le_trans hlen hn2) hr L.fn L.bnd fun H hH hS => L.say H a ns hlen hH hS
end HX
set_option Elab.async false
set_option linter.all false
set_option maxRecDepth 100000
/-! a lambda without parameters handed to a def: it lives on in every later state -/
namespace HX
open PySem PySem.Spec PyProof.Rows L2 LamX
/-- what the closure at f tells where it is called later; it was made at s, H, over the frames fs -/
def Clo (P : Program) (w : World) (K : PySem.W.Frag) (mg : Str → Option Value) (base : Heap) (fs : List Addr) (k : Nat) (s : Shared) (H : Hp) (f c' : Addr) (q : Str) (tl : XK → Hp → VK → Prop) : Prop :=
  ∀ (A : Around) (outer : List Env) (s1 : Shared) (H1 : Hp) (Q : VK) (E : XK), Room (k + 1) A → Env0 P w K mg base A outer s1 H1 → Un fs [] H H1 s.heap s1.heap → H1 c' = some (CodeO c' q) → tl E H1 Q →
    PySem.W.FnAt f s1.heap ∧ codeAny (model P w) A (.call (.ref f) ⟨[], []⟩) (CR (L2.CX P w) outer P w H1 s1 Q E) s1
section
variable {P : Program} {w : World} {K : PySem.W.Frag} {mg : Str → Option Value} {base : Heap} {fs : List Addr} {k : Nat} {s s' : Shared} {H H' : Hp} {f c' : Addr} {q : Str} {tl : XK → Hp → VK → Prop}
theorem Clo.later (C : Clo P w K mg base fs k s H f c' q tl) (un : Un fs [] H H' s.heap s'.heap) : Clo P w K mg base fs k s' H' f c' q tl := fun A outer s1 H1 Q E hr e0 u hc h => C A outer s1 H1 Q E hr e0 (un.trans u) hc h
end
/-- what is told, for whoever wants less -/
def upc (tl : XK → Hp → VK → Prop) : XK → Hp → VK → Prop := fun E H Q => ∃ (E0 : XK) (Q0 : VK), (∀ cls d H', E0 cls d H' → E cls d H') ∧ (∀ v H', Q0 v H' → Q v H') ∧ tl E0 H Q0
theorem Clo.up {P : Program} {w : World} {K : PySem.W.Frag} {mg : Str → Option Value} {base : Heap} {fs : List Addr} {k : Nat} {s : Shared} {H : Hp} {f c' : Addr} {q : Str} {tl : XK → Hp → VK → Prop} (C : Clo P w K mg base fs k s H f c' q tl) : Clo P w K mg base fs k s H f c' q (upc tl) := fun A outer s1 H1 Q E hr e0 u hc ⟨E0, Q0, hE, hQ, h⟩ => by
  obtain ⟨fa, rc⟩ := C A outer s1 H1 Q0 E0 hr e0 u hc h
  refine ⟨fa, codeAny_mono rc fun r s' hq => ?_⟩
  match r, hq with
  | .error e, ⟨a, B, H', cls, d, h1, h2, h3, h4, h5, h6, h7, h8⟩ => exact ⟨a, B, H', cls, d, h1, h2, h3, h4, h5, h6, h7, hE _ _ _ h8⟩
  | .ok (.ret u), ⟨v, H', h1, h2, h3, h4, h5, h6⟩ => exact ⟨v, H', h1, h2, h3, h4, h5, hQ _ _ h6⟩
  | .ok .next, hq => exact False.elim hq
  | .ok .brk, hq => exact False.elim hq
  | .ok .cont, hq => exact False.elim hq
theorem clo_of {X : Cx} {pins : List (Addr × Obj)} {σ : L2.St} {H : Hp} {s : Shared} {f c' : Addr} {pm ctv : Value} {params : Arguments} {body : Expr} {scope : Scope} {k : Nat} {t : XK → TE} (I : Inv X pins σ H s) (L : LamS X.env.scope scope)
    (hf : s.heap.get? f = some (PySem.W.kla_obj "<lambda>" (X.env.qual ++ "<lambda>") params body scope (cloFrom X.env.cells scope.names []) pm c' ctv)) (hfn : H f = none) (hfr : f ∉ frs X.stack)
    (hbind : bindArgs (PySem.W.kla_fn "<lambda>" (X.env.qual ++ "<lambda>") params body scope (cloFrom X.env.cells scope.names []) pm (.ref c') ctv) ⟨[], []⟩ = pure [])
    (hbody : ∀ (A : Around) (outer : List Env) (s1 : Shared) (H1 : Hp) (E : XK), Room k (A.deeper (lamEnv X scope s1.heap.objs.size f c')) → PE (lamCx X A outer s1 H1 E scope f c') body (t E)) :
    Clo X.prog X.w X.K X.mg X.base (frs X.stack) k s H f c' (X.env.qual ++ "<lambda>") (fun E H' Q => t E σ H' Q) := by
  intro A outer s1 HZ Q E hr e0 un hc ht
  have of1 := un.keep f _ hf hfn hfr (by simp)
  refine ⟨⟨_, _, _, _, of1⟩, ?_⟩
  obtain ⟨⟨oc, vs, t', hoc, hdc, hvc⟩, _, _⟩ := e0.hok c' _ hc
  have nl : s1.heap.NoLimit := e0.mod.nolimit.keeps (fun b o z => (e0.bs b o z).1)
  refine PySem.W.kla_callFunE hr.depth of1 rfl L.co L.gen rfl ⟨c', oc, vs, t', rfl, hoc, hdc, hvc⟩ ?_
  rw [hbind]
  refine wpAny_pure (wpAny_newFunctionEnv (fun y hy => (L.own y hy).2) (fun y hy => absurd hy (by simp)) (fun h₁ hns hsb => ⟨nl.fresh _ hsb, ?_⟩) L.kind)
  show codeAny _ _ (.expr body (lamEnv X scope s1.heap.objs.size f c')) _ _
  have kp : ∀ b o, s1.heap.get? b = some o → h₁.get? b = some o := fun b o e => hsb.extBut b o (Nat.ne_of_lt (Heap.lt_size e)) (Heap.get?_push_of_some _ e)
  have J : Inv (lamCx X A outer s1 HZ E scope f c') [] σ HZ { s1 with heap := h₁, toks := s1.toks + ([] : List (Str × Value)).length } := lam_start2 I L e0 hr.hd un hns kp
  refine PySem.W.kla_codeExpr (wpAny_mono ((hbody _ _ s1 HZ E (hr.deeper _)).run [] _ _ HZ Q J ht) (fun v s' hq => ?_) fun e s' hq => hq)
  obtain ⟨w', H', J', rv, q⟩ := hq
  exact ⟨w', H', J'.os, J'.bare, J'.base, J'.hok, rv, q⟩
/-- what a def that gets a callable makes of what that tells -/
abbrev TTC := (XK → Hp → VK → Prop) → Hp → VK → XK → Prop
/-- a def with one parameter, a callable; kc the callable's room -/
structure FnC (P : Program) (w : World) (K : PySem.W.Frag) (mg : Str → Option Value) (base : Heap) (k kc : Nat) (g : Addr) (fd : FuncData) (a : Str) (TT : TTC) : Prop where
  run : ∀ (A : Around) (outer : List Env) (s : Shared) (H : Hp) (f c' : Addr) (q : Str) (tl : XK → Hp → VK → Prop) (Q : VK) (E : XK), Room k A → Env0 P w K mg base A outer s H → BindsTo s fd ⟨[.ref f], []⟩ [(a, .ref f)] →
    Clo P w K mg base (frs outer) kc s H f c' q tl → H c' = some (CodeO c' q) → TT tl H Q E → codeAny (model P w) A (.call (.ref g) ⟨[.ref f], []⟩) (CR (L2.CX P w) outer P w H s Q E) s
theorem funC {P : Program} {w : World} {K : PySem.W.Frag} {mg : Str → Option Value} {base : Heap} {x qual a : Str} {st : Stmt} {g : Addr} {fd : FuncData} {N : List Str} {k kc : Nat} {TT : TTC} (F : Fun K x qual st g fd) (S : FnScope N [a] (defScope st))
    (hb : ∀ (cdv : Value) (A : Around) (outer : List Env) (s : Shared) (H : Hp) (f c' : Addr) (q : Str) (tl : XK → Hp → VK → Prop) (Q : VK) (E : XK), Room k (A.deeper (envOfC qual (defScope st) s.heap.objs.size g cdv)) →
      Clo P w K mg base (frs outer) kc s H f c' q tl → H c' = some (CodeO c' q) → TT tl H Q E →
      ∃ t, PSs (cxOf (L2.CX P w) P w K mg base N qual (defScope st) g cdv A outer s H E) (defBody st) t ∧ t { nx := fun _ H' => Q .non H', rt := Q } (start N [.ref f]) H) : FnC P w K mg base (k + 1) kc g fd a TT := by
  obtain ⟨oc, od, kV, doc, pm, an, cdv, ct, osl, rfl, lk, hcd⟩ := F.ex
  refine ⟨fun A outer s H f c' q tl Q E hr e0 hbd C hc h => ?_⟩
  exact run_ofS (N := N) (ps := [a]) (us := [.ref f]) (vs := [.ref f]) lk hcd S hr e0 hbd (.cons rfl .nil) rfl fun hr' => hb cdv A outer s H f c' q tl Q E hr' C hc h
theorem passF {X : Cx} (σ : L2.St) : PassesAt (L2.CX X.prog X.w) X σ (fun _ _ _ => False) := fun _ _ _ _ _ _ h => by
  obtain ⟨_, _, _, _, _, _, _, _, _, _, _, _, z⟩ := h
  exact z.elim
/-- x(), in a def that got the callable -/
def tClo (i : Nat) (f c' : Addr) (q : Str) (tl : XK → Hp → VK → Prop) (E : L2.St → XK) : TE := fun σ H Q => σ[i]? = some (some (.ref f)) ∧ H c' = some (CodeO c' q) ∧ tl (E σ) H Q
theorem pe_clo {Y : Cx} {kc i : Nat} {f c' : Addr} {q a : Str} {tl : XK → Hp → VK → Prop} {E : L2.St → XK} {p1 p2 : Pos} (C : Clo Y.prog Y.w Y.K Y.mg Y.base Y.fs kc Y.s_0 Y.H_0 f c' q tl) (hex : Y.ex = []) (hr : Room (kc + 1) Y.A) (hx : ∀ σ, PassesAt (L2.CX Y.prog Y.w) Y σ (E σ))
    (hN : Y.N[i]? = some a) (hv : Vis Y.env.scope a) (hd : (a == ("__debug__" : Str)) = false := by decide) (hcd : (a == ("__classdict__" : Str)) = false := by decide) :
    PE Y (.Call (.Name a p1) [] [] p2) (tClo i f c' q tl E) := by
  refine ⟨fun pins s σ H Q I h => ?_⟩
  obtain ⟨hs, hc, ht⟩ := h
  refine wpAny_Call_Name_kw (thn ((pe_var (pos := p1) (i := i) hN hv hd hcd).run pins s σ H (fun v H1 => v = .ref f ∧ H1 = H) I ⟨.ref f, hs, rfl, rfl⟩) fun u s1 ⟨v, H1, I1, r1, q1⟩ => ?_)
  obtain ⟨ev, eH⟩ := q1
  subst ev
  rw [eH] at I1
  obtain rfl : u = Value.ref f := r1
  have un : Un Y.fs [] Y.H_0 H Y.s_0.heap s1.heap := hex ▸ I1.base
  obtain ⟨fa, rc⟩ := C Y.A Y.stack s1 H Q (E σ) hr I1.env0 un hc ht
  refine PySem.W.callWith_F0 fa (wpAny_call (codeAny_mono rc fun r s' hq => ?_))
  match r, hq with
  | .error e, hq => exact hx σ pins H s1 e s' I1 hq
  | .ok (.ret u), hq => exact I1.after hq
  | .ok .next, hq => exact False.elim hq
  | .ok .brk, hq => exact False.elim hq
  | .ok .cont, hq => exact False.elim hq
/-- x(lambda: body) -/
def tLam1 (T : List (Addr × Str)) (TT : TTC) (E : L2.St → XK) (t : XK → TE) : TE := fun σ H Q => Tabs T H ∧ ∀ H1, ExtN H H1 → Tabs T H1 → TT (fun E H' Q' => t E σ H' Q') H1 Q (E σ)
theorem pe_lam1 {X : Cx} {T : List (Addr × Str)} {TT : TTC} {x a : Str} {g c Pt : Addr} {fd : FuncData} {k kc : Nat} {params : Arguments} {body : Expr} {scope : Scope} {t : XK → TE} {E : L2.St → XK} {p lpos pos : Pos} (F : FnC X.prog X.w X.K X.mg X.base k kc g fd a TT) (hr : Room k X.A)
    (hg : Gl X x) (hm : X.mg x = some (.ref g)) (hk : PySem.W.keepIn X.K (.ref g) = true) (hb : L2.Binds X.K fd [a] []) (hx : ∀ σ, PassesAt (L2.CX X.prog X.w) X σ (E σ))
    (TB : TabB X.base X.mg c Pt) (hcode : X.env.code = .ref c) (hmT : (Pt, X.env.qual ++ "<lambda>") ∈ T) (hu : ∀ p ∈ T, p.1 = Pt → p.2 = X.env.qual ++ "<lambda>") (L : LamS X.env.scope scope) (hdef : defaultsOf params X.env = ([], []))
    (hbind : ∀ (q : Str) (cl : List (Str × Addr)) (pm cv ctv : Value), bindArgs (PySem.W.kla_fn "<lambda>" q params body scope cl pm cv ctv) ⟨[], []⟩ = pure [])
    (hbody : ∀ (A : Around) (outer : List Env) (s : Shared) (H : Hp) (E : XK) (f c' : Addr), Room kc (A.deeper (lamEnv X scope s.heap.objs.size f c')) → PE (lamCx X A outer s H E scope f c') body (t E))
    (hdb : (x == ("__debug__" : Str)) = false := by decide) :
    PE X (.Call (.Name x p) [.Lambda params body scope lpos] [] pos) (tLam1 T TT E t) := by
  refine ⟨fun pins s σ H Q I h => ?_⟩
  obtain ⟨hT, h⟩ := h
  refine wpAny_Call_Name_kw (ld_glob I hg hm ?_ hdb)
  refine PySem.W.callWith_K (h₀ := X.base) I.ok.mod.kin hk ?_ (by rfl) (by rfl)
  show wpAny _ _ (spliced ((false, eval (.Lambda params body scope lpos) X.env) :: backTo pos (starEach [] X.env))) _ _ s
  refine Calls.spliced_cons (lam_make2 I TB hcode hmT hu hT hdef (L.has I.ok) fun f c' pm' ctv H1 s' I1 eN T1 hf hfn hfr hco => ?_)
  refine Calls.spliced_nil ⟨I1.kIn, ?_⟩
  have C := clo_of (k := kc) (t := t) I1 L hf hfn hfr (hbind _ _ _ _ _) fun A outer s1 H1 E hr2 => hbody A outer s1 H1 E f c' hr2
  have b := hb s' [.ref f] I1.kIn rfl
  refine wpAny_call (codeAny_mono (F.run X.A X.stack s' H1 f c' _ _ Q (E σ) hr I1.env0 b C hco (h H1 eN T1)) fun r s2 hq => ?_)
  match r, hq with
  | .error e, hq => exact hx σ pins H1 s' e s2 I1 hq
  | .ok (.ret u), hq => exact I1.after hq
  | .ok .next, hq => exact False.elim hq
  | .ok .brk, hq => exact False.elim hq
  | .ok .cont, hq => exact False.elim hq
/-- a def where no repr is under way, its code object known -/
theorem funGC {P : Program} {w : World} {K : PySem.W.Frag} {mg : Str → Option Value} {base : Heap} {x qual : Str} {st : Stmt} {f c : Addr} {fd : FuncData} {N ps : List Str} {k : Nat} {sp : Sp} (F : Fun K x qual st f fd) (hc : fd.code = .ref c) (S : FnScope N ps (defScope st))
    (ln : ∀ vs H Q E, sp vs H Q E → vs.length = ps.length)
    (hb : ∀ (A : Around) (outer : List Env) (s : Shared) (H : Hp) (vs : List V) (Q : VK) (E : XK), A.guards = some [] → Room k (A.deeper (envOfC qual (defScope st) s.heap.objs.size f (.ref c))) → sp vs H Q E →
      ∃ t, PSs (cxOf CX0 P w K mg base N qual (defScope st) f (.ref c) A outer s H E).nox (defBody st) t ∧ t { nx := fun _ H' => Q .non H', rt := Q } (start N vs) H) : FnG P w K mg base (k + 1) f fd ps sp := by
  obtain ⟨oc, od, kV, doc, pm, an, cdv, ct, osl, rfl, lk, hcd⟩ := F.ex
  have e : cdv = .ref c := hc
  subst e
  refine ⟨ln, fun A outer s H args us vs Q E hg hr e0 hbd r hsp => ?_⟩
  refine run_ofS (N := N) (ps := ps) (CX := CX0) lk hcd S hr e0 hbd r (ln _ _ _ _ hsp) fun hr' => ?_
  obtain ⟨t, h1, h2⟩ := hb A outer s H vs Q E hg hr' hsp
  exact ⟨t, h1.nox, h2⟩
/-- the same with what may be raised, and no word of repr -/
theorem funXC {P : Program} {w : World} {K : PySem.W.Frag} {mg : Str → Option Value} {base : Heap} {x qual : Str} {st : Stmt} {f c : Addr} {fd : FuncData} {N ps : List Str} {k : Nat} {sp : Sp} (F : Fun K x qual st f fd) (hc : fd.code = .ref c) (S : FnScope N ps (defScope st))
    (ln : ∀ vs H Q E, sp vs H Q E → vs.length = ps.length)
    (hb : ∀ (A : Around) (outer : List Env) (s : Shared) (H : Hp) (vs : List V) (Q : VK) (E : XK), Room k (A.deeper (envOfC qual (defScope st) s.heap.objs.size f (.ref c))) → sp vs H Q E →
      ∃ t, PSs (cxOf (L2.CX P w) P w K mg base N qual (defScope st) f (.ref c) A outer s H E) (defBody st) t ∧ t { nx := fun _ H' => Q .non H', rt := Q } (start N vs) H) : FnOk P w K mg base (L2.CX P w) (k + 1) f fd ps sp := by
  obtain ⟨oc, od, kV, doc, pm, an, cdv, ct, osl, rfl, lk, hcd⟩ := F.ex
  have e : cdv = .ref c := hc
  subst e
  refine ⟨ln, fun A outer s H args us vs Q E hr e0 hbd r hsp => ?_⟩
  exact run_ofS (N := N) (ps := ps) (CX := L2.CX P w) lk hcd S hr e0 hbd r (ln _ _ _ _ hsp) fun hr' => hb A outer s H vs Q E hr' hsp
/-- the name of a def's lambdas -/
abbrev lamQ (x : Str) : Str := x ++ ".<locals>." ++ "<lambda>"
/-! ### the tables, while all else goes on -/
theorem tabs_same {T : List (Addr × Str)} {H H' : Hp} (t : Tabs T H) (e : Same H H') : Tabs T H' := t.ext fun b o h => e b o h
theorem tabs_but {T : List (Addr × Str)} {p : Addr} {H H' : Hp} {kvs : List (Key × V)} (t : Tabs T H) (hp : H p = some (.dK kvs)) (e : But p H H') : Tabs T H' := fun x hx => by
  obtain ⟨ps, h1, h2, h3⟩ := t x hx
  refine ⟨ps, e _ _ (ne_of h1 hp (by intro z; cases z)) h1, h2, fun pos cv hc => ?_⟩
  obtain ⟨c, e1, e2⟩ := h3 pos cv hc
  exact ⟨c, e1, e _ _ (ne_of e2 hp (by unfold CodeO; intro z; cases z)) e2⟩
theorem extN_same {H H' : Hp} (e : Same H H') : ExtN H H' := ExtN.of fun b o h => e b o h
end HX
set_option Elab.async false
set_option linter.all false
set_option maxRecDepth 100000
/-! is, of two truths -/
namespace RC
open PySem PySem.Spec PyProof.Rows L2
variable {X : Cx}
theorem op_isB : OpR X (compareOp .Is) (fun x y H Q => ∃ b c, x = .bl b ∧ y = .bl c ∧ Q (.bl (decide (b = c))) H) := by
  intro pins s σ H x y v u Q I rx ry h
  obtain ⟨b, c, rfl, rfl, q⟩ := h
  cases (show v = Value.bool b from rx)
  cases (show u = Value.bool c from ry)
  have e : (Value.bool b == Value.bool c) = decide (b = c) := by cases b <;> cases c <;> rfl
  refine wpAny_is_plain (by rfl) ?_
  rw [e]
  exact ⟨.bl (decide (b = c)), H, I, rfl, q⟩
end RC
set_option Elab.async false
set_option linter.all false
set_option maxRecDepth 100000
namespace K00
open PySem PySem.Spec PyProof.Rows L2
def topS (i : Nat) : Stmt := PySem.Challenge.pw_farbits_k00_forms_told_from_other_values.main.body.getD i (.Pass ⟨0, 0, 0, 0⟩)
abbrev s_turns_of_int : Stmt := topS 6
theorem sc_turns_of_int : FnScope ["number", "marks", "found", "lowest"] ["number"] (defScope s_turns_of_int) := ⟨rfl, rfl, rfl, by decide +kernel, rfl, by decide +kernel, by decide +kernel⟩
abbrev s_turns : Stmt := topS 7
theorem sc_turns : FnScope ["x"] ["x"] (defScope s_turns) := ⟨rfl, rfl, rfl, by decide +kernel, rfl, by decide +kernel, by decide +kernel⟩
abbrev s_negative : Stmt := topS 8
theorem sc_negative : FnScope ["x"] ["x"] (defScope s_negative) := ⟨rfl, rfl, rfl, by decide +kernel, rfl, by decide +kernel, by decide +kernel⟩
abbrev s_order : Stmt := topS 9
theorem sc_order : FnScope ["x", "y", "ours", "theirs", "common", "most", "side"] ["x", "y"] (defScope s_order) := ⟨rfl, rfl, rfl, by decide +kernel, rfl, by decide +kernel, by decide +kernel⟩
abbrev s_room_left : Stmt := topS 11
theorem sc_room_left : FnScope ["value", "room", "levels", "left", "member"] ["value", "room", "levels"] (defScope s_room_left) := ⟨rfl, rfl, rfl, by decide +kernel, rfl, by decide +kernel, by decide +kernel⟩
abbrev s_is_plain : Stmt := topS 12
theorem sc_is_plain : FnScope ["value"] ["value"] (defScope s_is_plain) := ⟨rfl, rfl, rfl, by decide +kernel, rfl, by decide +kernel, by decide +kernel⟩
abbrev s_is_valid : Stmt := topS 13
theorem sc_is_valid : FnScope ["value", "at", "member"] ["value"] (defScope s_is_valid) := ⟨rfl, rfl, rfl, by decide +kernel, rfl, by decide +kernel, by decide +kernel⟩
abbrev s_is_form : Stmt := topS 14
theorem sc_is_form : FnScope ["value"] ["value"] (defScope s_is_form) := ⟨rfl, rfl, rfl, by decide +kernel, rfl, by decide +kernel, by decide +kernel⟩
abbrev s__law_begin : Stmt := topS 16
theorem sc__law_begin : FnScope ["_law_script"] ["_law_script"] (defScope s__law_begin) := ⟨rfl, rfl, rfl, by decide +kernel, rfl, by decide +kernel, by decide +kernel⟩
abbrev s__law_draw : Stmt := topS 17
theorem sc__law_draw : FnScope ["_law_tape", "_law_limit", "_law_at", "_law_span", "_law_cell", "_law_mixed", "_law_found"] ["_law_tape", "_law_limit"] (defScope s__law_draw) := ⟨rfl, rfl, rfl, by decide +kernel, rfl, by decide +kernel, by decide +kernel⟩
abbrev s__law_pick : Stmt := topS 18
theorem sc__law_pick : FnScope ["_law_tape", "_law_some"] ["_law_tape", "_law_some"] (defScope s__law_pick) := ⟨rfl, rfl, rfl, by decide +kernel, rfl, by decide +kernel, by decide +kernel⟩
abbrev s__law_turns : Stmt := topS 19
theorem sc__law_turns : FnScope ["_law_number", "_law_marks", "_law_found", "_law_low"] ["_law_number"] (defScope s__law_turns) := ⟨rfl, rfl, rfl, by decide +kernel, rfl, by decide +kernel, by decide +kernel⟩
abbrev s__law_int : Stmt := topS 20
theorem sc__law_int : FnScope ["_law_places", "_law_total", "_law_sign", "_law_turn"] ["_law_places"] (defScope s__law_int) := ⟨rfl, rfl, rfl, by decide +kernel, rfl, by decide +kernel, by decide +kernel⟩
abbrev s__law_form : Stmt := topS 21
theorem sc__law_form : FnScope ["_law_number"] ["_law_number"] (defScope s__law_form) := ⟨rfl, rfl, rfl, by decide +kernel, rfl, by decide +kernel, by decide +kernel⟩
abbrev s__law_row_form : Stmt := topS 22
theorem sc__law_row_form : FnScope ["_law_places"] ["_law_places"] (defScope s__law_row_form) := ⟨rfl, rfl, rfl, by decide +kernel, rfl, by decide +kernel, by decide +kernel⟩
abbrev s__law_size : Stmt := topS 23
theorem sc__law_size : FnScope ["_law_form_here", "_law_one"] ["_law_form_here"] (defScope s__law_size) := ⟨rfl, rfl, rfl, by decide +kernel, rfl, by decide +kernel, by decide +kernel⟩
abbrev s__law_fields : Stmt := topS 24
theorem sc__law_fields : FnScope ["_law_tape", "_law_many", "_law_first", "_law_found", "_law_low", "_law_top", "_law_gap"] ["_law_tape", "_law_many"] (defScope s__law_fields) := ⟨rfl, rfl, rfl, by decide +kernel, rfl, by decide +kernel, by decide +kernel⟩
abbrev s__law_moved : Stmt := topS 25
theorem sc__law_moved : FnScope ["_law_code_here", "_law_fields_here", "_law_places", "_law_turn", "_law_field", "_law_step"] ["_law_code_here", "_law_fields_here"] (defScope s__law_moved) := ⟨rfl, rfl, rfl, by decide +kernel, rfl, by decide +kernel, by decide +kernel⟩
abbrev s__law_form_of_codes : Stmt := topS 26
theorem sc__law_form_of_codes : FnScope ["_law_codes_here", "_law_fields_here", "_law_code_here"] ["_law_codes_here", "_law_fields_here"] (defScope s__law_form_of_codes) := ⟨rfl, rfl, rfl, by decide +kernel, rfl, by decide +kernel, by decide +kernel⟩
abbrev s__law_code : Stmt := topS 27
theorem sc__law_code : FnScope ["_law_tape", "_law_many", "_law_known", "_law_found", "_law_k", "_law_piece"] ["_law_tape", "_law_many", "_law_known"] (defScope s__law_code) := ⟨rfl, rfl, rfl, by decide +kernel, rfl, by decide +kernel, by decide +kernel⟩
abbrev s__law_codes : Stmt := topS 28
theorem sc__law_codes : FnScope ["_law_tape", "_law_many", "_law_count", "_law_known", "_law_found", "_law_k", "_law_code_here"] ["_law_tape", "_law_many", "_law_count", "_law_known"] (defScope s__law_codes) := ⟨rfl, rfl, rfl, by decide +kernel, rfl, by decide +kernel, by decide +kernel⟩
abbrev s__law_before : Stmt := topS 29
theorem sc__law_before : FnScope ["_law_one", "_law_other", "_law_mine", "_law_yours", "_law_higher"] ["_law_one", "_law_other"] (defScope s__law_before) := ⟨rfl, rfl, rfl, by decide +kernel, rfl, by decide +kernel, by decide +kernel⟩
abbrev s__law_is_own_form : Stmt := topS 30
theorem sc__law_is_own_form : FnScope ["_law_thing", "_law_deep", "_law_at", "_law_one"] ["_law_thing", "_law_deep"] (defScope s__law_is_own_form) := ⟨rfl, rfl, rfl, by decide +kernel, rfl, by decide +kernel, by decide +kernel⟩
abbrev s__law_otherwise : Stmt := topS 31
theorem sc__law_otherwise : FnScope ["_law_tape", "_law_form_here", "_law_deep", "_law_some", "_law_at", "_law_way"] ["_law_tape", "_law_form_here", "_law_deep"] (defScope s__law_otherwise) := ⟨rfl, rfl, rfl, by decide +kernel, rfl, by decide +kernel, by decide +kernel⟩
abbrev s__law_limits : Stmt := topS 32
theorem sc__law_limits : FnScope ["_law_tape", "_law_size_here", "_law_wide", "_law_k", "_law_tall"] ["_law_tape"] (defScope s__law_limits) := ⟨rfl, rfl, rfl, by decide +kernel, rfl, by decide +kernel, by decide +kernel⟩
abbrev s_law : Stmt := topS 33
theorem sc_law : FnScope ["_law_script", "_law_tape", "_law_thing", "_law_due", "_law_lap", "_law_fields_here", "_law_form_here", "_law_kept", "_law_number"] ["_law_script"] (defScope s_law) := ⟨rfl, rfl, rfl, by decide +kernel, rfl, by decide +kernel, by decide +kernel⟩
structure Top (K : PySem.W.Frag) (mg : Str → Option Value) where
  f_turns_of_int : Addr
  fd_turns_of_int : FuncData
  F_turns_of_int : Fun K "turns_of_int" "turns_of_int" s_turns_of_int f_turns_of_int fd_turns_of_int
  g_turns_of_int : mg "turns_of_int" = some (.ref f_turns_of_int)
  b_turns_of_int : Binds K fd_turns_of_int ["number"] []
  f_turns : Addr
  fd_turns : FuncData
  F_turns : Fun K "turns" "turns" s_turns f_turns fd_turns
  g_turns : mg "turns" = some (.ref f_turns)
  b_turns : Binds K fd_turns ["x"] []
  f_negative : Addr
  fd_negative : FuncData
  F_negative : Fun K "negative" "negative" s_negative f_negative fd_negative
  g_negative : mg "negative" = some (.ref f_negative)
  b_negative : Binds K fd_negative ["x"] []
  f_order : Addr
  fd_order : FuncData
  F_order : Fun K "order" "order" s_order f_order fd_order
  g_order : mg "order" = some (.ref f_order)
  b_order : Binds K fd_order ["x", "y"] []
  f_room_left : Addr
  fd_room_left : FuncData
  F_room_left : Fun K "room_left" "room_left" s_room_left f_room_left fd_room_left
  g_room_left : mg "room_left" = some (.ref f_room_left)
  b_room_left : Binds K fd_room_left ["value", "room", "levels"] []
  f_is_plain : Addr
  fd_is_plain : FuncData
  F_is_plain : Fun K "is_plain" "is_plain" s_is_plain f_is_plain fd_is_plain
  g_is_plain : mg "is_plain" = some (.ref f_is_plain)
  b_is_plain : Binds K fd_is_plain ["value"] []
  f_is_valid : Addr
  fd_is_valid : FuncData
  F_is_valid : Fun K "is_valid" "is_valid" s_is_valid f_is_valid fd_is_valid
  g_is_valid : mg "is_valid" = some (.ref f_is_valid)
  b_is_valid : Binds K fd_is_valid ["value"] []
  f_is_form : Addr
  fd_is_form : FuncData
  F_is_form : Fun K "is_form" "is_form" s_is_form f_is_form fd_is_form
  g_is_form : mg "is_form" = some (.ref f_is_form)
  b_is_form : Binds K fd_is_form ["value"] []
  f__law_begin : Addr
  fd__law_begin : FuncData
  F__law_begin : Fun K "_law_begin" "_law_begin" s__law_begin f__law_begin fd__law_begin
  g__law_begin : mg "_law_begin" = some (.ref f__law_begin)
  b__law_begin : Binds K fd__law_begin ["_law_script"] []
  f__law_draw : Addr
  fd__law_draw : FuncData
  F__law_draw : Fun K "_law_draw" "_law_draw" s__law_draw f__law_draw fd__law_draw
  g__law_draw : mg "_law_draw" = some (.ref f__law_draw)
  b__law_draw : Binds K fd__law_draw ["_law_tape", "_law_limit"] []
  f__law_pick : Addr
  fd__law_pick : FuncData
  F__law_pick : Fun K "_law_pick" "_law_pick" s__law_pick f__law_pick fd__law_pick
  g__law_pick : mg "_law_pick" = some (.ref f__law_pick)
  b__law_pick : Binds K fd__law_pick ["_law_tape", "_law_some"] []
  f__law_turns : Addr
  fd__law_turns : FuncData
  F__law_turns : Fun K "_law_turns" "_law_turns" s__law_turns f__law_turns fd__law_turns
  g__law_turns : mg "_law_turns" = some (.ref f__law_turns)
  b__law_turns : Binds K fd__law_turns ["_law_number"] []
  f__law_int : Addr
  fd__law_int : FuncData
  F__law_int : Fun K "_law_int" "_law_int" s__law_int f__law_int fd__law_int
  g__law_int : mg "_law_int" = some (.ref f__law_int)
  b__law_int : Binds K fd__law_int ["_law_places"] []
  f__law_form : Addr
  fd__law_form : FuncData
  F__law_form : Fun K "_law_form" "_law_form" s__law_form f__law_form fd__law_form
  g__law_form : mg "_law_form" = some (.ref f__law_form)
  b__law_form : Binds K fd__law_form ["_law_number"] []
  f__law_row_form : Addr
  fd__law_row_form : FuncData
  F__law_row_form : Fun K "_law_row_form" "_law_row_form" s__law_row_form f__law_row_form fd__law_row_form
  g__law_row_form : mg "_law_row_form" = some (.ref f__law_row_form)
  b__law_row_form : Binds K fd__law_row_form ["_law_places"] []
  f__law_size : Addr
  fd__law_size : FuncData
  F__law_size : Fun K "_law_size" "_law_size" s__law_size f__law_size fd__law_size
  g__law_size : mg "_law_size" = some (.ref f__law_size)
  b__law_size : Binds K fd__law_size ["_law_form_here"] []
  f__law_fields : Addr
  fd__law_fields : FuncData
  F__law_fields : Fun K "_law_fields" "_law_fields" s__law_fields f__law_fields fd__law_fields
  g__law_fields : mg "_law_fields" = some (.ref f__law_fields)
  b__law_fields : Binds K fd__law_fields ["_law_tape", "_law_many"] []
  f__law_moved : Addr
  fd__law_moved : FuncData
  F__law_moved : Fun K "_law_moved" "_law_moved" s__law_moved f__law_moved fd__law_moved
  g__law_moved : mg "_law_moved" = some (.ref f__law_moved)
  b__law_moved : Binds K fd__law_moved ["_law_code_here", "_law_fields_here"] []
  f__law_form_of_codes : Addr
  fd__law_form_of_codes : FuncData
  F__law_form_of_codes : Fun K "_law_form_of_codes" "_law_form_of_codes" s__law_form_of_codes f__law_form_of_codes fd__law_form_of_codes
  g__law_form_of_codes : mg "_law_form_of_codes" = some (.ref f__law_form_of_codes)
  b__law_form_of_codes : Binds K fd__law_form_of_codes ["_law_codes_here", "_law_fields_here"] []
  f__law_code : Addr
  fd__law_code : FuncData
  F__law_code : Fun K "_law_code" "_law_code" s__law_code f__law_code fd__law_code
  g__law_code : mg "_law_code" = some (.ref f__law_code)
  b__law_code : Binds K fd__law_code ["_law_tape", "_law_many", "_law_known"] []
  f__law_codes : Addr
  fd__law_codes : FuncData
  F__law_codes : FunD K "_law_codes" "_law_codes" (defArgs s__law_codes) (defBody s__law_codes) (defScope s__law_codes) [.non] [] f__law_codes fd__law_codes
  ds__law_codes : List Value
  dv__law_codes : Vals [.non] ds__law_codes
  bd__law_codes : Binds K fd__law_codes ["_law_tape", "_law_many", "_law_count", "_law_known"] ds__law_codes
  g__law_codes : mg "_law_codes" = some (.ref f__law_codes)
  b__law_codes : Binds K fd__law_codes ["_law_tape", "_law_many", "_law_count", "_law_known"] []
  f__law_before : Addr
  fd__law_before : FuncData
  F__law_before : Fun K "_law_before" "_law_before" s__law_before f__law_before fd__law_before
  g__law_before : mg "_law_before" = some (.ref f__law_before)
  b__law_before : Binds K fd__law_before ["_law_one", "_law_other"] []
  f__law_is_own_form : Addr
  fd__law_is_own_form : FuncData
  F__law_is_own_form : Fun K "_law_is_own_form" "_law_is_own_form" s__law_is_own_form f__law_is_own_form fd__law_is_own_form
  g__law_is_own_form : mg "_law_is_own_form" = some (.ref f__law_is_own_form)
  b__law_is_own_form : Binds K fd__law_is_own_form ["_law_thing", "_law_deep"] []
  f__law_otherwise : Addr
  fd__law_otherwise : FuncData
  F__law_otherwise : Fun K "_law_otherwise" "_law_otherwise" s__law_otherwise f__law_otherwise fd__law_otherwise
  g__law_otherwise : mg "_law_otherwise" = some (.ref f__law_otherwise)
  b__law_otherwise : Binds K fd__law_otherwise ["_law_tape", "_law_form_here", "_law_deep"] []
  f__law_limits : Addr
  fd__law_limits : FuncData
  F__law_limits : Fun K "_law_limits" "_law_limits" s__law_limits f__law_limits fd__law_limits
  g__law_limits : mg "_law_limits" = some (.ref f__law_limits)
  b__law_limits : Binds K fd__law_limits ["_law_tape"] []
  f_law : Addr
  fd_law : FuncData
  F_law : Fun K "law" "law" s_law f_law fd_law
  g_law : mg "law" = some (.ref f_law)
  b_law : Binds K fd_law ["_law_script"] []
  t_PLAIN_LEAST : Tok
  c_PLAIN_LEAST : mg "PLAIN_LEAST" = some (.int (-18446744073709551616) t_PLAIN_LEAST)
  t_PLAIN_MOST : Tok
  c_PLAIN_MOST : mg "PLAIN_MOST" = some (.int (18446744073709551615) t_PLAIN_MOST)
  t_LAST_PLAIN_TURN : Tok
  c_LAST_PLAIN_TURN : mg "LAST_PLAIN_TURN" = some (.int (64) t_LAST_PLAIN_TURN)
  t_MOST_HEIGHT : Tok
  c_MOST_HEIGHT : mg "MOST_HEIGHT" = some (.int (6) t_MOST_HEIGHT)
  t_MOST_SIZE : Tok
  c_MOST_SIZE : mg "MOST_SIZE" = some (.int (2000) t_MOST_SIZE)
  m_bool : mg "bool" = none
  m_enumerate : mg "enumerate" = none
  m_int : mg "int" = none
  m_isinstance : mg "isinstance" = none
  m_len : mg "len" = none
  m_list : mg "list" = none
  m_min : mg "min" = none
  m_range : mg "range" = none
  m_repr : mg "repr" = none
  m_sorted : mg "sorted" = none
  m_sum : mg "sum" = none
  m_tuple : mg "tuple" = none
end K00
set_option Elab.async false
set_option linter.all false
set_option maxRecDepth 100000
set_option pp.deepTerms false
set_option pp.maxSteps 1500
namespace K00
open PySem PySem.Spec PyProof.Rows L2 HX TV FM DX FB FC PM
local macro_rules | `(tactic| walk_at "r") => `(tactic| (repeat (first | refine Exists.intro _ (And.intro rfl ?_) | refine And.intro rfl ?_ | refine Exists.intro _ (Exists.intro _ (And.intro rfl (And.intro rfl ?_))) | refine And.intro (by omega) ?_ | refine And.intro (Or.inl (And.intro (by omega) (by omega))) ?_ | refine And.intro (Or.inr (And.intro (by omega) (by omega))) ?_ | refine And.intro (And.intro (by omega) (by omega)) ?_ | refine And.intro (And.intro (by decide) (And.intro (by decide) (by decide))) ?_ | refine Or.inl (Exists.intro _ (And.intro rfl ?_)) | (dsimp only [gName]; first | with_reducible refine seqC ?_ | with_reducible refine asgC ?_))))
local macro_rules | `(tactic| walk_at "s") => `(tactic| (repeat (first | refine Exists.intro _ (And.intro rfl ?_) | refine And.intro rfl ?_ | refine Exists.intro _ (Exists.intro _ (And.intro rfl (And.intro rfl ?_))) | refine And.intro (by omega) ?_ | refine And.intro (Or.inl (And.intro (by omega) (by omega))) ?_ | refine And.intro (Or.inr (And.intro (by omega) (by omega))) ?_ | refine And.intro (And.intro (by omega) (by omega)) ?_ | refine And.intro (And.intro (by decide) (And.intro (by decide) (by decide))) ?_ | refine Or.inl (Exists.intro _ (And.intro rfl ?_)) | refine Exists.intro _ (Exists.intro _ (And.intro rfl ?_)) | (dsimp only [gName]; first | with_reducible refine seqC ?_ | with_reducible refine asgC ?_))))
section
variable {P : Program} {w : World} {K : PySem.W.Frag} {mg : Str → Option Value} {base : Heap}
theorem bitsP (t : Nat) : Builtin.Int.intBits ((2 : Int) ^ t) = t + 1 := by
  have e : ((2 : Int) ^ t).natAbs = 2 ^ t := by rw [Int.natAbs_pow]; rfl
  have hp : 2 ^ t ≠ 0 := Nat.pos_iff_ne_zero.mp (Nat.pow_pos (by decide))
  unfold Builtin.Int.intBits
  split
  · rename_i h
    rw [show (2 : Int) ^ t = 0 by simpa using h] at e
    exact absurd e.symm hp
  · rw [e, Nat.log2_two_pow]
theorem turnsIn {n : Int} {k : Nat} (h1 : -(2 ^ k) ≤ n) (h2 : n < 2 ^ k) : ∃ ts, Asc ts ∧ tv ts = n ∧ (∀ t ∈ ts, t ≤ k) ∧ ts.length ≤ k + 1 := by
  obtain ⟨ts, hA, e⟩ := turns_ex n
  subst e
  have hb := (tv_range hA).mpr ⟨h1, h2⟩
  exact ⟨ts, hA, rfl, hb, asc_len (a := 0) hA fun t ht => ⟨Nat.zero_le _, hb t ht⟩⟩
/-- the turns of an int as a tuple -/
def sp_toi (K : PySem.W.Frag) : Sp := fun vs H Q _ => ∃ (n : Int) (k : Nat), vs = [.int n] ∧ k ≤ 900000 ∧ -(2 ^ k) ≤ n ∧ n < 2 ^ k ∧
  ∀ (ts : List Nat) l H', Asc ts → tv ts = n → (∀ t ∈ ts, t ≤ k) → ts.length ≤ k + 1 → Same H H' → H' l = some (.tup (nv ts)) → Q (.ref l) H'
theorem ok_turns_of_int (T : Top K mg) {k : Nat} : FnOk P w K mg base CX0 (k + 1) T.f_turns_of_int T.fd_turns_of_int ["number"]  (sp_toi K) := by
  refine T.F_turns_of_int.ok sc_turns_of_int (fun vs H Q E h => ?_) (fun cdv A outer s H vs Q E hr h => ?_)
  · obtain ⟨n, _, rfl, _⟩ := h
    rfl
  · obtain ⟨n, kb, rfl, hk, hn1, hn2, q⟩ := h
    obtain ⟨ts, hA, hn, hb, hlen⟩ := turnsIn hn1 hn2
    replace q := fun l H' => q ts l H' hA hn hb hlen
    refine ⟨_, (pss_cons (ps_set (i := 1) sc_turns_of_int.nd rfl (Or.inl rfl) (pe_op op_xor (pv 0) (pe_op op_shlN (pv 0) pe_int)))
    (pss_cons (ps_set (i := 2) sc_turns_of_int.nd rfl (Or.inl rfl) (pe_lst pa_nil))
    (pss_cons (ps_while PassesOwn.never (pt_cmpR op_gt (pv 1) pe_int (nomark _))
      (pss_cons (ps_set (i := 3) sc_turns_of_int.nd rfl (Or.inl rfl) (pe_op op_and (pv 1) (pe_un un_neg (pv 1))))
      (pss_cons (ps_expr (pe_bm PySem.F.plainAttrs_list PySem.F.slot_list_append PySem.F.type_list_append mt_append (pv 2) (pa_cons (pe_op op_sub (pe_bits (pe_callTy call_int1 (by rfl) T.m_int (by decide +kernel) (pa_cons (pv 3) pa_nil))) pe_int) pa_nil)))
      (pss_one (ps_set (i := 1) sc_turns_of_int.nd rfl (Or.inl rfl) (pe_op op_xor (pv 1) (pv 3)))))))
    (pss_one (ps_ret (pe_callTy call_tuple_of (by rfl) T.m_tuple (by decide +kernel) (pa_cons (pv 2) pa_nil))))))), ?_⟩
    walk_at "r"
    have hbits := intBits_le hn1 (Int.le_of_lt hn2)
    refine ⟨⟨by decide, by show (Builtin.Int.intBits n : Int) + 1 ≤ 2 ^ 27; omega⟩, ?_⟩
    walk_at "r"
    refine ⟨Nat.zero_le _, fun l nl => ?_⟩
    refine ⟨fun m σ H' => ∃ (pre post : List Nat) (z : Option V), σ = [some (.int n), some (.int (psum post)), some (.ref l), z] ∧ ts = pre ++ post ∧ post.length ≤ m ∧ Same H H' ∧ H' l = some (.lst (nv pre)),
      ⟨ts.length, [], ts, none, ?_, rfl, Nat.le_refl _, sm_upd nl, upd_same⟩, ?_⟩
    · show [some (V.int n), some (V.int (Builtin.bitXor n (n * 2))), some (V.ref l), none] = _
      rw [← hn, marks hA]
    rintro m σ H' ⟨pre, post, z, rfl, ets, hm, sm, el⟩
    walk_at "r"
    refine ifD (fun hc => wb fun D' B => ?_) (fun hc => ?_)
    · cases post with
      | nil => exact absurd hc (by decide)
      | cons t r =>
        have hA2 : Asc (t :: r) := (asc_app (ets ▸ hA)).2
        walk_at "r"
        simp only [low_mark hA2]
        refine ⟨.inl ⟨rfl, _, .inl (.inl el)⟩, ?_⟩
        walk_at "r"
        simp only [bitsP]
        refine ⟨_, _, _, rfl, rfl, el, ?_, ?_⟩
        · rw [nv_len]
          have : ts.length = pre.length + (r.length + 1) := by rw [ets]; simp
          exact len_lt (by omega)
        walk_at "r"
        refine B.nx _ _ ⟨r.length, by simp at hm; omega, pre ++ [t], r, some (.int (2 ^ t)), ?_, ?_, Nat.le_refl _, sm_mut sm nl, ?_⟩
        · show [some (V.int n), some (V.int (Builtin.bitXor (psum (t :: r)) (2 ^ t))), some (V.ref l), some (V.int (2 ^ t))] = _
          rw [off_mark hA2]
        · rw [ets]
          simp
        · rw [upd_same, nv_app]
          have e : ((t + 1 : Nat) : Int) - 1 = ((t : Nat) : Int) := by omega
          rw [← e]
    · cases post with
      | nil =>
        walk_at "r"
        rw [List.append_nil] at ets
        refine ⟨l, _, rfl, .inl ⟨.inl (.inl el), fun r nr => ?_⟩⟩
        refine q r _ (sm.trans (sm_upd nr)) ?_
        rw [upd_same, ets]
      | cons t r => exact absurd psum_pos hc
/-- the turns of a form -/
def sp_trn (K : PySem.W.Frag) : Sp := fun vs H Q _ => ∃ (v : V) (d : PyData), vs = [v] ∧ Dp K H v d ∧ Fm d ∧
  ∀ (a : Addr) (us : List V) (ds : List PyData) H', FmAll ds → Asc (vals ds) → tv (vals ds) = val d → SqT K H' a us → DpAll K H' us ds → PyData.depthAll ds + 1 ≤ max d.depth 1 → wtAll ds ≤ wt d + 65 →
    ((∃ i, d = .int i) → ∀ t ∈ vals ds, t ≤ 64) → Same H H' → Q (.ref a) H'
theorem ok_turns (T : Top K mg) {k : Nat} : FnOk P w K mg base CX0 (k + 2) T.f_turns T.fd_turns ["x"]  (sp_trn K) := by
  have G_turns_of_int : FnOk P w K mg base CX0 (k + 1) T.f_turns_of_int T.fd_turns_of_int ["number"]  (sp_toi K) := ok_turns_of_int T
  refine T.F_turns.ok sc_turns (fun vs H Q E h => ?_) (fun cdv A outer s H vs Q E hr h => ?_)
  · obtain ⟨v, d, rfl, _⟩ := h
    rfl
  · obtain ⟨v, d, rfl, hD, hF, q⟩ := h
    refine ⟨_, (pss_cons (ps_if (pt_val (pe_callB call_isi (by rfl) T.m_isinstance (by decide +kernel) (pa_cons (pv 0) (pa_cons (pe_bltn (v := .ty "tuple") (by rfl) T.m_tuple (by decide +kernel) rfl) pa_nil))) (fun _ => rfl))
      (pss_one (ps_ret (pv 0)))
      pss_nil)
    (pss_one (ps_ret (pe_call G_turns_of_int (hr.mono (by omega)) (by rfl) T.g_turns_of_int T.F_turns_of_int.kp T.b_turns_of_int .nil pass0 (pa_cons (pv 0) pa_nil))))), ?_⟩
    rcases fm_cases hF with ⟨i, rfl⟩ | ⟨ds, rfl⟩
    · cases hD
      refine ⟨_, rfl, _, _, _, _, false, rfl, .ty "tuple", tyI _, k_it, false, rfl, iteF ?_⟩
      rw [fm_int] at hF
      refine ⟨_, rfl, i, 64, rfl, by decide, hF.1, hF.2, fun ts l H' hA hn hb hl sm hl' => ?_⟩
      refine q l _ (iD ts) H' (fmAll_iD fun t ht => by have := hb t ht; omega) (by rw [vals_iD]; exact hA) (by rw [vals_iD, hn, val_int]) (.inl (.inl hl')) (dp_nv ts) (by rw [depthAll_iD]; omega) (by rw [wtAll_iD, wt_int]; omega) (fun _ => by rw [vals_iD]; exact hb) sm
    · have hF' := (fm_tuple _).mp hF
      cases hD with
      | @tup a xs _ h1 h2 =>
        refine ⟨_, rfl, _, _, _, _, true, rfl, .ty "tuple", tyT h1, k_tt, true, rfl, iteT ?_⟩
        walk_at "r"
        exact q a xs ds H hF'.1 hF'.2.1 (val_tuple ds).symm h1 h2 (by rw [depth_tuple]; omega) (by rw [wt_tuple]; omega) (fun ⟨i, e⟩ => nomatch e) (Same.refl _)
def sp_neg (K : PySem.W.Frag) : Sp := fun vs H Q _ => ∃ (v : V) (d : PyData), vs = [v] ∧ Dp K H v d ∧ Fm d ∧ Q (.bl (decide (val d < 0))) H
theorem ok_negative (T : Top K mg) {k : Nat} : FnOk P w K mg base CX0 (k + 1) T.f_negative T.fd_negative ["x"]  (sp_neg K) := by
  refine T.F_negative.ok sc_negative (fun vs H Q E h => ?_) (fun cdv A outer s H vs Q E hr h => ?_)
  · obtain ⟨v, d, rfl, _⟩ := h
    rfl
  · obtain ⟨v, d, rfl, hD, hF, q⟩ := h
    refine ⟨_, (pss_cons (ps_if (pt_val (pe_callB call_isi (by rfl) T.m_isinstance (by decide +kernel) (pa_cons (pv 0) (pa_cons (pe_bltn (v := .ty "int") (by rfl) T.m_int (by decide +kernel) rfl) pa_nil))) (fun _ => rfl))
      (pss_one (ps_ret (pe_cmpR op_lt (pv 0) pe_int (nomark _))))
      pss_nil)
    (pss_one (ps_ret (pe_cmpR op_eq (pe_op op_and (pe_callB call_len_seq (by rfl) T.m_len PySem.boot_len (pa_cons (pv 0) pa_nil)) pe_int) pe_int (nomark _))))), ?_⟩
    rcases fm_cases hF with ⟨i, rfl⟩ | ⟨ds, rfl⟩
    · cases hD
      refine ⟨_, rfl, _, _, _, _, true, rfl, .ty "int", tyI _, k_ii, true, rfl, iteT ?_⟩
      rw [val_int] at q
      walk_at "r"
      exact q
    · cases hD with
      | @tup a xs _ h1 h2 =>
        refine ⟨_, rfl, _, _, _, _, false, rfl, .ty "int", tyT h1, k_ti, false, rfl, iteF ?_⟩
        refine ⟨_, rfl, a, _, rfl, .inr h1, ?_⟩
        walk_at "r"
        have e : decide (val (.tuple ds) < 0) = decide (V.int (Builtin.bitAnd ((xs.length : Nat) : Int) 1) = V.int 1) := by
          rw [bitAnd_m1, dpAll_len h2]
          have := val_neg hF
          by_cases z : ds.length % 2 = 1
          · rw [decide_eq_true (this.mpr z), decide_eq_true (congrArg V.int (by omega))]
          · rw [decide_eq_false (fun y => z (this.mp y)), decide_eq_false (fun y => z (by have := V.int.inj y; omega))]
        rw [e] at q
        exact q
/-- a walk over a row of small turns: the number so far -/
theorem made_step {ts : List Nat} {i t : Nat} (h : ts[i]? = some t) : tv (ts.take (i + 1)) = if i % 2 = 1 then tv (ts.take i) + 2 ^ t else tv (ts.take i) - 2 ^ t := by
  have hi := (List.getElem?_eq_some_iff.mp h).1
  rw [List.take_add_one, h]
  show tv (ts.take i ++ [t]) = _
  rw [tv_snoc, List.length_take, Nat.min_eq_left (Nat.le_of_lt hi)]
  by_cases e : i % 2 = 1
  · rw [if_pos e, if_neg (by omega)]
  · rw [if_neg e, if_pos (by omega)]
    omega
/-- the form with the turns of a row -/
def sp_made (K : PySem.W.Frag) : Sp := fun vs H Q _ => ∃ (a : Addr) (us : List V) (ds : List PyData), vs = [.ref a] ∧ (SqL K H a us ∨ SqT K H a us) ∧ DpAll K H us ds ∧ FmAll ds ∧ Asc (vals ds) ∧
  ∀ (v : V) (d : PyData) H', Fm d → val d = tv (vals ds) → d.depth ≤ PyData.depthAll ds + 1 → wt d ≤ wtAll ds + 1 → Dp K H' v d → Same H H' → Q v H'
/-- the form of an int -/
def sp_ofint (K : PySem.W.Frag) : Sp := fun vs H Q _ => ∃ (n : Int) (k : Nat), vs = [.int n] ∧ k ≤ 900000 ∧ -(2 ^ k) ≤ n ∧ n < 2 ^ k ∧
  ∀ (v : V) (d : PyData) H', Fm d → val d = n → d.depth ≤ 1 → wt d ≤ k + 3 → Dp K H' v d → Same H H' → Q v H'
end
end K00
set_option Elab.async false
set_option linter.all false
set_option maxRecDepth 100000
set_option pp.deepTerms false
set_option pp.maxSteps 1500
namespace K00
open PySem PySem.Spec PyProof.Rows L2 HX TV FM DX FB FC PM
local macro_rules | `(tactic| walk_at "r") => `(tactic| (repeat (first | refine Exists.intro _ (And.intro rfl ?_) | refine And.intro rfl ?_ | refine Exists.intro _ (Exists.intro _ (And.intro rfl (And.intro rfl ?_))) | refine And.intro (by omega) ?_ | refine And.intro (Or.inl (And.intro (by omega) (by omega))) ?_ | refine And.intro (Or.inr (And.intro (by omega) (by omega))) ?_ | refine And.intro (And.intro (by omega) (by omega)) ?_ | refine And.intro (And.intro (by decide) (And.intro (by decide) (by decide))) ?_ | refine Or.inl (Exists.intro _ (And.intro rfl ?_)) | (dsimp only [gName]; first | with_reducible refine seqC ?_ | with_reducible refine asgC ?_))))
local macro_rules | `(tactic| walk_at "s") => `(tactic| (repeat (first | refine Exists.intro _ (And.intro rfl ?_) | refine And.intro rfl ?_ | refine Exists.intro _ (Exists.intro _ (And.intro rfl (And.intro rfl ?_))) | refine And.intro (by omega) ?_ | refine And.intro (Or.inl (And.intro (by omega) (by omega))) ?_ | refine And.intro (Or.inr (And.intro (by omega) (by omega))) ?_ | refine And.intro (And.intro (by omega) (by omega)) ?_ | refine And.intro (And.intro (by decide) (And.intro (by decide) (by decide))) ?_ | refine Or.inl (Exists.intro _ (And.intro rfl ?_)) | refine Exists.intro _ (Exists.intro _ (And.intro rfl ?_)) | (dsimp only [gName]; first | with_reducible refine seqC ?_ | with_reducible refine asgC ?_))))
section
variable {P : Program} {w : World} {K : PySem.W.Frag} {mg : Str → Option Value} {base : Heap}
/-- the sign of the difference of two forms of depth at most n -/
def sp_ord (K : PySem.W.Frag) (n : Nat) : Sp := fun vs H Q _ => ∃ (x y : V) (d e : PyData), vs = [x, y] ∧ Dp K H x d ∧ Dp K H y e ∧ Fm d ∧ Fm e ∧ d.depth ≤ n ∧ e.depth ≤ n ∧ n ≤ 60 ∧ ∀ H', Same H H' → Q (.int (sg (val d) (val e))) H'
theorem ok_order (T : Top K mg) : ∀ n, FnOk P w K mg base CX0 (n + 3) T.f_order T.fd_order ["x", "y"]  (sp_ord K n) := by
  have two : ∀ {n : Nat} {σ : L2.St} {H : Hp} {i j : Int} {Q : VK}, Q (.int (sg i j)) H → Q (.int (b2i (decide (j < i)) - b2i (decide (i < j)))) H := fun {n σ H i j Q} q => by
    have e : b2i (decide (j < i)) - b2i (decide (i < j)) = sg i j := by
      unfold sg
      by_cases h1 : i < j
      · rw [if_pos h1, decide_eq_true h1, decide_eq_false (by omega)]
        rfl
      · by_cases h2 : j < i
        · rw [if_neg h1, if_pos h2, decide_eq_true h2, decide_eq_false h1]
          rfl
        · rw [if_neg h1, if_neg h2, decide_eq_false h2, decide_eq_false h1]
          rfl
    rw [e]
    exact q
  intro n
  induction n with
  | zero =>
    have G_turns : FnOk P w K mg base CX0 (2) T.f_turns T.fd_turns ["x"]  (sp_trn K) := ok_turns T
    have G_negative : FnOk P w K mg base CX0 (1) T.f_negative T.fd_negative ["x"]  (sp_neg K) := ok_negative T
    refine T.F_order.ok sc_order (fun vs H Q E h => ?_) (fun cdv A outer s H vs Q E hr h => ?_)
    · obtain ⟨x, y, d, e, rfl, _⟩ := h
      rfl
    · obtain ⟨x, y, d, e, rfl, hx, hy, hd, he, hdd, hde, _, q⟩ := h
      refine ⟨_, (pss_cons (ps_if (PW.pt (pw_and (pt_val (pe_callB call_isi (by rfl) T.m_isinstance (by decide +kernel) (pa_cons (pv 0) (pa_cons (pe_bltn (v := .ty "int") (by rfl) T.m_int (by decide +kernel) rfl) pa_nil))) (fun _ => rfl)) (pw_and1 (pt_val (pe_callB call_isi (by rfl) T.m_isinstance (by decide +kernel) (pa_cons (pv 1) (pa_cons (pe_bltn (v := .ty "int") (by rfl) T.m_int (by decide +kernel) rfl) pa_nil))) (fun _ => rfl)))))
      (pss_one (ps_ret (pe_op op_sub (pe_callTy call_int1 (by rfl) T.m_int (by decide +kernel) (pa_cons (pe_cmpR op_gt (pv 0) (pv 1) (nomark _)) pa_nil)) (pe_callTy call_int1 (by rfl) T.m_int (by decide +kernel) (pa_cons (pe_cmpR op_lt (pv 0) (pv 1) (nomark _)) pa_nil)))))
      pss_nil)
    (pss_cons (ps_if (pt_cmpR (op_eqD hr.units) (pv 0) (pv 1) (nomark _))
      (pss_one (ps_ret pe_int))
      pss_nil)
    (pss_cons (ps_set (i := 2) sc_order.nd rfl (Or.inl rfl) (pe_call G_turns (hr.mono (by omega)) (by rfl) T.g_turns T.F_turns.kp T.b_turns .nil pass0 (pa_cons (pv 0) pa_nil)))
    (pss_cons (ps_set (i := 3) sc_order.nd rfl (Or.inl rfl) (pe_call G_turns (hr.mono (by omega)) (by rfl) T.g_turns T.F_turns.kp T.b_turns .nil pass0 (pa_cons (pv 1) pa_nil)))
    (pss_cons (ps_if (pt_cmpR op_ne (pe_call G_negative (hr.mono (by omega)) (by rfl) T.g_negative T.F_negative.kp T.b_negative .nil pass0 (pa_cons (pv 0) pa_nil)) (pe_call G_negative (hr.mono (by omega)) (by rfl) T.g_negative T.F_negative.kp T.b_negative .nil pass0 (pa_cons (pv 1) pa_nil)) (nomark _))
      (pss_one (ps_ret (pe_ifExp (pt_val (pe_call G_negative (hr.mono (by omega)) (by rfl) T.g_negative T.F_negative.kp T.b_negative .nil pass0 (pa_cons (pv 0) pa_nil)) (fun _ => rfl)) (pe_un un_neg pe_int) pe_int)))
      pss_nil)
    (pss_cons (ps_set (i := 4) sc_order.nd rfl (Or.inl rfl) pe_int)
    (pss_cons (ps_set (i := 5) sc_order.nd rfl (Or.inl rfl) (pe_callB (call_min2 rfl) (by rfl) T.m_min (by decide +kernel) (pa_cons (pe_callB call_len_seq (by rfl) T.m_len PySem.boot_len (pa_cons (pv 2) pa_nil)) (pa_cons (pe_callB call_len_seq (by rfl) T.m_len PySem.boot_len (pa_cons (pv 3) pa_nil)) pa_nil))))
    (pss_cons (ps_while PassesOwn.never (PW.pt (pw_and (pt_cmpR op_lt (pv 4) (pv 5) (nomark _)) (pw_and1 (pt_cmpR (op_eqD hr.units) (pe_ix ix_tup (pv 2) (pe_op op_sub (pe_op op_sub (pe_callB call_len_seq (by rfl) T.m_len PySem.boot_len (pa_cons (pv 2) pa_nil)) pe_int) (pv 4)) (fun _ _ => rfl)) (pe_ix ix_tup (pv 3) (pe_op op_sub (pe_op op_sub (pe_callB call_len_seq (by rfl) T.m_len PySem.boot_len (pa_cons (pv 3) pa_nil)) pe_int) (pv 4)) (fun _ _ => rfl)) (nomark _)))))
      (pss_one (ps_aug (i := 4) sc_order.nd rfl (Or.inl rfl) pe_int ip_add)))
    (pss_cons (ps_if (pt_cmpR op_eq (pv 4) (pe_callB call_len_seq (by rfl) T.m_len PySem.boot_len (pa_cons (pv 2) pa_nil)) (nomark _))
      (pss_one (ps_set (i := 6) sc_order.nd rfl (Or.inl rfl) (pe_un un_neg pe_int)))
      (pss_one (ps_if (pt_cmpR op_eq (pv 4) (pe_callB call_len_seq (by rfl) T.m_len PySem.boot_len (pa_cons (pv 3) pa_nil)) (nomark _))
        (pss_one (ps_set (i := 6) sc_order.nd rfl (Or.inl rfl) pe_int))
        (pss_one ps_never))))
    (pss_cons (ps_if (pt_cmpR op_eq (pe_op op_and (pe_op op_add (pe_callB call_len_seq (by rfl) T.m_len PySem.boot_len (pa_cons (pv 2) pa_nil)) (pv 4)) pe_int) pe_int (nomark _))
      (pss_one (ps_ret (pe_un un_neg (pv 6))))
      pss_nil)
    (pss_one (ps_ret (pv 6))))))))))))), ?_⟩
      rcases fm_cases hd with ⟨i, rfl⟩ | ⟨ds, rfl⟩
      · rcases fm_cases he with ⟨j, rfl⟩ | ⟨ds, rfl⟩
        · cases hx
          cases hy
          refine ⟨_, rfl, _, _, _, _, true, rfl, .ty "int", tyI _, k_ii, true, rfl, iteT ?_⟩
          refine ⟨_, rfl, _, _, _, _, true, rfl, .ty "int", tyI _, k_ii, true, rfl, iteT ?_⟩
          walk_at "r"
          refine .inr ⟨_, rfl, ?_⟩
          walk_at "r"
          refine .inr ⟨_, rfl, ?_⟩
          walk_at "r"
          rw [val_int, val_int] at q
          exact two (n := 0) (σ := []) (q H (Same.refl _))
        · rw [depth_tuple] at hde
          omega
      · rw [depth_tuple] at hdd
        omega
  | succ n ih =>
    have G_turns : FnOk P w K mg base CX0 (2) T.f_turns T.fd_turns ["x"]  (sp_trn K) := ok_turns T
    have G_negative : FnOk P w K mg base CX0 (1) T.f_negative T.fd_negative ["x"]  (sp_neg K) := ok_negative T
    have G_order : FnOk P w K mg base CX0 (n + 3) T.f_order T.fd_order ["x", "y"]  (sp_ord K n) := ih
    refine T.F_order.ok sc_order (fun vs H Q E h => ?_) (fun cdv A outer s H vs Q E hr h => ?_)
    · obtain ⟨x, y, d, e, rfl, _⟩ := h
      rfl
    · obtain ⟨x, y, d, e, rfl, hx, hy, hd, he, hdd, hde, hn, q⟩ := h
      refine ⟨_, (pss_cons (ps_if (PW.pt (pw_and (pt_val (pe_callB call_isi (by rfl) T.m_isinstance (by decide +kernel) (pa_cons (pv 0) (pa_cons (pe_bltn (v := .ty "int") (by rfl) T.m_int (by decide +kernel) rfl) pa_nil))) (fun _ => rfl)) (pw_and1 (pt_val (pe_callB call_isi (by rfl) T.m_isinstance (by decide +kernel) (pa_cons (pv 1) (pa_cons (pe_bltn (v := .ty "int") (by rfl) T.m_int (by decide +kernel) rfl) pa_nil))) (fun _ => rfl)))))
      (pss_one (ps_ret (pe_op op_sub (pe_callTy call_int1 (by rfl) T.m_int (by decide +kernel) (pa_cons (pe_cmpR op_gt (pv 0) (pv 1) (nomark _)) pa_nil)) (pe_callTy call_int1 (by rfl) T.m_int (by decide +kernel) (pa_cons (pe_cmpR op_lt (pv 0) (pv 1) (nomark _)) pa_nil)))))
      pss_nil)
    (pss_cons (ps_if (pt_cmpR (op_eqD hr.units) (pv 0) (pv 1) (nomark _))
      (pss_one (ps_ret pe_int))
      pss_nil)
    (pss_cons (ps_set (i := 2) sc_order.nd rfl (Or.inl rfl) (pe_call G_turns (hr.mono (by omega)) (by rfl) T.g_turns T.F_turns.kp T.b_turns .nil pass0 (pa_cons (pv 0) pa_nil)))
    (pss_cons (ps_set (i := 3) sc_order.nd rfl (Or.inl rfl) (pe_call G_turns (hr.mono (by omega)) (by rfl) T.g_turns T.F_turns.kp T.b_turns .nil pass0 (pa_cons (pv 1) pa_nil)))
    (pss_cons (ps_if (pt_cmpR op_ne (pe_call G_negative (hr.mono (by omega)) (by rfl) T.g_negative T.F_negative.kp T.b_negative .nil pass0 (pa_cons (pv 0) pa_nil)) (pe_call G_negative (hr.mono (by omega)) (by rfl) T.g_negative T.F_negative.kp T.b_negative .nil pass0 (pa_cons (pv 1) pa_nil)) (nomark _))
      (pss_one (ps_ret (pe_ifExp (pt_val (pe_call G_negative (hr.mono (by omega)) (by rfl) T.g_negative T.F_negative.kp T.b_negative .nil pass0 (pa_cons (pv 0) pa_nil)) (fun _ => rfl)) (pe_un un_neg pe_int) pe_int)))
      pss_nil)
    (pss_cons (ps_set (i := 4) sc_order.nd rfl (Or.inl rfl) pe_int)
    (pss_cons (ps_set (i := 5) sc_order.nd rfl (Or.inl rfl) (pe_callB (call_min2 rfl) (by rfl) T.m_min (by decide +kernel) (pa_cons (pe_callB call_len_seq (by rfl) T.m_len PySem.boot_len (pa_cons (pv 2) pa_nil)) (pa_cons (pe_callB call_len_seq (by rfl) T.m_len PySem.boot_len (pa_cons (pv 3) pa_nil)) pa_nil))))
    (pss_cons (ps_while PassesOwn.never (PW.pt (pw_and (pt_cmpR op_lt (pv 4) (pv 5) (nomark _)) (pw_and1 (pt_cmpR (op_eqD hr.units) (pe_ix ix_tup (pv 2) (pe_op op_sub (pe_op op_sub (pe_callB call_len_seq (by rfl) T.m_len PySem.boot_len (pa_cons (pv 2) pa_nil)) pe_int) (pv 4)) (fun _ _ => rfl)) (pe_ix ix_tup (pv 3) (pe_op op_sub (pe_op op_sub (pe_callB call_len_seq (by rfl) T.m_len PySem.boot_len (pa_cons (pv 3) pa_nil)) pe_int) (pv 4)) (fun _ _ => rfl)) (nomark _)))))
      (pss_one (ps_aug (i := 4) sc_order.nd rfl (Or.inl rfl) pe_int ip_add)))
    (pss_cons (ps_if (pt_cmpR op_eq (pv 4) (pe_callB call_len_seq (by rfl) T.m_len PySem.boot_len (pa_cons (pv 2) pa_nil)) (nomark _))
      (pss_one (ps_set (i := 6) sc_order.nd rfl (Or.inl rfl) (pe_un un_neg pe_int)))
      (pss_one (ps_if (pt_cmpR op_eq (pv 4) (pe_callB call_len_seq (by rfl) T.m_len PySem.boot_len (pa_cons (pv 3) pa_nil)) (nomark _))
        (pss_one (ps_set (i := 6) sc_order.nd rfl (Or.inl rfl) pe_int))
        (pss_one (ps_set (i := 6) sc_order.nd rfl (Or.inl rfl) (pe_call G_order (hr.mono (by omega)) (by rfl) T.g_order T.F_order.kp T.b_order .nil pass0 (pa_cons (pe_ix ix_tup (pv 2) (pe_op op_sub (pe_op op_sub (pe_callB call_len_seq (by rfl) T.m_len PySem.boot_len (pa_cons (pv 2) pa_nil)) pe_int) (pv 4)) (fun _ _ => rfl)) (pa_cons (pe_ix ix_tup (pv 3) (pe_op op_sub (pe_op op_sub (pe_callB call_len_seq (by rfl) T.m_len PySem.boot_len (pa_cons (pv 3) pa_nil)) pe_int) (pv 4)) (fun _ _ => rfl)) pa_nil))))))))
    (pss_cons (ps_if (pt_cmpR op_eq (pe_op op_and (pe_op op_add (pe_callB call_len_seq (by rfl) T.m_len PySem.boot_len (pa_cons (pv 2) pa_nil)) (pv 4)) pe_int) pe_int (nomark _))
      (pss_one (ps_ret (pe_un un_neg (pv 6))))
      pss_nil)
    (pss_one (ps_ret (pv 6))))))))))))), ?_⟩
      refine ⟨_, rfl, _, _, _, _, isI d, rfl, .ty "int", ty_f hx hd, kit_fi hd, _, rfl, ifB ?_ (fun h1 rest => ?_)⟩
      case refine_2 =>
        refine ⟨_, rfl, _, _, _, _, isI e, rfl, .ty "int", ty_f hy he, kit_fi he, _, rfl, ifBD (fun h2 => ?_) (fun h2 => rest)⟩
        obtain ⟨i, rfl⟩ := fm_isI hd h1
        obtain ⟨j, rfl⟩ := fm_isI he h2
        cases hx
        cases hy
        walk_at "r"
        refine .inr ⟨_, rfl, ?_⟩
        walk_at "r"
        refine .inr ⟨_, rfl, ?_⟩
        walk_at "r"
        rw [val_int, val_int] at q
        exact two (n := 0) (σ := []) (q H (Same.refl _))
      refine ⟨_, rfl, _, rfl, _, _, hx, hy, shaped_fm hd (by omega), shaped_fm he (by omega), _, rfl, ?_⟩
      rw [eqv_val hd he]
      refine ifD (fun hv => ?_) (fun hv => ?_)
      · walk_at "r"
        have := q H (Same.refl _)
        rw [sg_eq hv] at this
        exact this
      refine ⟨_, rfl, x, d, rfl, hx, hd, fun aO uO A H1 fA hA vA sO dO depA wA iA sm1 => ?_⟩
      dsimp only [gName]
      refine ⟨_, rfl, y, e, rfl, dp_tk (tk_same sm1) he hy, he, fun aT uT B H2 fB hB vB sT dT depB wB iB sm2 => ?_⟩
      have sm := sm1.trans sm2
      replace hx := dp_tk (tk_same sm) hd hx
      replace hy := dp_tk (tk_same sm) he hy
      replace sO := HX.Same.tup sm2 sO
      replace dO := dpAll_tk (tk_same sm2) fA dO
      have lO := dpAll_len dO
      have lT := dpAll_len dT
      dsimp only [gName]
      refine ⟨_, rfl, x, d, rfl, hx, hd, _, rfl, y, e, rfl, hy, he, rfl, _, rfl, ?_⟩
      refine ifN (fun hne => ?_) (fun hne => ?_)
      · refine ⟨_, rfl, x, d, rfl, hx, hd, _, rfl, ?_⟩
        refine ifD (fun hz => ?_) (fun hz => ?_)
        · walk_at "r"
          have : ¬ val e < 0 := fun z => hne (by rw [decide_eq_true hz, decide_eq_true z])
          have := q H2 sm
          rw [sg_lt (by omega)] at this
          exact this
        · walk_at "r"
          have : val e < 0 := Classical.byContradiction fun z => hne (by rw [decide_eq_false hz, decide_eq_false z])
          have := q H2 sm
          rw [sg_gt (by omega)] at this
          exact this
      have hpar : A.length % 2 = B.length % 2 := by
        have h1 := neg_len hA
        have h2 := neg_len hB
        rw [vA, vals_len] at h1
        rw [vB, vals_len] at h2
        have h3 : val d < 0 ↔ val e < 0 := by
          have := V.bl.inj hne
          simpa using this
        have : A.length % 2 = 1 ↔ B.length % 2 = 1 := h1.symm.trans (h3.trans h2)
        omega
      walk_at "r"
      refine ⟨aO, uO, rfl, .inr sO, _, rfl, aT, uT, rfl, .inr sT, _, _, rfl, ?_⟩
      dsimp only [gName]
      obtain ⟨mm, hmm, emm⟩ : ∃ mm : Nat, mm = min A.length B.length ∧ (if ((uT.length : Nat) : Int) < ((uO.length : Nat) : Int) then ((uT.length : Nat) : Int) else ((uO.length : Nat) : Int)) = (mm : Nat) := by
        refine ⟨min A.length B.length, rfl, ?_⟩
        rw [lO, lT]
        split <;> omega
      rw [emm]
      have atA : ∀ {c : Nat}, c < A.length → ∃ v a, uO[A.length - 1 - c]? = some v ∧ A[A.length - 1 - c]? = some a ∧ Dp K H2 v a ∧ Fm a ∧ 0 ≤ val a ∧ a.depth ≤ n := fun {c} hc => by
        have h1 : A[A.length - 1 - c]? = some (A[A.length - 1 - c]'(by omega)) := by simp [show A.length - 1 - c < A.length by omega]
        obtain ⟨v, h2, h3⟩ := dpAll_at dO h1
        have hm := List.mem_of_getElem? h1
        have := dep_mem hm
        exact ⟨v, _, h2, h1, h3, (fmAll_mem fA _ hm).1, (fmAll_mem fA _ hm).2, by omega⟩
      have atB : ∀ {c : Nat}, c < B.length → ∃ v a, uT[B.length - 1 - c]? = some v ∧ B[B.length - 1 - c]? = some a ∧ Dp K H2 v a ∧ Fm a ∧ 0 ≤ val a ∧ a.depth ≤ n := fun {c} hc => by
        have h1 : B[B.length - 1 - c]? = some (B[B.length - 1 - c]'(by omega)) := by simp [show B.length - 1 - c < B.length by omega]
        obtain ⟨v, h2, h3⟩ := dpAll_at dT h1
        have hm := List.mem_of_getElem? h1
        have := dep_mem hm
        exact ⟨v, _, h2, h1, h3, (fmAll_mem fB _ hm).1, (fmAll_mem fB _ hm).2, by omega⟩
      have ixA : ∀ {c : Nat}, c < A.length → ((uO.length : Nat) : Int) - 1 - (c : Nat) = ((A.length - 1 - c : Nat) : Int) := fun {c} hc => by rw [lO]; omega
      have ixB : ∀ {c : Nat}, c < B.length → ((uT.length : Nat) : Int) - 1 - (c : Nat) = ((B.length - 1 - c : Nat) : Int) := fun {c} hc => by rw [lT]; omega
      refine cut (fun σ H' => H' = H2 ∧ ∃ c : Nat, σ = [some x, some y, some (.ref aO), some (.ref aT), some (.int (c : Nat)), some (.int (mm : Nat)), none] ∧ c ≤ mm ∧ A.drop (A.length - c) = B.drop (B.length - c) ∧
        (c = mm ∨ ∃ a b, A[A.length - 1 - c]? = some a ∧ B[B.length - 1 - c]? = some b ∧ val a ≠ val b)) (fun D J => ?_) ?_
      · refine ⟨fun m σ H' => H' = H2 ∧ ∃ c : Nat, σ = [some x, some y, some (.ref aO), some (.ref aT), some (.int (c : Nat)), some (.int (mm : Nat)), none] ∧ c + m = mm ∧ A.drop (A.length - c) = B.drop (B.length - c),
          ⟨mm, rfl, 0, rfl, by omega, by simp⟩, ?_⟩
        rintro m σ H' ⟨rfl, c, rfl, hcm, hs⟩
        walk_at "r"
        refine ifBD (fun hc => ?_) (fun hc => ?_)
        · have hc : (c : Int) < (mm : Nat) := of_decide_eq_true hc
          obtain ⟨v, a, h1, h2, h3, h4, h5, h6⟩ := atA (c := c) (by omega)
          obtain ⟨v', b, g1, g2, g3, g4, g5, g6⟩ := atB (c := c) (by omega)
          refine ⟨_, rfl, _, rfl, aO, uO, rfl, .inr sO, _, _, rfl, rfl, _, rfl, _, _, rfl, rfl, aO, uO, _, v, rfl, rfl, sO, atI_at h1 (ixA (by omega)), ?_⟩
          refine ⟨_, rfl, _, rfl, aT, uT, rfl, .inr sT, _, _, rfl, rfl, _, rfl, _, _, rfl, rfl, aT, uT, _, v', rfl, rfl, sT, atI_at g1 (ixB (by omega)), ?_⟩
          refine ⟨_, _, h3, g3, shaped_fm h4 (by omega), shaped_fm g4 (by omega), _, rfl, ?_⟩
          rw [eqv_val h4 g4]
          refine ifD (fun hab => wb fun D' B' => ?_) (fun hab => ?_)
          · walk_at "r"
            refine B'.nx _ _ ⟨m - 1, by omega, rfl, c + 1, rfl, by omega, ?_⟩
            rw [drop_more (by omega) h2, drop_more (by omega) g2, hs, fm_inj h4 g4 hab]
          · exact J.nx _ _ ⟨rfl, c, rfl, by omega, hs, .inr ⟨a, b, h2, g2, hab⟩⟩
        · have hc : ¬ (c : Int) < (mm : Nat) := of_decide_eq_false hc
          refine iteF ?_
          exact J.nx _ _ ⟨rfl, c, rfl, by omega, hs, .inl (by omega)⟩
      · rintro σ H' ⟨eH, c, rfl, hcm, hs, hstop⟩
        subst eH
        have hvs : vals A = vals B → val d = val e := fun z => by rw [← vA, ← vB, z]
        refine cut (fun σ H3 => Same H' H3 ∧ ∃ sd : Int, σ = [some x, some y, some (.ref aO), some (.ref aT), some (.int (c : Nat)), some (.int (mm : Nat)), some (.int sd)] ∧ sg (val d) (val e) = if (A.length + c) % 2 = 1 then -sd else sd) (fun D J => ?_) ?_
        · refine ⟨_, rfl, _, rfl, aO, uO, rfl, .inr sO, rfl, _, rfl, ?_⟩
          refine ifE (fun hc => ?_) (fun hc => ?_)
          · walk_at "r"
            refine J.nx _ _ ⟨Same.refl _, -1, rfl, ?_⟩
            have hcA : c = A.length := by rw [lO] at hc; omega
            subst hcA
            rw [Nat.sub_self, List.drop_zero] at hs
            have hlt : A.length < B.length := by
              apply Nat.lt_of_le_of_ne (by omega)
              intro z
              rw [z, Nat.sub_self, List.drop_zero] at hs
              exact hv (hvs (by rw [hs]))
            rw [if_neg (by omega), sg_lt]
            rw [← vA, ← vB]
            refine ord_short hA hB (by rw [vals_len, vals_len]; exact hlt) ?_ (by rw [vals_len, vals_len]; exact hpar)
            rw [vals_len, vals_len, vals_drop, ← hs]
          · refine ⟨_, rfl, _, rfl, aT, uT, rfl, .inr sT, rfl, _, rfl, ?_⟩
            have hcA : c < A.length := by rw [lO] at hc; omega
            refine ifE (fun hc2 => ?_) (fun hc2 => ?_)
            · walk_at "r"
              refine J.nx _ _ ⟨Same.refl _, 1, rfl, ?_⟩
              have hcB : c = B.length := by rw [lT] at hc2; omega
              subst hcB
              rw [Nat.sub_self, List.drop_zero] at hs
              rw [if_neg (by omega), sg_gt]
              rw [← vA, ← vB]
              refine ord_short hB hA (by rw [vals_len, vals_len]; exact hcA) ?_ (by rw [vals_len, vals_len]; exact hpar.symm)
              rw [vals_len, vals_len, vals_drop, hs]
            · have hcB : c < B.length := by rw [lT] at hc2; omega
              obtain ⟨v, a, h1, h2, h3, h4, h5, h6⟩ := atA (c := c) (by omega)
              obtain ⟨v', b, g1, g2, g3, g4, g5, g6⟩ := atB (c := c) (by omega)
              refine ⟨_, rfl, _, rfl, aO, uO, rfl, .inr sO, _, _, rfl, rfl, _, rfl, _, _, rfl, rfl, aO, uO, _, v, rfl, rfl, sO, atI_at h1 (ixA (by omega)), ?_⟩
              refine ⟨_, rfl, _, rfl, aT, uT, rfl, .inr sT, _, _, rfl, rfl, _, rfl, _, _, rfl, rfl, aT, uT, _, v', rfl, rfl, sT, atI_at g1 (ixB (by omega)), ?_⟩
              refine ⟨v, v', a, b, rfl, h3, g3, h4, g4, h6, g6, by omega, fun H3 sm3 => ?_⟩
              dsimp only [gName]
              refine J.nx _ _ ⟨sm3, sg (val a) (val b), rfl, ?_⟩
              have hab : val a ≠ val b := by
                rcases hstop with z | ⟨a', b', z1, z2, z3⟩
                · omega
                · rw [h2] at z1
                  rw [g2] at z2
                  cases z1
                  cases z2
                  exact z3
              have lvA := vals_len A
              have lvB := vals_len B
              have hs' : (vals A).drop ((vals A).length - c) = (vals B).drop ((vals B).length - c) := by rw [lvA, lvB, vals_drop, vals_drop, hs]
              have xa : (vals A)[(vals A).length - 1 - c]? = some (vl a) := by rw [lvA]; exact vals_at h2
              have xb : (vals B)[(vals B).length - 1 - c]? = some (vl b) := by rw [lvB]; exact vals_at g2
              have hla : ((vl a : Nat) : Int) = val a := by unfold vl; omega
              have hlb : ((vl b : Nat) : Int) = val b := by unfold vl; omega
              rcases Int.lt_or_lt_of_ne hab with hlt | hlt
              · have od := ord_diff hA hB (by omega) (by omega) hs' (by omega) xa xb (by omega)
                rw [lvA, vA, vB] at od
                rw [sg_lt hlt]
                by_cases z : (A.length + c) % 2 = 1
                · rw [if_pos z, sg_gt (od.2 z)]
                  rfl
                · rw [if_neg z, sg_lt (od.1 (by omega))]
              · have od := ord_diff hB hA (by omega) (by omega) hs'.symm (by omega) xb xa (by omega)
                rw [lvB, vA, vB] at od
                rw [sg_gt hlt]
                by_cases z : (A.length + c) % 2 = 1
                · rw [if_pos z, sg_lt (od.2 (by omega))]
                · rw [if_neg z, sg_gt (od.1 (by omega))]
        · rintro σ H3 ⟨sm3, sd, rfl, hsd⟩
          refine ⟨_, rfl, aO, uO, rfl, .inr (HX.Same.tup sm3 sO), ?_⟩
          walk_at "r"
          refine ifE (fun hz => ?_) (fun hz => ?_)
          · rw [bitAnd_m1, lO] at hz
            rw [if_pos (by omega)] at hsd
            walk_at "r"
            show Q (.int (-sd)) H3
            rw [← hsd]
            exact q H3 (sm.trans sm3)
          · rw [bitAnd_m1, lO] at hz
            rw [if_neg (by omega)] at hsd
            walk_at "r"
            show Q (.int sd) H3
            rw [← hsd]
            exact q H3 (sm.trans sm3)
end
end K00
set_option Elab.async false
set_option linter.all false
set_option maxRecDepth 100000
set_option pp.deepTerms false
set_option pp.maxSteps 1500
set_option maxHeartbeats 1000000
/-! forms.py: room_left, is_plain, is_valid, is_form of data of any kind -/
namespace K00
open PySem PySem.Spec PyProof.Rows L2 HX TV FM DX FB FC PM
local macro_rules | `(tactic| walk_at "r") => `(tactic| (repeat (first | refine Exists.intro _ (And.intro rfl ?_) | refine And.intro rfl ?_ | refine Exists.intro _ (Exists.intro _ (And.intro rfl (And.intro rfl ?_))) | refine And.intro (by omega) ?_ | refine And.intro (Or.inl (And.intro (by omega) (by omega))) ?_ | refine And.intro (Or.inr (And.intro (by omega) (by omega))) ?_ | refine And.intro (And.intro (by omega) (by omega)) ?_ | refine And.intro (And.intro (by decide) (And.intro (by decide) (by decide))) ?_ | refine Or.inl (Exists.intro _ (And.intro rfl ?_)) | (dsimp only [gName]; first | with_reducible refine seqC ?_ | with_reducible refine asgC ?_))))
local macro_rules | `(tactic| walk_at "s") => `(tactic| (repeat (first | refine Exists.intro _ (And.intro rfl ?_) | refine And.intro rfl ?_ | refine Exists.intro _ (Exists.intro _ (And.intro rfl (And.intro rfl ?_))) | refine And.intro (by omega) ?_ | refine And.intro (Or.inl (And.intro (by omega) (by omega))) ?_ | refine And.intro (Or.inr (And.intro (by omega) (by omega))) ?_ | refine And.intro (And.intro (by omega) (by omega)) ?_ | refine And.intro (And.intro (by decide) (And.intro (by decide) (by decide))) ?_ | refine Or.inl (Exists.intro _ (And.intro rfl ?_)) | refine Exists.intro _ (Exists.intro _ (And.intro rfl ?_)) | (dsimp only [gName]; first | with_reducible refine seqC ?_ | with_reducible refine asgC ?_))))
section
variable {P : Program} {w : World} {K : PySem.W.Frag} {mg : Str → Option Value} {base : Heap}
def sp_room (K : PySem.W.Frag) (n : Nat) : Sp := fun vs H Q _ => ∃ (v : V) (d : PyData) (room : Int) (lv : Nat), vs = [v, .int room, .int (lv : Nat)] ∧ Dz K H v d ∧ lv ≤ n ∧ ∀ H', Same H H' → Q (.int (rl d room lv)) H'
/-- a member is not negative, and greater than the one ahead of it -/
def okV (ds : List PyData) (j : Nat) (d : PyData) : Prop := 0 ≤ val d ∧ ∀ k e, j = k + 1 → ds[k]? = some e → val e < val d
theorem fm_of_okV : ∀ {ds : List PyData}, (∀ j d, ds[j]? = some d → Fm d ∧ okV ds j d) → FmAll ds ∧ Asc (vals ds) := fun {ds} h => by
  constructor
  · have : ∀ (es : List PyData), (∀ d ∈ es, Fm d ∧ 0 ≤ val d) → FmAll es := fun es => by
      induction es with
      | nil => intro _; exact fmAll_nil
      | cons d r ih =>
        intro hh
        rw [fmAll_cons]
        exact ⟨(hh d (by simp)).1, (hh d (by simp)).2, ih fun x hx => hh x (by simp [hx])⟩
    refine this ds fun d hd => ?_
    obtain ⟨j, hj⟩ := List.mem_iff_getElem?.mp hd
    exact ⟨(h j d hj).1, (h j d hj).2.1⟩
  · have : ∀ (es : List PyData), (∀ d ∈ es, 0 ≤ val d) → (∀ k d e, es[k]? = some d → es[k + 1]? = some e → val d < val e) → Asc (vals es) := fun es => by
      induction es with
      | nil => intro _ _; rw [vals_nil]; trivial
      | cons d r ih =>
        intro h0 hs
        have h1 := ih (fun x hx => h0 x (by simp [hx])) fun k a b ha hb => hs (k + 1) a b (by simpa using ha) (by simpa using hb)
        cases r with
        | nil =>
          rw [vals_cons, vals_nil]
          trivial
        | cons e r' =>
          rw [vals_cons, vals_cons] at *
          have := hs 0 d e rfl rfl
          have := h0 d (by simp)
          exact ⟨by omega, h1⟩
    refine this ds (fun d hd => ?_) fun k d e hd he => (h (k + 1) e he).2.2 k d rfl hd
    obtain ⟨j, hj⟩ := List.mem_iff_getElem?.mp hd
    exact (h j d hj).2.1
theorem okV_of {ds : List PyData} (hF : FmAll ds) (hA : Asc (vals ds)) : ∀ j d, ds[j]? = some d → okV ds j d := fun j d hj => by
  refine ⟨(fmAll_mem hF d (List.mem_of_getElem? hj)).2, fun k e ek he => ?_⟩
  subst ek
  have h1 := (fmAll_mem hF e (List.mem_of_getElem? he)).2
  have h2 := (fmAll_mem hF d (List.mem_of_getElem? hj)).2
  have hp := asc_pairwise.mp hA
  have gv : ∀ (es : List PyData) (i : Nat) (x : PyData), es[i]? = some x → (vals es)[i]? = some (val x).toNat := fun es => by
    induction es with
    | nil => intro i x hx; simp at hx
    | cons a r ih =>
      intro i x hx
      rw [vals_cons]
      cases i with
      | zero => simp at hx; subst hx; rfl
      | succ i => simpa using ih i x (by simpa using hx)
  have a1 := gv ds k e he
  have a2 := gv ds (k + 1) d hj
  obtain ⟨l1, e1⟩ := List.getElem?_eq_some_iff.mp a1
  obtain ⟨l2, e2⟩ := List.getElem?_eq_some_iff.mp a2
  have := List.pairwise_iff_getElem.mp hp k (k + 1) l1 l2 (by omega)
  rw [e1, e2] at this
  omega
theorem tdAll_mem : ∀ {ds : List PyData} {d : PyData}, d ∈ ds → td d ≤ tdAll ds
  | e :: r, d, h => by
    have h1 : tdAll (e :: r) = max (td e) (tdAll r) := by simp [tdAll]
    rcases List.mem_cons.mp h with rfl | h
    · omega
    · have := tdAll_mem h
      omega
mutual
theorem depth_td : ∀ {d : PyData}, Fm d → d.depth = td d
  | .int i, _ => by simp [td, PyData.depth]
  | .tuple ds, f => by
    have h1 : td (.tuple ds) = tdAll ds + 1 := by simp [td]
    rw [depth_tuple, h1, depthAll_td ((fm_tuple _).mp f).1]
  | .none, f => by simp [Fm] at f
  | .bool b, f => by simp [Fm] at f
  | .str x, f => by simp [Fm] at f
  | .list ds, f => by simp [Fm] at f
  | .dict ds, f => by simp [Fm] at f
theorem depthAll_td : ∀ {ds : List PyData}, FmAll ds → PyData.depthAll ds = tdAll ds
  | [], _ => by simp [tdAll, PyData.depthAll]
  | d :: r, f => by
    have h1 : tdAll (d :: r) = max (td d) (tdAll r) := by simp [tdAll]
    rw [depthAll_cons, h1, depth_td ((fmAll_cons _ _).mp f).1, depthAll_td ((fmAll_cons _ _).mp f).2.2]
end
theorem room_step (T : Top K mg) (n : Nat) (G_room_left : FnOk P w K mg base CX0 (n + 1) T.f_room_left T.fd_room_left ["value", "room", "levels"]  (fun vs H Q E => ∃ m, n = m + 1 ∧ sp_room K m vs H Q E)) : FnOk P w K mg base CX0 (n + 2) T.f_room_left T.fd_room_left ["value", "room", "levels"]  (sp_room K n) := by
  refine T.F_room_left.ok sc_room_left (fun vs H Q E h => ?_) (fun cdv A outer s H vs Q E hr h => ?_)
  · obtain ⟨v, d, room, lv, rfl, _⟩ := h
    rfl
  · obtain ⟨v, d, room, lv, rfl, hz, hlv, q⟩ := h
    refine ⟨_, (pss_cons (ps_if (pt_not (pt_val (pe_callB call_isi (by rfl) T.m_isinstance (by decide +kernel) (pa_cons (pv 0) (pa_cons (pe_bltn (v := .ty "tuple") (by rfl) T.m_tuple (by decide +kernel) rfl) pa_nil))) (fun _ => rfl)))
      (pss_one (ps_ret (pe_op op_sub (pv 1) pe_int)))
      pss_nil)
    (pss_cons (ps_if (pt_cmpR op_eq (pv 2) pe_int (nomark _))
      (pss_one (ps_ret (pe_un un_neg pe_int)))
      pss_nil)
    (pss_cons (ps_set (i := 3) sc_room_left.nd rfl (Or.inl rfl) (pe_op op_sub (pv 1) pe_int))
    (pss_cons (ps_for PassesOwn.never rfl (pi_tup (pv 0)) (pg_name (i := 4) sc_room_left.nd rfl (Or.inl rfl))
      (pss_cons (ps_if (pt_cmpR op_lt (pv 3) pe_int (nomark _))
        (pss_one (ps_ret (pv 3)))
        pss_nil)
      (pss_one (ps_set (i := 3) sc_room_left.nd rfl (Or.inl rfl) (pe_call G_room_left (hr.mono (by omega)) (by rfl) T.g_room_left T.F_room_left.kp T.b_room_left .nil pass0 (pa_cons (pv 4) (pa_cons (pv 3) (pa_cons (pe_op op_sub (pv 2) pe_int) pa_nil))))))))
    (pss_one (ps_ret (pv 3))))))), ?_⟩
    refine ⟨_, rfl, ?_⟩
    dsimp only [tCons, tC, tNil]
    refine hz.isT ⟨_, rfl, ?_⟩
    rcases hz.tup_or with ⟨a, xs, ds, rfl, rfl, hs, hall⟩ | ⟨ht, hrl, _⟩
    · refine iteF ?_
      dsimp only [tNext]
      refine ⟨_, rfl, rfl, _, rfl, ifE (fun e => ?_) (fun e => ?_)⟩
      · obtain rfl : lv = 0 := by omega
        refine ⟨_, rfl, ?_⟩
        have := q H (Same.refl _)
        simp only [rl] at this
        exact this
      · obtain ⟨m, rfl⟩ : ∃ m, lv = m + 1 := ⟨lv - 1, by omega⟩
        have erl : rl (.tuple ds) room (m + 1) = rlAll ds (room - 1) m := by simp [rl]
        rw [erl] at q
        dsimp only [tNext]
        refine cut (fun σ H' => σ = [some (.ref a), some (.int room), some (.int ((m + 1 : Nat) : Int)), some (.int (room - 1)), none] ∧ H = H') (fun J0 J => ⟨_, rfl, _, _, rfl, rfl, J.nx _ _ ⟨rfl, rfl⟩⟩) ?_
        rintro σ H' ⟨rfl, rfl⟩
        have hxl := hall.len
        refine cut (fun σ H' => ∃ (left : Int) (a4 : Option V), σ = [some (.ref a), some (.int room), some (.int ((m + 1 : Nat) : Int)), some (.int left), a4] ∧ Same H H' ∧ left = rlAll ds (room - 1) m) (fun J0 J => ?_) ?_
        · refine ⟨_, rfl, a, rfl, ⟨_, hs⟩, flT (xs := xs) (fun i σ H' => ∃ (left : Int) (a4 : Option V), σ = [some (.ref a), some (.int room), some (.int ((m + 1 : Nat) : Int)), some (.int left), a4] ∧ Same H H' ∧ rlAll ds (room - 1) m = rlAll (ds.drop i) left m) ⟨room - 1, none, rfl, Same.refl _, rfl⟩ ?_ ?_ ?_⟩
          · rintro i σ H' _ ⟨_, _, _, sm, _⟩
            exact sqT_keep sm hs
          · rintro i x σ G hx ⟨left, a4, rfl, sm, hl⟩ D' B
            obtain ⟨d, hd, hzd⟩ := hall.get hx
            have hdrop : ds.drop i = d :: ds.drop (i + 1) := by
              have hi : i < ds.length := (List.getElem?_eq_some_iff.mp hd).1
              rw [List.drop_eq_getElem_cons hi]
              rw [List.getElem?_eq_getElem hi] at hd
              rw [Option.some.inj hd]
            rw [hdrop] at hl
            have e1 : rlAll (d :: ds.drop (i + 1)) left m = if left < 0 then left else rlAll (ds.drop (i + 1)) (rl d left m) m := by simp [rlAll]
            rw [e1] at hl
            dsimp only [gName]
            refine ⟨_, rfl, _, _, rfl, rfl, _, rfl, ?_⟩
            refine ifD (fun e2 => ?_) (fun e2 => ?_)
            · rw [if_pos e2] at hl
              refine ⟨_, rfl, B.rt _ _ (J.rt _ _ ?_)⟩
              rw [← hl]
              exact q G sm
            · rw [if_neg e2] at hl
              dsimp only [tNext]
              refine ⟨_, rfl, _, rfl, _, rfl, _, _, rfl, rfl, ?_⟩
              obtain ⟨n', rfl⟩ : ∃ k, n = k + 1 := ⟨n - 1, by omega⟩
              refine ⟨n', rfl, x, d, left, m, ?_, hzd.same sm, by omega, fun H2 s2 => ?_⟩
              · show [x, V.int left, V.int (((m + 1 : Nat) : Int) - 1)] = _
                rw [show ((m + 1 : Nat) : Int) - 1 = (m : Nat) by omega]
              · exact B.nx _ _ ⟨_, _, rfl, sm.trans s2, hl⟩
          · rintro σ G ⟨left, a4, rfl, sm, hl⟩
            rw [hxl, List.drop_length] at hl
            have e1 : rlAll [] left m = left := by simp [rlAll]
            rw [e1] at hl
            exact J.nx _ _ ⟨_, _, rfl, sm, hl.symm⟩
        rintro σ G ⟨left, a4, rfl, sm, rfl⟩
        exact ⟨_, rfl, q G sm⟩
    · rw [ht]
      refine iteT ⟨_, rfl, _, _, rfl, rfl, ?_⟩
      rw [hrl] at q
      exact q H (Same.refl _)
theorem ok_room_left (T : Top K mg) : ∀ n, FnOk P w K mg base CX0 (n + 2) T.f_room_left T.fd_room_left ["value", "room", "levels"]  (sp_room K n) := by
  intro n
  induction n with
  | zero => exact room_step T 0 ⟨fun vs H Q E ⟨m, h, _⟩ => by omega, fun A outer s H args us vs Q E hr he hb hv ⟨m, h, _⟩ => by omega⟩
  | succ n ih => exact room_step T (n + 1) (ih.imp fun vs H Q E ⟨m, h, g⟩ => by
    obtain rfl : m = n := by omega
    exact g)
def sp_isplain (K : PySem.W.Frag) : Sp := fun vs H Q _ => ∃ (v : V) (d : PyData), vs = [v] ∧ Dz K H v d ∧ isTd d = false ∧ ∀ b : Bool, (b = true ↔ Fm d) → Q (.bl b) H
theorem ok_is_plain (T : Top K mg) : FnOk P w K mg base CX0 (1) T.f_is_plain T.fd_is_plain ["value"]  (sp_isplain K) := by
  refine T.F_is_plain.ok sc_is_plain (fun vs H Q E h => ?_) (fun cdv A outer s H vs Q E hr h => ?_)
  · obtain ⟨v, d, rfl, _⟩ := h
    rfl
  · obtain ⟨v, d, rfl, hz, ht, q⟩ := h
    refine ⟨_, (pss_cons (ps_if (PW.pt (pw_or (pt_val (pe_callB call_isi (by rfl) T.m_isinstance (by decide +kernel) (pa_cons (pv 0) (pa_cons (pe_bltn (v := .ty "bool") (by rfl) T.m_bool (by decide +kernel) rfl) pa_nil))) (fun _ => rfl)) (pw_or1 (pt_not (pt_val (pe_callB call_isi (by rfl) T.m_isinstance (by decide +kernel) (pa_cons (pv 0) (pa_cons (pe_bltn (v := .ty "int") (by rfl) T.m_int (by decide +kernel) rfl) pa_nil))) (fun _ => rfl))))))
      (pss_one (ps_ret pe_bl))
      pss_nil)
    (pss_one (ps_ret (pe_chain op_le op_le (pe_glob (v := .int (-18446744073709551616)) (by rfl) T.c_PLAIN_LEAST ⟨_, rfl⟩) (pv 0) (pe_glob (v := .int (18446744073709551615)) (by rfl) T.c_PLAIN_MOST ⟨_, rfl⟩))))), ?_⟩
    have no : ¬ Fm d → Q (.bl false) H := fun h => q false ⟨(fun z => nomatch z), fun z => absurd z h⟩
    refine ⟨_, rfl, ?_⟩
    dsimp only [tCons, tC, tNil]
    refine hz.isB ⟨_, rfl, ?_⟩
    cases hz with
    | bl b => exact iteT (iteT (no (by simp [Fm])))
    | int i =>
      refine iteF ?_
      refine ⟨_, rfl, ?_⟩
      dsimp only [tCons, tC, tNil]
      refine isi_int (b := true) rfl ⟨_, rfl, iteF ?_⟩
      refine ⟨_, rfl, _, _, rfl, rfl, _, rfl, ?_⟩
      have e64 : (2 : Int) ^ 64 = 18446744073709551616 := by decide
      refine ifD (fun e => ?_) (fun e => ?_)
      · refine ⟨_, _, rfl, rfl, q _ ?_⟩
        rw [decide_eq_true_eq, fm_int, e64]
        omega
      · refine no fun z => ?_
        rw [fm_int, e64] at z
        omega
    | non =>
      refine iteF ?_
      refine ⟨_, rfl, ?_⟩
      dsimp only [tCons, tC, tNil]
      exact Dz.isI .non ⟨_, rfl, iteT (no (by simp [Fm]))⟩
    | str x =>
      refine iteF ?_
      refine ⟨_, rfl, ?_⟩
      dsimp only [tCons, tC, tNil]
      exact Dz.isI (.str x) ⟨_, rfl, iteT (no (by simp [Fm]))⟩
    | lst h1 h2 =>
      refine iteF ?_
      refine ⟨_, rfl, ?_⟩
      dsimp only [tCons, tC, tNil]
      exact Dz.isI (.lst h1 h2) ⟨_, rfl, iteT (no (by simp [Fm]))⟩
    | tup h1 h2 => cases ht
    | dct h1 =>
      refine iteF ?_
      refine ⟨_, rfl, ?_⟩
      dsimp only [tCons, tC, tNil]
      exact Dz.isI (.dct h1) ⟨_, rfl, iteT (no (by simp [Fm]))⟩
def sp_isvalid (K : PySem.W.Frag) (n : Nat) : Sp := fun vs H Q _ => ∃ (v : V) (d : PyData), vs = [v] ∧ Dz K H v d ∧ td d ≤ n ∧ ∀ (b : Bool) H', (b = true ↔ Fm d) → Same H H' → Q (.bl b) H'
theorem valid_step (T : Top K mg) (n : Nat) (hn : n ≤ 7) (G_is_valid : FnOk P w K mg base CX0 (n + 30) T.f_is_valid T.fd_is_valid ["value"]  (fun vs H Q E => ∃ m, n = m + 1 ∧ sp_isvalid K m vs H Q E)) : FnOk P w K mg base CX0 (n + 31) T.f_is_valid T.fd_is_valid ["value"]  (sp_isvalid K n) := by
  have G_is_plain : FnOk P w K mg base CX0 (1) T.f_is_plain T.fd_is_plain ["value"]  (sp_isplain K) := ok_is_plain T
  have G_negative : FnOk P w K mg base CX0 (1) T.f_negative T.fd_negative ["x"]  (sp_neg K) := ok_negative T
  have G_order : FnOk P w K mg base CX0 (23) T.f_order T.fd_order ["x", "y"]  (sp_ord K 20) := ok_order T 20
  refine T.F_is_valid.ok sc_is_valid (fun vs H Q E h => ?_) (fun cdv A outer s H vs Q E hr h => ?_)
  · obtain ⟨v, d, rfl, _⟩ := h
    rfl
  · obtain ⟨v, d, rfl, hz, ht, q⟩ := h
    refine ⟨_, (pss_cons (ps_if (pt_not (pt_val (pe_callB call_isi (by rfl) T.m_isinstance (by decide +kernel) (pa_cons (pv 0) (pa_cons (pe_bltn (v := .ty "tuple") (by rfl) T.m_tuple (by decide +kernel) rfl) pa_nil))) (fun _ => rfl)))
      (pss_one (ps_ret (pe_call G_is_plain (hr.mono (by omega)) (by rfl) T.g_is_plain T.F_is_plain.kp T.b_is_plain .nil pass0 (pa_cons (pv 0) pa_nil))))
      pss_nil)
    (pss_cons (ps_for PassesOwn.never rfl (pi_enumT (by rfl) T.m_enumerate (pa_cons (pv 0) pa_nil)) (pg_tup rfl (pgs_cons (pg_name (i := 1) sc_is_valid.nd rfl (Or.inl rfl)) (pgs_cons (pg_name (i := 2) sc_is_valid.nd rfl (Or.inl rfl)) pgs_nil)))
      (pss_cons (ps_if (PW.pt (pw_or (pt_not (pt_val (pe_call G_is_valid (hr.mono (by omega)) (by rfl) T.g_is_valid T.F_is_valid.kp T.b_is_valid .nil pass0 (pa_cons (pv 2) pa_nil)) (fun _ => rfl))) (pw_or1 (pt_val (pe_call G_negative (hr.mono (by omega)) (by rfl) T.g_negative T.F_negative.kp T.b_negative .nil pass0 (pa_cons (pv 2) pa_nil)) (fun _ => rfl)))))
        (pss_one (ps_ret pe_bl))
        pss_nil)
      (pss_one (ps_if (PW.pt (pw_and (pt_cmpR op_gt (pv 1) pe_int (nomark _)) (pw_and1 (pt_cmpR op_ge (pe_call G_order (hr.mono (by omega)) (by rfl) T.g_order T.F_order.kp T.b_order .nil pass0 (pa_cons (pe_ix ix_tup (pv 0) (pe_op op_sub (pv 1) pe_int) (fun _ _ => rfl)) (pa_cons (pv 2) pa_nil))) pe_int (nomark _)))))
        (pss_one (ps_ret pe_bl))
        pss_nil))))
    (pss_one (ps_ret (pe_and (pe_cmpR op_gt (pe_callB call_len_seq (by rfl) T.m_len PySem.boot_len (pa_cons (pv 0) pa_nil)) pe_int (nomark _)) (pe_one (pe_cmpR op_gt (pe_call G_order (hr.mono (by omega)) (by rfl) T.g_order T.F_order.kp T.b_order .nil pass0 (pa_cons (pe_ix ix_tup (pv 0) (pe_un un_neg pe_int) (fun _ _ => rfl)) (pa_cons (pe_glob (v := .int (64)) (by rfl) T.c_LAST_PLAIN_TURN ⟨_, rfl⟩) pa_nil))) pe_int (nomark _)))))))), ?_⟩
    refine ⟨_, rfl, ?_⟩
    dsimp only [tCons, tC, tNil]
    refine hz.isT ⟨_, rfl, ?_⟩
    rcases hz.tup_or with ⟨a, us, ds, rfl, rfl, hs, hall⟩ | ⟨htd, _, _⟩
    · refine iteF ?_
      dsimp only [tNext]
      obtain ⟨n', rfl⟩ : ∃ k, n = k + 1 := ⟨n - 1, by have : td (.tuple ds) = tdAll ds + 1 := by simp [td]
                                                      omega⟩
      have htda : ∀ d ∈ ds, td d ≤ n' := fun d hd => by
        have h1 : td (.tuple ds) = tdAll ds + 1 := by simp [td]
        have h2 := tdAll_mem hd
        omega
      have hul := hall.len
      have nope : ∀ {i : Nat} {d : PyData}, ds[i]? = some d → ¬ (Fm d ∧ okV ds i d) → ¬ Fm (.tuple ds) := fun {i d} hd hn h => by
        rw [fm_tuple] at h
        exact hn ⟨(fmAll_mem h.1 d (List.mem_of_getElem? hd)).1, okV_of h.1 h.2.1 i d hd⟩
      refine cut (fun σ H' => ∃ z1 z2 : Option V, σ = [some (.ref a), z1, z2] ∧ Same H H' ∧ ∀ j d, ds[j]? = some d → Fm d ∧ okV ds j d) (fun J0 J => ?_) ?_
      · refine ⟨_, rfl, a, us, rfl, hs, flET (xs := us) (fun i σ H' => ∃ (z1 z2 : Option V), σ = [some (.ref a), z1, z2] ∧ Same H H' ∧ ∀ j < i, ∀ d, ds[j]? = some d → Fm d ∧ okV ds j d) ⟨none, none, rfl, Same.refl _, fun j hj => absurd hj (by omega)⟩ ?_ ?_ ?_⟩
        · rintro i σ H' _ ⟨_, _, _, sm, _⟩
          exact sqT_keep sm hs
        · rintro i x σ H' hx ⟨z1, z2, rfl, sm, hok⟩ Tt nT D' B
          obtain ⟨d, hd, hzd⟩ := hall.get hx
          have s1 := sm_upd (o := .tup [.int (i : Nat), x]) nT
          have ht1 := upd_at (o := .tup [.int (i : Nat), x]) nT
          have sm1 := sm.trans s1
          revert s1 ht1 sm1
          generalize upd H' Tt (.tup [.int (i : Nat), x]) = H1
          intro s1 ht1 sm1
          refine ⟨Tt, _, rfl, .inl (.inl ht1), rfl, _, _, rfl, _, _, rfl, rfl, ?_⟩
          have bad : ¬ (Fm d ∧ okV ds i d) → ∀ H2, Same H H2 → D'.rt (.bl false) H2 := fun hnb H2 sm2 => B.rt _ _ (J.rt _ _ (q false H2 ⟨(fun z => nomatch z), fun z => absurd z (nope hd hnb)⟩ sm2))
          have good : Fm d ∧ okV ds i d → ∀ H2, Same H H2 → D'.nx [some (.ref a), some (.int (i : Nat)), some x] H2 := fun hg H2 sm2 => B.nx _ _ ⟨_, _, rfl, sm2, fun j hj d' hd' => by
            by_cases e : j = i
            · subst e
              rw [hd] at hd'
              cases hd'
              exact hg
            · exact hok j (by omega) d' hd'⟩
          refine ⟨_, rfl, n', rfl, x, d, rfl, hzd.same sm1, htda d (List.mem_of_getElem? hd), fun b H2 hb s2 => ?_⟩
          have sm2 := sm1.trans s2
          refine ⟨_, rfl, ?_⟩
          cases b with
          | false =>
            exact iteT (bad (fun z => nomatch hb.mpr z.1) H2 sm2)
          | true =>
            refine iteF ?_
            have hf := hb.mp rfl
            have hDd := (hzd.same sm2).dp hf
            refine ⟨_, rfl, x, d, rfl, hDd, hf, ?_⟩
            refine ⟨_, rfl, ?_⟩
            refine ifD (fun h0 => ?_) (fun h0 => ?_)
            · exact bad (fun z => absurd z.2.1 (by omega)) H2 sm2
            dsimp only [tNext]
            refine ⟨_, rfl, _, _, rfl, rfl, _, rfl, ?_⟩
            refine ifD (fun hi => ?_) (fun hi => ?_)
            · obtain ⟨k, rfl⟩ : ∃ k, i = k + 1 := ⟨i - 1, by omega⟩
              obtain ⟨v0, hv0⟩ : ∃ v0, us[k]? = some v0 := ⟨us[k]'(by have := (List.getElem?_eq_some_iff.mp hx).1; omega), List.getElem?_eq_getElem _⟩
              obtain ⟨d0, hd0, hz0⟩ := hall.get hv0
              have hf0 := (hok k (Nat.lt_succ_self k) d0 hd0).1
              have hD0 := (hz0.same sm2).dp hf0
              have g1 := depth_td hf0
              have g2 := depth_td hf
              have g3 := htda d0 (List.mem_of_getElem? hd0)
              have g4 := htda d (List.mem_of_getElem? hd)
              refine ⟨_, rfl, _, rfl, _, _, rfl, rfl, a, _, _, v0, rfl, rfl, sqT_keep sm2 hs, at_of (j := k) (by omega) hv0, ?_⟩
              refine ⟨_, rfl, v0, x, d0, d, rfl, hD0, hDd, hf0, hf, by omega, by omega, by decide, fun H3 s3 => ?_⟩
              have sm3 := sm2.trans s3
              refine ⟨_, _, rfl, rfl, _, rfl, ?_⟩
              refine ifD (fun hb2 => ?_) (fun hb2 => ?_)
              · refine bad (fun z => ?_) H3 sm3
                have := z.2.2 k d0 rfl hd0
                rw [sg_lt this] at hb2
                omega
              · refine good ⟨hf, by omega, fun k' e ek he => ?_⟩ H3 sm3
                have ek' : k' = k := by omega
                subst ek'
                rw [hd0] at he
                cases he
                by_cases hlt : val d0 < val d
                · exact hlt
                · by_cases heq : val d0 = val d
                  · rw [sg_eq heq] at hb2
                    exact absurd (Int.le_refl 0) hb2
                  · rw [sg_gt (by omega)] at hb2
                    exact absurd (by decide) hb2
            · refine iteF ?_
              refine good ⟨hf, by omega, fun k' e ek he => by omega⟩ H2 sm2
        · rintro σ G ⟨z1, z2, rfl, sm, hok⟩
          exact J.nx _ _ ⟨_, _, rfl, sm, fun j d hd => hok j (by have := (List.getElem?_eq_some_iff.mp hd).1; omega) d hd⟩
      rintro σ G ⟨z1, z2, rfl, sm, hok⟩
      obtain ⟨hF, hA⟩ := fm_of_okV hok
      have hall2 := DzAll.same sm hall
      have hD := hall2.dp hF
      refine ⟨_, rfl, a, _, rfl, .inr (sqT_keep sm hs), _, _, rfl, rfl, _, rfl, ?_⟩
      refine ifD (fun h0 => ?_) (fun h0 => ?_)
      · have hul0 : 0 < us.length := by omega
        have hv : us[us.length - 1]? = some us[us.length - 1] := List.getElem?_eq_getElem (by omega)
        obtain ⟨d, hd, hzd⟩ := hall2.get hv
        have hdm := List.mem_of_getElem? hd
        have hf := (fmAll_mem hF d hdm).1
        have g1 := depth_td hf
        have g2 := htda d hdm
        refine ⟨_, rfl, _, rfl, a, _, _, _, rfl, rfl, sqT_keep sm hs, atI_neg1 hv, ?_⟩
        refine ⟨_, .int 64, d, .int 64, rfl, hzd.dp hf, .int 64, hf, by rw [fm_int]; decide, by omega, by simp [PyData.depth], by decide, fun H3 s3 => ?_⟩
        refine ⟨_, _, rfl, rfl, q _ H3 ?_ (sm.trans s3)⟩
        rw [decide_eq_true_eq, fm_tuple, val_int]
        have hlast : ∀ t ∈ vals ds, t ≤ (val d).toNat := fun t ht => by
          have e : ds = ds.take (ds.length - 1) ++ [d] := by
            have hl : ds.length - 1 < ds.length := by omega
            rw [hul] at hd
            rw [List.getElem?_eq_getElem hl] at hd
            have := List.take_append_getElem hl
            rw [Option.some.inj hd] at this
            rw [this, List.take_of_length_le (by omega)]
          rw [e, vals_app, vals_cons, vals_nil] at hA
          rw [e, vals_app, vals_cons, vals_nil] at ht
          rcases List.mem_append.mp ht with h | h
          · exact Nat.le_of_lt ((asc_snoc.mp hA).2 t h)
          · rw [List.mem_singleton.mp h]
            exact Nat.le_refl _
        constructor
        · intro h
          refine ⟨hF, hA, (val d).toNat, mem_vals.mpr ⟨d, hdm, rfl⟩, ?_⟩
          by_cases h1 : val d < 64
          · rw [sg_lt h1] at h
            exact absurd h (by decide)
          · by_cases h2 : val d = 64
            · rw [sg_eq h2] at h
              exact absurd h (by decide)
            · omega
        · rintro ⟨_, _, t, ht, h64⟩
          have := hlast t ht
          rw [sg_gt (show (64 : Int) < val d by omega)]
          decide
      · refine q false G ⟨(fun z => nomatch z), fun z => ?_⟩ sm
        rw [fm_tuple] at z
        obtain ⟨t, ht, _⟩ := z.2.2
        obtain ⟨d, hd, _⟩ := mem_vals.mp ht
        have := List.length_pos_of_mem hd
        omega
    · rw [htd]
      exact iteT ⟨_, rfl, v, d, rfl, hz, htd, fun b hb => q b H hb (Same.refl _)⟩
theorem ok_is_valid (T : Top K mg) : ∀ n, n ≤ 7 → FnOk P w K mg base CX0 (n + 31) T.f_is_valid T.fd_is_valid ["value"]  (sp_isvalid K n) := by
  intro n
  induction n with
  | zero => exact fun _ => valid_step T 0 (by decide) ⟨fun vs H Q E ⟨m, h, _⟩ => by omega, fun A outer s H args us vs Q E hr he hb hv ⟨m, h, _⟩ => by omega⟩
  | succ n ih => exact fun hn => valid_step T (n + 1) hn ((ih (by omega)).imp fun vs H Q E ⟨m, h, g⟩ => by
    obtain rfl : m = n := by omega
    exact g)
/-- a thing is a form within the limits -/
def sp_isform (K : PySem.W.Frag) : Sp := fun vs H Q _ => ∃ (v : V) (d : PyData), vs = [v] ∧ Dz K H v d ∧ ∀ (b : Bool) H', (b = true ↔ td d ≤ 6 ∧ tz d ≤ 2000 ∧ Fm d) → Same H H' → Q (.bl b) H'
theorem ok_is_form (T : Top K mg) : FnOk P w K mg base CX0 (40) T.f_is_form T.fd_is_form ["value"]  (sp_isform K) := by
  have G_room_left : FnOk P w K mg base CX0 (8) T.f_room_left T.fd_room_left ["value", "room", "levels"]  (sp_room K 6) := ok_room_left T 6
  have G_is_valid : FnOk P w K mg base CX0 (37) T.f_is_valid T.fd_is_valid ["value"]  (sp_isvalid K 6) := ok_is_valid T 6 (by decide)
  refine T.F_is_form.ok sc_is_form (fun vs H Q E h => ?_) (fun cdv A outer s H vs Q E hr h => ?_)
  · obtain ⟨v, d, rfl, _⟩ := h
    rfl
  · obtain ⟨v, d, rfl, hz, q⟩ := h
    refine ⟨_, (pss_one (ps_ret (pe_and (pe_cmpR op_ge (pe_call G_room_left (hr.mono (by omega)) (by rfl) T.g_room_left T.F_room_left.kp T.b_room_left .nil pass0 (pa_cons (pv 0) (pa_cons (pe_glob (v := .int (2000)) (by rfl) T.c_MOST_SIZE ⟨_, rfl⟩) (pa_cons (pe_glob (v := .int (6)) (by rfl) T.c_MOST_HEIGHT ⟨_, rfl⟩) pa_nil)))) pe_int (nomark _)) (pe_one (pe_call G_is_valid (hr.mono (by omega)) (by rfl) T.g_is_valid T.F_is_valid.kp T.b_is_valid .nil pass0 (pa_cons (pv 0) pa_nil)))))), ?_⟩
    refine ⟨_, rfl, v, d, 2000, 6, rfl, hz, by decide, fun H1 s1 => ?_⟩
    have hr := (rl_room d 2000 6 (by decide)).1
    refine ⟨_, _, rfl, rfl, _, rfl, ?_⟩
    refine ifD (fun e => ?_) (fun e => ?_)
    · have h1 := hr.mp e
      refine ⟨_, rfl, v, d, rfl, hz.same s1, h1.1, fun b H2 hb s2 => ?_⟩
      refine q b H2 ?_ (s1.trans s2)
      rw [hb]
      exact ⟨fun z => ⟨h1.1, by omega, z⟩, fun z => z.2.2⟩
    · exact q false H1 ⟨(fun z => nomatch z), fun z => absurd (hr.mpr ⟨z.1, by omega⟩) e⟩ s1
end
end K00
set_option Elab.async false
set_option linter.all false
set_option maxRecDepth 100000
set_option pp.deepTerms false
set_option pp.maxSteps 1500
namespace K00
open PySem PySem.Spec PyProof.Rows L2 HX TV FM
local macro_rules | `(tactic| walk_at "r") => `(tactic| (repeat (first | refine Exists.intro _ (And.intro rfl ?_) | refine And.intro rfl ?_ | refine Exists.intro _ (Exists.intro _ (And.intro rfl (And.intro rfl ?_))) | refine And.intro (by omega) ?_ | refine And.intro (Or.inl (And.intro (by omega) (by omega))) ?_ | refine And.intro (Or.inr (And.intro (by omega) (by omega))) ?_ | refine And.intro (And.intro (by omega) (by omega)) ?_ | refine And.intro (And.intro (by decide) (And.intro (by decide) (by decide))) ?_ | refine Or.inl (Exists.intro _ (And.intro rfl ?_)) | (dsimp only [gName]; first | with_reducible refine seqC ?_ | with_reducible refine asgC ?_))))
local macro_rules | `(tactic| walk_at "s") => `(tactic| (repeat (first | refine Exists.intro _ (And.intro rfl ?_) | refine And.intro rfl ?_ | refine Exists.intro _ (Exists.intro _ (And.intro rfl (And.intro rfl ?_))) | refine And.intro (by omega) ?_ | refine And.intro (Or.inl (And.intro (by omega) (by omega))) ?_ | refine And.intro (Or.inr (And.intro (by omega) (by omega))) ?_ | refine And.intro (And.intro (by omega) (by omega)) ?_ | refine And.intro (And.intro (by decide) (And.intro (by decide) (by decide))) ?_ | refine Or.inl (Exists.intro _ (And.intro rfl ?_)) | refine Exists.intro _ (Exists.intro _ (And.intro rfl ?_)) | (dsimp only [gName]; first | with_reducible refine seqC ?_ | with_reducible refine asgC ?_))))
section
variable {P : Program} {w : World} {K : PySem.W.Frag} {mg : Str → Option Value} {base : Heap}
/-- the tape: its cells, how many were taken, the rest -/
abbrev tapeV (c : Addr) (i r : Int) : List (Key × V) := tri "cells" "at" "rest" (.ref c) (.int i) (.int r)
theorem dif : Dif "cells" "at" "rest" := ⟨by decide, by decide, by decide⟩
/-- a tape: its place, its cells' place, the cells -/
structure Tp where
  p : Addr
  c : Addr
  ns : List Int
/-- the tape stands, at most n cells were taken -/
def Tape (H : Hp) (τ : Tp) (n : Nat) : Prop := ∃ (i r : Int), H τ.p = some (.dK (tapeV τ.c i r)) ∧ H τ.c = some (.lst (τ.ns.map V.int)) ∧ τ.ns ≠ [] ∧ τ.ns.length ≤ 63 ∧ 0 ≤ i ∧ i ≤ n
theorem Tape.mono {H H' : Hp} {τ : Tp} {n m : Nat} (h : Tape H τ n) (e : Same H H') (l : n ≤ m) : Tape H' τ m := by
  obtain ⟨i, r, h1, h2, h3, h4, h5, h6⟩ := h
  exact ⟨i, r, e _ _ h1, e _ _ h2, h3, h4, h5, by omega⟩
theorem Tape.le {H : Hp} {τ : Tp} {n m : Nat} (h : Tape H τ n) (l : n ≤ m) : Tape H τ m := h.mono (Same.refl _) l
theorem Tape.up {H H' : Hp} {τ : Tp} {n : Nat} (h : Tape H τ n) (e : Same H H') : Tape H' τ n := h.mono e (Nat.le_refl _)
theorem Tape.dict {H : Hp} {τ : Tp} {n : Nat} (h : Tape H τ n) : ∃ kvs, H τ.p = some (.dK kvs) := by
  obtain ⟨i, r, h1, _⟩ := h
  exact ⟨_, h1⟩
theorem Tape.ne {H : Hp} {τ : Tp} {b : Addr} {n : Nat} {xs : List V} (h : Tape H τ n) (e : H b = some (.lst xs)) : b ≠ τ.p := by
  obtain ⟨i, r, h1, _⟩ := h
  exact ne_of e h1 (by intro z; cases z)
theorem Tape.neT {H : Hp} {τ : Tp} {b : Addr} {n : Nat} {xs : List V} (h : Tape H τ n) (e : H b = some (.tup xs)) : b ≠ τ.p := by
  obtain ⟨i, r, h1, _⟩ := h
  exact ne_of e h1 (by intro z; cases z)
theorem Tape.new {H : Hp} {τ : Tp} {b : Addr} {n : Nat} (h : Tape H τ n) (e : H b = none) : b ≠ τ.p ∧ b ≠ τ.c := by
  obtain ⟨i, r, h1, h2, _⟩ := h
  exact ⟨(ne_of_none h1 e).symm, (ne_of_none h2 e).symm⟩
/-- another list changes -/
theorem Tape.set {H : Hp} {τ : Tp} {b : Addr} {n : Nat} {o : HO} (h : Tape H τ n) (e : b ≠ τ.p ∧ b ≠ τ.c) : Tape (upd H b o) τ n := by
  obtain ⟨i, r, h1, h2, h3⟩ := h
  exact ⟨i, r, by rw [upd_ne e.1.symm]; exact h1, by rw [upd_ne e.2.symm]; exact h2, h3⟩
theorem Tape.mut {H : Hp} {τ : Tp} {n : Nat} (h : Tape H τ n) : Mut (H τ.p) := by
  obtain ⟨kvs, e⟩ := h.dict
  rw [e]
  trivial
theorem but_new {p o : Addr} {H H' : Hp} {x : HO} (b : But p H H') (h : H o = none) : But p H (upd H' o x) := fun a u ha e => by
  rw [upd_ne (ne_of_none e h)]
  exact b a u ha e
def sp_begin (K : PySem.W.Frag) : Sp := fun vs H Q _ => ∃ (a : Addr) (ns : List Int), vs = [.ref a] ∧ SqL K H a (ns.map V.int) ∧ ns.length ≤ 63 ∧
  ∀ τ H', Same H H' → H τ.p = none → Tape H' τ 0 → Q (.ref τ.p) H'
theorem cut63 {xs : List V} (h : xs.length ≤ 63) : cutV xs none (some 63) = xs := by
  unfold cutV
  rw [show HT.sIx xs.length xs.length (some 63) = min 63 xs.length from HT.sIx_nat xs.length xs.length 63, HT.sIx_none]
  show List.take (min 63 xs.length - 0) xs = xs
  exact List.take_of_length_le (by omega)
theorem ok__law_begin (T : Top K mg) {k : Nat} : FnOk P w K mg base CX0 (k + 1) T.f__law_begin T.fd__law_begin ["_law_script"]  (sp_begin K) := by
  refine T.F__law_begin.ok sc__law_begin (fun vs H Q E h => ?_) (fun cdv A outer s H vs Q E hr h => ?_)
  · obtain ⟨a, ns, rfl, _⟩ := h
    rfl
  · obtain ⟨a, ns, rfl, hS, hl, q⟩ := h
    refine ⟨_, (pss_one (ps_ret (pe_disp (pps_cons pe_str (pe_orT (pe_slice sl_list (pv 0) po_none (po_some pe_int)) (pe_one (pe_lst (pa_cons pe_int pa_nil)))) (pps_cons pe_str pe_int (pps_cons pe_str pe_int pps_nil))) (by rfl) (by rfl) (fun z => by cases z) (by decide)))), ?_⟩
    intro p np
    have s1 := sm_upd (o := .dK []) np
    refine ⟨_, rfl, 63, rfl, a, _, rfl, s1.seq hS, fun b nb => ?_⟩
    have s2 := sm_upd (o := .lst (cutV (ns.map V.int) none (some 63))) nb
    have hb : (upd (upd H p (.dK [])) b (.lst (cutV (ns.map V.int) none (some 63)))) b = some (.lst (ns.map V.int)) := by
      rw [upd_same, cut63 (by simpa using hl)]
    have hp := s2 _ _ (upd_at (o := .dK []) np)
    have npb : b ≠ p := ne_of hb hp (by intro z; cases z)
    refine ⟨!(ns.map V.int).isEmpty, .inl ⟨_, .inl (.inl hb), rfl⟩, ite2 (fun hc => ?_) (fun hc => ?_)⟩
    · refine ⟨hp, tri "cells" "at" "rest" (.ref b) (.int 0) (.int 0), rfl, by show 3 ≤ 15; decide, ?_⟩
      rw [tri_disp dif]
      refine q ⟨p, b, ns⟩ _ (sm_mut (s1.trans s2) np) np ⟨0, 0, upd_same, ?_, ?_, hl, Int.le_refl _, Int.le_refl _⟩
      · show upd _ p _ b = _
        rw [upd_ne npb]
        exact hb
      · rintro e0
        have e0' : ns = [] := e0
        subst e0'
        simp at hc
    · refine ⟨by show 1 ≤ sizeLine; decide, fun c nc => ?_⟩
      have s3 := sm_upd (o := .lst [.int 0]) nc
      have hp3 := s3 _ _ hp
      have hc3 := upd_at (o := .lst [.int 0]) nc
      have npc : c ≠ p := ne_of hc3 hp3 (by intro z; cases z)
      refine ⟨hp3, tri "cells" "at" "rest" (.ref c) (.int 0) (.int 0), rfl, by show 3 ≤ 15; decide, ?_⟩
      rw [tri_disp dif]
      refine q ⟨p, c, [0]⟩ _ (sm_mut (s1.trans (s2.trans s3)) np) np ⟨0, 0, upd_same, ?_, by simp, by simp, Int.le_refl _, Int.le_refl _⟩
      show upd _ p _ c = _
      rw [upd_ne npc]
      exact hc3
def sp_draw : Sp := fun vs H Q _ => ∃ (τ : Tp) (m : Nat) (n : Int), vs = [.ref τ.p, .int n] ∧ 1 ≤ n ∧ n ≤ 2 ^ 80 ∧ m < 1000000 ∧ Tape H τ m ∧
  ∀ (d : Int) H', 0 ≤ d → d < n → Tape H' τ (m + 1) → But τ.p H H' → Q (.int d) H'
theorem log_80 {n : Int} (h1 : 1 ≤ n) (h2 : n ≤ 2 ^ 80) : n.natAbs.log2 < 9000 := by
  rw [Nat.log2_lt (by omega)]
  have h3 : n.natAbs ≤ 2 ^ 80 := by omega
  exact Nat.lt_of_le_of_lt h3 (Nat.pow_lt_pow_right (by decide) (by decide))
theorem ok__law_draw (T : Top K mg) {k : Nat} : FnOk P w K mg base CX0 (k + 1) T.f__law_draw T.fd__law_draw ["_law_tape", "_law_limit"]  sp_draw := by
  refine T.F__law_draw.ok sc__law_draw (fun vs H Q E h => ?_) (fun cdv A outer s H vs Q E hr h => ?_)
  · obtain ⟨τ, m, n, rfl, _⟩ := h
    rfl
  · obtain ⟨⟨p, c, ns⟩, m, n, rfl, hn1, hn2, hm, ⟨i, r, hp, hc, hne, hlen, hi1, hi2⟩, q⟩ := h
    replace hp : H p = some (.dK (tapeV c i r)) := hp
    replace hc : H c = some (.lst (ns.map V.int)) := hc
    replace hne : ns ≠ [] := hne
    replace hlen : ns.length ≤ 63 := hlen
    have hlog := log_80 hn1 hn2
    have npc : c ≠ p := ne_of hc hp (by intro z; cases z)
    have hlen0 : 0 < ns.length := List.length_pos_iff.mpr hne
    refine ⟨_, (pss_cons (ps_if (pt_cmpR op_lt (pe_dget (hu_of hr) (pv 0) pe_str (fun _ _ => rfl)) (pv 1) (nomark _))
      (pss_cons (ps_par (i := 2) (j := 3) rfl sc__law_draw.nd rfl rfl (by decide) rfl rfl (pa_cons (pe_dget (hu_of hr) (pv 0) pe_str (fun _ _ => rfl)) (pa_cons (pe_callB call_len_seq (by rfl) T.m_len PySem.boot_len (pa_cons (pe_dget (hu_of hr) (pv 0) pe_str (fun _ _ => rfl)) pa_nil)) pa_nil)) rfl)
      (pss_cons (ps_asg (pe_tup (pa_cons (pe_ix ix_list (pe_dget (hu_of hr) (pv 0) pe_str (fun _ _ => rfl)) (pe_op op_mod (pe_callTy call_int1 (by rfl) T.m_int (by decide +kernel) (pa_cons (pv 2) pa_nil)) (pv 3)) (fun _ _ => rfl)) (pa_cons (pe_op op_add (pv 2) pe_int) pa_nil))) (pg_tup rfl (pgs_cons (pg_name (i := 4) sc__law_draw.nd rfl (Or.inl rfl)) (pgs_cons (pg_sub (pv 0) pe_str (set_dict (hu_of hr))) pgs_nil))))
      (pss_cons (ps_set (i := 5) sc__law_draw.nd rfl (Or.inl rfl) (pe_op op_add (pe_op op_add (pe_op op_mod (pe_callTy call_int1 (by rfl) T.m_int (by decide +kernel) (pa_cons (pv 4) pa_nil)) pe_int) (pe_op op_mul pe_int (pv 2))) pe_int))
      (pss_cons (ps_dput (hu_of hr) (pv 0) pe_str (pe_op op_mod (pe_callTy call_int1 (by rfl) T.m_int (by decide +kernel) (pa_cons (pe_op op_add (pe_op op_pow (pv 5) pe_int) (pe_op op_mul (pe_op op_mul pe_int (pv 2)) (pv 2))) pa_nil)) (pe_op op_add (pe_op op_pow pe_int pe_int) pe_int)) rfl)
      (pss_one (ps_if (PW.pt (pw_and (pt_cmpR op_ge (pv 4) (pe_op op_pow pe_int pe_int) (nomark _)) (pw_and1 (pt_cmpR op_lt (pv 2) (pv 3) (nomark _)))))
        (pss_one (ps_dput (hu_of hr) (pv 0) pe_str (pe_op op_sub (pv 4) (pe_op op_pow pe_int pe_int)) rfl))
        pss_nil))))))
      pss_nil)
    (pss_cons (ps_asg (pe_tup (pa_cons (pe_op op_mod (pe_callTy call_int1 (by rfl) T.m_int (by decide +kernel) (pa_cons (pe_dget (hu_of hr) (pv 0) pe_str (fun _ _ => rfl)) pa_nil)) (pv 1)) (pa_cons (pe_op op_fdivW (pe_dget (hu_of hr) (pv 0) pe_str (fun _ _ => rfl)) (pv 1)) pa_nil))) (pg_tup rfl (pgs_cons (pg_name (i := 6) sc__law_draw.nd rfl (Or.inl rfl)) (pgs_cons (pg_sub (pv 0) pe_str (set_dict (hu_of hr))) pgs_nil))))
    (pss_one (ps_ret (pv 6))))), ?_⟩
    refine ⟨_, rfl, p, _, rfl, tri_get3 dif hp, ?_⟩
    walk_at "r"
    refine if_join (fun σ' H' => ∃ (z3 z4 z5 z6 : Option V) (i' r' : Int), σ' = [some (.ref p), some (.int n), z3, z4, z5, z6, none] ∧ i ≤ i' ∧ i' ≤ i + 1 ∧ H' p = some (.dK (tapeV c i' r')) ∧ H' c = some (.lst (ns.map V.int)) ∧ But p H H') ?_ (fun D1 J hb => ?_) (fun D1 J hb => ?_)
    · rintro σ' H' ⟨z3, z4, z5, z6, i', r', rfl, hi', hi'', hp', hc', bt⟩
      dsimp only
      refine ⟨_, rfl, p, _, rfl, tri_get3 dif hp', ?_⟩
      walk_at "r"
      refine ⟨p, _, rfl, tri_get3 dif hp', ?_⟩
      walk_at "r"
      refine ⟨by show 2 ≤ sizeLine; decide, fun t nt => ?_⟩
      have sm := sm_upd (o := .tup [.int (r' % n), .int (r' / n)]) nt
      have hp2 := sm _ _ hp'
      have hc2 := sm _ _ hc'
      refine ⟨t, _, rfl, .inl (.inl upd_same), rfl, _, _, rfl, _, _, rfl, ?_⟩
      refine ⟨_, rfl, p, _, rfl, tri_put3 dif hp2, rfl, ?_⟩
      walk_at "r"
      refine q _ _ (Int.emod_nonneg _ (by omega)) (Int.emod_lt_of_pos _ (by omega)) ⟨i', _, upd_same, ?_, hne, hlen, by omega, by omega⟩ (bt.trans (But.of sm)).upd
      show upd _ p _ c = _
      rw [upd_ne npc]
      exact hc2
    · refine ⟨_, rfl, p, _, rfl, tri_get2 dif hp, ?_⟩
      refine ⟨_, rfl, p, _, rfl, tri_get1 hp, ?_⟩
      refine ⟨c, _, rfl, .inl (.inl (.inl hc)), ?_⟩
      rw [List.length_map]
      refine ⟨_, _, rfl, ?_⟩
      refine ⟨_, rfl, p, _, rfl, tri_get1 hp, ?_⟩
      walk_at "r"
      have hm1 := Int.emod_nonneg i (show (ns.length : Int) ≠ 0 by omega)
      have hm2 := Int.emod_lt_of_pos i (show 0 < (ns.length : Int) by omega)
      have hm3 : (i % (ns.length : Int)).toNat < ns.length := by omega
      refine ⟨c, _, _, .int (ns[(i % (ns.length : Int)).toNat]), rfl, rfl, .inl (.inl hc), at_of (j := (i % (ns.length : Int)).toNat) (by omega) ?_, ?_⟩
      · rw [List.getElem?_map, List.getElem?_eq_getElem hm3]
        rfl
      generalize ns[(i % (ns.length : Int)).toNat] = cell
      walk_at "r"
      refine ⟨by show 2 ≤ sizeLine; decide, fun t nt => ?_⟩
      have sm := sm_upd (o := .tup [.int cell, .int (i + 1)]) nt
      have hp2 := sm _ _ hp
      have hc2 := sm _ _ hc
      refine ⟨t, _, rfl, .inl (.inl upd_same), rfl, _, _, rfl, _, _, rfl, ?_⟩
      refine ⟨_, rfl, p, _, rfl, tri_put2 dif hp2, rfl, ?_⟩
      have hp3 := upd_same (H := upd H t (.tup [.int cell, .int (i + 1)])) (a := p) (o := .dK (tapeV c (i + 1) r))
      have hc3 : (upd (upd H t (.tup [.int cell, .int (i + 1)])) p (.dK (tapeV c (i + 1) r))) c = some (.lst (ns.map V.int)) := by
        rw [upd_ne npc]
        exact hc2
      have bt3 : But p H (upd (upd H t (.tup [.int cell, .int (i + 1)])) p (.dK (tapeV c (i + 1) r))) := (But.of sm).upd
      revert hp3 hc3 bt3
      generalize upd (upd H t (.tup [.int cell, .int (i + 1)])) p (.dK (tapeV c (i + 1) r)) = H3
      intro hp3 hc3 bt3
      walk_at "r"
      refine ⟨show (0 : Int) < 10 ^ Int.toNat 48 + 193 by decide, ?_⟩
      walk_at "r"
      refine ⟨p, _, rfl, tri_put3 dif hp3, ?_⟩
      have hp4 := upd_same (H := H3) (a := p) (o := .dK (tapeV c (i + 1) (((cell % 2305843009213693921 + 50119 * i + 23911) ^ Int.toNat 13 + 91 * i * i) % (10 ^ Int.toNat 48 + 193))))
      have hc4 : (upd H3 p (.dK (tapeV c (i + 1) (((cell % 2305843009213693921 + 50119 * i + 23911) ^ Int.toNat 13 + 91 * i * i) % (10 ^ Int.toNat 48 + 193))))) c = some (.lst (ns.map V.int)) := by
        rw [upd_ne npc]
        exact hc3
      have bt4 : But p H (upd H3 p (.dK (tapeV c (i + 1) (((cell % 2305843009213693921 + 50119 * i + 23911) ^ Int.toNat 13 + 91 * i * i) % (10 ^ Int.toNat 48 + 193))))) := bt3.upd
      walk_at "r"
      refine ifAnd ?_ (fun hb1 hY => ?_)
      · exact J.nx _ _ ⟨_, _, _, _, i + 1, (((cell % 2305843009213693921 + 50119 * i + 23911) ^ Int.toNat 13 + 91 * i * i) % (10 ^ Int.toNat 48 + 193)), rfl, by omega, Int.le_refl _, hp4, hc4, bt4⟩
      · walk_at "r"
        refine ifD (fun hb2 => ?_) (fun hb2 => hY)
        walk_at "r"
        refine ⟨p, _, rfl, tri_put3 dif hp4, ?_⟩
        refine J.nx _ _ ⟨_, _, _, _, i + 1, _, rfl, by omega, Int.le_refl _, upd_same, ?_, bt4.upd⟩
        rw [upd_ne npc]
        exact hc4
    · exact J.nx _ _ ⟨_, _, _, _, i, r, rfl, Int.le_refl _, by omega, hp, hc, But.refl _⟩
def sp_pick : Sp := fun vs H Q _ => ∃ (τ : Tp) (b : Addr) (m : Nat) (xs : List V), vs = [.ref τ.p, .ref b] ∧ m < 1000000 ∧ Tape H τ m ∧ H b = some (.lst xs) ∧ 1 ≤ xs.length ∧ xs.length ≤ 100000 ∧
  ∀ (v : V) H', v ∈ xs → Tape H' τ (m + 1) → But τ.p H H' → Q v H'
theorem ok__law_pick (T : Top K mg) {k : Nat} : FnOk P w K mg base CX0 (k + 2) T.f__law_pick T.fd__law_pick ["_law_tape", "_law_some"]  sp_pick := by
  have G__law_draw : FnOk P w K mg base CX0 (k + 1) T.f__law_draw T.fd__law_draw ["_law_tape", "_law_limit"]  sp_draw := ok__law_draw T
  refine T.F__law_pick.ok sc__law_pick (fun vs H Q E h => ?_) (fun cdv A outer s H vs Q E hr h => ?_)
  · obtain ⟨τ, b, m, xs, rfl, _⟩ := h
    rfl
  · obtain ⟨τ, b, m, xs, rfl, hm, hT, hb, hx1, hx2, q⟩ := h
    refine ⟨_, (pss_one (ps_ret (pe_ix ix_list (pv 1) (pe_call G__law_draw (hr.mono (by omega)) (by rfl) T.g__law_draw T.F__law_draw.kp T.b__law_draw .nil pass0 (pa_cons (pv 0) (pa_cons (pe_callB call_len_seq (by rfl) T.m_len PySem.boot_len (pa_cons (pv 1) pa_nil)) pa_nil))) (fun _ _ => rfl)))), ?_⟩
    walk_at "r"
    refine ⟨b, _, rfl, .inl (.inl (.inl hb)), ?_⟩
    refine ⟨τ, m, xs.length, rfl, by omega, by omega, hm, hT, fun d H' hd1 hd2 hT' bt => ?_⟩
    have hb' := bt b _ (hT.ne hb) hb
    have hd3 : d.toNat < xs.length := by omega
    refine ⟨b, _, _, xs[d.toNat], rfl, rfl, .inl (.inl hb'), at_of (j := d.toNat) (by omega) (List.getElem?_eq_getElem hd3), ?_⟩
    exact q _ _ (List.getElem_mem hd3) hT' bt
end
end K00
set_option Elab.async false
set_option linter.all false
set_option maxRecDepth 100000
set_option pp.deepTerms false
set_option pp.maxSteps 1500
namespace K00
open PySem PySem.Spec PyProof.Rows L2 HX TV FM DX
local macro_rules | `(tactic| walk_at "r") => `(tactic| (repeat (first | refine Exists.intro _ (And.intro rfl ?_) | refine And.intro rfl ?_ | refine Exists.intro _ (Exists.intro _ (And.intro rfl (And.intro rfl ?_))) | refine And.intro (by omega) ?_ | refine And.intro (Or.inl (And.intro (by omega) (by omega))) ?_ | refine And.intro (Or.inr (And.intro (by omega) (by omega))) ?_ | refine And.intro (And.intro (by omega) (by omega)) ?_ | refine And.intro (And.intro (by decide) (And.intro (by decide) (by decide))) ?_ | refine Or.inl (Exists.intro _ (And.intro rfl ?_)) | (dsimp only [gName]; first | with_reducible refine seqC ?_ | with_reducible refine asgC ?_))))
local macro_rules | `(tactic| walk_at "s") => `(tactic| (repeat (first | refine Exists.intro _ (And.intro rfl ?_) | refine And.intro rfl ?_ | refine Exists.intro _ (Exists.intro _ (And.intro rfl (And.intro rfl ?_))) | refine And.intro (by omega) ?_ | refine And.intro (Or.inl (And.intro (by omega) (by omega))) ?_ | refine And.intro (Or.inr (And.intro (by omega) (by omega))) ?_ | refine And.intro (And.intro (by omega) (by omega)) ?_ | refine And.intro (And.intro (by decide) (And.intro (by decide) (by decide))) ?_ | refine Or.inl (Exists.intro _ (And.intro rfl ?_)) | refine Exists.intro _ (Exists.intro _ (And.intro rfl ?_)) | (dsimp only [gName]; first | with_reducible refine seqC ?_ | with_reducible refine asgC ?_))))
section
variable {P : Program} {w : World} {K : PySem.W.Frag} {mg : Str → Option Value} {base : Heap}
theorem bits_pow (t : Nat) : Builtin.Int.intBits ((2 : Int) ^ t) = t + 1 := by
  have e : ((2 : Int) ^ t).natAbs = 2 ^ t := by rw [Int.natAbs_pow]; rfl
  have hp : 2 ^ t ≠ 0 := Nat.pos_iff_ne_zero.mp (Nat.pow_pos (by decide))
  have e0 : (2 : Int) ^ t ≠ 0 := fun z => by
    rw [z] at e
    exact hp e.symm
  unfold Builtin.Int.intBits
  split
  · rename_i h
    exact absurd (by simpa using h) e0
  · rw [e, Nat.log2_two_pow]
/-- the turns of n, an integer of k bits and a sign -/
def sp_turns (K : PySem.W.Frag) : Sp := fun vs H Q _ => ∃ (n : Int) (k : Nat), vs = [.int n] ∧ k ≤ 900000 ∧ -(2 ^ k) ≤ n ∧ n < 2 ^ k ∧
  ∀ (ts : List Nat) l H', Asc ts → tv ts = n → (∀ t ∈ ts, t ≤ k) → ts.length ≤ k + 1 → Same H H' → H l = none → H' l = some (.lst (nv ts)) → Q (.ref l) H'
theorem turns_in {n : Int} {k : Nat} (h1 : -(2 ^ k) ≤ n) (h2 : n < 2 ^ k) : ∃ ts, Asc ts ∧ tv ts = n ∧ (∀ t ∈ ts, t ≤ k) ∧ ts.length ≤ k + 1 := by
  obtain ⟨ts, hA, e⟩ := turns_ex n
  subst e
  have hb := (tv_range hA).mpr ⟨h1, h2⟩
  exact ⟨ts, hA, rfl, hb, asc_len (a := 0) hA fun t ht => ⟨Nat.zero_le _, hb t ht⟩⟩
theorem ok__law_turns (T : Top K mg) {k : Nat} : FnOk P w K mg base CX0 (k + 1) T.f__law_turns T.fd__law_turns ["_law_number"]  (sp_turns K) := by
  refine T.F__law_turns.ok sc__law_turns (fun vs H Q E h => ?_) (fun cdv A outer s H vs Q E hr h => ?_)
  · obtain ⟨n, _, rfl, _⟩ := h
    rfl
  · obtain ⟨n, kb, rfl, hk, hn1, hn2, q⟩ := h
    obtain ⟨ts, hA, hn, hb, hlen⟩ := turns_in hn1 hn2
    replace q := fun l H' => q ts l H' hA hn hb hlen
    refine ⟨_, (pss_cons (ps_par (i := 1) (j := 2) rfl sc__law_turns.nd rfl rfl (by decide) rfl rfl (pa_cons (pe_op op_xor (pv 0) (pe_op op_mul (pv 0) pe_int)) (pa_cons (pe_lst pa_nil) pa_nil)) rfl)
    (pss_cons (ps_while PassesOwn.never (pt_cmpR op_ne (pv 1) pe_int (nomark _))
      (pss_cons (ps_set (i := 3) sc__law_turns.nd rfl (Or.inl rfl) (pe_op op_and (pv 1) (pe_un un_neg (pv 1))))
      (pss_cons (ps_expr (pe_bm PySem.F.plainAttrs_list PySem.F.slot_list_append PySem.F.type_list_append mt_append (pv 2) (pa_cons (pe_op op_sub (pe_bits (pv 3)) pe_int) pa_nil)))
      (pss_one (ps_set (i := 1) sc__law_turns.nd rfl (Or.inl rfl) (pe_op op_sub (pv 1) (pv 3)))))))
    (pss_one (ps_ret (pv 2))))), ?_⟩
    walk_at "r"
    refine ⟨Nat.zero_le _, fun l nl => ?_⟩
    refine ⟨_, _, rfl, ?_⟩
    refine ⟨fun m σ H' => ∃ (pre post : List Nat) (z : Option V), σ = [some (.int n), some (.int (psum post)), some (.ref l), z] ∧ ts = pre ++ post ∧ post.length ≤ m ∧ Same H H' ∧ H' l = some (.lst (nv pre)),
      ⟨ts.length, [], ts, none, ?_, rfl, Nat.le_refl _, sm_upd nl, upd_same⟩, ?_⟩
    · show [some (V.int n), some (V.int (Builtin.bitXor n (n * 2))), some (V.ref l), none] = _
      rw [← hn, marks hA]
    rintro m σ H' ⟨pre, post, z, rfl, ets, hm, sm, el⟩
    walk_at "r"
    refine ifNE (fun hc => wb fun D' B => ?_) (fun hc => ?_)
    · cases post with
      | nil => exact absurd rfl hc
      | cons t r =>
        have hA2 : Asc (t :: r) := by
          have := asc_pairwise.mp hA
          rw [ets, List.pairwise_append] at this
          exact asc_pairwise.mpr this.2.1
        walk_at "r"
        simp only [low_mark hA2]
        refine ⟨.inl ⟨rfl, _, .inl (.inl el)⟩, ?_⟩
        walk_at "r"
        simp only [bits_pow]
        refine ⟨_, _, _, rfl, rfl, el, ?_, ?_⟩
        · rw [nv_len]
          have : ts.length = pre.length + (r.length + 1) := by rw [ets]; simp
          exact len_lt (by omega)
        walk_at "r"
        refine B.nx _ _ ⟨r.length, by simp at hm; omega, pre ++ [t], r, some (.int (2 ^ t)), ?_, ?_, Nat.le_refl _, sm_mut sm nl, ?_⟩
        · show [some (V.int n), some (V.int (psum (t :: r) - 2 ^ t)), some (V.ref l), some (V.int (2 ^ t))] = _
          have : psum (t :: r) - 2 ^ t = psum r := by
            show 2 ^ t + psum r - 2 ^ t = psum r
            omega
          rw [this]
        · rw [ets]
          simp
        · rw [upd_same, nv_app]
          have e : ((t + 1 : Nat) : Int) - 1 = ((t : Nat) : Int) := by omega
          rw [← e]
    · cases post with
      | nil =>
        walk_at "r"
        rw [List.append_nil] at ets
        exact q l H' sm nl (ets ▸ el)
      | cons t r => exact absurd hc (Int.ne_of_gt psum_pos)
/-- the integer of a row of turns -/
def sp_int (K : PySem.W.Frag) : Sp := fun vs H Q _ => ∃ (a : Addr) (ts : List Nat), vs = [.ref a] ∧ SqL K H a (nv ts) ∧ (∀ t ∈ ts, t ≤ 100000000) ∧ ∀ H', Same H H' → Q (.int (tv ts)) H'
theorem ok__law_int (T : Top K mg) {k : Nat} : FnOk P w K mg base CX0 (k + 1) T.f__law_int T.fd__law_int ["_law_places"]  (sp_int K) := by
  refine T.F__law_int.ok sc__law_int (fun vs H Q E h => ?_) (fun cdv A outer s H vs Q E hr h => ?_)
  · obtain ⟨a, ts, rfl, _⟩ := h
    rfl
  · obtain ⟨a, ts, rfl, hS, hb, q⟩ := h
    refine ⟨_, (pss_cons (ps_asg (pe_tup (pa_cons pe_int (pa_cons (pe_un un_neg pe_int) pa_nil))) (pg_tup rfl (pgs_cons (pg_name (i := 1) sc__law_int.nd rfl (Or.inl rfl)) (pgs_cons (pg_name (i := 2) sc__law_int.nd rfl (Or.inl rfl)) pgs_nil))))
    (pss_cons (ps_for PassesOwn.never rfl (pi_list (pv 0)) (pg_name (i := 3) sc__law_int.nd rfl (Or.inl rfl))
      (pss_one (ps_par (i := 1) (j := 2) rfl sc__law_int.nd rfl rfl (by decide) rfl rfl (pa_cons (pe_op op_add (pv 1) (pe_op op_mul (pv 2) (pe_op op_oneShl pe_int (pv 3)))) (pa_cons (pe_un un_neg (pv 2)) pa_nil)) rfl)))
    (pss_one (ps_ret (pv 1))))), ?_⟩
    walk_at "r"
    refine ⟨by show 2 ≤ sizeLine; decide, fun t0 nt0 => ?_⟩
    have sm0 := sm_upd (o := .tup [.int 0, .int (-1)]) nt0
    refine ⟨t0, _, rfl, .inl (.inl upd_same), rfl, _, _, rfl, _, _, rfl, rfl, ?_⟩
    replace hS := sm0.seq hS
    replace q := fun H' (e : Same (upd H t0 (.tup [.int 0, .int (-1)])) H') => q H' (sm0.trans e)
    revert hS q
    generalize upd H t0 (.tup [.int 0, .int (-1)]) = H1
    intro hS q
    refine ⟨_, rfl, a, rfl, ⟨_, hS⟩, flL (xs := nv ts) (fun i σ H' => ∃ (tot sg : Int) (z : Option V), σ = [some (.ref a), some (.int tot), some (.int sg), z] ∧ (sg = 1 ∨ sg = -1) ∧ tot + tvs sg (ts.drop i) = tv ts ∧ H' = H1)
      ⟨0, -1, none, rfl, .inr rfl, by show 0 + tvs (-1) (ts.drop 0) = tvs (-1) ts; simp, rfl⟩ ?_ ?_ ?_⟩
    · rintro i σ H' _ ⟨tot, sg, z, _, _, _, rfl⟩
      exact hS
    · rintro i x σ H' hx ⟨tot, sg, z, rfl, hsg, inv, rfl⟩ D' B
      obtain ⟨t, ht, rfl⟩ := nv_get hx
      have hbt := hb t (List.mem_of_getElem? ht)
      have hdrop : ts.drop i = t :: ts.drop (i + 1) := by
        obtain ⟨hi, e⟩ := List.getElem?_eq_some_iff.mp ht
        rw [List.drop_eq_getElem_cons hi, e]
      walk_at "r"
      refine ⟨t, rfl, rfl, by omega, ?_⟩
      walk_at "r"
      refine ⟨_, _, rfl, ?_⟩
      refine B.nx _ _ ⟨tot + sg * 2 ^ t, -sg, _, rfl, by omega, ?_, rfl⟩
      rw [hdrop] at inv
      rw [← inv]
      show tot + sg * 2 ^ t + tvs (-sg) (ts.drop (i + 1)) = tot + (sg * 2 ^ t + tvs (-sg) (ts.drop (i + 1)))
      omega
    · rintro σ H' ⟨tot, sg, z, rfl, hsg, inv, rfl⟩
      walk_at "r"
      rw [nv_len, List.drop_length] at inv
      have : tot = tv ts := by
        have : tvs sg [] = 0 := rfl
        omega
      rw [this]
      exact q _ (Same.refl _)
/-- the form of an int whose turns are plain -/
def sp_form (K : PySem.W.Frag) : Sp := fun vs H Q _ => ∃ (n : Int) (k : Nat), vs = [.int n] ∧ k ≤ 900000 ∧ -(2 ^ k) ≤ n ∧ n < 2 ^ k ∧
  ∀ (v : V) (d : PyData) H', Fm d → val d = n → d.depth ≤ 1 → wt d ≤ k + 3 → Dp K H' v d → Same H H' → Q v H'
theorem ok__law_form (T : Top K mg) {k : Nat} : FnOk P w K mg base CX0 (k + 2) T.f__law_form T.fd__law_form ["_law_number"]  (sp_form K) := by
  have G__law_turns : FnOk P w K mg base CX0 (k + 1) T.f__law_turns T.fd__law_turns ["_law_number"]  (sp_turns K) := ok__law_turns T
  refine T.F__law_form.ok sc__law_form (fun vs H Q E h => ?_) (fun cdv A outer s H vs Q E hr h => ?_)
  · obtain ⟨n, _, rfl, _⟩ := h
    rfl
  · obtain ⟨n, kb, rfl, hk, hn1, hn2, q⟩ := h
    refine ⟨_, (pss_one (ps_ret (pe_ifExp (pt_chain op_le op_lt (pe_un un_neg (pe_op op_pow pe_int pe_int)) (pv 0) (pe_op op_pow pe_int pe_int)) (pv 0) (pe_callTy call_tuple_of (by rfl) T.m_tuple (by decide +kernel) (pa_cons (pe_call G__law_turns (hr.mono (by omega)) (by rfl) T.g__law_turns T.F__law_turns.kp T.b__law_turns .nil pass0 (pa_cons (pv 0) pa_nil)) pa_nil))))), ?_⟩
    walk_at "r"
    by_cases hpl : -(2 ^ 64) ≤ n ∧ n < 2 ^ 64
    · refine ifD (fun _ => ?_) (fun z => absurd hpl.1 z)
      walk_at "r"
      refine ifD (fun _ => ?_) (fun z => absurd hpl.2 z)
      walk_at "r"
      exact q _ _ _ ((fm_int n).mpr hpl) (val_int n) (by rw [depth_int]; decide) (by rw [wt_int]; omega) (.int n) (Same.refl _)
    · refine ifChain ?_ (fun h1 hB => ?_)
      · walk_at "r"
        refine ⟨n, kb, rfl, hk, hn1, hn2, fun ts l H' hA hn hb hlen sm nl hl => ?_⟩
        refine ⟨l, _, rfl, .inl ⟨.inl (.inl hl), fun r nr => ?_⟩⟩
        have h64 : ∃ t ∈ ts, 64 < t := by
          apply Classical.byContradiction
          intro hc
          apply hpl
          rw [← hn, ← tv_range hA]
          intro t ht
          apply Nat.le_of_not_lt
          intro hlt
          exact hc ⟨t, ht, hlt⟩
        obtain ⟨f1, f2⟩ := fm_small hA (fun t ht => by have := hb t ht; omega) h64
        refine q _ _ _ f1 (f2.trans hn) (by rw [depth_tuple, depthAll_iD]; exact Nat.le_refl _) (by rw [wt_tuple, wtAll_iD]; omega) (.tup (.inl (.inl upd_same)) (dp_nv ts)) (sm.trans (sm_upd nr))
      · walk_at "r"
        refine ifD (fun h2 => absurd ⟨h1, h2⟩ hpl) (fun _ => hB)
end
end K00
set_option Elab.async false
set_option linter.all false
set_option maxRecDepth 100000
set_option pp.deepTerms false
set_option pp.maxSteps 1500
namespace K00
open PySem PySem.Spec PyProof.Rows L2 HX TV FM DX
local macro_rules | `(tactic| walk_at "r") => `(tactic| (repeat (first | refine Exists.intro _ (And.intro rfl ?_) | refine And.intro rfl ?_ | refine Exists.intro _ (Exists.intro _ (And.intro rfl (And.intro rfl ?_))) | refine And.intro (by omega) ?_ | refine And.intro (Or.inl (And.intro (by omega) (by omega))) ?_ | refine And.intro (Or.inr (And.intro (by omega) (by omega))) ?_ | refine And.intro (And.intro (by omega) (by omega)) ?_ | refine And.intro (And.intro (by decide) (And.intro (by decide) (by decide))) ?_ | refine Or.inl (Exists.intro _ (And.intro rfl ?_)) | (dsimp only [gName]; first | with_reducible refine seqC ?_ | with_reducible refine asgC ?_))))
local macro_rules | `(tactic| walk_at "s") => `(tactic| (repeat (first | refine Exists.intro _ (And.intro rfl ?_) | refine And.intro rfl ?_ | refine Exists.intro _ (Exists.intro _ (And.intro rfl (And.intro rfl ?_))) | refine And.intro (by omega) ?_ | refine And.intro (Or.inl (And.intro (by omega) (by omega))) ?_ | refine And.intro (Or.inr (And.intro (by omega) (by omega))) ?_ | refine And.intro (And.intro (by omega) (by omega)) ?_ | refine And.intro (And.intro (by decide) (And.intro (by decide) (by decide))) ?_ | refine Or.inl (Exists.intro _ (And.intro rfl ?_)) | refine Exists.intro _ (Exists.intro _ (And.intro rfl ?_)) | (dsimp only [gName]; first | with_reducible refine seqC ?_ | with_reducible refine asgC ?_))))
section
variable {P : Program} {w : World} {K : PySem.W.Frag} {mg : Str → Option Value} {base : Heap}
theorem cut_take {xs : List V} {m : Nat} : cutV xs none (some (m : Int)) = xs.take m := by
  unfold cutV
  rw [HT.sIx_nat xs.length xs.length m, HT.sIx_none]
  show List.take (min m xs.length - 0) xs = _
  rw [Nat.sub_zero, List.take_eq_take_iff]
  omega
theorem but_tk {H H' : Hp} {τ : Tp} {n : Nat} (h : Tape H τ n) (b : But τ.p H H') : Tk H H' := tk_but b h.mut
theorem nat_of {d : Int} {n : Nat} (h1 : 0 ≤ d) (h2 : d < n) : ∃ k : Nat, d = (k : Nat) ∧ k < n := ⟨d.toNat, by omega, by omega⟩
def iv (cs : List Int) : List V := cs.map V.int
theorem inV_int {c : Int} : ∀ {cs : List Int}, inV (.int c) (iv cs) = decide (c ∈ cs)
  | [] => by simp [inV, iv]
  | a :: r => by
    have ih := inV_int (c := c) (cs := r)
    unfold inV iv at *
    rw [List.map_cons, List.any_cons, ih]
    show ((a == c) || decide (c ∈ r)) = _
    by_cases h : a = c
    · subst h
      simp
    · have h' : ¬ c = a := fun e => h e.symm
      simp [h, h']
theorem flat_iv (cs : List Int) : (iv cs).all flatV = true := by
  unfold iv
  rw [List.all_map, List.all_eq_true]
  intro x _
  rfl
theorem iv_get {cs : List Int} {i : Nat} {v : V} (h : (iv cs)[i]? = some v) : ∃ c, cs[i]? = some c ∧ v = .int c := by
  unfold iv at h
  rw [List.getElem?_map] at h
  cases e : cs[i]? with
  | none => rw [e] at h; cases h
  | some q => rw [e] at h; exact ⟨q, rfl, (Option.some.inj h).symm⟩
theorem ivs_all {xs : List Int} {v : V} (h : v ∈ xs.map V.int) : ∃ i, v = .int i ∧ i ∈ xs := by
  obtain ⟨i, h1, rfl⟩ := List.mem_map.mp h
  exact ⟨i, rfl, h1⟩
end
end K00
set_option Elab.async false
set_option linter.all false
set_option maxRecDepth 100000
set_option pp.deepTerms false
set_option pp.maxSteps 1500
namespace K00
open PySem PySem.Spec PyProof.Rows L2 HX TV FM DX
local macro_rules | `(tactic| walk_at "r") => `(tactic| (repeat (first | refine Exists.intro _ (And.intro rfl ?_) | refine And.intro rfl ?_ | refine Exists.intro _ (Exists.intro _ (And.intro rfl (And.intro rfl ?_))) | refine And.intro (by omega) ?_ | refine And.intro (Or.inl (And.intro (by omega) (by omega))) ?_ | refine And.intro (Or.inr (And.intro (by omega) (by omega))) ?_ | refine And.intro (And.intro (by omega) (by omega)) ?_ | refine And.intro (And.intro (by decide) (And.intro (by decide) (by decide))) ?_ | refine Or.inl (Exists.intro _ (And.intro rfl ?_)) | (dsimp only [gName]; first | with_reducible refine seqC ?_ | with_reducible refine asgC ?_))))
local macro_rules | `(tactic| walk_at "s") => `(tactic| (repeat (first | refine Exists.intro _ (And.intro rfl ?_) | refine And.intro rfl ?_ | refine Exists.intro _ (Exists.intro _ (And.intro rfl (And.intro rfl ?_))) | refine And.intro (by omega) ?_ | refine And.intro (Or.inl (And.intro (by omega) (by omega))) ?_ | refine And.intro (Or.inr (And.intro (by omega) (by omega))) ?_ | refine And.intro (And.intro (by omega) (by omega)) ?_ | refine And.intro (And.intro (by decide) (And.intro (by decide) (by decide))) ?_ | refine Or.inl (Exists.intro _ (And.intro rfl ?_)) | refine Exists.intro _ (Exists.intro _ (And.intro rfl ?_)) | (dsimp only [gName]; first | with_reducible refine seqC ?_ | with_reducible refine asgC ?_))))
section
variable {P : Program} {w : World} {K : PySem.W.Frag} {mg : Str → Option Value} {base : Heap}
theorem fm_plain {d : PyData} (h : Fm d) (h1 : -(2 ^ 64) ≤ val d) (h2 : val d < 2 ^ 64) : d = .int (val d) := by
  cases d with
  | int i => rw [val_int]
  | tuple ds => exact absurd ⟨h1, h2⟩ (tuple_far h)
  | none => simp [Fm] at h
  | bool _ => simp [Fm] at h
  | str _ => simp [Fm] at h
  | list _ => simp [Fm] at h
  | dict _ => simp [Fm] at h
theorem fm_tup {d : PyData} (h : Fm d) (h1 : ∀ i, d ≠ .int i) : ∃ ds, d = .tuple ds := by
  cases d with
  | int i => exact absurd rfl (h1 i)
  | tuple ds => exact ⟨ds, rfl⟩
  | none => simp [Fm] at h
  | bool _ => simp [Fm] at h
  | str _ => simp [Fm] at h
  | list _ => simp [Fm] at h
  | dict _ => simp [Fm] at h
theorem ds_small : ∀ {ds : List PyData}, FmAll ds → (∀ t ∈ vals ds, t ≤ 64) → ds = iD (vals ds)
  | [], _, _ => by simp [vals, iD]
  | d :: r, f, h => by
    rw [fmAll_cons] at f
    rw [vals_cons] at h ⊢
    have h1 := h (val d).toNat (by simp)
    have h0 := f.2.1
    have e := fm_plain f.1 (by omega) (by omega)
    show d :: r = .int ((val d).toNat : Nat) :: iD (vals r)
    rw [← ds_small f.2.2 fun t ht => h t (by simp [ht])]
    congr 1
    rw [show (((val d).toNat : Nat) : Int) = val d by omega]
    exact e
theorem nv_of {H : Hp} : ∀ {ts : List Nat} {vs : List V}, DpAll K H vs (iD ts) → vs = nv ts
  | [], _, h => by
    cases h
    rfl
  | t :: r, _, h => by
    cases h with
    | cons h1 h2 =>
      cases h1
      show _ = .int (t : Nat) :: nv r
      rw [nv_of h2]
theorem last_is {α : Type} {l : List α} (h : l ≠ []) : ∃ a r, l = r ++ [a] := ⟨l.getLast h, l.dropLast, (List.dropLast_concat_getLast h).symm⟩
/-- the form of a row of places -/
def sp_row (K : PySem.W.Frag) : Sp := fun vs H Q _ => ∃ (a : Addr) (us : List V) (ds : List PyData), vs = [.ref a] ∧ H a = some (.lst us) ∧ DpAll K H us ds ∧ FmAll ds ∧ Asc (vals ds) ∧ PyData.depthAll ds ≤ 20 ∧ ds.length ≤ 1000000 ∧
  ∀ (v : V) (d : PyData) H', Fm d → val d = tv (vals ds) → d.depth ≤ PyData.depthAll ds + 1 → wt d ≤ wtAll ds + 1 → Dp K H' v d → Same H H' → Q v H'
theorem ok__law_row_form (T : Top K mg) {k : Nat} : FnOk P w K mg base CX0 (k + 2) T.f__law_row_form T.fd__law_row_form ["_law_places"]  (sp_row K) := by
  have G__law_int : FnOk P w K mg base CX0 (k + 1) T.f__law_int T.fd__law_int ["_law_places"]  (sp_int K) := ok__law_int T
  refine T.F__law_row_form.ok sc__law_row_form (fun vs H Q E h => ?_) (fun cdv A outer s H vs Q E hr h => ?_)
  · obtain ⟨a, us, ds, rfl, _⟩ := h
    rfl
  · obtain ⟨a, us, ds, rfl, ha, hD, hF, hA, hdep, hlen, q⟩ := h
    have hul := dpAll_len hD
    refine ⟨_, (pss_cons (ps_if (PW.pt (pw_or (pt_cmpR (op_eqD hr.units) (pv 0) (pe_lst pa_nil) (nomark _)) (pw_or1 (PW.pt (pw_and (pt_val (pe_callB call_isi (by rfl) T.m_isinstance (by decide +kernel) (pa_cons (pe_ix ix_list (pv 0) (pe_un un_neg pe_int) (fun _ _ => rfl)) (pa_cons (pe_bltn (v := .ty "int") (by rfl) T.m_int (by decide +kernel) rfl) pa_nil))) (fun _ => rfl)) (pw_and1 (pt_cmpR op_le (pe_ix ix_list (pv 0) (pe_un un_neg pe_int) (fun _ _ => rfl)) pe_int (nomark _))))))))
      (pss_one (ps_ret (pe_call G__law_int (hr.mono (by omega)) (by rfl) T.g__law_int T.F__law_int.kp T.b__law_int .nil pass0 (pa_cons (pv 0) pa_nil))))
      pss_nil)
    (pss_one (ps_ret (pe_callTy call_tuple_of (by rfl) T.m_tuple (by decide +kernel) (pa_cons (pv 0) pa_nil))))), ?_⟩
    refine ⟨_, rfl, Nat.zero_le _, fun e ne => ?_⟩
    have sm1 := sm_upd (o := .lst []) ne
    have ha1 := sm1 _ _ ha
    have hD1 := dpAll_tk (tk_same sm1) hF hD
    refine ⟨_, _, .lst (.inl (.inl ha1)) hD1, .lst (.inl (.inl upd_same)) .nil, shaped_fms hF (by omega), shaped_ints [], _, rfl, ?_⟩
    rw [eqv_nil]
    replace q := fun v d H' f1 f2 f3 f5 f4 (e : Same (upd H e (.lst [])) H') => q v d H' f1 f2 f3 f5 f4 (sm1.trans e)
    revert ha1 hD1 q
    generalize upd H e (.lst []) = H1
    intro ha1 hD1 q
    -- where all places are at most 64
    have small : (∀ t ∈ vals ds, t ≤ 64) → ∀ (Q' : VK), (∀ v d H', Fm d → val d = tv (vals ds) → d.depth ≤ PyData.depthAll ds + 1 → wt d ≤ wtAll ds + 1 → Dp K H' v d → Same H1 H' → Q' v H') →
        sp_int K [.ref a] H1 Q' E0 := fun h64 Q' q' => by
      have eds := ds_small hF h64
      have eus : us = nv (vals ds) := nv_of (H := H1) (by rw [← eds]; exact hD1)
      refine ⟨a, vals ds, rfl, eus ▸ .inl (.inl ha1), fun t ht => by have := h64 t ht; omega, fun H' sm => ?_⟩
      exact q' _ _ _ ((fm_int _).mpr ((tv_range hA).mp h64)) (val_int _) (by rw [depth_int]; exact Nat.zero_le _) (by rw [wt_int]; omega) (.int _) sm
    by_cases hne : ds = []
    · subst hne
      refine ifY rfl (ifY rfl ?_)
      refine ⟨_, rfl, small (by simp [vals]) _ q⟩
    · obtain ⟨dl, dr, rfl⟩ := last_is hne
      have hune : us ≠ [] := by
        rintro rfl
        simp at hul
      obtain ⟨ul, ur, rfl⟩ := last_is hune
      have hDl : Dp K H1 ul dl := by
        obtain ⟨d', h1, h2⟩ := dpAll_get (i := ur.length) (v := ul) hD1 (by simp)
        have : ur.length = dr.length := by simpa using hul
        rw [this] at h1
        simp at h1
        rw [h1]
        exact h2
      have hFl : Fm dl ∧ 0 ≤ val dl := fmAll_mem hF dl (by simp)
      have hle : ∀ t ∈ vals (dr ++ [dl]), t ≤ (val dl).toNat := by
        intro t ht
        rw [vals_app, vals_cons, vals_nil] at ht hA
        have := asc_pairwise.mp hA
        rw [List.pairwise_append] at this
        rcases List.mem_append.mp ht with ht | ht
        · exact Nat.le_of_lt (this.2.2 t ht _ (by simp))
        · simp at ht
          omega
      refine ifZ (by simp) ?_
      have big : 64 < val dl → ∀ (Q' : VK), (∀ v d H', Fm d → val d = tv (vals (dr ++ [dl])) → d.depth ≤ PyData.depthAll (dr ++ [dl]) + 1 → wt d ≤ wtAll (dr ++ [dl]) + 1 → Dp K H' v d → Same H1 H' → Q' v H') →
          (∃ p ys, [V.ref a] = [V.ref p] ∧ ((SqL K H1 p ys ∧ ∀ l, H1 l = none → Q' (.ref l) (upd H1 l (.tup ys))) ∨ (SqT K H1 p ys ∧ Q' (.ref p) H1))) := fun h64 Q' q' => by
        refine ⟨a, _, rfl, .inl ⟨.inl (.inl ha1), fun l nl => ?_⟩⟩
        refine q' _ (.tuple (dr ++ [dl])) _ ((fm_tuple _).mpr ⟨hF, hA, (val dl).toNat, ?_, by omega⟩) (val_tuple _) (by rw [depth_tuple]; exact Nat.le_refl _) (by rw [wt_tuple]; omega) (.tup (.inl (.inl upd_same)) (dpAll_tk (tk_same (sm_upd nl)) hF hD1)) (sm_upd nl)
        rw [vals_app, vals_cons]
        simp
      refine ⟨_, rfl, _, rfl, a, _, -1, ul, rfl, rfl, .inl (.inl ha1), atI_last _ _, ?_⟩
      by_cases hi : ∃ i, dl = .int i
      · obtain ⟨i, rfl⟩ := hi
        cases hDl
        rw [val_int] at hle big
        refine ⟨_, _, _, _, true, rfl, .ty "int", tyI _, k_ii, true, rfl, iteT ?_⟩
        refine ⟨_, rfl, _, rfl, a, _, -1, _, rfl, rfl, .inl (.inl ha1), atI_last _ _, ?_⟩
        walk_at "r"
        refine ifD (fun hc => ?_) (fun hc => ?_)
        · refine ⟨_, rfl, small (fun t ht => by have := hle t ht; omega) _ q⟩
        · refine ⟨_, rfl, big (by omega) _ q⟩
      · obtain ⟨es, rfl⟩ := fm_tup hFl.1 fun i e => hi ⟨i, e⟩
        have hfar := tuple_far hFl.1
        have h0 := hFl.2
        cases hDl with
        | tup h1 h2 =>
          refine ⟨_, _, _, _, false, rfl, .ty "int", tyT h1, k_ti, false, rfl, iteF (iteF ?_)⟩
          refine ⟨_, rfl, big ?_ _ q⟩
          apply Int.lt_of_not_ge
          intro hc
          exact hfar ⟨by omega, by omega⟩
end
end K00
set_option Elab.async false
set_option linter.all false
set_option maxRecDepth 100000
set_option pp.deepTerms false
set_option pp.maxSteps 1500
namespace K00
open PySem PySem.Spec PyProof.Rows L2 HX TV FM DX FB
local macro_rules | `(tactic| walk_at "r") => `(tactic| (repeat (first | refine Exists.intro _ (And.intro rfl ?_) | refine And.intro rfl ?_ | refine Exists.intro _ (Exists.intro _ (And.intro rfl (And.intro rfl ?_))) | refine And.intro (by omega) ?_ | refine And.intro (Or.inl (And.intro (by omega) (by omega))) ?_ | refine And.intro (Or.inr (And.intro (by omega) (by omega))) ?_ | refine And.intro (And.intro (by omega) (by omega)) ?_ | refine And.intro (And.intro (by decide) (And.intro (by decide) (by decide))) ?_ | refine Or.inl (Exists.intro _ (And.intro rfl ?_)) | (dsimp only [gName]; first | with_reducible refine seqC ?_ | with_reducible refine asgC ?_))))
local macro_rules | `(tactic| walk_at "s") => `(tactic| (repeat (first | refine Exists.intro _ (And.intro rfl ?_) | refine And.intro rfl ?_ | refine Exists.intro _ (Exists.intro _ (And.intro rfl (And.intro rfl ?_))) | refine And.intro (by omega) ?_ | refine And.intro (Or.inl (And.intro (by omega) (by omega))) ?_ | refine And.intro (Or.inr (And.intro (by omega) (by omega))) ?_ | refine And.intro (And.intro (by omega) (by omega)) ?_ | refine And.intro (And.intro (by decide) (And.intro (by decide) (by decide))) ?_ | refine Or.inl (Exists.intro _ (And.intro rfl ?_)) | refine Exists.intro _ (Exists.intro _ (And.intro rfl ?_)) | (dsimp only [gName]; first | with_reducible refine seqC ?_ | with_reducible refine asgC ?_))))
section
variable {P : Program} {w : World} {K : PySem.W.Frag} {mg : Str → Option Value} {base : Heap}
/-- the fields: a list of the first m of four -/
def sp_fields (K : PySem.W.Frag) : Sp := fun vs H Q _ => ∃ (τ : Tp) (n m : Nat), vs = [.ref τ.p, .int m] ∧ n < 900000 ∧ m ≤ 4 ∧ Tape H τ n ∧
  ∀ (l : Addr) (us : List V) (fs : List PyData) H', Fields fs → DpAll K H' us fs → H l = none → H' l = some (.lst (us.take m)) → Tape H' τ (n + 12) → But τ.p H H' → Q (.ref l) H'
theorem first_in {d : Int} {v : V} (h1 : 0 ≤ d) (h2 : d < 1000000) (h : v ∈ [V.int 200, .int 130, .int (2 ^ (64 : Int).toNat - 90), .int (2 ^ (64 : Int).toNat - 1), .int (2 ^ (63 : Int).toNat), .int (10 ^ (9 : Int).toNat * 1000 + d)]) :
    ∃ f : Nat, v = .int (f : Nat) ∧ 130 ≤ f ∧ f < 2 ^ 64 := by
  simp only [List.mem_cons, List.not_mem_nil, or_false] at h
  rcases h with rfl | rfl | rfl | rfl | rfl | rfl
  · exact ⟨200, rfl, by decide, by decide⟩
  · exact ⟨130, rfl, by decide, by decide⟩
  · exact ⟨2 ^ 64 - 90, rfl, by decide, by decide⟩
  · exact ⟨2 ^ 64 - 1, rfl, by decide, by decide⟩
  · exact ⟨2 ^ 63, rfl, by decide, by decide⟩
  · refine ⟨10 ^ 9 * 1000 + d.toNat, ?_, by omega, by omega⟩
    rw [show ((10 : Int) ^ (9 : Int).toNat * 1000 + d) = ((10 ^ 9 * 1000 + d.toNat : Nat) : Int) by
      show (1000000000 : Int) * 1000 + d = _
      omega]
theorem ok__law_fields (T : Top K mg) {k : Nat} : FnOk P w K mg base CX0 (k + 3) T.f__law_fields T.fd__law_fields ["_law_tape", "_law_many"]  (sp_fields K) := by
  have G__law_draw : FnOk P w K mg base CX0 (k + 1) T.f__law_draw T.fd__law_draw ["_law_tape", "_law_limit"]  sp_draw := ok__law_draw T
  have G__law_pick : FnOk P w K mg base CX0 (k + 2) T.f__law_pick T.fd__law_pick ["_law_tape", "_law_some"]  sp_pick := ok__law_pick T
  refine T.F__law_fields.ok sc__law_fields (fun vs H Q E h => ?_) (fun cdv A outer s H vs Q E hr h => ?_)
  · obtain ⟨τ, n, m, rfl, _⟩ := h
    rfl
  · obtain ⟨τ, n, m, rfl, hn, hm, hT, q⟩ := h
    refine ⟨_, (pss_cons (ps_set (i := 2) sc__law_fields.nd rfl (Or.inl rfl) (pe_call G__law_pick (hr.mono (by omega)) (by rfl) T.g__law_pick T.F__law_pick.kp T.b__law_pick .nil pass0 (pa_cons (pv 0) (pa_cons (pe_lst (pa_cons pe_int (pa_cons pe_int (pa_cons (pe_op op_sub (pe_op op_pow pe_int pe_int) pe_int) (pa_cons (pe_op op_sub (pe_op op_pow pe_int pe_int) pe_int) (pa_cons (pe_op op_pow pe_int pe_int) (pa_cons (pe_op op_add (pe_op op_mul (pe_op op_pow pe_int pe_int) pe_int) (pe_call G__law_draw (hr.mono (by omega)) (by rfl) T.g__law_draw T.F__law_draw.kp T.b__law_draw .nil pass0 (pa_cons (pv 0) (pa_cons (pe_op op_pow pe_int pe_int) pa_nil)))) pa_nil))))))) pa_nil))))
    (pss_cons (ps_set (i := 3) sc__law_fields.nd rfl (Or.inl rfl) (pe_lst (pa_cons pe_int (pa_cons (pv 2) pa_nil))))
    (pss_cons (ps_set (i := 4) sc__law_fields.nd rfl (Or.inl rfl) (pe_op op_add pe_int (pe_call G__law_draw (hr.mono (by omega)) (by rfl) T.g__law_draw T.F__law_draw.kp T.b__law_draw .nil pass0 (pa_cons (pv 0) (pa_cons pe_int pa_nil)))))
    (pss_cons (ps_expr (pe_bm PySem.F.plainAttrs_list PySem.F.slot_list_append PySem.F.type_list_append mt_append (pv 3) (pa_cons (pe_tup (pa_cons (pv 4) (pa_cons (pe_op op_add (pe_op op_add (pv 4) pe_int) (pe_call G__law_draw (hr.mono (by omega)) (by rfl) T.g__law_draw T.F__law_draw.kp T.b__law_draw .nil pass0 (pa_cons (pv 0) (pa_cons pe_int pa_nil)))) pa_nil))) pa_nil)))
    (pss_cons (ps_par (i := 5) (j := 6) rfl sc__law_fields.nd rfl rfl (by decide) rfl rfl (pa_cons (pe_ix ix_list (pv 3) pe_int (fun _ _ => rfl)) (pa_cons (pe_op op_add pe_int (pe_call G__law_draw (hr.mono (by omega)) (by rfl) T.g__law_draw T.F__law_draw.kp T.b__law_draw .nil pass0 (pa_cons (pv 0) (pa_cons pe_int pa_nil)))) pa_nil)) rfl)
    (pss_cons (ps_if (pt_cmpR op_eq (pe_call G__law_draw (hr.mono (by omega)) (by rfl) T.g__law_draw T.F__law_draw.kp T.b__law_draw .nil pass0 (pa_cons (pv 0) (pa_cons pe_int pa_nil))) pe_int (nomark _))
      (pss_cons (ps_asg (pe_tup (pa_cons (pv 4) (pa_cons (pe_op op_add (pv 4) pe_int) (pa_cons (pe_op op_add (pe_op op_add (pv 4) pe_int) (pv 6)) (pa_cons (pe_op op_add (pe_op op_add (pe_op op_add (pv 4) pe_int) (pe_op op_mul pe_int (pv 6))) (pe_call G__law_draw (hr.mono (by omega)) (by rfl) T.g__law_draw T.F__law_draw.kp T.b__law_draw .nil pass0 (pa_cons (pv 0) (pa_cons (pe_op op_pow pe_int pe_int) pa_nil)))) pa_nil))))) (pg_sub (pv 3) pe_int set_list))
      (pss_one (ps_set (i := 5) sc__law_fields.nd rfl (Or.inl rfl) (pe_ix ix_list (pv 3) pe_int (fun _ _ => rfl)))))
      pss_nil)
    (pss_cons (ps_expr (pe_bm PySem.F.plainAttrs_list PySem.F.slot_list_append PySem.F.type_list_append mt_append (pv 3) (pa_cons (pe_tup (pa_cons (pv 6) (pa_cons (pv 5) pa_nil))) pa_nil)))
    (pss_cons (ps_if (pt_cmpR op_eq (pe_call G__law_draw (hr.mono (by omega)) (by rfl) T.g__law_draw T.F__law_draw.kp T.b__law_draw .nil pass0 (pa_cons (pv 0) (pa_cons pe_int pa_nil))) pe_int (nomark _))
      (pss_cons (ps_asg (pe_tup (pa_cons (pv 5) (pa_cons (pe_op op_catA (pe_callTy call_tuple_of (by rfl) T.m_tuple (by decide +kernel) (pa_cons (pe_lst (pa_cons (pe_op op_add (pe_call G__law_draw (hr.mono (by omega)) (by rfl) T.g__law_draw T.F__law_draw.kp T.b__law_draw .nil pass0 (pa_cons (pv 0) (pa_cons pe_int pa_nil))) pe_int) (pa_cons pe_int pa_nil))) pa_nil)) (pv 5)) pa_nil))) (pg_sub (pv 3) pe_int set_list))
      (pss_one (ps_if (pt_cmpR op_eq (pe_call G__law_draw (hr.mono (by omega)) (by rfl) T.g__law_draw T.F__law_draw.kp T.b__law_draw .nil pass0 (pa_cons (pv 0) (pa_cons pe_int pa_nil))) pe_int (nomark _))
        (pss_one (ps_asg (pe_tup (pa_cons (pv 6) (pa_cons (pe_op op_add (pv 6) pe_int) (pa_cons (pe_ix ix_list (pv 3) pe_int (fun _ _ => rfl)) (pa_cons (pe_tup (pa_cons (pv 6) (pa_cons (pv 5) pa_nil))) pa_nil))))) (pg_sub (pv 3) pe_int set_list)))
        pss_nil)))
      pss_nil)
    (pss_one (ps_ret (pe_slice sl_list (pv 3) po_none (po_some (pv 1))))))))))))), ?_⟩
    walk_at "r"
    refine ⟨τ, n, 1000000, rfl, by decide, by decide, by omega, hT, fun d1 H1 hd1 hd1' hT1 b1 => ?_⟩
    walk_at "r"
    refine ⟨by show 6 ≤ sizeLine; decide, fun l1 nl1 => ?_⟩
    have b2 := b1.new (o := .lst [.int 200, .int 130, .int (2 ^ (64 : Int).toNat - 90), .int (2 ^ (64 : Int).toNat - 1), .int (2 ^ (63 : Int).toNat), .int (10 ^ (9 : Int).toNat * 1000 + d1)]) nl1
    refine ⟨τ, l1, n + 1, _, rfl, by omega, hT1.up (sm_upd nl1), upd_same, by show 1 ≤ 6; decide, by show 6 ≤ 100000; decide, fun v H3 hv hT3 b3 => ?_⟩
    obtain ⟨f1, rfl, hf1, hf2⟩ := first_in hd1 hd1' hv
    replace b3 := b2.trans b3
    walk_at "r"
    refine ⟨by show 2 ≤ sizeLine; decide, fun o no => ?_⟩
    have hoe := hT3.new no
    have no0 : H o = none := by
      cases e : H o with
      | none => rfl
      | some u =>
        rw [b3 o u hoe.1 e] at no
        cases no
    have hT4 := hT3.up (sm_upd (o := .lst [.int 0, .int (f1 : Nat)]) no)
    have ho4 := upd_at (o := .lst [.int 0, .int (f1 : Nat)]) no
    have b4 := b3.new (o := .lst [.int 0, .int (f1 : Nat)]) no
    revert hT4 ho4 b4
    generalize upd H3 o (.lst [.int 0, .int (f1 : Nat)]) = H4
    intro hT4 ho4 b4
    walk_at "r"
    refine ⟨τ, n + 2, 60, rfl, by decide, by decide, by omega, hT4, fun d2 H5 hd2 hd2' hT5 b5 => ?_⟩
    have ho5 := b5 _ _ hoe.1 ho4
    replace b5 := b4.trans b5
    obtain ⟨x2, rfl, hx2⟩ := nat_of (n := 60) hd2 hd2'
    walk_at "r"
    refine ⟨.inl ⟨rfl, _, .inl (.inl ho5)⟩, ?_⟩
    walk_at "r"
    refine ⟨τ, n + 3, 90, rfl, by decide, by decide, by omega, hT5, fun d3 H6 hd3 hd3' hT6 b6 => ?_⟩
    have ho6 := b6 _ _ hoe.1 ho5
    replace b6 := b5.trans b6
    obtain ⟨x3, rfl, hx3⟩ := nat_of (n := 90) hd3 hd3'
    walk_at "r"
    refine ⟨by show 2 ≤ sizeLine; decide, fun t2 nt2 => ?_⟩
    have sm7 := sm_upd (o := .tup [.int (200 + x2), .int (200 + x2 + 1 + x3)]) nt2
    have ho7 := sm7 _ _ ho6
    refine ⟨o, _, _, rfl, rfl, ho7, by show 2 < sizeLine; decide, ?_⟩
    have no2 : t2 ≠ o := (ne_of_none ho6 nt2).symm
    have ht2 : (upd (upd H6 t2 (.tup [.int (200 + x2), .int (200 + x2 + 1 + x3)])) o (.lst [.int 0, .int (f1 : Nat), .ref t2])) t2 = some (.tup (nv [200 + x2, 200 + x2 + 1 + x3])) := by
      rw [upd_ne no2, upd_same]
      rfl
    have hT7 := (hT6.up sm7).set (o := .lst [.int 0, .int (f1 : Nat), .ref t2]) hoe
    have b7 := but_new (x := .lst [.int 0, .int (f1 : Nat), .ref t2]) (b6.trans (But.of sm7)) no0
    have ho8 := upd_same (H := upd H6 t2 (.tup [.int (200 + x2), .int (200 + x2 + 1 + x3)])) (a := o) (o := .lst [.int 0, .int (f1 : Nat), .ref t2])
    have S0 : Sec [200 + x2, 200 + x2 + 1 + x3] := ⟨⟨by omega, trivial⟩, by simp, by simp, fun t ht => by simp at ht; omega, fun t ht => by simp at ht; omega, by simp⟩
    show tSeq _ _ _ _ (upd (upd H6 t2 (.tup [.int (200 + x2), .int (200 + x2 + 1 + x3)])) o (.lst [.int 0, .int (f1 : Nat), .ref t2]))
    revert ht2 hT7 b7 ho8
    generalize upd (upd H6 t2 (.tup [.int (200 + x2), .int (200 + x2 + 1 + x3)])) o (.lst [.int 0, .int (f1 : Nat), .ref t2]) = H8
    intro ht2 hT8 b8 ho8
    refine ⟨_, rfl, o, _, 2, .ref t2, rfl, rfl, .inl (.inl ho8), atI_nat (j := 2) rfl, ?_⟩
    walk_at "r"
    refine ⟨τ, n + 4, 40, rfl, by decide, by decide, by omega, hT8, fun d4 H9 hd4 hd4' hT9 b9 => ?_⟩
    have ho9 := b9 _ _ hoe.1 ho8
    have ht9 := b9 _ _ (hT8.neT ht2) ht2
    replace b9 := b8.trans b9
    obtain ⟨x4, rfl, hx4⟩ := nat_of (n := 40) hd4 hd4'
    walk_at "r"
    refine ⟨_, _, rfl, ?_⟩
    walk_at "r"
    refine ⟨τ, n + 5, 2, rfl, by decide, by decide, by omega, hT9, fun d5 H10 hd5 hd5' hT10 b10 => ?_⟩
    have ho10 := b10 _ _ hoe.1 ho9
    have ht10 := b10 _ _ (hT9.neT ht9) ht9
    replace b10 := b9.trans b10
    walk_at "r"
    refine if_join (fun σ' H' => ∃ (t : Addr) (ts : List Nat), σ' = [some (.ref τ.p), some (.int m), some (.int (f1 : Nat)), some (.ref o), some (.int (200 + x2)), some (.ref t), some (.int (150 + x4))] ∧ Sec ts ∧ H' t = some (.tup (nv ts)) ∧ H' o = some (.lst [.int 0, .int (f1 : Nat), .ref t]) ∧ Tape H' τ (n + 7) ∧ But τ.p H H') ?_ (fun D1 J hb => ?_) (fun D1 J hb => ?_)
    · rintro σ' H11 ⟨t, ts, rfl, S, ht11, ho11, hT11, b11⟩
      dsimp only
      refine ⟨_, rfl, .inl ⟨rfl, _, .inl (.inl ho11)⟩, ?_⟩
      walk_at "r"
      refine ⟨by show 2 ≤ sizeLine; decide, fun t3 nt3 => ?_⟩
      have sm12 := sm_upd (o := .tup [.int (150 + x4), .ref t]) nt3
      have no3 : t3 ≠ o := (ne_of_none ho11 nt3).symm
      refine ⟨o, _, _, rfl, rfl, sm12 _ _ ho11, by show 3 < sizeLine; decide, ?_⟩
      have ht13 : (upd (upd H11 t3 (.tup [.int (150 + x4), .ref t])) o (.lst [.int 0, .int (f1 : Nat), .ref t, .ref t3])) t3 = some (.tup [.int (150 + x4), .ref t]) := by
        rw [upd_ne no3, upd_same]
      have htt : (upd (upd H11 t3 (.tup [.int (150 + x4), .ref t])) o (.lst [.int 0, .int (f1 : Nat), .ref t, .ref t3])) t = some (.tup (nv ts)) := by
        rw [upd_ne (ne_of ht11 ho11 (by intro z; cases z))]
        exact sm12 _ _ ht11
      have hT13 := (hT11.up sm12).set (o := .lst [.int 0, .int (f1 : Nat), .ref t, .ref t3]) hoe
      have b13 := but_new (x := .lst [.int 0, .int (f1 : Nat), .ref t, .ref t3]) (b11.trans (But.of sm12)) no0
      have ho13 := upd_same (H := upd H11 t3 (.tup [.int (150 + x4), .ref t])) (a := o) (o := .lst [.int 0, .int (f1 : Nat), .ref t, .ref t3])
      dsimp only [List.cons_append, List.nil_append]
      revert ht13 htt hT13 b13 ho13
      generalize upd (upd H11 t3 (.tup [.int (150 + x4), .ref t])) o (.lst [.int 0, .int (f1 : Nat), .ref t, .ref t3]) = H13
      intro ht13 htt hT13 b13 ho13
      have eg : ((150 + x4 : Nat) : Int) = 150 + (x4 : Int) := by omega
      -- the end
      refine cut (fun σ' H' => ∃ (t3 : Addr) (es : List PyData), σ' = [some (.ref τ.p), some (.int m), some (.int (f1 : Nat)), some (.ref o), some (.int (200 + x2)), some (.ref t), some (.int (150 + x4))] ∧ Third ts es ∧ Dp K H' (.ref t3) (.tuple es) ∧ H' t = some (.tup (nv ts)) ∧ H' o = some (.lst [.int 0, .int (f1 : Nat), .ref t, .ref t3]) ∧ Tape H' τ (n + 12) ∧ But τ.p H H') (fun D1 J => ?_) ?_
      · walk_at "r"
        refine ⟨τ, n + 7, 2, rfl, by decide, by decide, by omega, hT13, fun d7 H14 hd7 hd7' hT14 b14 => ?_⟩
        have ho14 := b14 _ _ hoe.1 ho13
        have ht14 := b14 _ _ (hT13.neT htt) htt
        have hs14 := b14 _ _ (hT13.neT ht13) ht13
        replace b14 := b13.trans b14
        walk_at "r"
        refine ifE (fun _ => ?_) (fun _ => ?_)
        · walk_at "r"
          refine ⟨τ, n + 8, 60, rfl, by decide, by decide, by omega, hT14, fun d8 H15 hd8 hd8' hT15 b15 => ?_⟩
          have ho15 := b15 _ _ hoe.1 ho14
          have ht15 := b15 _ _ (hT14.neT ht14) ht14
          replace b15 := b14.trans b15
          obtain ⟨x8, rfl, hx8⟩ := nat_of (n := 60) hd8 hd8'
          walk_at "r"
          refine ⟨by show 2 ≤ sizeLine; decide, fun l8 nl8 => ?_⟩
          have s16 := sm_upd (o := .lst [.int (x8 + 1), .int 64]) nl8
          refine ⟨l8, _, rfl, .inl ⟨.inl (.inl upd_same), fun t8 nt8 => ?_⟩⟩
          have s17 := s16.trans (sm_upd (o := .tup [.int (x8 + 1), .int 64]) nt8)
          walk_at "r"
          refine ⟨t8, t, _, _, rfl, rfl, .inl (.inl upd_same), .inl (.inl (s17 _ _ ht15)), ?_, (fun z => by cases z), (fun _ z => ?_), (fun _ _ t9 nt9 => ?_)⟩
          · rw [nv_len]
            have := S.len
            exact len_le (by show 2 + ts.length ≤ 16000000; omega)
          · exact absurd (by simpa [nv] using z) S.ne
          have s18 := s17.trans (sm_upd (o := .tup ([V.int (x8 + 1), .int 64] ++ nv ts)) nt9)
          have h9 := upd_at (o := .tup ([V.int (x8 + 1), .int 64] ++ nv ts)) nt9
          refine ⟨by show 2 ≤ sizeLine; decide, fun t10 nt10 => ?_⟩
          have s19 := s18.trans (sm_upd (o := .tup [.ref t, .ref t9]) nt10)
          have h9' := (sm_upd (o := .tup [.ref t, .ref t9]) nt10) _ _ h9
          have h10 := upd_at (o := .tup [.ref t, .ref t9]) nt10
          have hT19 := hT15.up s19
          have ho19 := s19 _ _ ho15
          have ht19 := s19 _ _ ht15
          have b19 := b15.trans (But.of s19)
          revert h9' h10 hT19 ho19 ht19 b19
          generalize (upd (upd _ t9 _) t10 _) = H19
          intro h9' h10 hT19 ho19 ht19 b19
          refine ⟨_, rfl, o, _, 3, 3, rfl, rfl, ho19, rfl, ?_⟩
          have no9 := ne_of h9' ho19 (by intro z; cases z)
          have no10 := ne_of h10 ho19 (by intro z; cases z)
          have not19 := ne_of ht19 ho19 (by intro z; cases z)
          have hT20 := hT19.set (o := .lst [.int 0, .int (f1 : Nat), .ref t, .ref t10]) hoe
          have ho20 := upd_same (H := H19) (a := o) (o := .lst [.int 0, .int (f1 : Nat), .ref t, .ref t10])
          have h9b : (upd H19 o (.lst [.int 0, .int (f1 : Nat), .ref t, .ref t10])) t9 = _ := (upd_ne no9).trans h9'
          have h10b : (upd H19 o (.lst [.int 0, .int (f1 : Nat), .ref t, .ref t10])) t10 = _ := (upd_ne no10).trans h10
          have ht20 : (upd H19 o (.lst [.int 0, .int (f1 : Nat), .ref t, .ref t10])) t = _ := (upd_ne not19).trans ht19
          have b20 := but_new (x := .lst [.int 0, .int (f1 : Nat), .ref t, .ref t10]) b19 no0
          dsimp only [List.set]
          revert hT20 ho20 h9b h10b ht20 b20
          generalize upd H19 o (.lst [.int 0, .int (f1 : Nat), .ref t, .ref t10]) = H20
          intro hT20 ho20 h9b h10b ht20 b20
          walk_at "r"
          refine ⟨τ, n + 9, 2, rfl, by decide, by decide, by omega, hT20, fun d9 H21 hd9 hd9' hT21 b21 => ?_⟩
          have ho21 := b21 _ _ hoe.1 ho20
          have ht21 := b21 _ _ (hT20.neT ht20) ht20
          have h921 := b21 _ _ (hT20.neT h9b) h9b
          have h1021 := b21 _ _ (hT20.neT h10b) h10b
          replace b21 := b20.trans b21
          walk_at "r"
          refine ifE (fun _ => ?_) (fun _ => ?_)
          · walk_at "r"
            refine ⟨o, _, 2, _, rfl, rfl, .inl (.inl ho21), atI_nat (j := 2) rfl, ?_⟩
            walk_at "r"
            refine ⟨by show 2 ≤ sizeLine; decide, fun t11 nt11 => ?_⟩
            have s22 := sm_upd (o := .tup [.int (150 + x4), .ref t]) nt11
            have h11 := upd_at (o := .tup [.int (150 + x4), .ref t]) nt11
            refine ⟨by show 4 ≤ sizeLine; decide, fun t12 nt12 => ?_⟩
            have s23 := s22.trans (sm_upd (o := .tup [.int (150 + x4), .int (150 + x4 + 1), .ref t, .ref t11]) nt12)
            have h11' := (sm_upd (o := .tup [.int (150 + x4), .int (150 + x4 + 1), .ref t, .ref t11]) nt12) _ _ h11
            have h12 := upd_at (o := .tup [.int (150 + x4), .int (150 + x4 + 1), .ref t, .ref t11]) nt12
            have ho23 := s23 _ _ ho21
            have ht23 := s23 _ _ ht21
            refine ⟨_, rfl, o, _, 3, 3, rfl, rfl, ho23, rfl, ?_⟩
            have eg1 : ((150 + x4 + 1 : Nat) : Int) = 150 + (x4 : Int) + 1 := by omega
            have h11o := (upd_ne (o := .lst [.int 0, .int (f1 : Nat), .ref t, .ref t12]) (ne_of h11' ho23 (by intro z; cases z))).trans h11'
            have h12o := (upd_ne (o := .lst [.int 0, .int (f1 : Nat), .ref t, .ref t12]) (ne_of h12 ho23 (by intro z; cases z))).trans h12
            have hto := (upd_ne (o := .lst [.int 0, .int (f1 : Nat), .ref t, .ref t12]) (ne_of ht23 ho23 (by intro z; cases z))).trans ht23
            refine J.nx _ _ ⟨t12, _, rfl, thirdC (g := 150 + x4) S (by omega) (by omega), .tup (.inl (.inl h12o)) (.cons (eg ▸ .int _) (.cons (eg1 ▸ .int _) (.cons (.tup (.inl (.inl hto)) (dp_nv ts)) (.cons (.tup (.inl (.inl h11o)) (.cons (eg ▸ .int _) (.cons (.tup (.inl (.inl hto)) (dp_nv ts)) .nil))) .nil)))), hto, upd_same, ((hT21.up s23).set hoe).le (by omega), but_new (b21.trans (But.of s23)) no0⟩
          · refine J.nx _ _ ⟨t10, _, rfl, thirdB (x := x8 + 1) S (by omega), .tup (.inl (.inl h1021)) (.cons (.tup (.inl (.inl ht21)) (dp_nv ts)) (.cons (.tup (.inl (.inl h921)) (dp_nv ((x8 + 1) :: 64 :: ts))) .nil)), ht21, ho21, hT21.le (by omega), b21⟩
        · exact J.nx _ _ ⟨t3, _, rfl, thirdA (g := 150 + x4) S (by omega) (by omega), .tup (.inl (.inl hs14)) (.cons (eg ▸ .int _) (.cons (.tup (.inl (.inl ht14)) (dp_nv ts)) .nil)), ht14, ho14, hT14.le (by omega), b14⟩
      · rintro σ' H20 ⟨t3, es, rfl, hE, hD, ht20, ho20, hT20, b20⟩
        walk_at "r"
        refine ⟨o, _, rfl, .inl (.inl ho20), fun l nl => ?_⟩
        rw [cut_take]
        have sm := sm_upd (o := .lst (List.take m [V.int 0, .int (f1 : Nat), .ref t, .ref t3])) nl
        have F := hE.fields hf1 hf2 S
        refine q l [.int 0, .int (f1 : Nat), .ref t, .ref t3] _ _ F ?_ ?_ upd_same (hT20.up sm) (b20.trans (But.of sm))
        · obtain ⟨_, e2, e3, he, _, _, fm2, fm3, _⟩ := F.ex
          injection he with _ he
          injection he with _ he
          injection he with he2 he
          injection he with he3 _
          refine .cons (.int _) (.cons (.int _) (.cons (.tup (.inl (.inl (sm _ _ ht20))) (dp_nv ts)) (.cons (dp_tk (tk_same sm) (he3 ▸ fm3) hD) .nil)))
        · have hle := hT20.new nl
          cases e : H l with
          | none => rfl
          | some u =>
            rw [b20 l u hle.1 e] at nl
            cases nl
    · walk_at "r"
      refine ⟨τ, n + 6, 1000000000, rfl, by decide, by decide, by omega, hT10, fun d6 H11 hd6 hd6' hT11 b11 => ?_⟩
      have ho11 := b11 _ _ hoe.1 ho10
      replace b11 := b10.trans b11
      obtain ⟨x6, rfl, hx6⟩ := nat_of (n := 1000000000) hd6 hd6'
      walk_at "r"
      refine ⟨by show 4 ≤ sizeLine; decide, fun t4 nt4 => ?_⟩
      have sm12 := sm_upd (o := .tup [.int (200 + x2), .int (200 + x2 + 7), .int (200 + x2 + 9 + (150 + x4)), .int (200 + x2 + 11 + 2 * (150 + x4) + x6)]) nt4
      have no4 : t4 ≠ o := (ne_of_none ho11 nt4).symm
      refine ⟨_, rfl, o, _, 2, 2, rfl, rfl, sm12 _ _ ho11, rfl, ?_⟩
      refine ⟨_, rfl, o, _, 2, .ref t4, rfl, rfl, .inl (.inl upd_same), atI_nat (j := 2) rfl, ?_⟩
      refine J.nx _ _ ⟨t4, [200 + x2, 200 + x2 + 7, 200 + x2 + 9 + (150 + x4), 200 + x2 + 11 + 2 * (150 + x4) + x6], rfl, ⟨⟨by omega, by omega, by omega, trivial⟩, by simp, by simp, fun t ht => by simp at ht; omega, fun t ht => by simp at ht; omega, by simp⟩, ?_, upd_same, (hT11.up sm12).set hoe, but_new (b11.trans (But.of sm12)) no0⟩
      rw [upd_ne no4, upd_same]
      rfl
    · exact J.nx _ _ ⟨t2, _, rfl, S0, ht10, ho10, hT10.le (by omega), b10⟩
end
end K00
set_option Elab.async false
set_option linter.all false
set_option maxRecDepth 100000
set_option pp.deepTerms false
set_option pp.maxSteps 1500
namespace K00
open PySem PySem.Spec PyProof.Rows L2 HX TV FM DX FB FC
local macro_rules | `(tactic| walk_at "r") => `(tactic| (repeat (first | refine Exists.intro _ (And.intro rfl ?_) | refine And.intro rfl ?_ | refine Exists.intro _ (Exists.intro _ (And.intro rfl (And.intro rfl ?_))) | refine And.intro (by omega) ?_ | refine And.intro (Or.inl (And.intro (by omega) (by omega))) ?_ | refine And.intro (Or.inr (And.intro (by omega) (by omega))) ?_ | refine And.intro (And.intro (by omega) (by omega)) ?_ | refine And.intro (And.intro (by decide) (And.intro (by decide) (by decide))) ?_ | refine Or.inl (Exists.intro _ (And.intro rfl ?_)) | (dsimp only [gName]; first | with_reducible refine seqC ?_ | with_reducible refine asgC ?_))))
local macro_rules | `(tactic| walk_at "s") => `(tactic| (repeat (first | refine Exists.intro _ (And.intro rfl ?_) | refine And.intro rfl ?_ | refine Exists.intro _ (Exists.intro _ (And.intro rfl (And.intro rfl ?_))) | refine And.intro (by omega) ?_ | refine And.intro (Or.inl (And.intro (by omega) (by omega))) ?_ | refine And.intro (Or.inr (And.intro (by omega) (by omega))) ?_ | refine And.intro (And.intro (by omega) (by omega)) ?_ | refine And.intro (And.intro (by decide) (And.intro (by decide) (by decide))) ?_ | refine Or.inl (Exists.intro _ (And.intro rfl ?_)) | refine Exists.intro _ (Exists.intro _ (And.intro rfl ?_)) | (dsimp only [gName]; first | with_reducible refine seqC ?_ | with_reducible refine asgC ?_))))
section
variable {P : Program} {w : World} {K : PySem.W.Frag} {mg : Str → Option Value} {base : Heap}
/-- the form of the place that a code stands for -/
def sp_moved (K : PySem.W.Frag) : Sp := fun vs H Q _ => ∃ (c : Int) (l : Addr) (us : List V) (fs : List PyData) (m : Nat), vs = [.int c, .ref l] ∧ H l = some (.lst (us.take m)) ∧ m ≤ 4 ∧ Fields fs ∧ DpAll K H us fs ∧ CodeOk m c ∧
  ∀ (v : V) (d : PyData) H', Fm d → val d = Phi fs c → d.depth ≤ 4 → wt d ≤ cwt c → Dp K H' v d → Same H H' → Q v H'
theorem fields_get {fs : List PyData} (F : Fields fs) : ∀ i, i < 4 → (∃ f : Nat, fs[i]? = some (.int (f : Nat)) ∧ f < 2 ^ 64 ∧ Fi fs i = f ∧ (i = 0 → f = 0)) ∨ (1 ≤ i ∧ ∃ es, fs[i]? = some (.tuple es) ∧ Fm (.tuple es) ∧ (∀ t ∈ vals es, 150 ≤ t) ∧ 0 ≤ val (.tuple es) ∧ PyData.depthAll es ≤ 2 ∧ Fi fs i = (val (.tuple es)).toNat ∧ es.length ≤ 100 ∧ wtAll es ≤ 14) := by
  obtain ⟨f1, es2, es3, rfl, h1, h2, f2, f3, l2, l3, h3, h4, d2, d3, n2, n3, w2, w3⟩ := F.ex
  have : (0 : Int) < 2 ^ 140 := Int.pow_pos (by decide)
  intro i hi
  have : i = 0 ∨ i = 1 ∨ i = 2 ∨ i = 3 := by omega
  rcases this with rfl | rfl | rfl | rfl
  · refine .inl ⟨0, rfl, by decide, ?_, fun _ => rfl⟩
    show (val (.int 0)).toNat = 0
    rw [val_int]; rfl
  · refine .inl ⟨f1, rfl, h2, ?_, fun z => by omega⟩
    show (val (.int (f1 : Nat))).toNat = f1
    rw [val_int]; omega
  · exact .inr ⟨by decide, es2, rfl, f2, l2, by omega, by omega, rfl, n2, w2⟩
  · exact .inr ⟨by decide, es3, rfl, f3, l3, by omega, by omega, rfl, n3, w3⟩
theorem ok__law_moved (T : Top K mg) {k : Nat} : FnOk P w K mg base CX0 (k + 3) T.f__law_moved T.fd__law_moved ["_law_code_here", "_law_fields_here"]  (sp_moved K) := by
  have G__law_turns : FnOk P w K mg base CX0 (k + 1) T.f__law_turns T.fd__law_turns ["_law_number"]  (sp_turns K) := ok__law_turns T
  have G__law_form : FnOk P w K mg base CX0 (k + 2) T.f__law_form T.fd__law_form ["_law_number"]  (sp_form K) := ok__law_form T
  have G__law_row_form : FnOk P w K mg base CX0 (k + 2) T.f__law_row_form T.fd__law_row_form ["_law_places"]  (sp_row K) := ok__law_row_form T
  refine T.F__law_moved.ok sc__law_moved (fun vs H Q E h => ?_) (fun cdv A outer s H vs Q E hr h => ?_)
  · obtain ⟨c, l, us, fs, m, rfl, _⟩ := h
    rfl
  · obtain ⟨c, l, us, fs, m, rfl, hl, hm, F, hD, hC, q⟩ := h
    have hfl : fs.length = 4 := by
      obtain ⟨f1, es2, es3, rfl, _⟩ := F.ex
      rfl
    have hul := dpAll_len hD
    have hFA : FmAll fs := by
      obtain ⟨f1, es2, es3, rfl, h1, h2, f2, f3, _, _, h3, h4, _⟩ := F.ex
      have : (0 : Int) < 2 ^ 140 := Int.pow_pos (by decide)
      rw [fmAll_cons, fmAll_cons, fmAll_cons, fmAll_cons, fm_int, fm_int, val_int, val_int]
      exact ⟨by omega, by omega, by omega, by omega, f2, by omega, f3, by omega, fmAll_nil⟩
    have hrg := code_range hC
    refine ⟨_, (pss_cons (ps_set (i := 2) sc__law_moved.nd rfl (Or.inl rfl) (pe_lst pa_nil))
    (pss_cons (ps_for PassesOwn.never rfl (pi_list (pe_call G__law_turns (hr.mono (by omega)) (by rfl) T.g__law_turns T.F__law_turns.kp T.b__law_turns .nil pass0 (pa_cons (pv 0) pa_nil))) (pg_name (i := 3) sc__law_moved.nd rfl (Or.inl rfl))
      (pss_cons (ps_par (i := 4) (j := 5) rfl sc__law_moved.nd rfl rfl (by decide) rfl rfl (pa_cons (pe_ix ix_list (pv 1) (pe_op op_fdiv (pv 3) pe_int) (fun _ _ => rfl)) (pa_cons (pe_op op_sub (pv 3) (pe_op op_mul (pe_op op_fdiv (pv 3) pe_int) pe_int)) pa_nil)) rfl)
      (pss_one (ps_if (pt_val (pe_callB call_isi (by rfl) T.m_isinstance (by decide +kernel) (pa_cons (pv 4) (pa_cons (pe_bltn (v := .ty "int") (by rfl) T.m_int (by decide +kernel) rfl) pa_nil))) (fun _ => rfl))
        (pss_one (ps_expr (pe_bm PySem.F.plainAttrs_list PySem.F.slot_list_append PySem.F.type_list_append mt_append (pv 2) (pa_cons (pe_call G__law_form (hr.mono (by omega)) (by rfl) T.g__law_form T.F__law_form.kp T.b__law_form .nil pass0 (pa_cons (pe_op op_add (pv 4) (pv 5)) pa_nil)) pa_nil))))
        (pss_one (ps_expr (pe_bm PySem.F.plainAttrs_list PySem.F.slot_list_append PySem.F.type_list_append mt_append (pv 2) (pa_cons (pe_op op_catA (pe_callTy call_tuple_of (by rfl) T.m_tuple (by decide +kernel) (pa_cons (pe_call G__law_turns (hr.mono (by omega)) (by rfl) T.g__law_turns T.F__law_turns.kp T.b__law_turns .nil pass0 (pa_cons (pv 5) pa_nil)) pa_nil)) (pv 4)) pa_nil))))))))
    (pss_one (ps_ret (pe_call G__law_row_form (hr.mono (by omega)) (by rfl) T.g__law_row_form T.F__law_row_form.kp T.b__law_row_form .nil pass0 (pa_cons (pv 2) pa_nil)))))), ?_⟩
    refine ⟨Nat.zero_le _, fun o no => ?_⟩
    have s1 := sm_upd (o := .lst []) no
    refine ⟨_, rfl, c, 200 * m, rfl, by omega, hrg.1, hrg.2, fun ts lt H1 hA hts htk htl sm1 nlt hlt => ?_⟩
    have ets := turnsOf_is hA hts
    have hC2 := hC.2
    rw [ets] at hC2
    refine ⟨lt, rfl, ⟨_, .inl (.inl hlt)⟩, flL (xs := nv ts) (fun i σ H' => ∃ (z3 z4 z5 : Option V) (vs : List V) (ds : List PyData), σ = [some (.int c), some (.ref l), some (.ref o), z3, z4, z5] ∧ H' o = some (.lst vs) ∧ DpAll K H' vs ds ∧ FmAll ds ∧ vals ds = (ts.take i).map (phi fs) ∧ PyData.depthAll ds ≤ 3 ∧ wtAll ds ≤ ((ts.take i).map cw).sum ∧ Same H H' ∧ H' lt = some (.lst (nv ts)))
      ⟨none, none, none, [], [], rfl, sm1 _ _ upd_same, .nil, fmAll_nil, by simp [vals], by rw [depthAll_nil]; exact Nat.zero_le _, by rw [wtAll_nil]; exact Nat.zero_le _, s1.trans sm1, hlt⟩ ?_ ?_ ?_⟩
    · rintro i σ H' _ ⟨_, _, _, _, _, _, _, _, _, _, _, _, _, h⟩
      exact .inl (.inl h)
    · rintro i x σ H2 hx ⟨z3, z4, z5, vs, ds, rfl, ho, hds, hF, hv, hdep, hwt, sm2, hlt2⟩ D' B
      obtain ⟨t, ht, rfl⟩ := nv_get hx
      obtain ⟨ht1, ht2⟩ := hC2 t (List.mem_of_getElem? ht)
      have hi := (List.getElem?_eq_some_iff.mp ht).1
      have hD2 := dpAll_tk (tk_same sm2) hFA hD
      have hl2 := sm2 _ _ hl
      have etake : (ts.take (i + 1)).map (phi fs) = (ts.take i).map (phi fs) ++ [phi fs t] := by
        rw [List.take_add_one, ht]
        simp
      have ecw : ((ts.take (i + 1)).map cw).sum = ((ts.take i).map cw).sum + cw t := by
        rw [List.take_add_one, ht]
        simp
      have hdl : ds.length ≤ 900 := by
        rw [← vals_len, hv, List.length_map, List.length_take]
        omega
      have hvl := dpAll_len hds
      have hfi : t / 200 < 4 := by omega
      have hgu : (us.take m)[t / 200]? = some us[t / 200] := by
        rw [List.getElem?_take, if_pos ht1]
        exact List.getElem?_eq_getElem (by omega)
      obtain ⟨df, hdf, hDf⟩ := dpAll_get (i := t / 200) (v := us[t / 200]) hD2 (List.getElem?_eq_getElem (by omega))
      generalize us[t / 200] = uf at hgu hDf
      -- how the turn goes on
      have nxt : ∀ (v' : V) (d' : PyData) (H3 : Hp) (za zb zc : Option V), Fm d' → val d' = (phi fs t : Nat) → d'.depth ≤ 3 → wt d' ≤ cw t → Dp K H3 v' d' → Same H2 H3 →
          D'.nx [some (.int c), some (.ref l), some (.ref o), za, zb, zc] (upd H3 o (.lst (vs ++ [v']))) := fun v' d' H3 za zb zc f1 f2 f3 f5 f4 sm3 => by
        have ho3 := sm3 _ _ ho
        have hmu : Mut (H3 o) := by rw [ho3]; trivial
        have tk3 : Tk H3 (upd H3 o (.lst (vs ++ [v']))) := tk_mut hmu
        have hol : lt ≠ o := fun e => by
          subst e
          rw [upd_same] at nlt
          cases nlt
        refine B.nx _ _ ⟨za, zb, zc, vs ++ [v'], ds ++ [d'], rfl, upd_same, dpAll_app (dpAll_tk (tk_same sm3 |>.trans tk3) hF hds) (.cons (dp_tk tk3 f1 f4) .nil), ?_, ?_, ?_, by rw [wtAll_app, wtAll_cons, wtAll_nil, ecw]; omega, sm_mut (sm2.trans sm3) no, ?_⟩
        · rw [fmAll_app, fmAll_cons]
          exact ⟨hF, f1, by omega, fmAll_nil⟩
        · rw [vals_app, hv, etake, vals_cons, vals_nil, f2]
          rfl
        · refine depthAll_le.mpr fun d hd => ?_
          rcases List.mem_append.mp hd with hd | hd
          · exact depthAll_le.mp hdep d hd
          · simp at hd
            subst hd
            exact f3
        · rw [upd_ne hol]
          exact sm3 _ _ hlt2
      have hstep : (t : Int) - (t : Int) / 200 * 200 = ((t % 200 : Nat) : Int) := by omega
      walk_at "r"
      refine ⟨l, _, _, uf, rfl, rfl, .inl (.inl hl2), at_of (j := t / 200) (by omega) hgu, ?_⟩
      walk_at "r"
      refine ⟨_, _, rfl, ?_⟩
      simp only [hstep]
      rcases fields_get F (t / 200) hfi with ⟨f, hf, hf64, hFi, hf0⟩ | ⟨hi1, es, hes, hfm, hlow, h0, hde, hFi, hel, hew⟩
      · rw [hf] at hdf
        cases hdf
        cases hDf
        refine ⟨_, rfl, _, _, _, _, true, rfl, .ty "int", tyI _, k_ii, true, rfl, iteT ?_⟩
        refine ⟨_, rfl, .inl ⟨rfl, _, .inl (.inl ho)⟩, ?_⟩
        walk_at "r"
        have h66 : (2 : Int) ^ 66 = 73786976294838206464 := by decide
        refine ⟨_, 66, rfl, by decide, by omega, by omega, fun v' d' H3 f1 f2 f3 f5 f4 sm3 => ?_⟩
        refine ⟨o, _, _, rfl, rfl, sm3 _ _ ho, len_lt (by omega), ?_⟩
        refine nxt v' d' H3 _ _ _ f1 ?_ (by omega) (by
          by_cases h200 : t < 200
          · rw [near_int f1 (by omega) (by have := hf0 (by omega); omega)]
            unfold cw
            rw [if_pos h200]
            exact Nat.le_refl _
          · unfold cw
            rw [if_neg h200]
            exact near64 f1 (by omega) (by omega)) f4 sm3
        rw [f2]
        unfold phi
        rw [hFi]
        omega
      · rw [hes] at hdf
        cases hdf
        cases hDf with
        | @tup tf ws _ h1 h2 =>
          have hwl := dpAll_len h2
          refine ⟨_, rfl, _, _, _, _, false, rfl, .ty "int", tyT h1, k_ti, false, rfl, iteF ?_⟩
          refine ⟨_, rfl, .inl ⟨rfl, _, .inl (.inl ho)⟩, ?_⟩
          refine ⟨_, rfl, _, 7, rfl, by decide, by omega, by omega, fun us5 l5 H3 hA5 ht5 hk5 hn5 sm3 nl5 hl5 => ?_⟩
          obtain ⟨fm5, v5⟩ := place_far hfm hlow h0 hA5 ht5 fun x hx => by have := hk5 x hx; omega
          have v5' : val (.tuple (iD us5 ++ es)) = (phi fs t : Nat) := by
            rw [v5]
            unfold phi
            rw [hFi]
            omega
          have d5 : PyData.depth (.tuple (iD us5 ++ es)) ≤ 3 := by
            rw [depth_tuple]
            have : PyData.depthAll (iD us5 ++ es) ≤ 2 := depthAll_le.mpr fun d hd => by
              rcases List.mem_append.mp hd with hd | hd
              · have := depthAll_le.mp (Nat.le_of_eq (depthAll_iD us5)) d hd
                omega
              · exact depthAll_le.mp hde d hd
            omega
          have w5 : wt (.tuple (iD us5 ++ es)) ≤ cw t := by
            rw [wt_tuple, wtAll_app, wtAll_iD]
            unfold cw
            rw [if_neg (by omega)]
            omega
          refine ⟨l5, _, rfl, .inl ⟨.inl (.inl hl5), fun t5 nt5 => ?_⟩⟩
          have sm4 := sm3.trans (sm_upd (o := .tup (nv us5)) nt5)
          walk_at "r"
          refine ⟨t5, tf, _, ws, rfl, rfl, .inl (.inl upd_same), HX.Same.tup sm4 h1, ?_, (fun z => ?_), (fun _ z => ?_), (fun _ _ t6 nt6 => ?_)⟩
          · rw [nv_len]
            exact len_le (by omega)
          · have e5 : us5 = [] := by simpa [nv] using z
            subst e5
            refine ⟨o, _, _, rfl, rfl, sm4 _ _ ho, len_lt (by omega), ?_⟩
            refine nxt _ _ _ _ _ _ fm5 v5' d5 w5 ?_ sm4
            exact dp_tk (tk_same sm4) hfm (.tup h1 h2)
          · subst z
            have e6 : es = [] := by
              cases es with
              | nil => rfl
              | cons a b => simp at hwl
            subst e6
            have := ((fm_tuple _).mp hfm).2.2
            obtain ⟨x, hx, _⟩ := this
            rw [vals_nil] at hx
            simp at hx
          · have sm5 := sm4.trans (sm_upd (o := .tup (nv us5 ++ ws)) nt6)
            refine ⟨o, _, _, rfl, rfl, sm5 _ _ ho, len_lt (by omega), ?_⟩
            refine nxt _ _ _ _ _ _ fm5 v5' d5 w5 ?_ sm5
            exact .tup (.inl (.inl upd_same)) (dpAll_app (dp_nv us5) (dpAll_tk (tk_same sm5) ((fm_tuple _).mp hfm).1 h2))
    · rintro σ H2 ⟨z3, z4, z5, vs, ds, rfl, ho, hds, hF, hv, hdep, hwt, sm2, hlt2⟩
      rw [nv_len, List.take_length] at hv
      refine ⟨_, rfl, o, vs, ds, rfl, ho, hds, hF, ?_, by omega, ?_, fun v d H' f1 f2 f3 f5 f4 sm3 => ?_⟩
      · rw [hv, ← ets]
        exact phi_asc F hm hC
      · rw [← vals_len, hv, List.length_map]
        omega
      · rw [nv_len] at hwt
        rw [List.take_length] at hwt
        refine q v d H' f1 ?_ (by omega) (by unfold cwt; rw [ets]; omega) f4 (sm2.trans sm3)
        rw [f2, hv]
        unfold Phi
        rw [ets]
end
end K00
set_option Elab.async false
set_option linter.all false
set_option maxRecDepth 100000
set_option pp.deepTerms false
set_option pp.maxSteps 1500
namespace K00
open PySem PySem.Spec PyProof.Rows L2 HX TV FM DX FB FC FD
local macro_rules | `(tactic| walk_at "r") => `(tactic| (repeat (first | refine Exists.intro _ (And.intro rfl ?_) | refine And.intro rfl ?_ | refine Exists.intro _ (Exists.intro _ (And.intro rfl (And.intro rfl ?_))) | refine And.intro (by omega) ?_ | refine And.intro (Or.inl (And.intro (by omega) (by omega))) ?_ | refine And.intro (Or.inr (And.intro (by omega) (by omega))) ?_ | refine And.intro (And.intro (by omega) (by omega)) ?_ | refine And.intro (And.intro (by decide) (And.intro (by decide) (by decide))) ?_ | refine Or.inl (Exists.intro _ (And.intro rfl ?_)) | (dsimp only [gName]; first | with_reducible refine seqC ?_ | with_reducible refine asgC ?_))))
local macro_rules | `(tactic| walk_at "s") => `(tactic| (repeat (first | refine Exists.intro _ (And.intro rfl ?_) | refine And.intro rfl ?_ | refine Exists.intro _ (Exists.intro _ (And.intro rfl (And.intro rfl ?_))) | refine And.intro (by omega) ?_ | refine And.intro (Or.inl (And.intro (by omega) (by omega))) ?_ | refine And.intro (Or.inr (And.intro (by omega) (by omega))) ?_ | refine And.intro (And.intro (by omega) (by omega)) ?_ | refine And.intro (And.intro (by decide) (And.intro (by decide) (by decide))) ?_ | refine Or.inl (Exists.intro _ (And.intro rfl ?_)) | refine Exists.intro _ (Exists.intro _ (And.intro rfl ?_)) | (dsimp only [gName]; first | with_reducible refine seqC ?_ | with_reducible refine asgC ?_))))
section
variable {P : Program} {w : World} {K : PySem.W.Frag} {mg : Str → Option Value} {base : Heap}
theorem piece_lt {p s : Nat} (hp : p < 2 ^ 41) (hs : s < 15) : p * 2 ^ s < 2 ^ 56 := by
  have h1 : 2 ^ s ≤ 2 ^ 14 := Nat.pow_le_pow_right (by decide) (by omega)
  have h2 : p * 2 ^ s ≤ p * 2 ^ 14 := Nat.mul_le_mul_left _ h1
  omega
theorem shift_eq {p d s : Nat} {e : Int} (he : e = 200 * (d : Int) + s) : (p : Int) * (1 * 2 ^ e.toNat) = ((p * 2 ^ s : Nat) : Int) * 2 ^ (200 * d) := by
  have : e.toNat = s + 200 * d := by omega
  rw [this, Int.one_mul, Int.pow_add, ← Int.mul_assoc]
  simp
def sp_code (K : PySem.W.Frag) : Sp := fun vs H Q _ => ∃ (τ : Tp) (n m mm B : Nat) (kn : Addr) (cs : List Int), vs = [.ref τ.p, .int mm, .ref kn] ∧ 1 ≤ mm ∧ mm ≤ m ∧ m ≤ 4 ∧ n < 900000 ∧ Tape H τ n ∧ H kn = some (.lst (iv cs)) ∧ (∀ c ∈ cs, Dw m B 8 c) ∧ 2 ^ 60 ≤ B ∧ cs.length ≤ 1000 ∧
  ∀ (c : Int) H', Dw m (B + 4) 8 c → Tape H' τ (n + 12) → But τ.p H H' → Q (.int c) H'
theorem pieces_in {d : Nat} {v : V} (hd : d < 40) (h : v ∈ [V.int 1, .int 1, .int 3, .int 5, .int (1 * 2 ^ (1 + (d : Int)).toNat - 1)]) : ∃ p : Nat, v = .int (p : Nat) ∧ p < 2 ^ 41 ∧ Two p := by
  simp only [List.mem_cons, List.not_mem_nil, or_false] at h
  rcases h with rfl | rfl | rfl | rfl | rfl
  · exact ⟨1, rfl, by decide, 0, 0, 0, by decide, by decide⟩
  · exact ⟨1, rfl, by decide, 0, 0, 0, by decide, by decide⟩
  · exact ⟨3, rfl, by decide, 1, 0, 1, by decide, by decide⟩
  · exact ⟨5, rfl, by decide, 2, 0, 1, by decide, by decide⟩
  · have e : (1 + (d : Int)).toNat = 1 + d := by omega
    have hp : 0 < 2 ^ (1 + d) := Nat.pow_pos (by decide)
    have hl : 2 ^ (1 + d) ≤ 2 ^ 40 := Nat.pow_le_pow_right (by decide) (by omega)
    have e2 : ((2 ^ (1 + d) : Nat) : Int) = (2 : Int) ^ (1 + d) := by simp
    refine ⟨2 ^ (1 + d) - 1, ?_, by omega, 1 + d, 0, -1, by decide, ?_⟩
    · rw [e]
      congr 1
      omega
    · rw [Int.pow_zero]
      omega
theorem ok__law_code (T : Top K mg) {k : Nat} : FnOk P w K mg base CX0 (k + 3) T.f__law_code T.fd__law_code ["_law_tape", "_law_many", "_law_known"]  (sp_code K) := by
  have G__law_draw : FnOk P w K mg base CX0 (k + 1) T.f__law_draw T.fd__law_draw ["_law_tape", "_law_limit"]  sp_draw := ok__law_draw T
  have G__law_pick : FnOk P w K mg base CX0 (k + 2) T.f__law_pick T.fd__law_pick ["_law_tape", "_law_some"]  sp_pick := ok__law_pick T
  refine T.F__law_code.ok sc__law_code (fun vs H Q E h => ?_) (fun cdv A outer s H vs Q E hr h => ?_)
  · obtain ⟨τ, n, m, mm, B, kn, cs, rfl, _⟩ := h
    rfl
  · obtain ⟨τ, n, m, mm, B, kn, cs, rfl, hmm, hmm2, hm4, hn, hT, hk, hcs, hB, hcl, q⟩ := h
    refine ⟨_, (pss_cons (ps_if (PW.pt (pw_and (pt_cmpR (op_neD hr.units) (pv 2) (pe_lst pa_nil) (nomark _)) (pw_and1 (pt_cmpR op_eq (pe_call G__law_draw (hr.mono (by omega)) (by rfl) T.g__law_draw T.F__law_draw.kp T.b__law_draw .nil pass0 (pa_cons (pv 0) (pa_cons pe_int pa_nil))) pe_int (nomark _)))))
      (pss_one (ps_ret (pe_op op_add (pe_call G__law_pick (hr.mono (by omega)) (by rfl) T.g__law_pick T.F__law_pick.kp T.b__law_pick .nil pass0 (pa_cons (pv 0) (pa_cons (pv 2) pa_nil))) (pe_call G__law_draw (hr.mono (by omega)) (by rfl) T.g__law_draw T.F__law_draw.kp T.b__law_draw .nil pass0 (pa_cons (pv 0) (pa_cons pe_int pa_nil))))))
      pss_nil)
    (pss_cons (ps_set (i := 3) sc__law_code.nd rfl (Or.inl rfl) (pe_call G__law_draw (hr.mono (by omega)) (by rfl) T.g__law_draw T.F__law_draw.kp T.b__law_draw .nil pass0 (pa_cons (pv 0) (pa_cons pe_int pa_nil))))
    (pss_cons (ps_for PassesOwn.never rfl (pi_range1 (by rfl) T.m_range (pa_cons (pe_call G__law_draw (hr.mono (by omega)) (by rfl) T.g__law_draw T.F__law_draw.kp T.b__law_draw .nil pass0 (pa_cons (pv 0) (pa_cons pe_int pa_nil))) pa_nil)) (pg_name (i := 4) sc__law_code.nd rfl (Or.inl rfl))
      (pss_cons (ps_set (i := 5) sc__law_code.nd rfl (Or.inl rfl) (pe_call G__law_pick (hr.mono (by omega)) (by rfl) T.g__law_pick T.F__law_pick.kp T.b__law_pick .nil pass0 (pa_cons (pv 0) (pa_cons (pe_lst (pa_cons pe_int (pa_cons pe_int (pa_cons pe_int (pa_cons pe_int (pa_cons (pe_op op_sub (pe_op op_shl pe_int (pe_op op_add pe_int (pe_call G__law_draw (hr.mono (by omega)) (by rfl) T.g__law_draw T.F__law_draw.kp T.b__law_draw .nil pass0 (pa_cons (pv 0) (pa_cons pe_int pa_nil))))) pe_int) pa_nil)))))) pa_nil))))
      (pss_one (ps_set (i := 3) sc__law_code.nd rfl (Or.inl rfl) (pe_op op_add (pv 3) (pe_op op_mul (pv 5) (pe_op op_shl pe_int (pe_op op_add (pe_op op_mul pe_int (pe_call G__law_draw (hr.mono (by omega)) (by rfl) T.g__law_draw T.F__law_draw.kp T.b__law_draw .nil pass0 (pa_cons (pv 0) (pa_cons (pv 1) pa_nil)))) (pe_call G__law_draw (hr.mono (by omega)) (by rfl) T.g__law_draw T.F__law_draw.kp T.b__law_draw .nil pass0 (pa_cons (pv 0) (pa_cons pe_int pa_nil)))))))))))
    (pss_one (ps_ret (pv 3)))))), ?_⟩
    refine cut (fun σ' H' => σ' = [some (.ref τ.p), some (.int mm), some (.ref kn), none, none, none] ∧ Tape H' τ (n + 1) ∧ But τ.p H H') (fun D1 J1 => ?_) ?_
    · refine ⟨_, rfl, Nat.zero_le _, fun e ne => ?_⟩
      have s1 := sm_upd (o := .lst []) ne
      refine ⟨_, _, .lst (.inl (.inl (s1 _ _ hk))) (dp_ints cs), .lst (.inl (.inl upd_same)) .nil, shaped_ints cs, shaped_ints [], _, rfl, ?_⟩
      rw [eqv_nil]
      have hk1 := s1 _ _ hk
      have hT1 := hT.up s1
      have b1 : But τ.p H (upd H e (.lst [])) := But.of s1
      revert hk1 hT1 b1
      generalize upd H e (.lst []) = H1
      intro hk1 hT1 b1
      refine ite2 (fun hc => ?_) (fun hc => iteF ?_)
      · have hne : cs ≠ [] := by
          rintro rfl
          simp at hc
        have hlen : 1 ≤ cs.length := List.length_pos_iff.mpr hne
        walk_at "r"
        refine ⟨τ, n, 3, rfl, by decide, by decide, by omega, hT1, fun d2 H2 hd2 hd2' hT2 b2 => ?_⟩
        have hk2 := b2 _ _ (hT1.ne hk1) hk1
        replace b2 := b1.trans b2
        walk_at "r"
        refine ifE (fun _ => ?_) (fun _ => ?_)
        · walk_at "r"
          refine ⟨τ, kn, n + 1, _, rfl, by omega, hT2, hk2, by simpa [iv] using hlen, by simp [iv]; omega, fun v H3 hv hT3 b3 => ?_⟩
          obtain ⟨c, hc1, rfl⟩ := List.mem_map.mp hv
          replace b3 := b2.trans b3
          walk_at "r"
          refine ⟨τ, n + 2, 4, rfl, by decide, by decide, by omega, hT3, fun d4 H4 hd4 hd4' hT4 b4 => ?_⟩
          obtain ⟨x4, rfl, hx4⟩ := nat_of (n := 4) hd4 hd4'
          walk_at "r"
          have hg := (hcs c hc1).add (y := x4) (Y := 4) hx4
          exact J1.rt _ _ (q _ _ hg (hT4.le (by omega)) (b3.trans b4))
        · exact J1.nx _ _ ⟨rfl, hT2, b2⟩
      · exact J1.nx _ _ ⟨rfl, hT1.le (by omega), b1⟩
    · rintro σ' H1 ⟨rfl, hT1, b1⟩
      walk_at "r"
      refine ⟨τ, n + 1, 70, rfl, by decide, by decide, by omega, hT1, fun d2 H2 hd2 hd2' hT2 b2 => ?_⟩
      obtain ⟨x2, rfl, hx2⟩ := nat_of (n := 70) hd2 hd2'
      replace b2 := b1.trans b2
      walk_at "r"
      refine ⟨τ, n + 2, 3, rfl, by decide, by decide, by omega, hT2, fun d3 H3 hd3 hd3' hT3 b3 => ?_⟩
      obtain ⟨x3, rfl, hx3⟩ := nat_of (n := 3) hd3 hd3'
      replace b3 := b2.trans b3
      walk_at "r"
      have hx2g : Dw m 100 0 (x2 : Int) := Dw.nat (by omega) (by omega)
      refine flR (fun i σ H' => ∃ (c : Int) (z4 z5 : Option V), σ = [some (.ref τ.p), some (.int mm), some (.ref kn), some (.int c), z4, z5] ∧ Dw m (100 + i * 2 ^ 56) (4 * i) c ∧ Tape H' τ (n + 3 + 4 * i) ∧ But τ.p H H')
        ⟨x2, none, none, rfl, by simpa using hx2g, hT3, b3⟩ ?_ ?_
      · rintro i σ H4 hi ⟨c, z4, z5, rfl, hc, hT4, b4⟩ D' Bd'
        have hi2 : i < 3 := by omega
        walk_at "r"
        refine ⟨τ, n + 3 + 4 * i, 40, rfl, by decide, by decide, by omega, hT4, fun d5 H5 hd5 hd5' hT5 b5 => ?_⟩
        obtain ⟨x5, rfl, hx5⟩ := nat_of (n := 40) hd5 hd5'
        replace b5 := b4.trans b5
        walk_at "r"
        refine ⟨by show 5 ≤ sizeLine; decide, fun l6 nl6 => ?_⟩
        have s6 := sm_upd (o := .lst [.int 1, .int 1, .int 3, .int 5, .int (1 * 2 ^ (1 + (x5 : Int)).toNat - 1)]) nl6
        refine ⟨τ, l6, n + 3 + 4 * i + 1, _, rfl, by omega, hT5.up s6, upd_same, by show 1 ≤ 5; decide, by show 5 ≤ 100000; decide, fun v H7 hv hT7 b7 => ?_⟩
        obtain ⟨pc, rfl, hpc, htw⟩ := pieces_in hx5 hv
        replace b7 := (b5.trans (But.of s6)).trans b7
        walk_at "r"
        refine ⟨τ, n + 3 + 4 * i + 2, mm, rfl, by omega, by omega, by omega, hT7, fun d8 H8 hd8 hd8' hT8 b8 => ?_⟩
        obtain ⟨x8, rfl, hx8⟩ := nat_of (n := mm) hd8 hd8'
        replace b8 := b7.trans b8
        walk_at "r"
        refine ⟨τ, n + 3 + 4 * i + 3, 15, rfl, by decide, by decide, by omega, hT8, fun d9 H9 hd9 hd9' hT9 b9 => ?_⟩
        obtain ⟨x9, rfl, hx9⟩ := nat_of (n := 15) hd9 hd9'
        replace b9 := b8.trans b9
        walk_at "r"
        refine Bd'.nx _ _ ⟨c + ((pc * 2 ^ x9 : Nat) : Int) * 2 ^ (200 * x8), some (.int (0 + (i : Nat))), some (.int (pc : Nat)), ?_, ?_, hT9.le (by omega), b9⟩
        rotate_left
        · by_cases h8 : x8 = 0
          · have := (hc.add (y := pc * 2 ^ x9) (Y := 2 ^ 56) (piece_lt hpc hx9)).mono (B' := 100 + (i + 1) * 2 ^ 56) (w' := 4 * (i + 1)) (by omega) (by omega)
            rw [h8, Nat.mul_zero, Int.pow_zero, Int.mul_one]
            exact this
          · exact (hc.far (d := x8) (y := pc * 2 ^ x9) (Y := 2 ^ 56) (by omega) (by omega) (piece_lt hpc hx9) (htw.shl x9)).mono (by omega) (by omega)
        · rw [← shift_eq (e := 200 * (x8 : Int) + x9) rfl]
          rfl
      · rintro σ H4 ⟨c, z4, z5, rfl, hc, hT4, b4⟩
        walk_at "r"
        exact q c H4 (hc.mono (by omega) (by omega)) (hT4.le (by omega)) b4
/-- ascending codes -/
def sp_codes (K : PySem.W.Frag) : Sp := fun vs H Q _ => ∃ (τ : Tp) (n m mm B ct : Nat) (kv : V) (cs : List Int), vs = [.ref τ.p, .int mm, .int ct, kv] ∧ 1 ≤ mm ∧ mm ≤ m ∧ m ≤ 4 ∧ n < 800000 ∧ ct ≤ 30 ∧ Tape H τ n ∧ (kv = .non ∧ cs = [] ∨ ∃ kn, kv = .ref kn ∧ H kn = some (.lst (iv cs))) ∧ (∀ c ∈ cs, Dw m B 8 c) ∧ 2 ^ 60 ≤ B ∧ cs.length ≤ 900 ∧
  ∀ (l : Addr) (ds : List Int) H', ds.Pairwise (· < ·) → (∀ c ∈ ds, Dw m (B + 4 * ct) 8 c) → ds.length ≤ ct → H l = none → H' l = some (.lst (iv ds)) → Tape H' τ (n + 12 * ct) → But τ.p H H' → Q (.ref l) H'
theorem ok__law_codes (T : Top K mg) {k : Nat} : FnOk P w K mg base CX0 (k + 4) T.f__law_codes T.fd__law_codes ["_law_tape", "_law_many", "_law_count", "_law_known"]  (sp_codes K) := by
  have G__law_code : FnOk P w K mg base CX0 (k + 3) T.f__law_code T.fd__law_code ["_law_tape", "_law_many", "_law_known"]  (sp_code K) := ok__law_code T
  refine funD_ok0 T.F__law_codes sc__law_codes (fun vs H Q E h => ?_) (fun cdv A outer s H vs Q E hr h => ?_)
  · obtain ⟨τ, n, m, mm, B, ct, kv, cs, rfl, _⟩ := h
    rfl
  · obtain ⟨τ, n, m, mm, B, ct, kv, cs, rfl, hmm, hmm2, hm4, hn, hct, hT, hk, hcs, hB, hcl, q⟩ := h
    refine ⟨_, (pss_cons (ps_set (i := 4) sc__law_codes.nd rfl (Or.inl rfl) (pe_lst pa_nil))
    (pss_cons (ps_for PassesOwn.never rfl (pi_range1 (by rfl) T.m_range (pa_cons (pv 2) pa_nil)) (pg_name (i := 5) sc__law_codes.nd rfl (Or.inl rfl))
      (pss_cons (ps_set (i := 6) sc__law_codes.nd rfl (Or.inl rfl) (pe_call G__law_code (hr.mono (by omega)) (by rfl) T.g__law_code T.F__law_code.kp T.b__law_code .nil pass0 (pa_cons (pv 0) (pa_cons (pv 1) (pa_cons (pe_op op_cat (pe_orT (pv 3) (pe_one (pe_lst pa_nil))) (pv 4)) pa_nil)))))
      (pss_one (ps_if (pt_cmpR op_notIn_seq (pv 6) (pv 4) rfl)
        (pss_one (ps_expr (pe_bm PySem.F.plainAttrs_list PySem.F.slot_list_append PySem.F.type_list_append mt_append (pv 4) (pa_cons (pv 6) pa_nil))))
        pss_nil))))
    (pss_one (ps_ret (pe_callB cr_sorted (by rfl) T.m_sorted (by decide +kernel) (pa_cons (pe_lc (own := [("_law_code_here", 6)]) (g := gName 6) (by rfl) sc__law_codes.nd (pi_list (pv 4)) (blkOk_by (own := [("_law_code_here", 6)]) (N := ["_law_tape", "_law_many", "_law_count", "_law_known", "_law_found", "_law_k", "_law_code_here"]) (sc := defScope s__law_codes) (by decide +kernel)) (fun _ _ _ _ _ => (pg_name (i := 6) sc__law_codes.nd rfl (Or.inl rfl))) (fun _ _ _ _ _ => pts_nil) (fun _ _ _ _ _ => (pe_callTy (T := "int") call_int1 (by rfl) T.m_int (by decide +kernel) (pa_cons (pv 6) pa_nil)))) pa_nil)))))), ?_⟩
    refine ⟨Nat.zero_le _, fun o no => ?_⟩
    have hoe := hT.new no
    have s1 := sm_upd (o := .lst []) no
    walk_at "r"
    have hco : ∀ xs : List V, H o = none := fun _ => no
    refine flR (fun i σ H' => ∃ (z5 z6 : Option V) (ds : List Int), σ = [some (.ref τ.p), some (.int mm), some (.int ct), some kv, some (.ref o), z5, z6] ∧ H' o = some (.lst (iv ds)) ∧ ds.Nodup ∧ (∀ c ∈ ds, Dw m (B + 4 * i) 8 c) ∧ ds.length ≤ i ∧ Tape H' τ (n + 12 * i) ∧ But τ.p H H')
      ⟨none, none, [], rfl, upd_same, List.nodup_nil, by simp, Nat.le_refl _, hT.up s1, But.of s1⟩ ?_ ?_
    · rintro i σ H2 hi ⟨z5, z6, ds, rfl, ho, hnd, hds, hdl, hT2, b2⟩ D' Bd'
      have hi2 : i < ct := by omega
      -- what is known, and the list found
      have goon : ∀ (a b : Addr) (H3 : Hp), H3 a = some (.lst (iv cs)) → H3 b = some (.lst (iv ds)) → Tape H3 τ (n + 12 * i) → But τ.p H H3 → H3 o = some (.lst (iv ds)) → ∀ (tail : V → Hp → Prop),
          (∀ (c : Int) (H4 : Hp), Dw m (B + 4 * i + 4) 8 c → Tape H4 τ (n + 12 * i + 12) → But τ.p H H4 → H4 o = some (.lst (iv ds)) → tail (.int c) H4) →
          rCat (.ref a) (.ref b) H3 (fun v H4 => sp_code K [.ref τ.p, .int mm, v] H4 tail E0) := fun a b H3 ha hb hT3 b3 ho3 tail ht => by
        refine ⟨a, b, _, _, rfl, rfl, ha, hb, ?_, fun l nl => ?_⟩
        · simp [iv]
          exact len_le (by omega)
        have s4 := sm_upd (o := .lst (iv cs ++ iv ds)) nl
        refine ⟨τ, n + 12 * i, m, mm, B + 4 * i, l, cs ++ ds, rfl, hmm, hmm2, hm4, by omega, hT3.up s4, by rw [upd_same]; simp [iv], fun c hc => ?_, by omega, by simp; omega, fun c H5 hc hT5 b5 => ?_⟩
        · rcases List.mem_append.mp hc with hc | hc
          · exact (hcs c hc).mono (by omega) (Nat.le_refl _)
          · exact hds c hc
        · exact ht c H5 hc hT5 ((b3.trans (But.of s4)).trans b5) (b5 _ _ hoe.1 (s4 _ _ ho3))
      dsimp only [gName]
      refine cut (fun σ' H' => ∃ c : Int, σ' = [some (.ref τ.p), some (.int mm), some (.int ct), some kv, some (.ref o), some (.int (0 + (i : Nat))), some (.int c)] ∧ Dw m (B + 4 * i + 4) 8 c ∧ Tape H' τ (n + 12 * i + 12) ∧ But τ.p H H' ∧ H' o = some (.lst (iv ds))) (fun D1 J1 => ?_) ?_
      · have empty : cs = [] → ∀ (tail : V → Hp → Prop), (∀ (c : Int) (H4 : Hp), Dw m (B + 4 * i + 4) 8 c → Tape H4 τ (n + 12 * i + 12) → But τ.p H H4 → H4 o = some (.lst (iv ds)) → tail (.int c) H4) →
            ∀ e, H2 e = none → rCat (.ref e) (.ref o) (upd H2 e (.lst [])) (fun v H4 => sp_code K [.ref τ.p, .int mm, v] H4 tail E0) := fun ec tail ht e ne => by
          have s3 := sm_upd (o := .lst []) ne
          exact goon e o _ (by rw [upd_same, ec]; rfl) (s3 _ _ ho) (hT2.up s3) (b2.trans (But.of s3)) (s3 _ _ ho) tail ht
        have fin : ∀ (c : Int) (H4 : Hp), Dw m (B + 4 * i + 4) 8 c → Tape H4 τ (n + 12 * i + 12) → But τ.p H H4 → H4 o = some (.lst (iv ds)) →
            D1.nx [some (.ref τ.p), some (.int mm), some (.int ct), some kv, some (.ref o), some (.int (0 + (i : Nat))), some (.int c)] H4 := fun c H4 h1 h2 h3 h4 => J1.nx _ _ ⟨c, rfl, h1, h2, h3, h4⟩
        walk_at "r"
        rcases hk with ⟨rfl, ec⟩ | ⟨kn, rfl, hkn⟩
        · refine ⟨false, rfl, iteF ⟨Nat.zero_le _, fun e ne => ⟨_, rfl, empty ec (fun x H1 => D1.nx [some (.ref τ.p), some (.int mm), some (.int ct), some (.non), some (.ref o), some (.int (0 + (i : Nat))), some x] H1) fin e ne⟩⟩⟩
        · have hk2 := b2 _ _ (hT.ne hkn) hkn
          by_cases ec : cs = []
          · refine ⟨false, .inl ⟨_, .inl (.inl hk2), by rw [ec]; rfl⟩, iteF ⟨Nat.zero_le _, fun e ne => ⟨_, rfl, empty ec (fun x H1 => D1.nx [some (.ref τ.p), some (.int mm), some (.int ct), some (.ref kn), some (.ref o), some (.int (0 + (i : Nat))), some x] H1) fin e ne⟩⟩⟩
          · refine ⟨true, .inl ⟨_, .inl (.inl hk2), ?_⟩, iteT ⟨_, rfl, goon kn o H2 hk2 ho hT2 b2 ho (fun x H1 => D1.nx [some (.ref τ.p), some (.int mm), some (.int ct), some (.ref kn), some (.ref o), some (.int (0 + (i : Nat))), some x] H1) fin⟩⟩
            cases cs with
            | nil => exact absurd rfl ec
            | cons a r => rfl
      · rintro σ' H3 ⟨c, rfl, hc, hT3, b3, ho3⟩
        refine ⟨_, rfl, _, rfl, o, _, rfl, .inl (.inl (.inl ho3)), rfl, flat_iv ds, _, rfl, ?_⟩
        rw [inV_int]
        refine ifN (fun hnc => ?_) (fun hcc => ?_)
        · refine ⟨_, rfl, .inl ⟨rfl, _, .inl (.inl ho3)⟩, ?_⟩
          walk_at "r"
          refine ⟨o, _, _, rfl, rfl, ho3, ?_, ?_⟩
          · simp [iv]
            exact len_lt (by omega)
          refine Bd'.nx _ _ ⟨_, _, ds ++ [c], rfl, ?_, ?_, fun c' hc' => ?_, by simp; omega, (hT3.set hoe).le (by omega), but_new b3 no⟩
          · rw [upd_same]
            simp [iv]
          · rw [List.nodup_append]
            refine ⟨hnd, by simp, fun a ha b hb e => ?_⟩
            simp at hb
            subst hb e
            exact hnc ha
          · rcases List.mem_append.mp hc' with h | h
            · exact (hds c' h).mono (by omega) (Nat.le_refl _)
            · simp at h
              subst h
              exact hc.mono (by omega) (Nat.le_refl _)
        · exact Bd'.nx _ _ ⟨_, _, ds, rfl, ho3, hnd, fun c' hc' => (hds c' hc').mono (by omega) (Nat.le_refl _), by omega, hT3.le (by omega), b3⟩
    · rintro σ H2 ⟨z5, z6, ds, rfl, ho, hnd, hds, hdl, hT2, b2⟩
      have ect : ((ct : Int)).toNat = ct := by omega
      rw [ect] at hds hdl hT2
      refine ⟨_, rfl, o, rfl, ⟨_, .inl (.inl ho)⟩, fun D nD => lc_list (xs := iv ds) (fun i H' => Same H2 H' ∧ H' D = some (.lst (iv (ds.take i)))) ⟨sm_upd nD, by rw [upd_same]; rfl⟩ ?_ ?_ ?_⟩
      · rintro i H' _ ⟨sm, _⟩
        exact .inl (.inl (sm _ _ ho))
      · rintro i x H' hx ⟨sm, eD⟩
        have hx' : (iv ds)[i]? = some x := hx
        unfold iv at hx'
        rw [List.getElem?_map] at hx'
        cases e : ds[i]? with
        | none => rw [e] at hx'; cases hx'
        | some c =>
          rw [e] at hx'
          cases hx'
          refine ⟨rfl, ?_⟩
          walk_at "r"
          refine ⟨_, eD, ?_, sm_mut sm nD, ?_⟩
          · simp [iv]
            exact len_lt (by omega)
          · rw [upd_same, List.take_add_one, e]
            simp [iv]
      · rintro H3 ⟨sm3, eD⟩
        have el : ds.take (iv ds).length = ds := List.take_of_length_le (by simp [iv])
        rw [el] at eD
        refine ⟨D, ds, rfl, .inl (.inl eD), by omega, fun ds' l hperm hsort nl => ?_⟩
        have nD0 : H D = none := by
          have := hT2.new nD
          cases e : H D with
          | none => rfl
          | some u =>
            rw [b2 D u this.1 e] at nD
            cases nD
        have hle := (hT2.up sm3).new nl
        refine q l ds' _ ?_ (fun c hc => hds c (hperm.mem_iff.mp hc)) (by rw [hperm.length_eq]; exact hdl) ?_ upd_same ((hT2.up sm3).up (sm_upd nl)) ((b2.trans (But.of sm3)).trans (But.of (sm_upd nl)))
        · have hnd' : ds'.Nodup := hperm.nodup_iff.mpr hnd
          have := hsort.and hnd'
          exact this.imp fun h => by omega
        · cases e : H l with
          | none => rfl
          | some u =>
            rw [sm3 _ _ (b2 l u hle.1 e)] at nl
            cases nl
end
end K00
set_option Elab.async false
set_option linter.all false
set_option maxRecDepth 100000
set_option pp.deepTerms false
set_option pp.maxSteps 1500
namespace K00
open PySem PySem.Spec PyProof.Rows L2 HX TV FM DX FB FC FD
local macro_rules | `(tactic| walk_at "r") => `(tactic| (repeat (first | refine Exists.intro _ (And.intro rfl ?_) | refine And.intro rfl ?_ | refine Exists.intro _ (Exists.intro _ (And.intro rfl (And.intro rfl ?_))) | refine And.intro (by omega) ?_ | refine And.intro (Or.inl (And.intro (by omega) (by omega))) ?_ | refine And.intro (Or.inr (And.intro (by omega) (by omega))) ?_ | refine And.intro (And.intro (by omega) (by omega)) ?_ | refine And.intro (And.intro (by decide) (And.intro (by decide) (by decide))) ?_ | refine Or.inl (Exists.intro _ (And.intro rfl ?_)) | (dsimp only [gName]; first | with_reducible refine seqC ?_ | with_reducible refine asgC ?_))))
local macro_rules | `(tactic| walk_at "s") => `(tactic| (repeat (first | refine Exists.intro _ (And.intro rfl ?_) | refine And.intro rfl ?_ | refine Exists.intro _ (Exists.intro _ (And.intro rfl (And.intro rfl ?_))) | refine And.intro (by omega) ?_ | refine And.intro (Or.inl (And.intro (by omega) (by omega))) ?_ | refine And.intro (Or.inr (And.intro (by omega) (by omega))) ?_ | refine And.intro (And.intro (by omega) (by omega)) ?_ | refine And.intro (And.intro (by decide) (And.intro (by decide) (by decide))) ?_ | refine Or.inl (Exists.intro _ (And.intro rfl ?_)) | refine Exists.intro _ (Exists.intro _ (And.intro rfl ?_)) | (dsimp only [gName]; first | with_reducible refine seqC ?_ | with_reducible refine asgC ?_))))
section
variable {P : Program} {w : World} {K : PySem.W.Frag} {mg : Str → Option Value} {base : Heap}
def sp_foc (K : PySem.W.Frag) : Sp := fun vs H Q _ => ∃ (lc l : Addr) (cs : List Int) (us : List V) (fs : List PyData) (m : Nat), vs = [.ref lc, .ref l] ∧ H lc = some (.lst (iv cs)) ∧ H l = some (.lst (us.take m)) ∧ m ≤ 4 ∧ Fields fs ∧ DpAll K H us fs ∧ cs.Pairwise (· < ·) ∧ (∀ c ∈ cs, CodeOk m c) ∧ cs.length ≤ 100000 ∧
  ∀ (v : V) (d : PyData) H', Fm d → val d = tv (Phis fs cs) → d.depth ≤ 5 → wt d ≤ (cs.map cwt).sum + 1 → Dp K H' v d → Same H H' → Q v H'
theorem fields_fm {fs : List PyData} (F : Fields fs) : FmAll fs := by
  obtain ⟨f1, es2, es3, rfl, h1, h2, f2, f3, _, _, h3, h4, _⟩ := F.ex
  have : (0 : Int) < 2 ^ 140 := Int.pow_pos (by decide)
  rw [fmAll_cons, fmAll_cons, fmAll_cons, fmAll_cons, fm_int, fm_int, val_int, val_int]
  exact ⟨by omega, by omega, by omega, by omega, f2, by omega, f3, by omega, fmAll_nil⟩
theorem ok__law_form_of_codes (T : Top K mg) {k : Nat} : FnOk P w K mg base CX0 (k + 4) T.f__law_form_of_codes T.fd__law_form_of_codes ["_law_codes_here", "_law_fields_here"]  (sp_foc K) := by
  have G__law_moved : FnOk P w K mg base CX0 (k + 3) T.f__law_moved T.fd__law_moved ["_law_code_here", "_law_fields_here"]  (sp_moved K) := ok__law_moved T
  have G__law_row_form : FnOk P w K mg base CX0 (k + 2) T.f__law_row_form T.fd__law_row_form ["_law_places"]  (sp_row K) := ok__law_row_form T
  refine T.F__law_form_of_codes.ok sc__law_form_of_codes (fun vs H Q E h => ?_) (fun cdv A outer s H vs Q E hr h => ?_)
  · obtain ⟨lc, l, cs, us, fs, m, rfl, _⟩ := h
    rfl
  · obtain ⟨lc, l, cs, us, fs, m, rfl, hlc, hl, hm, F, hD, hpw, hC, hcl, q⟩ := h
    have hFA := fields_fm F
    refine ⟨_, (pss_one (ps_ret (pe_call G__law_row_form (hr.mono (by omega)) (by rfl) T.g__law_row_form T.F__law_row_form.kp T.b__law_row_form .nil pass0 (pa_cons (pe_lc (own := [("_law_code_here", 2)]) (g := gName 2) (by rfl) sc__law_form_of_codes.nd (pi_list (pv 0)) (blkOk_by (own := [("_law_code_here", 2)]) (N := ["_law_codes_here", "_law_fields_here", "_law_code_here"]) (sc := defScope s__law_form_of_codes) (by decide +kernel)) (fun _ _ _ _ _ => (pg_name (i := 2) sc__law_form_of_codes.nd rfl (Or.inl rfl))) (fun _ _ _ _ _ => pts_nil) (fun _ _ _ _ _ => (pe_call G__law_moved (hr.mono (by omega)) (by rfl) T.g__law_moved T.F__law_moved.kp T.b__law_moved .nil pass0 (pa_cons (pv 2) (pa_cons (pv 1) pa_nil))))) pa_nil)))), ?_⟩
    refine ⟨_, rfl, lc, rfl, ⟨_, .inl (.inl hlc)⟩, fun D nD => lc_list (xs := iv cs) (fun i H' => ∃ (vs : List V) (ds : List PyData), Same H H' ∧ H' D = some (.lst vs) ∧ DpAll K H' vs ds ∧ FmAll ds ∧ vals ds = Phis fs (cs.take i) ∧ PyData.depthAll ds ≤ 4 ∧ wtAll ds ≤ ((cs.take i).map cwt).sum) ⟨[], [], sm_upd nD, upd_same, .nil, fmAll_nil, by simp [vals, Phis], by rw [depthAll_nil]; exact Nat.zero_le _, by rw [wtAll_nil]; exact Nat.zero_le _⟩ ?_ ?_ ?_⟩
    · rintro i H' _ ⟨_, _, sm, _⟩
      exact .inl (.inl (sm _ _ hlc))
    · rintro i x H2 hx ⟨vs, ds, sm, eD, hds, hF, hv, hdep, hwt⟩
      obtain ⟨c, hc, rfl⟩ := iv_get hx
      have hcC := hC c (List.mem_of_getElem? hc)
      have hdl : ds.length ≤ 100000 := by
        rw [← vals_len, hv]
        simp [Phis]
        omega
      have hvl := dpAll_len hds
      have ecw : ((cs.take (i + 1)).map cwt).sum = ((cs.take i).map cwt).sum + cwt c := by
        rw [List.take_add_one, hc, Option.toList_some, List.map_append, List.sum_append, List.map_cons, List.map_nil, List.sum_cons, List.sum_nil]
        omega
      refine ⟨rfl, ?_⟩
      walk_at "r"
      refine ⟨c, l, us, fs, m, rfl, sm _ _ hl, hm, F, dpAll_tk (tk_same sm) hFA hD, hcC, fun v d H3 f1 f2 f3 f5 f4 sm3 => ?_⟩
      have eD3 := sm3 _ _ eD
      have hmu : Mut (H3 D) := by rw [eD3]; trivial
      have tk3 : Tk H3 (upd H3 D (.lst (vs ++ [v]))) := tk_mut hmu
      refine ⟨vs, eD3, len_lt (by omega), vs ++ [v], ds ++ [d], sm_mut (sm.trans sm3) nD, upd_same, dpAll_app (dpAll_tk ((tk_same sm3).trans tk3) hF hds) (.cons (dp_tk tk3 f1 f4) .nil), ?_, ?_, ?_, by rw [wtAll_app, wtAll_cons, wtAll_nil, ecw]; omega⟩
      · rw [fmAll_app, fmAll_cons, f2]
        exact ⟨hF, f1, Phi_nonneg F hm hcC, fmAll_nil⟩
      · rw [vals_app, hv, vals_cons, vals_nil, f2, List.take_add_one, hc]
        simp [Phis]
      · refine depthAll_le.mpr fun e he => ?_
        rcases List.mem_append.mp he with he | he
        · exact depthAll_le.mp hdep e he
        · simp at he
          subst he
          exact f3
    · rintro H2 ⟨vs, ds, sm, eD, hds, hF, hv, hdep, hwt⟩
      rw [List.take_of_length_le (by simp [iv])] at hv
      refine ⟨D, vs, ds, rfl, eD, hds, hF, ?_, by omega, ?_, fun v d H' f1 f2 f3 f5 f4 sm3 => ?_⟩
      · rw [hv]
        exact Phis_asc F hm hpw hC
      · rw [← vals_len, hv]
        simp [Phis]
        omega
      · have el : (iv cs).length = cs.length := by simp [iv]
        rw [el, List.take_length] at hwt
        exact q v d H' f1 (by rw [f2, hv]) (by omega) (by omega) f4 (sm.trans sm3)
end
end K00
set_option Elab.async false
set_option linter.all false
set_option maxRecDepth 100000
set_option pp.deepTerms false
set_option pp.maxSteps 1500
namespace K00
open PySem PySem.Spec PyProof.Rows L2 HX TV FM DX FB FC PM
local macro_rules | `(tactic| walk_at "r") => `(tactic| (repeat (first | refine Exists.intro _ (And.intro rfl ?_) | refine And.intro rfl ?_ | refine Exists.intro _ (Exists.intro _ (And.intro rfl (And.intro rfl ?_))) | refine And.intro (by omega) ?_ | refine And.intro (Or.inl (And.intro (by omega) (by omega))) ?_ | refine And.intro (Or.inr (And.intro (by omega) (by omega))) ?_ | refine And.intro (And.intro (by omega) (by omega)) ?_ | refine And.intro (And.intro (by decide) (And.intro (by decide) (by decide))) ?_ | refine Or.inl (Exists.intro _ (And.intro rfl ?_)) | (dsimp only [gName]; first | with_reducible refine seqC ?_ | with_reducible refine asgC ?_))))
local macro_rules | `(tactic| walk_at "s") => `(tactic| (repeat (first | refine Exists.intro _ (And.intro rfl ?_) | refine And.intro rfl ?_ | refine Exists.intro _ (Exists.intro _ (And.intro rfl (And.intro rfl ?_))) | refine And.intro (by omega) ?_ | refine And.intro (Or.inl (And.intro (by omega) (by omega))) ?_ | refine And.intro (Or.inr (And.intro (by omega) (by omega))) ?_ | refine And.intro (And.intro (by omega) (by omega)) ?_ | refine And.intro (And.intro (by decide) (And.intro (by decide) (by decide))) ?_ | refine Or.inl (Exists.intro _ (And.intro rfl ?_)) | refine Exists.intro _ (Exists.intro _ (And.intro rfl ?_)) | (dsimp only [gName]; first | with_reducible refine seqC ?_ | with_reducible refine asgC ?_))))
section
variable {P : Program} {w : World} {K : PySem.W.Frag} {mg : Str → Option Value} {base : Heap}
def sp_size (K : PySem.W.Frag) (n : Nat) : Sp := fun vs H Q _ => ∃ (v : V) (d : PyData), vs = [v] ∧ Dp K H v d ∧ Fm d ∧ d.depth ≤ n ∧ wt d ≤ 12000000 ∧ ∀ H', Same H H' → Q (.int (wt d : Nat)) H'
def sp_height (K : PySem.W.Frag) (n : Nat) : Sp := fun vs H Q _ => ∃ (v : V) (d : PyData), vs = [v] ∧ Dp K H v d ∧ Fm d ∧ d.depth ≤ n ∧ wt d ≤ 12000000 ∧ ∀ H', Same H H' → Q (.int (d.depth : Nat)) H'
theorem sum_nat : ∀ l : List Nat, (l.map fun n => ((n : Nat) : Int)).sum = ((l.sum : Nat) : Int)
  | [] => rfl
  | a :: r => by
    rw [List.map_cons, List.sum_cons, sum_nat r, List.sum_cons]
    omega
theorem wtAll_sum : ∀ ds : List PyData, wtAll ds = (ds.map wt).sum
  | [] => by simp [wtAll]
  | d :: r => by rw [wtAll_cons, wtAll_sum r, List.map_cons, List.sum_cons]
/-- reading a list of sizes -/
theorem nvn (l : List Nat) : nv l = (l.map fun n => ((n : Nat) : Int)).map V.int := by
  unfold nv
  rw [List.map_map]
  rfl
theorem ok__law_size (T : Top K mg) : ∀ n, FnOk P w K mg base CX0 (n + 1) T.f__law_size T.fd__law_size ["_law_form_here"]  (sp_size K n) := by
  intro n
  induction n with
  | zero =>
    refine T.F__law_size.ok sc__law_size (fun vs H Q E h => ?_) (fun cdv A outer s H vs Q E hr h => ?_)
    · obtain ⟨v, d, rfl, _⟩ := h
      rfl
    · obtain ⟨v, d, rfl, hD, hF, hd, hw, q⟩ := h
      refine ⟨_, (pss_one (ps_ret (pe_ifExp (pt_val (pe_callB call_isi (by rfl) T.m_isinstance (by decide +kernel) (pa_cons (pv 0) (pa_cons (pe_bltn (v := .ty "int") (by rfl) T.m_int (by decide +kernel) rfl) pa_nil))) (fun _ => rfl)) pe_int pe_never))), ?_⟩
      rcases fm_cases hF with ⟨i, rfl⟩ | ⟨ds, rfl⟩
      · cases hD
        refine ⟨_, rfl, _, _, _, _, true, rfl, .ty "int", tyI _, k_ii, true, rfl, iteT ?_⟩
        have := q H (Same.refl _)
        rw [wt_int] at this
        exact this
      · rw [depth_tuple] at hd
        omega
  | succ n ih =>
    have G__law_size : FnOk P w K mg base CX0 (n + 1) T.f__law_size T.fd__law_size ["_law_form_here"]  (sp_size K n) := ih
    refine T.F__law_size.ok sc__law_size (fun vs H Q E h => ?_) (fun cdv A outer s H vs Q E hr h => ?_)
    · obtain ⟨v, d, rfl, _⟩ := h
      rfl
    · obtain ⟨v, d, rfl, hD, hF, hd, hw, q⟩ := h
      refine ⟨_, (pss_one (ps_ret (pe_ifExp (pt_val (pe_callB call_isi (by rfl) T.m_isinstance (by decide +kernel) (pa_cons (pv 0) (pa_cons (pe_bltn (v := .ty "int") (by rfl) T.m_int (by decide +kernel) rfl) pa_nil))) (fun _ => rfl)) pe_int (pe_op op_add pe_int (pe_callB (cr_sum rfl) (by rfl) T.m_sum (by decide +kernel) (pa_cons (pe_lc (own := [("_law_one", 1)]) (g := gName 1) (by rfl) sc__law_size.nd (pi_tup (pv 0)) (blkOk_by (own := [("_law_one", 1)]) (N := ["_law_form_here", "_law_one"]) (sc := defScope s__law_size) (by decide +kernel)) (fun _ _ _ _ _ => (pg_name (i := 1) sc__law_size.nd rfl (Or.inl rfl))) (fun _ _ _ _ _ => pts_nil) (fun _ _ _ _ _ => (pe_call G__law_size (hr.mono (by omega)) (by rfl) T.g__law_size T.F__law_size.kp T.b__law_size .nil pass0 (pa_cons (pv 1) pa_nil)))) pa_nil)))))), ?_⟩
      rcases fm_cases hF with ⟨i, rfl⟩ | ⟨ds, rfl⟩
      · cases hD
        refine ⟨_, rfl, _, _, _, _, true, rfl, .ty "int", tyI _, k_ii, true, rfl, iteT ?_⟩
        have := q H (Same.refl _)
        rw [wt_int] at this
        exact this
      · have hFa := ((fm_tuple _).mp hF).1
        rw [depth_tuple] at hd
        cases hD with
        | @tup a xs _ h1 h2 =>
          have hlx := dpAll_len h2
          refine ⟨_, rfl, _, _, _, _, false, rfl, .ty "int", tyT h1, k_ti, false, rfl, iteF ?_⟩
          refine ⟨_, rfl, a, rfl, ⟨_, h1⟩, fun D nD => lc_tup (xs := xs) (fun i H' => Same H H' ∧ H' D = some (.lst (nv ((ds.take i).map wt)))) ⟨sm_upd nD, by rw [upd_same]; rfl⟩ ?_ ?_ ?_⟩
          · rintro i H' _ ⟨sm, _⟩
            exact HX.Same.tup sm h1
          · rintro i x H' hx ⟨sm, eD⟩
            obtain ⟨e, he, hDe⟩ := dpAll_get h2 hx
            have hFe := (fmAll_mem hFa e (List.mem_of_getElem? he)).1
            have hi := (List.getElem?_eq_some_iff.mp hx).1
            refine ⟨rfl, ?_⟩
            have hwe := wt_mem (List.mem_of_getElem? he)
            have hll := len_wt ds
            rw [wt_tuple] at hw
            refine ⟨_, rfl, x, e, rfl, dp_tk (tk_same sm) hFe hDe, hFe, ?_, by omega, fun H2 sm2 => ?_⟩
            · have := depthAll_le.mp (Nat.le_refl _) e (List.mem_of_getElem? he)
              omega
            refine ⟨_, sm2 _ _ eD, ?_, sm_mut (sm.trans sm2) nD, ?_⟩
            · rw [nv_len]
              simp
              exact len_lt (by omega)
            · rw [upd_same, List.take_add_one, he, ← nv_app]
              simp
          · rintro H2 ⟨sm, eD⟩
            rw [hlx, List.take_length, nvn] at eD
            refine ⟨D, _, rfl, .inl (.inl eD), ?_⟩
            walk_at "r"
            rw [sum_nat, ← wtAll_sum]
            have := q H2 sm
            rw [wt_tuple] at this
            show Q (.int ((1 : Int) + ((wtAll ds : Nat) : Int))) H2
            rw [show (1 : Int) + ((wtAll ds : Nat) : Int) = ((1 + wtAll ds : Nat) : Int) by omega]
            exact this
end
end K00
set_option Elab.async false
set_option linter.all false
set_option maxRecDepth 100000
set_option pp.deepTerms false
set_option pp.maxSteps 1500
set_option maxHeartbeats 1000000
/-! whether one place is less than another one -/
namespace K00
open PySem PySem.Spec PyProof.Rows L2 HX TV FM DX FB FC PM
local macro_rules | `(tactic| walk_at "r") => `(tactic| (repeat (first | refine Exists.intro _ (And.intro rfl ?_) | refine And.intro rfl ?_ | refine Exists.intro _ (Exists.intro _ (And.intro rfl (And.intro rfl ?_))) | refine And.intro (by omega) ?_ | refine And.intro (Or.inl (And.intro (by omega) (by omega))) ?_ | refine And.intro (Or.inr (And.intro (by omega) (by omega))) ?_ | refine And.intro (And.intro (by omega) (by omega)) ?_ | refine And.intro (And.intro (by decide) (And.intro (by decide) (by decide))) ?_ | refine Or.inl (Exists.intro _ (And.intro rfl ?_)) | (dsimp only [gName]; first | with_reducible refine seqC ?_ | with_reducible refine asgC ?_))))
local macro_rules | `(tactic| walk_at "s") => `(tactic| (repeat (first | refine Exists.intro _ (And.intro rfl ?_) | refine And.intro rfl ?_ | refine Exists.intro _ (Exists.intro _ (And.intro rfl (And.intro rfl ?_))) | refine And.intro (by omega) ?_ | refine And.intro (Or.inl (And.intro (by omega) (by omega))) ?_ | refine And.intro (Or.inr (And.intro (by omega) (by omega))) ?_ | refine And.intro (And.intro (by omega) (by omega)) ?_ | refine And.intro (And.intro (by decide) (And.intro (by decide) (by decide))) ?_ | refine Or.inl (Exists.intro _ (And.intro rfl ?_)) | refine Exists.intro _ (Exists.intro _ (And.intro rfl ?_)) | (dsimp only [gName]; first | with_reducible refine seqC ?_ | with_reducible refine asgC ?_))))
section
variable {P : Program} {w : World} {K : PySem.W.Frag} {mg : Str → Option Value} {base : Heap}
def sp_before (K : PySem.W.Frag) (n : Nat) : Sp := fun vs H Q _ => ∃ (x y : V) (d e : PyData), vs = [x, y] ∧ Dp K H x d ∧ Dp K H y e ∧ Fm d ∧ Fm e ∧ 0 ≤ val d ∧ 0 ≤ val e ∧ td d ≤ n ∧ td e ≤ n ∧ ∀ H', Same H H' → Q (.bl (decide (val d < val e))) H'
theorem fm_int_of {d : PyData} (f : Fm d) (h : isId d = true) : ∃ i, d = .int i := by
  rcases fm_cases f with ⟨i, rfl⟩ | ⟨ds, rfl⟩
  · exact ⟨i, rfl⟩
  · cases h
mutual
theorem dz_of_dp {H : Hp} : ∀ {v : V} {d : PyData}, Dp K H v d → Fm d → Dz K H v d
  | _, _, .non, f => by simp [Fm] at f
  | _, _, .bl b, f => by simp [Fm] at f
  | _, _, .int i, _ => .int i
  | _, _, .str x, f => by simp [Fm] at f
  | _, _, .lst _ _, f => by simp [Fm] at f
  | _, _, .tup h t, f => .tup h (dzAll_of_dp t ((fm_tuple _).mp f).1)
theorem dzAll_of_dp {H : Hp} : ∀ {xs : List V} {ds : List PyData}, DpAll K H xs ds → FmAll ds → DzAll K H xs ds
  | _, _, .nil, _ => .nil
  | _, _, .cons h t, f => .cons (dz_of_dp h ((fmAll_cons _ _).mp f).1) (dzAll_of_dp t ((fmAll_cons _ _).mp f).2.2)
end
/-- the row of turns of a number -/
structure RowD (n : Nat) (d : PyData) (ds : List PyData) : Prop where
  fm : FmAll ds
  asc : Asc (vals ds)
  tv : tv (vals ds) = val d
  dep : ∀ x ∈ ds, td x ≤ n
  ev : ds.length % 2 = 0
theorem even_len {ts : List Nat} (h : Asc ts) (h0 : 0 ≤ tv ts) : ts.length % 2 = 0 := by
  rcases List.eq_nil_or_concat ts with rfl | ⟨r, a, rfl⟩
  · rfl
  · have h' : Asc (r ++ [a]) := by simpa using h
    have h0' : 0 ≤ tv (r ++ [a]) := by simpa using h0
    have := (tv_sign h').1
    simp
    omega
theorem dp_same {H H' : Hp} (e : Same H H') {v : V} {d : PyData} (h : Dp K H v d) (f : Fm d) : Dp K H' v d := (Dz.same e (dz_of_dp h f)).dp f
theorem dpAll_same {H H' : Hp} (e : Same H H') {vs : List V} {ds : List PyData} (h : DpAll K H vs ds) (f : FmAll ds) : DpAll K H' vs ds := (DzAll.same e (dzAll_of_dp h f)).dp f
theorem row_tup {n : Nat} {es : List PyData} (f : Fm (.tuple es)) (h0 : 0 ≤ val (.tuple es)) (hd : td (.tuple es) ≤ n + 1) : RowD n (.tuple es) es := by
  obtain ⟨f1, f2, _⟩ := (fm_tuple es).mp f
  rw [val_tuple] at h0
  have ht : td (.tuple es) = tdAll es + 1 := by simp [td]
  exact ⟨f1, f2, (val_tuple es).symm, fun x hx => by have := tdAll_mem hx; omega, by rw [← vals_len]; exact even_len f2 h0⟩
theorem row_int {H : Hp} (n : Nat) {ts : List Nat} {i : Int} (ha : Asc ts) (htv : tv ts = i) (hle : ∀ t ∈ ts, t ≤ 64) (h0 : 0 ≤ i) : RowD n (.int i) (ts.map fun t => PyData.int (t : Nat)) ∧ DpAll K H (nv ts) (ts.map fun t => PyData.int (t : Nat)) := by
  have hv : ∀ ts : List Nat, vals (ts.map fun t => PyData.int (t : Nat)) = ts := fun ts => by
    induction ts with
    | nil => exact vals_nil
    | cons t r ih =>
      rw [List.map_cons, vals_cons, ih, val_int, Int.toNat_natCast]
  have hf : ∀ ts : List Nat, (∀ t ∈ ts, t ≤ 64) → FmAll (ts.map fun t => PyData.int (t : Nat)) := fun ts => by
    induction ts with
    | nil => exact fun _ => fmAll_nil
    | cons t r ih =>
      intro h
      have := h t (by simp)
      rw [List.map_cons, fmAll_cons, fm_int, val_int]
      exact ⟨⟨by omega, by omega⟩, Int.natCast_nonneg _, ih fun x hx => h x (List.mem_cons_of_mem _ hx)⟩
  have hp : ∀ ts : List Nat, DpAll K H (nv ts) (ts.map fun t => PyData.int (t : Nat)) := fun ts => by
    induction ts with
    | nil => exact .nil
    | cons t r ih => exact .cons (.int _) ih
  refine ⟨⟨hf ts hle, by rw [hv]; exact ha, by rw [hv, val_int]; exact htv, fun x hx => ?_, ?_⟩, hp ts⟩
  · obtain ⟨t, _, rfl⟩ := List.mem_map.mp hx
    simp [td]
  · rw [List.length_map]
    exact even_len ha (by rw [htv]; exact h0)
theorem dpAll_take {H : Hp} : ∀ {vs : List V} {ds : List PyData} {k : Nat}, DpAll K H vs ds → DpAll K H (vs.take k) (ds.take k)
  | _, _, 0, _ => .nil
  | _, _, k + 1, .nil => .nil
  | _, _, k + 1, .cons h t => .cons h (dpAll_take (k := k) t)
theorem dep_take {n k : Nat} {d : PyData} {ds : List PyData} (h : RowD n d ds) : ∀ x ∈ ds.take k, td x ≤ n := fun x hx => h.dep x (List.mem_of_mem_take hx)
theorem shaped_row {ds : List PyData} (f : FmAll ds) {n : Nat} (hd : ∀ x ∈ ds, td x ≤ n) (hn : n ≤ 20) : SeqAt.shaped (.list ds) = true := by
  refine shaped_fms f ?_
  rw [depthAll_le]
  intro d hd2
  rw [depth_td (fmAll_mem f d hd2).1]
  exact Nat.le_trans (hd d hd2) (by omega)
theorem drop_one {α : Type} {ds : List α} {c : Nat} {p : α} (h : ds[ds.length - 1 - c]? = some p) (hc : c < ds.length) : ds.drop (ds.length - (c + 1)) = p :: ds.drop (ds.length - c) := by
  have hi : ds.length - 1 - c < ds.length := by omega
  rw [show ds.length - (c + 1) = ds.length - 1 - c by omega, List.drop_eq_getElem_cons hi, show ds.length - 1 - c + 1 = ds.length - c by omega]
  rw [List.getElem?_eq_getElem hi] at h
  rw [Option.some.inj h]
theorem take_last {α : Type} {us : List α} {c : Nat} {u : α} (h : us[us.length - 1 - c]? = some u) (hc : c < us.length) : (us.take (us.length - c))[(us.take (us.length - c)).length - 1]? = some u := by
  rw [List.length_take, Nat.min_eq_left (by omega), List.getElem?_take, if_pos (by omega), ← h]
  congr 1
  omega
theorem take_pop {α : Type} {us : List α} {c : Nat} (hc : c < us.length) : (us.take (us.length - c)).dropLast = us.take (us.length - (c + 1)) := by
  rw [List.dropLast_eq_take, List.length_take, Nat.min_eq_left (by omega), List.take_take]
  congr 1
  omega
theorem dpAll_at {H : Hp} : ∀ {vs : List V} {ds : List PyData}, DpAll K H vs ds → ∀ {i : Nat} {d : PyData}, ds[i]? = some d → ∃ v, vs[i]? = some v ∧ Dp K H v d
  | _, _, .cons h _, 0, d, e => by
    cases e
    exact ⟨_, rfl, h⟩
  | _, _, .cons _ t, i + 1, d, e => dpAll_at t (i := i) e
theorem ne_nilL {H : Hp} {a u : Addr} {ds : List PyData} {n : Nat} {Q : V → Hp → Prop} (h : Dp K H (.ref a) (.list ds)) (f : FmAll ds) (hd : ∀ x ∈ ds, td x ≤ n) (g : H u = some (.lst [])) (q : Q (.bl (!decide (ds = []))) H) (hn : n ≤ 20 := by omega) : rNeD K (.ref a) (.ref u) H Q := by
  refine ⟨_, _, h, .lst (.inl (.inl g)) .nil, shaped_row f hd hn, shaped_row fmAll_nil (n := 0) (fun _ z => nomatch z) (by decide), ?_⟩
  have e : PyData.eqv (.list ds) (.list []) = decide (ds = []) := by
    cases ds with
    | nil => rfl
    | cons x r => simp [PyData.eqv, PyData.eqvAll]
  rw [e]
  exact q
theorem eq_nilL {H : Hp} {a u : Addr} {ds : List PyData} {n : Nat} {Q : V → Hp → Prop} (h : Dp K H (.ref a) (.list ds)) (f : FmAll ds) (hd : ∀ x ∈ ds, td x ≤ n) (g : H u = some (.lst [])) (q : Q (.bl (decide (ds = []))) H) (hn : n ≤ 20 := by omega) : rEqD K (.ref a) (.ref u) H Q := by
  refine ⟨_, _, h, .lst (.inl (.inl g)) .nil, shaped_row f hd hn, shaped_row fmAll_nil (n := 0) (fun _ z => nomatch z) (by decide), ?_⟩
  have e : PyData.eqv (.list ds) (.list []) = decide (ds = []) := by
    cases ds with
    | nil => rfl
    | cons x r => simp [PyData.eqv, PyData.eqvAll]
  rw [e]
  exact q
theorem before_step (T : Top K mg) (n : Nat) (hn : n ≤ 7) (G__law_before : FnOk P w K mg base CX0 (n + 4) T.f__law_before T.fd__law_before ["_law_one", "_law_other"]  (fun vs H Q E => ∃ m, n = m + 1 ∧ sp_before K m vs H Q E)) : FnOk P w K mg base CX0 (n + 5) T.f__law_before T.fd__law_before ["_law_one", "_law_other"]  (sp_before K n) := by
  have G__law_turns : FnOk P w K mg base CX0 (1) T.f__law_turns T.fd__law_turns ["_law_number"]  (sp_turns K) := ok__law_turns T
  refine T.F__law_before.ok sc__law_before (fun vs H Q E h => ?_) (fun cdv A outer s H vs Q E hr h => ?_)
  · obtain ⟨x, y, d, e, rfl, _⟩ := h
    rfl
  · obtain ⟨x, y, d, e, rfl, hx, hy, fd, fe, d0, e0, hd, he, q⟩ := h
    refine ⟨_, (pss_cons (ps_if (PW.pt (pw_and (pt_val (pe_callB call_isi (by rfl) T.m_isinstance (by decide +kernel) (pa_cons (pv 0) (pa_cons (pe_bltn (v := .ty "int") (by rfl) T.m_int (by decide +kernel) rfl) pa_nil))) (fun _ => rfl)) (pw_and1 (pt_val (pe_callB call_isi (by rfl) T.m_isinstance (by decide +kernel) (pa_cons (pv 1) (pa_cons (pe_bltn (v := .ty "int") (by rfl) T.m_int (by decide +kernel) rfl) pa_nil))) (fun _ => rfl)))))
      (pss_one (ps_ret (pe_cmpR op_lt (pv 0) (pv 1) (nomark _))))
      pss_nil)
    (pss_cons (ps_set (i := 2) sc__law_before.nd rfl (Or.inl rfl) (pe_ifExp (pt_val (pe_callB call_isi (by rfl) T.m_isinstance (by decide +kernel) (pa_cons (pv 0) (pa_cons (pe_bltn (v := .ty "tuple") (by rfl) T.m_tuple (by decide +kernel) rfl) pa_nil))) (fun _ => rfl)) (pe_callTy call_list_of (by rfl) T.m_list (by decide +kernel) (pa_cons (pv 0) pa_nil)) (pe_call G__law_turns (hr.mono (by omega)) (by rfl) T.g__law_turns T.F__law_turns.kp T.b__law_turns .nil pass0 (pa_cons (pv 0) pa_nil))))
    (pss_cons (ps_set (i := 3) sc__law_before.nd rfl (Or.inl rfl) (pe_ifExp (pt_val (pe_callB call_isi (by rfl) T.m_isinstance (by decide +kernel) (pa_cons (pv 1) (pa_cons (pe_bltn (v := .ty "tuple") (by rfl) T.m_tuple (by decide +kernel) rfl) pa_nil))) (fun _ => rfl)) (pe_callTy call_list_of (by rfl) T.m_list (by decide +kernel) (pa_cons (pv 1) pa_nil)) (pe_call G__law_turns (hr.mono (by omega)) (by rfl) T.g__law_turns T.F__law_turns.kp T.b__law_turns .nil pass0 (pa_cons (pv 1) pa_nil))))
    (pss_cons (ps_set (i := 4) sc__law_before.nd rfl (Or.inl rfl) pe_bl)
    (pss_cons (ps_while PassesOwn.never (PW.pt (pw_and (pt_cmpR (op_neD hr.units) (pv 2) (pe_lst pa_nil) (nomark _)) (pw_and (pt_cmpR (op_neD hr.units) (pv 3) (pe_lst pa_nil) (nomark _)) (pw_and1 (pt_cmpR (op_eqD hr.units) (pe_ix ix_list (pv 2) (pe_un un_neg pe_int) (fun _ _ => rfl)) (pe_ix ix_list (pv 3) (pe_un un_neg pe_int) (fun _ _ => rfl)) (nomark _))))))
      (pss_cons (ps_expr (pe_bm0 PySem.F.plainAttrs_list PySem.F.slot_list_pop PySem.F.type_list_pop mt_pop (pv 2)))
      (pss_cons (ps_expr (pe_bm0 PySem.F.plainAttrs_list PySem.F.slot_list_pop PySem.F.type_list_pop mt_pop (pv 3)))
      (pss_one (ps_set (i := 4) sc__law_before.nd rfl (Or.inl rfl) (pe_not (pv 4)))))))
    (pss_cons (ps_if (PW.pt (pw_or (pt_cmpR (op_eqD hr.units) (pv 2) (pe_lst pa_nil) (nomark _)) (pw_or1 (pt_cmpR (op_eqD hr.units) (pv 3) (pe_lst pa_nil) (nomark _)))))
      (pss_one (ps_ret (pe_or (pe_and (pv 4) (pe_one (pe_cmpR (op_neD hr.units) (pv 3) (pe_lst pa_nil) (nomark _)))) (pe_one (pe_and (pe_not (pv 4)) (pe_one (pe_cmpR (op_neD hr.units) (pv 2) (pe_lst pa_nil) (nomark _))))))))
      pss_nil)
    (pss_one (ps_ret (pe_cmpR op_eq (pe_callB HX.call_repr_bl (by rfl) T.m_repr (by decide +kernel) (pa_cons (pe_call G__law_before (hr.mono (by omega)) (by rfl) T.g__law_before T.F__law_before.kp T.b__law_before .nil pass0 (pa_cons (pe_ix ix_list (pv 2) (pe_un un_neg pe_int) (fun _ _ => rfl)) (pa_cons (pe_ix ix_list (pv 3) (pe_un un_neg pe_int) (fun _ _ => rfl)) pa_nil))) pa_nil)) (pe_callB HX.call_repr_bl (by rfl) T.m_repr (by decide +kernel) (pa_cons (pv 4) pa_nil)) (nomark _)))))))))), ?_⟩
    by_cases hii : isId d = true ∧ isId e = true
    · obtain ⟨i, rfl⟩ := fm_int_of fd hii.1
      obtain ⟨j, rfl⟩ := fm_int_of fe hii.2
      cases hx
      cases hy
      refine ⟨_, rfl, ?_⟩
      dsimp only [tCons, tC, tNil]
      refine isi_int (b := true) rfl ⟨_, rfl, iteT ?_⟩
      refine ⟨_, rfl, ?_⟩
      dsimp only [tCons, tC, tNil]
      refine isi_int (b := true) rfl ⟨_, rfl, iteT ?_⟩
      rw [val_int, val_int] at q
      exact ⟨_, rfl, _, rfl, _, _, rfl, rfl, q H (Same.refl _)⟩
    have hn1 : 1 ≤ n := by
      rcases fm_cases fd with ⟨i, rfl⟩ | ⟨ds, rfl⟩
      · rcases fm_cases fe with ⟨j, rfl⟩ | ⟨es, rfl⟩
        · exact absurd ⟨rfl, rfl⟩ hii
        · have : td (.tuple es) = tdAll es + 1 := by simp [td]
          omega
      · have : td (.tuple ds) = tdAll ds + 1 := by simp [td]
        omega
    obtain ⟨n', rfl⟩ : ∃ k, n = k + 1 := ⟨n - 1, by omega⟩
    refine cut (fun σ H' => σ = [some x, some y, none, none, none] ∧ H = H') (fun J0 J => ?_) ?_
    · have dx := dz_of_dp hx fd
      have dy := dz_of_dp hy fe
      refine ⟨_, rfl, ?_⟩
      dsimp only [tCons, tC, tNil]
      refine dx.isI ⟨_, rfl, ?_⟩
      cases h1 : isId d with
      | false => exact iteF (J.nx _ _ ⟨rfl, rfl⟩)
      | true =>
        refine iteT ⟨_, rfl, ?_⟩
        dsimp only [tCons, tC, tNil]
        refine dy.isI ⟨_, rfl, ?_⟩
        rw [show isId e = false by cases h2 : isId e with
          | false => rfl
          | true => exact absurd ⟨h1, h2⟩ hii]
        exact iteF (J.nx _ _ ⟨rfl, rfl⟩)
    rintro σ H' ⟨rfl, rfl⟩
    refine cut (fun σ H' => ∃ (lm : Addr) (us : List V) (ds : List PyData), σ = [some x, some y, some (.ref lm), none, none] ∧ H' lm = some (.lst us) ∧ H lm = none ∧ DpAll K H us ds ∧ RowD n' d ds ∧ Same H H') (fun J0 J => ?_) ?_
    · skip
      have zz := hx
      refine ⟨_, rfl, ?_⟩
      dsimp only [tCons, tC, tNil]
      rcases fm_cases fd with ⟨i, rfl⟩ | ⟨es, rfl⟩
      · cases zz
        obtain ⟨g1, g2⟩ := (fm_int i).mp fd
        refine isi_int (b := false) rfl ⟨_, rfl, iteF ?_⟩
        refine ⟨_, rfl, i, 64, rfl, by decide, g1, g2, fun ts l H2 ha htv hle hlen s2 nl hl => ?_⟩
        obtain ⟨r1, r2⟩ := row_int (K := K) (H := H) n' ha htv hle (by rw [val_int] at d0; exact d0)
        exact J.nx _ _ ⟨l, nv ts, _, rfl, hl, nl, r2, r1, s2⟩
      · cases zz with
        | tup hs hall =>
          refine isi_tup (b := true) hs rfl ⟨_, rfl, iteT ?_⟩
          refine ⟨_, rfl, _, _, rfl, .inr hs, fun l nl => ?_⟩
          exact J.nx _ _ ⟨l, _, es, rfl, upd_same, nl, hall, row_tup fd d0 hd, sm_upd nl⟩
    rintro σ H1 ⟨lm, us, ds, rfl, hlm, nlm, hus, hrd, s1⟩
    refine cut (fun σ H' => ∃ (ly : Addr) (ws : List V) (es : List PyData), σ = [some x, some y, some (.ref lm), some (.ref ly), none] ∧ H' ly = some (.lst ws) ∧ H1 ly = none ∧ DpAll K H ws es ∧ RowD n' e es ∧ Same H1 H') (fun J0 J => ?_) ?_
    · skip
      have zz := hy
      refine ⟨_, rfl, ?_⟩
      dsimp only [tCons, tC, tNil]
      rcases fm_cases fe with ⟨i, rfl⟩ | ⟨es, rfl⟩
      · cases zz
        obtain ⟨g1, g2⟩ := (fm_int i).mp fe
        refine isi_int (b := false) rfl ⟨_, rfl, iteF ?_⟩
        refine ⟨_, rfl, i, 64, rfl, by decide, g1, g2, fun ts l H2 ha htv hle hlen s2 nl hl => ?_⟩
        obtain ⟨r1, r2⟩ := row_int (K := K) (H := H) n' ha htv hle (by rw [val_int] at e0; exact e0)
        exact J.nx _ _ ⟨l, nv ts, _, rfl, hl, nl, r2, r1, s2⟩
      · cases zz with
        | tup hs hall =>
          refine isi_tup (b := true) (sqT_keep s1 hs) rfl ⟨_, rfl, iteT ?_⟩
          refine ⟨_, rfl, _, _, rfl, .inr (sqT_keep s1 hs), fun l nl => ?_⟩
          exact J.nx _ _ ⟨l, _, es, rfl, upd_same, nl, hall, row_tup fe e0 he, sm_upd nl⟩
    rintro σ H2 ⟨ly, ws, es, rfl, hly, nly, hws, hre, s12⟩
    refine cut (fun σ H' => σ = [some x, some y, some (.ref lm), some (.ref ly), some (.bl true)] ∧ H2 = H') (fun J0 J => J.nx _ _ ⟨rfl, rfl⟩) ?_
    rintro σ H' ⟨rfl, rfl⟩
    have hlm2 := s12 _ _ hlm
    have hne : lm ≠ ly := fun z => by rw [z, nly] at hlm; cases hlm
    have hlu := dpAll_len hus
    have hlw := dpAll_len hws
    have keepG : ∀ {G : Hp}, (∀ b o, b ≠ lm → b ≠ ly → H2 b = some o → G b = some o) → Same H G := fun {G} hk b o z => by
      refine hk b o (fun e => ?_) (fun e => ?_) (s12 _ _ (s1 _ _ z))
      · rw [e, nlm] at z
        cases z
      · have := s1 _ _ z
        rw [e, nly] at this
        cases this
    refine cut (fun σ H' => ∃ c : Nat, σ = [some x, some y, some (.ref lm), some (.ref ly), some (.bl (decide (c % 2 = 0)))] ∧ c ≤ ds.length ∧ c ≤ es.length ∧ ds.drop (ds.length - c) = es.drop (es.length - c) ∧ (∀ p q, ds[ds.length - 1 - c]? = some p → es[es.length - 1 - c]? = some q → c < ds.length → c < es.length → p ≠ q) ∧ H' lm = some (.lst (us.take (us.length - c))) ∧ H' ly = some (.lst (ws.take (ws.length - c))) ∧ Same H H' ∧ (∀ b o, b ≠ lm → b ≠ ly → H2 b = some o → H' b = some o)) (fun J0 J => ?_) ?_
    · refine ⟨fun mm σ H' => ∃ c : Nat, mm = ds.length - c ∧ σ = [some x, some y, some (.ref lm), some (.ref ly), some (.bl (decide (c % 2 = 0)))] ∧ c ≤ ds.length ∧ c ≤ es.length ∧ ds.drop (ds.length - c) = es.drop (es.length - c) ∧ H' lm = some (.lst (us.take (us.length - c))) ∧ H' ly = some (.lst (ws.take (ws.length - c))) ∧ (∀ b o, b ≠ lm → b ≠ ly → H2 b = some o → H' b = some o), ⟨ds.length, 0, by omega, rfl, Nat.zero_le _, Nat.zero_le _, by simp, by rw [Nat.sub_zero, List.take_length]; exact hlm2, by rw [Nat.sub_zero, List.take_length]; exact hly, fun b o _ _ z => z⟩, ?_⟩
      rintro mm σ G ⟨c, rfl, rfl, hc1, hc2, hsuf, gm, gy, hk⟩
      have sG := keepG hk
      have fin : (∀ p q, ds[ds.length - 1 - c]? = some p → es[es.length - 1 - c]? = some q → c < ds.length → c < es.length → p ≠ q) → ∀ G2, Same G G2 → J0.nx [some x, some y, some (.ref lm), some (.ref ly), some (.bl (decide (c % 2 = 0)))] G2 := fun hd2 G2 s2 =>
        J.nx _ _ ⟨c, rfl, hc1, hc2, hsuf, hd2, s2 _ _ gm, s2 _ _ gy, sG.trans s2, fun b o h1 h2 h => s2 _ _ (hk b o h1 h2 h)⟩
      have hdm : DpAll K G (us.take (us.length - c)) (ds.take (ds.length - c)) := by rw [hlu]; exact dpAll_take (dpAll_same sG hus hrd.fm)
      have hdy : DpAll K G (ws.take (ws.length - c)) (es.take (es.length - c)) := by rw [hlw]; exact dpAll_take (dpAll_same sG hws hre.fm)
      have fm1 := fmAll_sub (List.take_sublist (ds.length - c) ds) hrd.fm
      have fm2 := fmAll_sub (List.take_sublist (es.length - c) es) hre.fm
      have tk1 : (ds.take (ds.length - c)).length = ds.length - c := by rw [List.length_take]; omega
      have tk2 : (es.take (es.length - c)).length = es.length - c := by rw [List.length_take]; omega
      refine ⟨_, rfl, ?_⟩
      refine ⟨len_le (Nat.le_of_ble_eq_true rfl), fun t1 nt1 => ?_⟩
      generalize eG1 : upd G t1 _ = G1
      obtain ⟨st1, ht1⟩ := new_step nt1 eG1
      clear eG1
      refine ne_nilL (.lst (.inl (.inl (st1 _ _ gm))) (dpAll_same st1 hdm fm1)) fm1 (dep_take hrd) ht1 ?_
      refine ⟨_, rfl, ?_⟩
      cases h1 : decide (ds.take (ds.length - c) = []) with
      | true =>
        have := congrArg List.length (of_decide_eq_true h1)
        rw [tk1] at this
        exact iteF (iteF (fin (fun p q hp hq h1 h2 => by simp at this; omega) G1 st1))
      | false =>
        refine iteT ?_
        have hc1' : c < ds.length := by
          rcases Nat.lt_or_ge c ds.length with h | h
          · exact h
          · have : ds.take (ds.length - c) = [] := List.eq_nil_of_length_eq_zero (by omega)
            exact absurd this (of_decide_eq_false h1)
        refine ⟨_, rfl, ?_⟩
        refine ⟨len_le (Nat.le_of_ble_eq_true rfl), fun t2 nt2 => ?_⟩
        generalize eG2 : upd G1 t2 _ = G2
        obtain ⟨st2, ht2⟩ := new_step nt2 eG2
        clear eG2
        have sG2 := st1.trans st2
        refine ne_nilL (.lst (.inl (.inl (sG2 _ _ gy))) (dpAll_same sG2 hdy fm2)) fm2 (dep_take hre) ht2 ?_
        refine ⟨_, rfl, ?_⟩
        cases h2 : decide (es.take (es.length - c) = []) with
        | true =>
          have := congrArg List.length (of_decide_eq_true h2)
          rw [tk2] at this
          exact iteF (fin (fun p q hp hq h1 h2 => by simp at this; omega) G2 sG2)
        | false =>
          refine iteT ?_
          have hc2' : c < es.length := by
            rcases Nat.lt_or_ge c es.length with h | h
            · exact h
            · have : es.take (es.length - c) = [] := List.eq_nil_of_length_eq_zero (by omega)
              exact absurd this (of_decide_eq_false h2)
          have hp : ds[ds.length - 1 - c]? = some ds[ds.length - 1 - c] := List.getElem?_eq_getElem (by omega)
          have hq : es[es.length - 1 - c]? = some es[es.length - 1 - c] := List.getElem?_eq_getElem (by omega)
          generalize ds[ds.length - 1 - c] = p at hp
          generalize es[es.length - 1 - c] = r at hq
          obtain ⟨u, hu, hdu⟩ := dpAll_at (dpAll_same (sG.trans sG2) hus hrd.fm) hp
          obtain ⟨v, hv, hdv⟩ := dpAll_at (dpAll_same (sG.trans sG2) hws hre.fm) hq
          have fp := (fmAll_mem hrd.fm p (List.mem_of_getElem? hp)).1
          have fr := (fmAll_mem hre.fm r (List.mem_of_getElem? hq)).1
          have tp := hrd.dep p (List.mem_of_getElem? hp)
          have tr := hre.dep r (List.mem_of_getElem? hq)
          have dp := depth_td fp
          have dr := depth_td fr
          rw [← hlu] at hu
          rw [← hlw] at hv
          have gu := take_last hu (by omega)
          have gv := take_last hv (by omega)
          refine ⟨_, rfl, _, rfl, lm, _, _, u, rfl, rfl, .inl (.inl (sG2 _ _ gm)), atI_neg1 gu, ?_⟩
          refine ⟨_, rfl, _, rfl, ly, _, _, v, rfl, rfl, .inl (.inl (sG2 _ _ gy)), atI_neg1 gv, ?_⟩
          refine ⟨p, r, hdu, hdv, shaped_fm fp (by omega), shaped_fm fr (by omega), _, rfl, ?_⟩
          cases h3 : PyData.eqv p r with
          | false =>
            exact iteF (fin (fun p' q' hp' hq' _ _ z => by
              rw [hp] at hp'
              rw [hq] at hq'
              cases hp'
              cases hq'
              rw [z, eqv_self fr] at h3
              cases h3) G2 sG2)
          | true =>
            refine iteT ?_
            have epr := eqv_fm fp fr h3
            subst epr
            refine ⟨fun σ' G' => σ' = [some x, some y, some (.ref lm), some (.ref ly), some (.bl (decide ((c + 1) % 2 = 0)))] ∧ G' lm = some (.lst (us.take (us.length - (c + 1)))) ∧ G' ly = some (.lst (ws.take (ws.length - (c + 1)))) ∧ (∀ b o, b ≠ lm → b ≠ ly → H2 b = some o → G' b = some o), ?_, ?_⟩
            · rintro σ' G' ⟨rfl, k1, k2, k3⟩
              exact ⟨ds.length - (c + 1), by omega, c + 1, rfl, rfl, by omega, by omega, by rw [drop_one hp hc1', drop_one hq hc2', hsuf], k1, k2, k3⟩
            · refine ⟨_, rfl, .inl ⟨rfl, _, .inl (.inl (sG2 _ _ gm))⟩, lm, _, u, rfl, rfl, sG2 _ _ gm, gu, ?_⟩
              have gy2 : upd G2 lm (.lst (us.take (us.length - c)).dropLast) ly = some (.lst (ws.take (ws.length - c))) := by
                rw [upd_ne (Ne.symm hne)]
                exact sG2 _ _ gy
              refine ⟨_, rfl, .inl ⟨rfl, _, .inl (.inl gy2)⟩, ly, _, v, rfl, rfl, gy2, gv, ?_⟩
              refine ⟨_, rfl, _, rfl, ?_⟩
              refine ⟨?_, ?_, ?_, fun b o h1 h2 h => ?_⟩
              · have e : (!decide (c % 2 = 0)) = decide ((c + 1) % 2 = 0) := by
                  rw [Bool.eq_iff_iff, Bool.not_eq_true', decide_eq_false_iff_not, decide_eq_true_eq]
                  omega
                rw [e]
                rfl
              · rw [upd_ne hne, upd_same, take_pop (by omega)]
              · rw [upd_same, take_pop (by omega)]
              · rw [upd_ne h2, upd_ne h1]
                exact sG2 _ _ (hk b o h1 h2 h)
    rintro σ G ⟨c, rfl, hc1, hc2, hsuf, hdif, gm, gy, sG, hk⟩
    have hdm : DpAll K G (us.take (us.length - c)) (ds.take (ds.length - c)) := by rw [hlu]; exact dpAll_take (dpAll_same sG hus hrd.fm)
    have hdy : DpAll K G (ws.take (ws.length - c)) (es.take (es.length - c)) := by rw [hlw]; exact dpAll_take (dpAll_same sG hws hre.fm)
    have fm1 := fmAll_sub (List.take_sublist (ds.length - c) ds) hrd.fm
    have fm2 := fmAll_sub (List.take_sublist (es.length - c) es) hre.fm
    have emp1 : decide (ds.take (ds.length - c) = []) = decide (c = ds.length) := by
      rw [Bool.eq_iff_iff, decide_eq_true_eq, decide_eq_true_eq]
      constructor
      · intro h
        have := congrArg List.length h
        rw [List.length_take] at this
        simp at this
        omega
      · intro h
        exact List.eq_nil_of_length_eq_zero (by rw [List.length_take]; omega)
    have emp2 : decide (es.take (es.length - c) = []) = decide (c = es.length) := by
      rw [Bool.eq_iff_iff, decide_eq_true_eq, decide_eq_true_eq]
      constructor
      · intro h
        have := congrArg List.length h
        rw [List.length_take] at this
        simp at this
        omega
      · intro h
        exact List.eq_nil_of_length_eq_zero (by rw [List.length_take]; omega)
    have ev1 := hrd.ev
    have ev2 := hre.ev
    have vd := hrd.tv
    have ve := hre.tv
    have lv1 := vals_len ds
    have lv2 := vals_len es
    have hsv : (vals ds).drop ((vals ds).length - c) = (vals es).drop ((vals es).length - c) := by
      rw [vals_map, vals_map, List.length_map, List.length_map, ← List.map_drop, ← List.map_drop, hsuf]
    have ends : c = ds.length ∨ c = es.length → decide (val d < val e) = decide (c < es.length) := fun hc => by
      rw [← vd, ← ve]
      rcases Nat.lt_trichotomy ds.length es.length with h | h | h
      · have hc0 : c = ds.length := by omega
        have := ord_short hrd.asc hre.asc (by omega) (by
          have h2 := hsv
          rw [lv1, hc0, Nat.sub_self, List.drop_zero, lv2] at h2
          rw [lv1, lv2]
          exact h2) (by omega)
        rw [decide_eq_true this, decide_eq_true (by omega)]
      · have hc0 : c = ds.length := by omega
        have h2 := hsv
        rw [lv1, lv2, hc0, Nat.sub_self, List.drop_zero, ← h, Nat.sub_self, List.drop_zero] at h2
        rw [h2, decide_eq_false (Int.lt_irrefl _), decide_eq_false (by omega)]
      · have hc0 : c = es.length := by omega
        have := ord_short hre.asc hrd.asc (by omega) (by
          have h2 := hsv
          rw [lv2, hc0, Nat.sub_self, List.drop_zero, lv1] at h2
          rw [lv1, lv2]
          exact h2.symm) (by omega)
        rw [decide_eq_false (by omega), decide_eq_false (by omega)]
    have bends : ∀ (D : Ends) G2, (∀ v H', Q v H' → D.rt v H') → Same G G2 → (c = ds.length ∨ c = es.length) → tRet (tOrV (tAndV (tVar 4) (tOp (rNeD K) (tVar 3) (tLst tNil))) (tAndV (tNotV (tVar 4)) (tOp (rNeD K) (tVar 2) (tLst tNil)))) D [some x, some y, some (.ref lm), some (.ref ly), some (.bl (decide (c % 2 = 0)))] G2 := fun D G2 hD s2 hc => by
      have hc2 : c % 2 = 0 := by omega
      rw [ends hc] at q
      rw [decide_eq_true hc2]
      refine ⟨_, rfl, _, rfl, ?_⟩
      rw [if_pos rfl]
      refine ⟨_, rfl, ?_⟩
      refine ⟨len_le (Nat.le_of_ble_eq_true rfl), fun t1 nt1 => ?_⟩
      generalize eG3 : upd G2 t1 _ = G3
      obtain ⟨st1, ht1⟩ := new_step nt1 eG3
      clear eG3
      have s3 := s2.trans st1
      refine ne_nilL (.lst (.inl (.inl (s3 _ _ gy))) (dpAll_same s3 hdy fm2)) fm2 (dep_take hre) ht1 ?_
      rw [emp2]
      refine ⟨_, rfl, ?_⟩
      cases h : decide (c = es.length) with
      | false =>
        rw [show (!false) = true from rfl, if_pos rfl]
        have h' := of_decide_eq_false h
        have := q G3 (sG.trans s3)
        rw [decide_eq_true (show c < es.length by omega)] at this
        exact hD _ _ this
      | true =>
        rw [show (!true) = false from rfl, if_neg Bool.false_ne_true]
        have h' := of_decide_eq_true h
        have := q G3 (sG.trans s3)
        rw [decide_eq_false (show ¬ c < es.length by omega)] at this
        refine ⟨_, rfl, _, rfl, _, rfl, ?_⟩
        exact hD _ _ this
    refine cut (fun σ H' => σ = [some x, some y, some (.ref lm), some (.ref ly), some (.bl (decide (c % 2 = 0)))] ∧ Same G H' ∧ c < ds.length ∧ c < es.length) (fun J0 J => ?_) ?_
    · refine ⟨_, rfl, ?_⟩
      refine ⟨len_le (Nat.le_of_ble_eq_true rfl), fun t1 nt1 => ?_⟩
      generalize eG1 : upd G t1 _ = G1
      obtain ⟨st1, ht1⟩ := new_step nt1 eG1
      clear eG1
      refine eq_nilL (.lst (.inl (.inl (st1 _ _ gm))) (dpAll_same st1 hdm fm1)) fm1 (dep_take hrd) ht1 ?_
      rw [emp1]
      refine ⟨_, rfl, ?_⟩
      cases h1 : decide (c = ds.length) with
      | true => exact iteT (iteT (bends J0 G1 (fun v H' h => J.rt _ _ h) st1 (.inl (of_decide_eq_true h1))))
      | false =>
        refine iteF ⟨_, rfl, ?_⟩
        refine ⟨len_le (Nat.le_of_ble_eq_true rfl), fun t2 nt2 => ?_⟩
        generalize eG2 : upd G1 t2 _ = G2
        obtain ⟨st2, ht2⟩ := new_step nt2 eG2
        clear eG2
        have s2 := st1.trans st2
        refine eq_nilL (.lst (.inl (.inl (s2 _ _ gy))) (dpAll_same s2 hdy fm2)) fm2 (dep_take hre) ht2 ?_
        rw [emp2]
        refine ⟨_, rfl, ?_⟩
        cases h2 : decide (c = es.length) with
        | true => exact iteT (bends J0 G2 (fun v H' h => J.rt _ _ h) s2 (.inr (of_decide_eq_true h2)))
        | false =>
          have h1' := of_decide_eq_false h1
          have h2' := of_decide_eq_false h2
          exact iteF (J.nx _ _ ⟨rfl, s2, by omega, by omega⟩)
    rintro σ G1 ⟨rfl, sG1, hc1', hc2'⟩
    have hp : ds[ds.length - 1 - c]? = some ds[ds.length - 1 - c] := List.getElem?_eq_getElem (by omega)
    have hq : es[es.length - 1 - c]? = some es[es.length - 1 - c] := List.getElem?_eq_getElem (by omega)
    have hpr := hdif _ _ hp hq hc1' hc2'
    generalize ds[ds.length - 1 - c] = p at hp hpr
    generalize es[es.length - 1 - c] = r at hq hpr
    have s01 := sG.trans sG1
    obtain ⟨u, hu, hdu⟩ := dpAll_at (dpAll_same s01 hus hrd.fm) hp
    obtain ⟨v, hv, hdv⟩ := dpAll_at (dpAll_same s01 hws hre.fm) hq
    obtain ⟨fp, p0⟩ := fmAll_mem hrd.fm p (List.mem_of_getElem? hp)
    obtain ⟨fr, r0⟩ := fmAll_mem hre.fm r (List.mem_of_getElem? hq)
    have hvne : val p ≠ val r := fun h => hpr (eqv_fm fp fr (by rw [eqv_val fp fr, decide_eq_true h]))
    have gp : (vals ds)[(vals ds).length - 1 - c]? = some (val p).toNat := by rw [vals_map, List.getElem?_map, List.length_map, hp]; rfl
    have gr : (vals es)[(vals es).length - 1 - c]? = some (val r).toNat := by rw [vals_map, List.getElem?_map, List.length_map, hq]; rfl
    have key : (decide (val p < val r) == decide (c % 2 = 0)) = decide (val d < val e) := by
      rw [← vd, ← ve]
      have hpar : (vals ds).length % 2 = (vals es).length % 2 := by omega
      by_cases h : val p < val r
      · have o := ord_diff hrd.asc hre.asc (by omega) (by omega) hsv hpar gp gr (by omega)
        by_cases hc : c % 2 = 0
        · rw [decide_eq_true h, decide_eq_true hc, decide_eq_true (o.1 (by omega))]
          rfl
        · rw [decide_eq_true h, decide_eq_false hc, decide_eq_false (by have := o.2 (by omega); omega)]
          rfl
      · have o := ord_diff hre.asc hrd.asc (by omega) (by omega) hsv.symm hpar.symm gr gp (by omega)
        by_cases hc : c % 2 = 0
        · rw [decide_eq_false h, decide_eq_true hc, decide_eq_false (by have := o.1 (by omega); omega)]
          rfl
        · rw [decide_eq_false h, decide_eq_false hc, decide_eq_true (o.2 (by omega))]
          rfl
    rw [← hlu] at hu
    rw [← hlw] at hv
    have gu := take_last hu (by omega)
    have gv := take_last hv (by omega)
    refine ⟨_, rfl, _, rfl, lm, _, _, u, rfl, rfl, .inl (.inl (sG1 _ _ gm)), atI_neg1 gu, ?_⟩
    refine ⟨_, rfl, _, rfl, ly, _, _, v, rfl, rfl, .inl (.inl (sG1 _ _ gy)), atI_neg1 gv, ?_⟩
    refine ⟨n', rfl, u, v, p, r, rfl, hdu, hdv, fp, fr, p0, r0, hrd.dep p (List.mem_of_getElem? hp), hre.dep r (List.mem_of_getElem? hq), fun G2 s2 => ?_⟩
    refine ⟨_, rfl, _, rfl, _, rfl, rfl, ?_⟩
    rw [shown_bl, key]
    exact q G2 (s01.trans s2)
theorem ok__law_before (T : Top K mg) : ∀ n, n ≤ 7 → FnOk P w K mg base CX0 (n + 5) T.f__law_before T.fd__law_before ["_law_one", "_law_other"]  (sp_before K n) := by
  intro n
  induction n with
  | zero => exact fun _ => before_step T 0 (by decide) ⟨fun vs H Q E ⟨m, h, _⟩ => by omega, fun A outer s H args us vs Q E hr he hb hv ⟨m, h, _⟩ => by omega⟩
  | succ n ih => exact fun hn => before_step T (n + 1) hn ((ih (by omega)).imp fun vs H Q E ⟨m, h, g⟩ => by
    obtain rfl : m = n := by omega
    exact g)
end
end K00
set_option Elab.async false
set_option linter.all false
set_option maxRecDepth 100000
set_option pp.deepTerms false
set_option pp.maxSteps 1500
set_option maxHeartbeats 1000000
/-! whether a thing is a form, by the law's own rules -/
namespace K00
open PySem PySem.Spec PyProof.Rows L2 HX TV FM DX FB FC PM
local macro_rules | `(tactic| walk_at "r") => `(tactic| (repeat (first | refine Exists.intro _ (And.intro rfl ?_) | refine And.intro rfl ?_ | refine Exists.intro _ (Exists.intro _ (And.intro rfl (And.intro rfl ?_))) | refine And.intro (by omega) ?_ | refine And.intro (Or.inl (And.intro (by omega) (by omega))) ?_ | refine And.intro (Or.inr (And.intro (by omega) (by omega))) ?_ | refine And.intro (And.intro (by omega) (by omega)) ?_ | refine And.intro (And.intro (by decide) (And.intro (by decide) (by decide))) ?_ | refine Or.inl (Exists.intro _ (And.intro rfl ?_)) | (dsimp only [gName]; first | with_reducible refine seqC ?_ | with_reducible refine asgC ?_))))
local macro_rules | `(tactic| walk_at "s") => `(tactic| (repeat (first | refine Exists.intro _ (And.intro rfl ?_) | refine And.intro rfl ?_ | refine Exists.intro _ (Exists.intro _ (And.intro rfl (And.intro rfl ?_))) | refine And.intro (by omega) ?_ | refine And.intro (Or.inl (And.intro (by omega) (by omega))) ?_ | refine And.intro (Or.inr (And.intro (by omega) (by omega))) ?_ | refine And.intro (And.intro (by omega) (by omega)) ?_ | refine And.intro (And.intro (by decide) (And.intro (by decide) (by decide))) ?_ | refine Or.inl (Exists.intro _ (And.intro rfl ?_)) | refine Exists.intro _ (Exists.intro _ (And.intro rfl ?_)) | (dsimp only [gName]; first | with_reducible refine seqC ?_ | with_reducible refine asgC ?_))))
section
variable {P : Program} {w : World} {K : PySem.W.Frag} {mg : Str → Option Value} {base : Heap}
def sp_own (K : PySem.W.Frag) (n : Nat) : Sp := fun vs H Q _ => ∃ (v : V) (d : PyData) (dp : Nat), vs = [v, .int (dp : Nat)] ∧ Dz K H v d ∧ tz d ≤ 1000000 ∧ dp ≤ 7 ∧ 7 ≤ n + dp ∧ ∀ (b : Bool) H', (b = true ↔ Fm d ∧ dp + td d ≤ 6) → Same H H' → Q (.bl b) H'
theorem tzAll_mem : ∀ {ds : List PyData} {d : PyData}, d ∈ ds → tz d ≤ tzAll ds
  | e :: r, d, h => by
    have h1 : tzAll (e :: r) = tz e + tzAll r := by simp [tzAll]
    rcases List.mem_cons.mp h with rfl | h
    · omega
    · have := tzAll_mem h
      omega
theorem tzAll_len : ∀ (ds : List PyData), ds.length ≤ tzAll ds
  | [] => by simp
  | e :: r => by
    have h1 : tzAll (e :: r) = tz e + tzAll r := by simp [tzAll]
    have := tzAll_len r
    have := tz_pos e
    rw [List.length_cons]
    omega
theorem fm_last {ds : List PyData} {d : PyData} (hF : FmAll ds) (hA : Asc (vals ds)) (hd : ds[ds.length - 1]? = some d) : Fm (.tuple ds) ↔ 64 < val d := by
  have hl : ds.length - 1 < ds.length := (List.getElem?_eq_some_iff.mp hd).1
  have h0 := (fmAll_mem hF d (List.mem_of_getElem? hd)).2
  rw [fm_tuple]
  have hlast : ∀ t ∈ vals ds, t ≤ (val d).toNat := fun t ht => by
    have e : ds = ds.take (ds.length - 1) ++ [d] := by
      rw [List.getElem?_eq_getElem hl] at hd
      have := List.take_append_getElem hl
      rw [Option.some.inj hd] at this
      rw [this, List.take_of_length_le (by omega)]
    rw [e, vals_app, vals_cons, vals_nil] at hA
    rw [e, vals_app, vals_cons, vals_nil] at ht
    rcases List.mem_append.mp ht with h | h
    · exact Nat.le_of_lt ((asc_snoc.mp hA).2 t h)
    · rw [List.mem_singleton.mp h]
      exact Nat.le_refl _
  constructor
  · rintro ⟨_, _, t, ht, h64⟩
    have := hlast t ht
    omega
  · intro h
    exact ⟨hF, hA, (val d).toNat, mem_vals.mpr ⟨d, List.mem_of_getElem? hd, rfl⟩, by omega⟩
theorem own_step (T : Top K mg) (n : Nat) (G__law_is_own_form : FnOk P w K mg base CX0 (n + 12) T.f__law_is_own_form T.fd__law_is_own_form ["_law_thing", "_law_deep"]  (fun vs H Q E => ∃ m, n = m + 1 ∧ sp_own K m vs H Q E)) : FnOk P w K mg base CX0 (n + 13) T.f__law_is_own_form T.fd__law_is_own_form ["_law_thing", "_law_deep"]  (sp_own K n) := by
  have G__law_before : FnOk P w K mg base CX0 (11) T.f__law_before T.fd__law_before ["_law_one", "_law_other"]  (sp_before K 6) := ok__law_before T 6 (by decide)
  refine T.F__law_is_own_form.ok sc__law_is_own_form (fun vs H Q E h => ?_) (fun cdv A outer s H vs Q E hr h => ?_)
  · obtain ⟨v, d, dp, rfl, _⟩ := h
    rfl
  · obtain ⟨v, d, dp, rfl, hz, htz, hd7, hn7, q⟩ := h
    refine ⟨_, (pss_cons (ps_if (PW.pt (pw_or (pt_val (pe_callB call_isi (by rfl) T.m_isinstance (by decide +kernel) (pa_cons (pv 0) (pa_cons (pe_bltn (v := .ty "bool") (by rfl) T.m_bool (by decide +kernel) rfl) pa_nil))) (fun _ => rfl)) (pw_or1 (pt_cmpR op_gt (pv 1) pe_int (nomark _)))))
      (pss_one (ps_ret pe_bl))
      pss_nil)
    (pss_cons (ps_if (pt_val (pe_callB call_isi (by rfl) T.m_isinstance (by decide +kernel) (pa_cons (pv 0) (pa_cons (pe_bltn (v := .ty "int") (by rfl) T.m_int (by decide +kernel) rfl) pa_nil))) (fun _ => rfl))
      (pss_one (ps_ret (pe_chain op_le op_lt (pe_un un_neg (pe_op op_pow pe_int pe_int)) (pv 0) (pe_op op_pow pe_int pe_int))))
      pss_nil)
    (pss_cons (ps_if (PW.pt (pw_or (pt_not (pt_val (pe_callB call_isi (by rfl) T.m_isinstance (by decide +kernel) (pa_cons (pv 0) (pa_cons (pe_bltn (v := .ty "tuple") (by rfl) T.m_tuple (by decide +kernel) rfl) pa_nil))) (fun _ => rfl))) (pw_or1 (pt_cmpR op_eq (pe_callB call_len_seq (by rfl) T.m_len PySem.boot_len (pa_cons (pv 0) pa_nil)) pe_int (nomark _)))))
      (pss_one (ps_ret pe_bl))
      pss_nil)
    (pss_cons (ps_for PassesOwn.never rfl (pi_range1 (by rfl) T.m_range (pa_cons (pe_callB call_len_seq (by rfl) T.m_len PySem.boot_len (pa_cons (pv 0) pa_nil)) pa_nil)) (pg_name (i := 2) sc__law_is_own_form.nd rfl (Or.inl rfl))
      (pss_cons (ps_set (i := 3) sc__law_is_own_form.nd rfl (Or.inl rfl) (pe_ix ix_tup (pv 0) (pv 2) (fun _ _ => rfl)))
      (pss_cons (ps_if (pt_not (pt_val (pe_call G__law_is_own_form (hr.mono (by omega)) (by rfl) T.g__law_is_own_form T.F__law_is_own_form.kp T.b__law_is_own_form .nil pass0 (pa_cons (pv 3) (pa_cons (pe_op op_add (pv 1) pe_int) pa_nil))) (fun _ => rfl)))
        (pss_one (ps_ret pe_bl))
        pss_nil)
      (pss_cons (ps_if (PW.pt (pw_or (PW.pt (pw_and (pt_val (pe_callB call_isi (by rfl) T.m_isinstance (by decide +kernel) (pa_cons (pv 3) (pa_cons (pe_bltn (v := .ty "int") (by rfl) T.m_int (by decide +kernel) rfl) pa_nil))) (fun _ => rfl)) (pw_and1 (pt_cmpR op_lt (pv 3) pe_int (nomark _))))) (pw_or1 (PW.pt (pw_and (pt_val (pe_callB call_isi (by rfl) T.m_isinstance (by decide +kernel) (pa_cons (pv 3) (pa_cons (pe_bltn (v := .ty "tuple") (by rfl) T.m_tuple (by decide +kernel) rfl) pa_nil))) (fun _ => rfl)) (pw_and1 (pt_cmpR op_eq (pe_op op_mod (pe_callB call_len_seq (by rfl) T.m_len PySem.boot_len (pa_cons (pv 3) pa_nil)) pe_int) pe_int (nomark _))))))))
        (pss_one (ps_ret pe_bl))
        pss_nil)
      (pss_one (ps_if (PW.pt (pw_and (pt_cmpR op_gt (pv 2) pe_int (nomark _)) (pw_and1 (pt_not (pt_val (pe_call G__law_before (hr.mono (by omega)) (by rfl) T.g__law_before T.F__law_before.kp T.b__law_before .nil pass0 (pa_cons (pe_ix ix_tup (pv 0) (pe_op op_sub (pv 2) pe_int) (fun _ _ => rfl)) (pa_cons (pv 3) pa_nil))) (fun _ => rfl))))))
        (pss_one (ps_ret pe_bl))
        pss_nil))))))
    (pss_one (ps_ret (pe_or (pe_callB call_isi (by rfl) T.m_isinstance (by decide +kernel) (pa_cons (pe_ix ix_tup (pv 0) (pe_un un_neg pe_int) (fun _ _ => rfl)) (pa_cons (pe_bltn (v := .ty "tuple") (by rfl) T.m_tuple (by decide +kernel) rfl) pa_nil))) (pe_one (pe_cmpR op_gt (pe_ix ix_tup (pv 0) (pe_un un_neg pe_int) (fun _ _ => rfl)) pe_int (nomark _)))))))))), ?_⟩
    have no : ∀ H', Same H H' → ¬ (Fm d ∧ dp + td d ≤ 6) → Q (.bl false) H' := fun H' s' h => q false H' ⟨(fun z => nomatch z), fun z => absurd z h⟩ s'
    refine ⟨_, rfl, ?_⟩
    dsimp only [tCons, tC, tNil]
    refine hz.isB ⟨_, rfl, ?_⟩
    cases hb : isBd d with
    | true => exact iteT (iteT (no H (Same.refl _) (fun z => by cases hz <;> first | (have := z.1; simp [Fm] at this; done) | (simp [isBd] at hb; done))))
    | false =>
    refine iteF ?_
    refine ⟨_, rfl, _, _, rfl, rfl, _, rfl, ?_⟩
    refine ifD (fun h6 => ?_) (fun h6 => ?_)
    · exact no H (Same.refl _) (fun z => by omega)
    dsimp only [tNext]
    refine ⟨_, rfl, ?_⟩
    dsimp only [tCons, tC, tNil]
    refine hz.isI ⟨_, rfl, ?_⟩
    cases hi : isId d with
    | true =>
      obtain ⟨i, rfl⟩ : ∃ i, d = .int i := by
        cases d <;> first | (exact ⟨_, rfl⟩) | (simp [isId] at hi; done) | (simp [isBd] at hb; done)
      cases hz
      have e64 : (2 : Int) ^ 64 = 18446744073709551616 := by decide
      have t0 : td (.int i) = 0 := by simp [td]
      refine iteT ?_
      refine ⟨_, _, rfl, rfl, ⟨by decide, by decide, by decide⟩, _, rfl, _, rfl, _, _, rfl, rfl, _, rfl, ?_⟩
      rw [show ((2 : Int) ^ Int.toNat 64) = 18446744073709551616 by decide]
      refine ifD (fun e => ?_) (fun e => ?_)
      · refine ⟨_, _, rfl, rfl, ⟨by decide, by decide, by decide⟩, _, _, rfl, rfl, q _ _ ?_ (Same.refl _)⟩
        rw [show ((2 : Int) ^ Int.toNat 64) = 18446744073709551616 by decide]
        rw [decide_eq_true_eq, fm_int, e64, t0]
        omega
      · refine no _ (Same.refl _) fun z => ?_
        rw [fm_int, e64] at z
        omega
    | false =>
    refine iteF ?_
    dsimp only [tNext]
    refine ⟨_, rfl, ?_⟩
    dsimp only [tCons, tC, tNil]
    refine hz.isT ⟨_, rfl, ?_⟩
    rcases hz.tup_or with ⟨a, us, ds, rfl, rfl, hs, hall⟩ | ⟨htd, _, _⟩
    · refine iteF ?_
      refine ⟨_, rfl, a, us, rfl, .inr hs, ?_⟩
      refine ⟨rfl, _, rfl, ?_⟩
      have ht1 : td (.tuple ds) = tdAll ds + 1 := by simp [td]
      have hul := hall.len
      refine ifE (fun h0 => ?_) (fun h0 => ?_)
      · refine no _ (Same.refl _) fun z => ?_
        obtain ⟨t, ht, _⟩ := ((fm_tuple _).mp z.1).2.2
        obtain ⟨d, hd, _⟩ := mem_vals.mp ht
        have := List.length_pos_of_mem hd
        omega
      dsimp only [tNext]
      obtain ⟨n', rfl⟩ : ∃ k, n = k + 1 := ⟨n - 1, by omega⟩
      have nope : ∀ {i : Nat} {d : PyData}, ds[i]? = some d → ¬ ((Fm d ∧ dp + 1 + td d ≤ 6) ∧ okV ds i d) → ¬ (Fm (.tuple ds) ∧ dp + td (.tuple ds) ≤ 6) := fun {i d} hd hn ⟨h, h2⟩ => by
        rw [fm_tuple] at h
        have := tdAll_mem (List.mem_of_getElem? hd)
        exact hn ⟨⟨(fmAll_mem h.1 d (List.mem_of_getElem? hd)).1, by omega⟩, okV_of h.1 h.2.1 i d hd⟩
      refine cut (fun σ H' => ∃ z1 z2 : Option V, σ = [some (.ref a), some (.int (dp : Nat)), z1, z2] ∧ Same H H' ∧ ∀ j d, ds[j]? = some d → (Fm d ∧ dp + 1 + td d ≤ 6) ∧ okV ds j d) (fun J0 J => ?_) ?_
      · have ht2 : tz (.tuple ds) = tzAll ds + 1 := by simp [tz]
        have htl := tzAll_len ds
        refine ⟨_, rfl, a, us, rfl, .inr hs, ?_⟩
        refine ⟨_, rfl, by omega, by omega, ?_⟩
        rw [Int.toNat_natCast]
        refine flR (n := us.length) (fun i σ H' => ∃ (z1 z2 : Option V), σ = [some (.ref a), some (.int (dp : Nat)), z1, z2] ∧ Same H H' ∧ ∀ j < i, ∀ d, ds[j]? = some d → (Fm d ∧ dp + 1 + td d ≤ 6) ∧ okV ds j d) ⟨none, none, rfl, Same.refl _, fun j hj => absurd hj (by omega)⟩ ?_ ?_
        · rintro i σ G hi ⟨z1, z2, rfl, sm, hok⟩ D' B
          dsimp only [gName]
          rw [Int.zero_add]
          obtain ⟨x, hx⟩ : ∃ x, us[i]? = some x := ⟨us[i], List.getElem?_eq_getElem hi⟩
          obtain ⟨d, hd, hzd⟩ := hall.get hx
          have bad : ¬ ((Fm d ∧ dp + 1 + td d ≤ 6) ∧ okV ds i d) → ∀ H2, Same H H2 → D'.rt (.bl false) H2 := fun hnb H2 sm2 => B.rt _ _ (J.rt _ _ (q false H2 ⟨(fun z => nomatch z), fun z => absurd z (nope hd hnb)⟩ sm2))
          have good : (Fm d ∧ dp + 1 + td d ≤ 6) ∧ okV ds i d → ∀ H2, Same H H2 → D'.nx [some (.ref a), some (.int (dp : Nat)), some (.int (i : Nat)), some x] H2 := fun hg H2 sm2 => B.nx _ _ ⟨_, _, rfl, sm2, fun j hj d' hd' => by
            by_cases e : j = i
            · subst e
              rw [hd] at hd'
              cases hd'
              exact hg
            · exact hok j (by omega) d' hd'⟩
          have tzd := tzAll_mem (List.mem_of_getElem? hd)
          refine ⟨_, rfl, _, rfl, a, _, _, x, rfl, rfl, sqT_keep sm hs, at_of (j := i) rfl hx, ?_⟩
          refine ⟨_, rfl, _, rfl, _, _, rfl, rfl, n', rfl, x, d, dp + 1, by simp, hzd.same sm, by omega, by omega, by omega, fun b H2 hb2 s2 => ?_⟩
          have sm2 := sm.trans s2
          refine ⟨_, rfl, ?_⟩
          cases b with
          | false => exact iteT (bad (fun z => nomatch hb2.mpr z.1) H2 sm2)
          | true =>
          refine iteF ?_
          have hg := hb2.mp rfl
          have hf := hg.1
          have hDd := (hzd.same sm2).dp hf
          dsimp only [tNext]
          refine cut (fun σ H' => σ = [some (.ref a), some (.int (dp : Nat)), some (.int (i : Nat)), some x] ∧ H2 = H' ∧ 0 ≤ val d) (fun J2 JJ => ?_) ?_
          · refine ⟨_, rfl, ?_⟩
            dsimp only [tCons, tC, tNil]
            refine (hzd.same sm2).isI ⟨_, rfl, ?_⟩
            have bad2 : ¬ 0 ≤ val d → J2.rt (.bl false) H2 := fun hn => JJ.rt _ _ (bad (fun z => hn z.2.1) H2 sm2)
            rcases fm_cases hf with ⟨v, rfl⟩ | ⟨es, rfl⟩
            · rw [val_int] at bad2
              have hx3 := hzd
              cases hx3
              refine iteT ?_
              refine ⟨_, rfl, _, _, rfl, rfl, _, rfl, ?_⟩
              refine ifD (fun e => ?_) (fun e => ?_)
              · exact iteT (bad2 (by omega))
              · refine ⟨_, rfl, ?_⟩
                dsimp only [tCons, tC, tNil]
                refine (hzd.same sm2).isT ⟨_, rfl, ?_⟩
                exact iteF (iteF (JJ.nx _ _ ⟨rfl, rfl, by rw [val_int]; omega⟩))
            · refine iteF ?_
              refine ⟨_, rfl, ?_⟩
              dsimp only [tCons, tC, tNil]
              refine (hzd.same sm2).isT ⟨_, rfl, iteT ?_⟩
              have hn := val_neg hf
              rcases (hzd.same sm2).tup_or with ⟨a2, ws, es', rfl, e2, hs2, hall2⟩ | ⟨z, _⟩
              · cases e2
                have hwl := hall2.len
                refine ⟨_, rfl, a2, ws, rfl, .inr hs2, _, _, rfl, rfl, (show (0 : Int) < 2 by decide), rfl, _, rfl, ?_⟩
                refine ifE (fun e => ?_) (fun e => ?_)
                · exact bad2 (by have := hn.mpr (by omega); omega)
                · refine JJ.nx _ _ ⟨rfl, rfl, ?_⟩
                  by_cases h : 0 ≤ val (.tuple es)
                  · exact h
                  · have := hn.mp (by omega)
                    omega
              · cases z
          rintro σ H3 ⟨rfl, rfl, h0⟩
          refine ⟨_, rfl, _, _, rfl, rfl, _, rfl, ?_⟩
          refine ifD (fun hi1 => ?_) (fun hi1 => ?_)
          · obtain ⟨k, rfl⟩ : ∃ k, i = k + 1 := ⟨i - 1, by omega⟩
            obtain ⟨v0, hv0⟩ : ∃ v0, us[k]? = some v0 := ⟨us[k]'(by omega), List.getElem?_eq_getElem _⟩
            obtain ⟨d0, hd0, hz0⟩ := hall.get hv0
            have ho0 := hok k (Nat.lt_succ_self k) d0 hd0
            have hf0 := ho0.1.1
            have hD0 := (hz0.same sm2).dp hf0
            refine ⟨_, rfl, _, rfl, _, _, rfl, rfl, a, _, _, v0, rfl, rfl, sqT_keep sm2 hs, at_of (j := k) (by omega) hv0, ?_⟩
            refine ⟨_, rfl, v0, x, d0, d, rfl, hD0, hDd, hf0, hf, ho0.2.1, h0, by have := ho0.1.2; omega, by have := hg.2; omega, fun H3 s3 => ?_⟩
            have sm3 := sm2.trans s3
            refine ⟨_, rfl, ?_⟩
            cases hlt : decide (val d0 < val d) with
            | false =>
              refine iteT (bad (fun z => ?_) H3 sm3)
              exact absurd (z.2.2 k d0 rfl hd0) (of_decide_eq_false hlt)
            | true =>
              refine iteF (good ⟨hg, h0, fun k' e ek he => ?_⟩ H3 sm3)
              have ek' : k' = k := by omega
              subst ek'
              rw [hd0] at he
              cases he
              exact of_decide_eq_true hlt
          · exact iteF (good ⟨hg, h0, fun k' e ek he => by omega⟩ H2 sm2)
        · rintro σ G ⟨z1, z2, rfl, sm, hok⟩
          exact J.nx _ _ ⟨_, _, rfl, sm, fun j d hd => hok j (by have := (List.getElem?_eq_some_iff.mp hd).1; omega) d hd⟩
      rintro σ G ⟨z1, z2, rfl, sm, hok⟩
      obtain ⟨hF, hA⟩ := fm_of_okV fun j d hj => ⟨(hok j d hj).1.1, (hok j d hj).2⟩
      have hul0 : 0 < us.length := by omega
      have hv : us[us.length - 1]? = some us[us.length - 1] := List.getElem?_eq_getElem (by omega)
      generalize us[us.length - 1] = vl at hv
      obtain ⟨d, hd, hzd⟩ := hall.get hv
      rw [hul] at hd
      have hlast := fm_last hF hA hd
      obtain ⟨⟨f, fd⟩, f0, _⟩ := hok _ d hd
      have hdep : ∀ x ∈ ds, dp + 1 + td x ≤ 6 := fun x hx => by
        obtain ⟨j, hj⟩ := List.mem_iff_getElem?.mp hx
        exact (hok j x hj).1.2
      have hdt : dp + td (.tuple ds) ≤ 6 := by
        have : ∀ (es : List PyData), (∀ x ∈ es, dp + 1 + td x ≤ 6) → dp + 1 + tdAll es ≤ 6 := fun es => by
          induction es with
          | nil => intro _; simp [tdAll]; omega
          | cons e r ih =>
            intro h
            have h1 : tdAll (e :: r) = max (td e) (tdAll r) := by simp [tdAll]
            have := h e (by simp)
            have := ih fun x hx => h x (by simp [hx])
            omega
        have := this ds hdep
        omega
      refine ⟨_, rfl, _, rfl, a, _, _, _, rfl, rfl, sqT_keep sm hs, atI_neg1 hv, ?_⟩
      dsimp only [tCons, tC, tNil]
      refine (hzd.same sm).isT ⟨_, rfl, ?_⟩
      rcases fm_cases f with ⟨i, rfl⟩ | ⟨es, rfl⟩
      · rw [show isTd (.int i) = false from rfl, if_neg Bool.false_ne_true]
        cases hzd
        refine ⟨_, rfl, _, rfl, a, _, _, _, rfl, rfl, sqT_keep sm hs, atI_neg1 hv, _, _, rfl, rfl, q _ G ?_ sm⟩
        rw [decide_eq_true_eq, hlast, val_int]
        exact ⟨fun h => ⟨h, hdt⟩, fun h => h.1⟩
      · rw [show isTd (.tuple es) = true from rfl, if_pos rfl]
        have := tuple_far f
        refine q true G ⟨fun _ => ⟨hlast.mpr (by omega), hdt⟩, fun _ => rfl⟩ sm
    · rw [htd]
      refine iteT (iteT (no H (Same.refl _) fun z => ?_))
      rcases fm_cases z.1 with ⟨i, rfl⟩ | ⟨ds, rfl⟩
      · cases hi
      · cases htd
theorem ok__law_is_own_form (T : Top K mg) : ∀ n, FnOk P w K mg base CX0 (n + 13) T.f__law_is_own_form T.fd__law_is_own_form ["_law_thing", "_law_deep"]  (sp_own K n) := by
  intro n
  induction n with
  | zero => exact own_step T 0 ⟨fun vs H Q E ⟨m, h, _⟩ => by omega, fun A outer s H args us vs Q E hr he hb hv ⟨m, h, _⟩ => by omega⟩
  | succ n ih => exact own_step T (n + 1) (ih.imp fun vs H Q E ⟨m, h, g⟩ => by
    obtain rfl : m = n := by omega
    exact g)
end
end K00
set_option Elab.async false
set_option linter.all false
set_option maxRecDepth 100000
/-! data with one odd part: how it may be shown, how large it is -/
namespace HX
open PySem PySem.Spec PyProof.Rows L2 FM TV DX PM
structure Ow (d : PyData) (n k : Nat) : Prop where
  q : Rq d n k
  l : d.hasDict = false ∨ noL d = true
  z : tz d ≤ n
structure OwAll (ds : List PyData) (n k : Nat) : Prop where
  q : RqAll ds n k
  l : PyData.hasDictAll ds = false ∨ noLs ds = true
  z : tzAll ds ≤ n
theorem Ow.mono {d : PyData} {n k n' k' : Nat} (h : Ow d n k) (a : n ≤ n') (b : k ≤ k') : Ow d n' k' := ⟨h.q.mono a b, h.l, Nat.le_trans h.z a⟩
theorem OwAll.mono {d : List PyData} {n k n' k' : Nat} (h : OwAll d n k) (a : n ≤ n') (b : k ≤ k') : OwAll d n' k' := ⟨h.q.mono a b, h.l, Nat.le_trans h.z a⟩
theorem OwAll.nil {k : Nat} : OwAll [] 0 k := ⟨RqAll.nil, .inl (by simp [PyData.hasDictAll]), by simp [tzAll]⟩
theorem tzAll_cons (d : PyData) (r : List PyData) : tzAll (d :: r) = tz d + tzAll r := by simp [tzAll]
theorem tz_tuple (ds : List PyData) : tz (.tuple ds) = tzAll ds + 1 := by simp [tz]
mutual
theorem tz_wt : ∀ {d : PyData}, Fm d → tz d = wt d
  | .int i, _ => by simp [tz, wt]
  | .tuple ds, f => by
    rw [tz_tuple, wt_tuple, tzAll_wt ((fm_tuple _).mp f).1]
    omega
  | .none, f => by simp [Fm] at f
  | .bool b, f => by simp [Fm] at f
  | .str x, f => by simp [Fm] at f
  | .list ds, f => by simp [Fm] at f
  | .dict ds, f => by simp [Fm] at f
theorem tzAll_wt : ∀ {ds : List PyData}, FmAll ds → tzAll ds = wtAll ds
  | [], _ => by simp [tzAll, wtAll]
  | d :: r, f => by rw [tzAll_cons, wtAll_cons, tz_wt ((fmAll_cons _ _).mp f).1, tzAll_wt ((fmAll_cons _ _).mp f).2.2]
end
mutual
theorem noL_fm : ∀ {d : PyData}, Fm d → noL d = true
  | .int i, _ => by simp [noL]
  | .tuple ds, f => by
    rw [noL]
    exact noLs_fm ((fm_tuple _).mp f).1
  | .none, f => by simp [Fm] at f
  | .bool b, f => by simp [Fm] at f
  | .str x, f => by simp [Fm] at f
  | .list ds, f => by simp [Fm] at f
  | .dict ds, f => by simp [Fm] at f
theorem noLs_fm : ∀ {ds : List PyData}, FmAll ds → noLs ds = true
  | [], _ => by simp [noLs]
  | d :: r, f => by rw [noLs, noL_fm ((fmAll_cons _ _).mp f).1, noLs_fm ((fmAll_cons _ _).mp f).2.2]; rfl
end
/-- an odd part ahead of some forms, or behind them -/
theorem OwAll.ins {e : PyData} {ds : List PyData} {n m k : Nat} (h : Ow e n k) (f : FmAll ds) (hs : OwAll ds m k) : OwAll (e :: ds) (n + 2 + m) k := by
  refine ⟨RqAll.cons h.q hs.q, ?_, by rw [tzAll_cons]; have := h.z; have := hs.z; omega⟩
  have nl := noLs_fm f
  rcases h.l with a | a
  · left
    have : PyData.hasDictAll ds = false := by
      have : ∀ (es : List PyData), FmAll es → PyData.hasDictAll es = false := fun es => by
        induction es with
        | nil => intro _; simp [PyData.hasDictAll]
        | cons d r ih =>
          intro h
          rw [fmAll_cons] at h
          simp [PyData.hasDictAll, (rp_form h.1).nd, ih h.2.2]
      exact this ds f
    simp [PyData.hasDictAll, a, this]
  · right
    rw [noLs, a, nl]
    rfl
theorem OwAll.fm {d : PyData} {ds : List PyData} {m k : Nat} (f : Fm d) (hd : d.depth ≤ k) (hs : OwAll ds m k) : OwAll (d :: ds) (27 * wt d + m) k := by
  have hr := rp_form f
  have hw := wt_pos d
  refine ⟨(RqAll.cons (hr.rq.mono (Nat.le_refl _) hd) hs.q).mono (by omega) (Nat.le_refl _), ?_, by rw [tzAll_cons, tz_wt f]; have := hs.z; omega⟩
  rcases hs.l with a | a
  · left
    simp [PyData.hasDictAll, hr.nd, a]
  · right
    rw [noLs, noL_fm f, a]
    rfl
theorem ow_app {k m : Nat} {ys : List PyData} (hs : OwAll ys m k) : ∀ {xs : List PyData}, FmAll xs → PyData.depthAll xs ≤ k → OwAll (xs ++ ys) (27 * wtAll xs + m) k
  | [], _, _ => by
    rw [wtAll_nil]
    exact hs.mono (by omega) (Nat.le_refl _)
  | d :: r, f, hd => by
    rw [fmAll_cons] at f
    rw [depthAll_cons] at hd
    have := OwAll.fm f.1 (by omega) (ow_app hs f.2.2 (by omega))
    rw [wtAll_cons]
    exact this.mono (by omega) (Nat.le_refl _)
theorem ow_fms {k : Nat} {xs : List PyData} (f : FmAll xs) (hd : PyData.depthAll xs ≤ k) : OwAll xs (27 * wtAll xs) k := by
  have := ow_app OwAll.nil f hd
  rw [List.append_nil] at this
  exact this
theorem Ow.tup {ds : List PyData} {n k : Nat} (h : OwAll ds n k) : Ow (.tuple ds) (n + 3) (k + 1) :=
  ⟨Rq.tup h.q, h.l.imp (fun a => by simp [PyData.hasDict, a]) fun a => by rw [noL]; exact a, by rw [tz_tuple]; have := h.z; omega⟩
theorem ow_lst {xs : List PyData} {k : Nat} (f : FmAll xs) (hd : PyData.depthAll xs ≤ k) : Ow (.list xs) (27 * wtAll xs + 3) (k + 1) := by
  refine ⟨Rq.lst (ow_fms f hd).q, .inl ?_, by simp [tz]⟩
  have : ∀ (es : List PyData), FmAll es → PyData.hasDictAll es = false := fun es => by
    induction es with
    | nil => intro _; simp [PyData.hasDictAll]
    | cons d r ih =>
      intro h
      rw [fmAll_cons] at h
      simp [PyData.hasDictAll, (rp_form h.1).nd, ih h.2.2]
  simp [PyData.hasDict, this xs f]
theorem ow_fm {d : PyData} (f : Fm d) : Ow d (25 * wt d) d.depth := ⟨(rp_form f).rq, .inl (rp_form f).nd, by rw [tz_wt f]; omega⟩
theorem ow_int {i : Int} (h : i.natAbs < 10 ^ 20) : Ow (.int i) 21 0 := ⟨(Rp.int h).rq, .inl (Rp.int h).nd, by simp [tz]⟩
theorem ow_bool (b : Bool) : Ow (.bool b) 5 0 := ⟨(Rp.bool b).rq, .inl (Rp.bool b).nd, by simp [tz]⟩
theorem ow_none : Ow .none 5 0 := ⟨⟨by simp [PyData.showable], by simp [PyData.depth], by simp only [PyData.shown]; decide +kernel⟩, .inl (by simp [PyData.hasDict]), by simp [tz]⟩
theorem ow_64 : Ow (.str (Str.ofString "64")) 5 0 := ⟨⟨by simp [PyData.showable], by simp [PyData.depth], by simp only [PyData.shown]; decide +kernel⟩, .inl (by simp [PyData.hasDict]), by simp [tz]⟩
theorem ow_dict : Ow (.dict [(.int 64, .int 65)]) 60 2 := ⟨⟨by simp [PyData.showable, PyData.showableKv]; exact ⟨by decide, by decide⟩, by simp [PyData.depth, PyData.depthKv], by simp only [PyData.shown, PyData.shownKv]; decide +kernel⟩, .inr (by simp [noL]), by simp [tz]⟩
theorem wtAll_rev (xs : List PyData) : wtAll xs.reverse = wtAll xs := by
  induction xs with
  | nil => rfl
  | cons d r ih => rw [List.reverse_cons, wtAll_app, ih, wtAll_cons, wtAll_cons, wtAll_nil]; omega
theorem fmAll_perm {xs ys : List PyData} (f : FmAll xs) (h : ∀ d ∈ ys, d ∈ xs) : FmAll ys := by
  have : ∀ (es : List PyData), (∀ d ∈ es, Fm d ∧ 0 ≤ val d) → FmAll es := fun es => by
    induction es with
    | nil => intro _; exact fmAll_nil
    | cons d r ih =>
      intro hh
      rw [fmAll_cons]
      exact ⟨(hh d (by simp)).1, (hh d (by simp)).2, ih fun x hx => hh x (by simp [hx])⟩
  exact this ys fun d hd => fmAll_mem f d (h d hd)
section
variable {K : PySem.W.Frag} {H : Hp}
theorem DzAll.app : ∀ {us vs : List V} {ds es : List PyData}, DzAll K H us ds → DzAll K H vs es → DzAll K H (us ++ vs) (ds ++ es)
  | _, _, _, _, .nil, h => h
  | _, _, _, _, .cons a t, h => .cons a (t.app h)
theorem DzAll.take : ∀ {us : List V} {ds : List PyData} (k : Nat), DzAll K H us ds → DzAll K H (us.take k) (ds.take k)
  | _, _, 0, _ => .nil
  | _, _, k + 1, .nil => .nil
  | _, _, k + 1, .cons h t => .cons h (t.take k)
theorem DzAll.drop : ∀ {us : List V} {ds : List PyData} (k : Nat), DzAll K H us ds → DzAll K H (us.drop k) (ds.drop k)
  | _, _, 0, h => h
  | _, _, k + 1, .nil => .nil
  | _, _, k + 1, .cons h t => t.drop k
theorem DzAll.rev : ∀ {us : List V} {ds : List PyData}, DzAll K H us ds → DzAll K H us.reverse ds.reverse
  | _, _, .nil => .nil
  | _, _, .cons h t => by
    rw [List.reverse_cons, List.reverse_cons]
    exact t.rev.app (.cons h .nil)
end
end HX
set_option Elab.async false
set_option linter.all false
set_option maxRecDepth 100000
set_option pp.deepTerms false
set_option pp.maxSteps 1500
set_option maxHeartbeats 1000000
/-! a form with one entry otherwise; forms at the limits -/
namespace K00
open PySem PySem.Spec PyProof.Rows L2 HX TV FM DX FB FC PM
local macro_rules | `(tactic| walk_at "r") => `(tactic| (repeat (first | refine Exists.intro _ (And.intro rfl ?_) | refine And.intro rfl ?_ | refine Exists.intro _ (Exists.intro _ (And.intro rfl (And.intro rfl ?_))) | refine And.intro (by omega) ?_ | refine And.intro (Or.inl (And.intro (by omega) (by omega))) ?_ | refine And.intro (Or.inr (And.intro (by omega) (by omega))) ?_ | refine And.intro (And.intro (by omega) (by omega)) ?_ | refine And.intro (And.intro (by decide) (And.intro (by decide) (by decide))) ?_ | refine Or.inl (Exists.intro _ (And.intro rfl ?_)) | (dsimp only [gName]; first | with_reducible refine seqC ?_ | with_reducible refine asgC ?_))))
local macro_rules | `(tactic| walk_at "s") => `(tactic| (repeat (first | refine Exists.intro _ (And.intro rfl ?_) | refine And.intro rfl ?_ | refine Exists.intro _ (Exists.intro _ (And.intro rfl (And.intro rfl ?_))) | refine And.intro (by omega) ?_ | refine And.intro (Or.inl (And.intro (by omega) (by omega))) ?_ | refine And.intro (Or.inr (And.intro (by omega) (by omega))) ?_ | refine And.intro (And.intro (by omega) (by omega)) ?_ | refine And.intro (And.intro (by decide) (And.intro (by decide) (by decide))) ?_ | refine Or.inl (Exists.intro _ (And.intro rfl ?_)) | refine Exists.intro _ (Exists.intro _ (And.intro rfl ?_)) | (dsimp only [gName]; first | with_reducible refine seqC ?_ | with_reducible refine asgC ?_))))
section
variable {P : Program} {w : World} {K : PySem.W.Frag} {mg : Str → Option Value} {base : Heap}
theorem seqIf2 {c : TT} {t u : TS} {D : Ends} {σ : L2.St} {H : Hp} (P : Bool → Hp → Prop) (hc : ∀ R : Bool → Hp → Prop, (∀ b H1, P b H1 → R b H1) → c σ H R) (ht : ∀ H1, P true H1 → t { D with nx := u D } σ H1) (hu : ∀ H1, P false H1 → u D σ H1) : tSeq (tIfS c t tNext) u D σ H := hc _ fun b H1 h => by
  cases b with
  | true => exact iteT (ht H1 h)
  | false => exact iteF (hu H1 h)
section
variable {H H' : Hp} {τ : Tp} {n : Nat}
theorem sqT_tape {a : Addr} {xs : List V} (hs : SqT K H a xs) (hT : Tape H τ n) (hb : But τ.p H H') : SqT K H' a xs := by
  obtain ⟨i, r, h1, _⟩ := hT
  rcases hs with (h | ⟨o, h⟩) | h
  · exact .inl (.inl (hb _ _ (ne_of h h1 (fun z => by cases z)) h))
  · exact .inl (.inr ⟨o, hb _ _ (ne_of h h1 (fun z => by cases z)) h⟩)
  · exact .inr h
mutual
theorem dz_tape (hT : Tape H τ n) (hb : But τ.p H H') : ∀ {v : V} {d : PyData}, Dz K H v d → Dz K H' v d
  | _, _, .non => .non
  | _, _, .bl b => .bl b
  | _, _, .int i => .int i
  | _, _, .str x => .str x
  | _, _, .lst h t => .lst (hb _ _ (hT.ne h) h) (dzs_tape hT hb t)
  | _, _, .tup h t => .tup (sqT_tape h hT hb) (dzs_tape hT hb t)
  | _, _, .dct h => .dct (hb _ _ (by
      obtain ⟨i, r, h1, _⟩ := hT
      refine ne_of h h1 (fun z => ?_)
      have := HO.dK.inj z
      have := congrArg List.length this
      cases this) h)
theorem dzs_tape (hT : Tape H τ n) (hb : But τ.p H H') : ∀ {xs : List V} {ds : List PyData}, DzAll K H xs ds → DzAll K H' xs ds
  | _, _, .nil => .nil
  | _, _, .cons h t => .cons (dz_tape hT hb h) (dzs_tape hT hb t)
end
end
def sp_other (K : PySem.W.Frag) (n : Nat) : Sp := fun vs H Q _ => ∃ (τ : Tp) (m : Nat) (v : V) (d : PyData) (dp : Nat), vs = [.ref τ.p, v, .int (dp : Nat)] ∧ Tape H τ m ∧ m + 4 * n + 10 ≤ 900000 ∧ Dz K H v d ∧ Fm d ∧ td d ≤ n ∧ n ≤ 7 ∧ dp + n ≤ 100 ∧ wt d ≤ 20000 ∧
  ∀ (u : V) (e : PyData) H' m', Dz K H' u e → Ow e (60 * wt d + 400) (td d + 2) → Tape H' τ m' → m' ≤ m + 4 * n + 4 → But τ.p H H' → Q u H'
/-- what stands in the place of a form -/
def odds (d : PyData) : List PyData := [.bool true, .bool false, .none, .str (Str.ofString "64"), .list [.int 64, .int 65], .int (-1), .int (2 ^ Int.toNat 64), .int (2 ^ Int.toNat 64 - 1), .int (-(2 ^ Int.toNat 64) - 1), .tuple [], .tuple [.int 0, .int 64], .tuple [.int 64, .int 66], .int 0, .tuple [.int 70]] ++
  [d, .list [d], .tuple [d], .tuple [d, d], .dict [(.int 64, .int 65)], .int 64, .int 65, .tuple [.int 64, .int 65, .int 67], .tuple [.int 0, .int 1, .int 64, .int 65]]
theorem fmi {i : Nat} (h : i < 1000) : Fm (.int i) := by
  rw [fm_int]
  omega
theorem ow_ints {is : List Nat} (h : ∀ i ∈ is, i < 1000) : FmAll (is.map fun i => PyData.int (i : Nat)) ∧ PyData.depthAll (is.map fun i => PyData.int (i : Nat)) ≤ 0 ∧ wtAll (is.map fun i => PyData.int (i : Nat)) = is.length := by
  induction is with
  | nil => exact ⟨fmAll_nil, by simp [PyData.depthAll], by simp [wtAll]⟩
  | cons a r ih =>
    obtain ⟨a1, a2, a3⟩ := ih fun i hi => h i (by simp [hi])
    refine ⟨?_, ?_, ?_⟩
    · rw [List.map_cons, fmAll_cons, val_int]
      exact ⟨fmi (h a (by simp)), by omega, a1⟩
    · rw [List.map_cons, depthAll_cons]
      simp only [PyData.depth]
      omega
    · rw [List.map_cons, wtAll_cons, a3, wt_int, List.length_cons]
      omega
theorem ow_tupi {n k : Nat} (is : List Nat) (h : ∀ i ∈ is, i < 1000) (hl : is.length ≤ 8) (hn : 400 ≤ n) (hk : 2 ≤ k) : Ow (.tuple (is.map fun i => PyData.int (i : Nat))) n k := by
  obtain ⟨a1, a2, a3⟩ := ow_ints h
  exact (Ow.tup (ow_fms a1 a2)).mono (by rw [a3]; omega) (by omega)
theorem ow_odds {d : PyData} (f : Fm d) (h0 : 0 ≤ val d ∨ True) : ∀ e ∈ odds d, Ow e (60 * wt d + 400) (td d + 2) := by
  have hw := wt_pos d
  have hdt := depth_td f
  have l1 : OwAll [d] (27 * wt d + 0) d.depth := OwAll.fm f (Nat.le_refl _) OwAll.nil
  have l2 : OwAll [d, d] (27 * wt d + (27 * wt d + 0)) d.depth := OwAll.fm f (Nat.le_refl _) l1
  have ll : Ow (.list [d]) (27 * wt d + 3) (d.depth + 1) := by
    have hr := rp_form f
    refine ⟨Rq.lst (l1.q), .inl (by simp [PyData.hasDict, PyData.hasDictAll, hr.nd]), by simp [tz]⟩
  intro e he
  simp only [odds, List.mem_append, List.mem_cons, List.not_mem_nil, or_false] at he
  rcases he with (rfl | rfl | rfl | rfl | rfl | rfl | rfl | rfl | rfl | rfl | rfl | rfl | rfl | rfl) | (rfl | rfl | rfl | rfl | rfl | rfl | rfl | rfl | rfl)
  · exact (ow_bool true).mono (by omega) (by omega)
  · exact (ow_bool false).mono (by omega) (by omega)
  · exact ow_none.mono (by omega) (by omega)
  · exact ow_64.mono (by omega) (by omega)
  · obtain ⟨a1, a2, a3⟩ := ow_ints (is := [64, 65]) (by decide)
    exact (ow_lst a1 a2).mono (by rw [a3]; show 27 * 2 + 3 ≤ _; omega) (by omega)
  · exact (ow_int (by decide)).mono (by omega) (by omega)
  · exact (ow_int (by decide)).mono (by omega) (by omega)
  · exact (ow_int (by decide)).mono (by omega) (by omega)
  · exact (ow_int (by decide)).mono (by omega) (by omega)
  · exact ow_tupi [] (by decide) (by decide) (by omega) (by omega)
  · exact ow_tupi [0, 64] (by decide) (by decide) (by omega) (by omega)
  · exact ow_tupi [64, 66] (by decide) (by decide) (by omega) (by omega)
  · exact (ow_int (by decide)).mono (by omega) (by omega)
  · exact ow_tupi [70] (by decide) (by decide) (by omega) (by omega)
  · exact (ow_fm f).mono (by omega) (by omega)
  · exact ll.mono (by omega) (by omega)
  · exact (Ow.tup l1).mono (by omega) (by omega)
  · exact (Ow.tup l2).mono (by omega) (by omega)
  · exact ow_dict.mono (by omega) (by omega)
  · exact (ow_int (by decide)).mono (by omega) (by omega)
  · exact (ow_int (by decide)).mono (by omega) (by omega)
  · exact ow_tupi [64, 65, 67] (by decide) (by decide) (by omega) (by omega)
  · exact ow_tupi [0, 1, 64, 65] (by decide) (by decide) (by omega) (by omega)
theorem other_step (T : Top K mg) (n : Nat) (G__law_otherwise : FnOk P w K mg base CX0 (n + 4) T.f__law_otherwise T.fd__law_otherwise ["_law_tape", "_law_form_here", "_law_deep"]  (fun vs H Q E => ∃ m, n = m + 1 ∧ sp_other K m vs H Q E)) : FnOk P w K mg base CX0 (n + 5) T.f__law_otherwise T.fd__law_otherwise ["_law_tape", "_law_form_here", "_law_deep"]  (sp_other K n) := by
  have G__law_pick : FnOk P w K mg base CX0 (2) T.f__law_pick T.fd__law_pick ["_law_tape", "_law_some"]  sp_pick := ok__law_pick T
  have G__law_draw : FnOk P w K mg base CX0 (1) T.f__law_draw T.fd__law_draw ["_law_tape", "_law_limit"]  sp_draw := ok__law_draw T
  refine T.F__law_otherwise.ok sc__law_otherwise (fun vs H Q E h => ?_) (fun cdv A outer s H vs Q E hr h => ?_)
  · obtain ⟨τ, m, v, d, dp, rfl, _⟩ := h
    rfl
  · obtain ⟨τ, m, v, d, dp, rfl, hT, hm, hv, hf, hd, hn, hdp, hw, q⟩ := h
    refine ⟨_, (pss_cons (ps_if (PW.pt (pw_or (pt_val (pe_callB call_isi (by rfl) T.m_isinstance (by decide +kernel) (pa_cons (pv 1) (pa_cons (pe_bltn (v := .ty "int") (by rfl) T.m_int (by decide +kernel) rfl) pa_nil))) (fun _ => rfl)) (pw_or1 (PW.pt (pw_and (pt_cmpR op_gt (pv 2) pe_int (nomark _)) (pw_and1 (pt_cmpR op_eq (pe_call G__law_draw (hr.mono (by omega)) (by rfl) T.g__law_draw T.F__law_draw.kp T.b__law_draw .nil pass0 (pa_cons (pv 0) (pa_cons pe_int pa_nil))) pe_int (nomark _))))))))
      (pss_cons (ps_set (i := 3) sc__law_otherwise.nd rfl (Or.inl rfl) (pe_lst (pa_cons pe_bl (pa_cons pe_bl (pa_cons pe_non (pa_cons pe_str (pa_cons (pe_lst (pa_cons pe_int (pa_cons pe_int pa_nil))) (pa_cons (pe_un un_neg pe_int) (pa_cons (pe_op op_pow pe_int pe_int) (pa_cons (pe_op op_sub (pe_op op_pow pe_int pe_int) pe_int) (pa_cons (pe_op op_sub (pe_un un_neg (pe_op op_pow pe_int pe_int)) pe_int) (pa_cons (pe_tup pa_nil) (pa_cons (pe_tup (pa_cons pe_int (pa_cons pe_int pa_nil))) (pa_cons (pe_tup (pa_cons pe_int (pa_cons pe_int pa_nil))) (pa_cons pe_int (pa_cons (pe_tup (pa_cons pe_int pa_nil)) pa_nil))))))))))))))))
      (pss_one (ps_ret (pe_call G__law_pick (hr.mono (by omega)) (by rfl) T.g__law_pick T.F__law_pick.kp T.b__law_pick .nil pass0 (pa_cons (pv 0) (pa_cons (pe_op op_cat (pv 3) (pe_lst (pa_cons (pv 1) (pa_cons (pe_lst (pa_cons (pv 1) pa_nil)) (pa_cons (pe_tup (pa_cons (pv 1) pa_nil)) (pa_cons (pe_tup (pa_cons (pv 1) (pa_cons (pv 1) pa_nil))) (pa_cons (pe_disp (pps_cons pe_int pe_int pps_nil) (by rfl) (by rfl) (fun z => by cases z) (by decide)) (pa_cons pe_int (pa_cons pe_int (pa_cons (pe_tup (pa_cons pe_int (pa_cons pe_int (pa_cons pe_int pa_nil)))) (pa_cons (pe_tup (pa_cons pe_int (pa_cons pe_int (pa_cons pe_int (pa_cons pe_int pa_nil))))) pa_nil))))))))))) pa_nil))))))
      pss_nil)
    (pss_cons (ps_par (i := 4) (j := 5) rfl sc__law_otherwise.nd rfl rfl (by decide) rfl rfl (pa_cons (pe_call G__law_draw (hr.mono (by omega)) (by rfl) T.g__law_draw T.F__law_draw.kp T.b__law_draw .nil pass0 (pa_cons (pv 0) (pa_cons (pe_callB call_len_seq (by rfl) T.m_len PySem.boot_len (pa_cons (pv 1) pa_nil)) pa_nil))) (pa_cons (pe_call G__law_draw (hr.mono (by omega)) (by rfl) T.g__law_draw T.F__law_draw.kp T.b__law_draw .nil pass0 (pa_cons (pv 0) (pa_cons pe_int pa_nil))) pa_nil)) rfl)
    (pss_cons (ps_if (pt_cmpR op_lt (pv 5) pe_int (nomark _))
      (pss_one (ps_ret (pe_op op_catB (pe_op op_catB (pe_slice sl_tupB (pv 1) po_none (po_some (pv 4))) (pe_tup (pa_cons (pe_call G__law_otherwise (hr.mono (by omega)) (by rfl) T.g__law_otherwise T.F__law_otherwise.kp T.b__law_otherwise .nil pass0 (pa_cons (pv 0) (pa_cons (pe_ix ix_tup (pv 1) (pv 4) (fun _ _ => rfl)) (pa_cons (pe_op op_add (pv 2) pe_int) pa_nil)))) pa_nil))) (pe_slice sl_tupB (pv 1) (po_some (pe_op op_add (pv 4) pe_int)) po_none))))
      pss_nil)
    (pss_cons (ps_if (pt_cmpR op_eq (pv 5) pe_int (nomark _))
      (pss_one (ps_ret (pe_op op_catB (pe_slice sl_tupB (pv 1) po_none (po_some (pv 4))) (pe_slice sl_tupB (pv 1) (po_some (pe_op op_add (pv 4) pe_int)) po_none))))
      pss_nil)
    (pss_cons (ps_if (pt_cmpR op_eq (pv 5) pe_int (nomark _))
      (pss_one (ps_ret (pe_op op_catB (pe_op op_catB (pe_slice sl_tupB (pv 1) po_none (po_some (pv 4))) (pe_tup (pa_cons (pe_ix ix_tup (pv 1) (pv 4) (fun _ _ => rfl)) pa_nil))) (pe_slice sl_tupB (pv 1) (po_some (pv 4)) po_none))))
      pss_nil)
    (pss_one (ps_ret (pe_call G__law_pick (hr.mono (by omega)) (by rfl) T.g__law_pick T.F__law_pick.kp T.b__law_pick .nil pass0 (pa_cons (pv 0) (pa_cons (pe_lst (pa_cons (pe_callTy call_list_of (by rfl) T.m_list (by decide +kernel) (pa_cons (pv 1) pa_nil)) (pa_cons (pe_revT (pv 1)) (pa_cons (pe_op op_catB (pv 1) (pe_tup (pa_cons pe_int pa_nil))) (pa_cons (pe_op op_catB (pe_slice sl_tupB (pv 1) po_none (po_some (pv 4))) (pe_revT (pe_slice sl_tupB (pv 1) (po_some (pv 4)) po_none))) pa_nil))))) pa_nil)))))))))), ?_⟩
    refine seqIf2 (fun b H1 => But τ.p H H1 ∧ (∃ m', m' ≤ m + 1 ∧ Tape H1 τ m') ∧ (b = false → isId d = false)) (fun R hR => ?_) (fun H1 h => ?_) (fun H1 h => ?_)
    · refine ⟨_, rfl, ?_⟩
      dsimp only [tCons, tC, tNil]
      refine hv.isI ⟨_, rfl, ?_⟩
      cases hi : isId d with
      | true => exact iteT (hR _ _ ⟨But.refl _, ⟨m, by omega, hT⟩, fun z => nomatch z⟩)
      | false =>
        refine iteF ⟨_, rfl, _, _, rfl, rfl, _, rfl, ?_⟩
        refine ifD (fun h0 => ?_) (fun h0 => hR _ _ ⟨But.refl _, ⟨m, by omega, hT⟩, fun _ => hi⟩)
        refine ⟨_, rfl, τ, m, 3, rfl, by decide, by decide, by omega, hT, fun x H1 x1 x2 hT1 hB1 => ?_⟩
        refine ⟨rfl, _, rfl, ?_⟩
        exact hR _ _ ⟨hB1, ⟨m + 1, Nat.le_refl _, hT1⟩, fun _ => hi⟩
    · obtain ⟨hb, ⟨m', hm', hT1⟩, _⟩ := h
      have cp : CPow 2 64 := ⟨by decide, by decide, by decide⟩
      have hv1 := dz_tape hT hb hv
      refine ⟨len_le (Nat.le_of_ble_eq_true rfl), fun t1 nt1 => ?_⟩
      generalize eG1 : upd H1 t1 _ = G1
      obtain ⟨st1, ht1⟩ := new_step nt1 eG1
      clear eG1
      refine ⟨_, rfl, _, _, rfl, rfl, cp, _, _, rfl, rfl, cp, _, _, rfl, rfl, _, _, rfl, rfl, cp, _, rfl, _, _, rfl, rfl, ?_⟩
      refine ⟨len_le (Nat.le_of_ble_eq_true rfl), fun t2 nt2 => ?_⟩
      generalize eG2 : upd G1 t2 _ = G2
      obtain ⟨st2, ht2⟩ := new_step nt2 eG2
      clear eG2
      refine ⟨len_le (Nat.le_of_ble_eq_true rfl), fun t3 nt3 => ?_⟩
      generalize eG3 : upd G2 t3 _ = G3
      obtain ⟨st3, ht3⟩ := new_step nt3 eG3
      clear eG3
      refine ⟨len_le (Nat.le_of_ble_eq_true rfl), fun t4 nt4 => ?_⟩
      generalize eG4 : upd G3 t4 _ = G4
      obtain ⟨st4, ht4⟩ := new_step nt4 eG4
      clear eG4
      refine ⟨len_le (Nat.le_of_ble_eq_true rfl), fun t5 nt5 => ?_⟩
      generalize eG5 : upd G4 t5 _ = G5
      obtain ⟨st5, ht5⟩ := new_step nt5 eG5
      clear eG5
      refine ⟨len_le (Nat.le_of_ble_eq_true rfl), fun t6 nt6 => ?_⟩
      generalize eG6 : upd G5 t6 _ = G6
      obtain ⟨st6, ht6⟩ := new_step nt6 eG6
      clear eG6
      refine ⟨_, rfl, _, rfl, _, rfl, _, rfl, ?_⟩
      refine ⟨len_le (Nat.le_of_ble_eq_true rfl), fun u1 nu1 => ?_⟩
      generalize eF1 : upd G6 u1 _ = F1
      obtain ⟨su1, hu1⟩ := new_step nu1 eF1
      clear eF1
      refine ⟨_, rfl, ?_⟩
      refine ⟨len_le (Nat.le_of_ble_eq_true rfl), fun u2 nu2 => ?_⟩
      generalize eF2 : upd F1 u2 _ = F2
      obtain ⟨su2, hu2⟩ := new_step nu2 eF2
      clear eF2
      refine ⟨_, rfl, _, rfl, ?_⟩
      refine ⟨len_le (Nat.le_of_ble_eq_true rfl), fun u3 nu3 => ?_⟩
      generalize eF3 : upd F2 u3 _ = F3
      obtain ⟨su3, hu3⟩ := new_step nu3 eF3
      clear eF3
      refine fun pd npd => ⟨upd_same, [(.inl 64, .int 65)], rfl, by decide, ?_⟩
      rw [upd_upd, show mergeK [] [((.inl 64 : Key), V.int 65)] = [(.inl 64, .int 65)] from rfl]
      generalize eF4 : upd F3 pd _ = F4
      obtain ⟨spd, hpd⟩ := new_step npd eF4
      clear eF4
      refine ⟨len_le (Nat.le_of_ble_eq_true rfl), fun u4 nu4 => ?_⟩
      generalize eF5 : upd F4 u4 _ = F5
      obtain ⟨su4, hu4⟩ := new_step nu4 eF5
      clear eF5
      refine ⟨len_le (Nat.le_of_ble_eq_true rfl), fun u5 nu5 => ?_⟩
      generalize eF6 : upd F5 u5 _ = F6
      obtain ⟨su5, hu5⟩ := new_step nu5 eF6
      clear eF6
      refine ⟨len_le (Nat.le_of_ble_eq_true rfl), fun u6 nu6 => ?_⟩
      generalize eF7 : upd F6 u6 _ = F7
      obtain ⟨su6, hu6⟩ := new_step nu6 eF7
      clear eF7
      have k6 : Same G6 F7 := su1.trans (su2.trans (su3.trans (spd.trans (su4.trans (su5.trans su6)))))
      refine ⟨t6, u6, _, _, rfl, rfl, k6 _ _ ht6, hu6, len_le (Nat.le_of_ble_eq_true rfl), fun t7 nt7 => ?_⟩
      generalize eF8 : upd F7 t7 _ = F8
      obtain ⟨st7, ht7⟩ := new_step nt7 eF8
      clear eF8
      have l5 : Same F6 F8 := su6.trans st7
      have l4 : Same F5 F8 := su5.trans l5
      have l3 : Same F4 F8 := su4.trans l4
      have l2 : Same F3 F8 := spd.trans l3
      have l1 : Same F2 F8 := su3.trans l2
      have l0 : Same F1 F8 := su2.trans l1
      have j6 : Same G6 F8 := su1.trans l0
      have j5 : Same G5 F8 := st6.trans j6
      have j4 : Same G4 F8 := st5.trans j5
      have j3 : Same G3 F8 := st4.trans j4
      have j2 : Same G2 F8 := st3.trans j3
      have j1 : Same G1 F8 := st2.trans j2
      have j0 : Same H1 F8 := st1.trans j1
      have hv8 := hv1.same j0
      have all : DzAll K F8 _ (odds d) := DzAll.app
        (.cons (.bl true) <| .cons (.bl false) <| .cons .non <| .cons (.str _) <| .cons (.lst (j1 _ _ ht1) (.cons (.int 64) <| .cons (.int 65) .nil)) <| .cons (.int _) <| .cons (.int _) <| .cons (.int _) <| .cons (.int _) <|
          .cons (.tup (.inl (.inl (j2 _ _ ht2))) .nil) <| .cons (.tup (.inl (.inl (j3 _ _ ht3))) (.cons (.int 0) <| .cons (.int 64) .nil)) <| .cons (.tup (.inl (.inl (j4 _ _ ht4))) (.cons (.int 64) <| .cons (.int 66) .nil)) <|
          .cons (.int 0) <| .cons (.tup (.inl (.inl (j5 _ _ ht5))) (.cons (.int 70) .nil)) .nil)
        (.cons hv8 <| .cons (.lst (l0 _ _ hu1) (.cons hv8 .nil)) <| .cons (.tup (.inl (.inl (l1 _ _ hu2))) (.cons hv8 .nil)) <| .cons (.tup (.inl (.inl (l2 _ _ hu3))) (.cons hv8 <| .cons hv8 .nil)) <| .cons (.dct (l3 _ _ hpd)) <|
          .cons (.int 64) <| .cons (.int 65) <| .cons (.tup (.inl (.inl (l4 _ _ hu4))) (.cons (.int 64) <| .cons (.int 65) <| .cons (.int 67) .nil)) <| .cons (.tup (.inl (.inl (l5 _ _ hu5))) (.cons (.int 0) <| .cons (.int 1) <| .cons (.int 64) <| .cons (.int 65) .nil)) .nil)
      refine ⟨τ, t7, m', _, rfl, by omega, hT1.up j0, ht7, Nat.le_of_ble_eq_true rfl, Nat.le_of_ble_eq_true rfl, fun x H2 hx hT2 hB2 => ?_⟩
      obtain ⟨j, hj⟩ := List.mem_iff_getElem?.mp hx
      obtain ⟨e, he, hze⟩ := all.get hj
      exact q x e H2 (m' + 1) (dz_tape (hT1.up j0) hB2 hze) (ow_odds hf (.inr trivial) e (List.mem_of_getElem? he)) hT2 (by omega) (hb.trans ((But.of j0).trans hB2))
    · obtain ⟨hb, ⟨m', hm', hT1⟩, hi⟩ := h
      have hv1 := dz_tape hT hb hv
      obtain ⟨a, us, ds, rfl, rfl, hs1, hall1⟩ : ∃ a us ds, v = .ref a ∧ d = .tuple ds ∧ SqT K H1 a us ∧ DzAll K H1 us ds := by
        rcases hv1.tup_or with h | ⟨htd, _, _⟩
        · exact h
        · rcases fm_cases hf with ⟨i, rfl⟩ | ⟨ds, rfl⟩
          · cases hi rfl
          · cases htd
      have hul := hall1.len
      obtain ⟨hF, hA, h64⟩ := (fm_tuple _).mp hf
      have hne : 0 < ds.length := by
        obtain ⟨t, ht, _⟩ := h64
        obtain ⟨d, hd, _⟩ := mem_vals.mp ht
        exact List.length_pos_of_mem hd
      have htl := tzAll_len ds
      rw [tzAll_wt hF] at htl
      have hwt : wt (.tuple ds) = 1 + wtAll ds := wt_tuple ds
      have htd : td (.tuple ds) = tdAll ds + 1 := by simp [td]
      have hda := depthAll_td hF
      refine ⟨_, rfl, _, rfl, a, us, rfl, .inr hs1, τ, m', us.length, rfl, by omega, by omega, by omega, hT1, fun x H2 x1 x2 hT2 hB2 => ?_⟩
      refine ⟨_, rfl, τ, m' + 1, 6, rfl, by decide, by decide, by omega, hT2, fun y H3 y1 y2 hT3 hB3 => ?_⟩
      refine ⟨_, _, rfl, ?_⟩
      obtain ⟨c, rfl⟩ := Int.eq_ofNat_of_zero_le x1
      have hcl : c < us.length := by omega
      have hB13 := hB2.trans hB3
      have hs3 := sqT_tape hs1 hT1 hB13
      have hall3 := dzs_tape hT1 hB13 hall1
      have hB03 := hb.trans hB13
      obtain ⟨u, hu⟩ : ∃ u, us[c]? = some u := ⟨us[c], List.getElem?_eq_getElem hcl⟩
      obtain ⟨du, hdu, hzu⟩ := hall3.get hu
      have hdum := List.mem_of_getElem? hdu
      have esp : ds = ds.take c ++ du :: ds.drop (c + 1) := by
        have hi : c < ds.length := by omega
        rw [List.getElem?_eq_getElem hi] at hdu
        rw [← Option.some.inj hdu, ← List.drop_eq_getElem_cons hi, List.take_append_drop]
      have ewt : wtAll ds = wtAll (ds.take c) + (wt du + wtAll (ds.drop (c + 1))) := by
        have := congrArg wtAll esp
        rw [wtAll_app, wtAll_cons] at this
        exact this
      have fT : FmAll (ds.take c) := fmAll_perm hF fun d hd => List.mem_of_mem_take hd
      have fD : FmAll (ds.drop (c + 1)) := fmAll_perm hF fun d hd => List.mem_of_mem_drop hd
      have fD0 : FmAll (ds.drop c) := fmAll_perm hF fun d hd => List.mem_of_mem_drop hd
      have dep : ∀ {ys : List PyData}, (∀ d ∈ ys, d ∈ ds) → PyData.depthAll ys ≤ td (.tuple ds) := fun {ys} h => by
        rw [depthAll_le]
        intro d hd
        have := depthAll_le.mp (Nat.le_refl (PyData.depthAll ds)) d (h d hd)
        omega
      have depT := dep (ys := ds.take c) fun d hd => List.mem_of_mem_take hd
      have depD := dep (ys := ds.drop (c + 1)) fun d hd => List.mem_of_mem_drop hd
      have depD0 := dep (ys := ds.drop c) fun d hd => List.mem_of_mem_drop hd
      have wD0 : wtAll (ds.drop c) = wt du + wtAll (ds.drop (c + 1)) := by
        have := congrArg wtAll (List.take_append_drop c ds)
        rw [wtAll_app] at this
        omega
      have cut1 : cutV us none (some (c : Int)) = us.take c := by
        unfold cutV
        rw [HT.sIx_none, HT.sIx_nat, List.drop_zero, Nat.sub_zero, Nat.min_eq_left (by omega)]
      have cut2 : cutV us (some ((c : Int) + 1)) none = us.drop (c + 1) := by
        unfold cutV
        rw [HT.sIx_none, show ((c : Int) + 1) = ((c + 1 : Nat) : Int) by omega, HT.sIx_nat, Nat.min_eq_left (by omega), List.take_of_length_le (by rw [List.length_drop]; omega)]
      have cut3 : cutV us (some (c : Int)) none = us.drop c := by
        unfold cutV
        rw [HT.sIx_none, HT.sIx_nat, Nat.min_eq_left (by omega), List.take_of_length_le (by rw [List.length_drop]; omega)]
      have fin : ∀ (l : Addr) (ws : List V) (es : List PyData) (G : Hp) (m2 : Nat), SqT K G l ws → DzAll K G ws es → OwAll es (60 * wt (.tuple ds) + 397) (td (.tuple ds) + 1) → Tape G τ m2 → m2 ≤ m + 4 * n + 4 → But τ.p H3 G → Q (.ref l) G := fun l ws es G m2 g1 g2 g3 g4 g5 g6 =>
        q _ _ G m2 (.tup g1 g2) (Ow.tup g3) g4 g5 (hB03.trans g6)
      have slen : ∀ {k : Nat}, k ≤ 40010 → k ≤ sizeLine := fun h => len_le (by omega)
      refine ⟨_, rfl, _, _, rfl, rfl, _, rfl, ?_⟩
      refine ifD (fun hw3 => ?_) (fun hw3 => ?_)
      · obtain ⟨n', rfl⟩ : ∃ k, n = k + 1 := ⟨n - 1, by omega⟩
        refine ⟨_, rfl, _, rfl, _, rfl, a, us, rfl, hs3, fun l1 H4 s4 hl1 => ?_⟩
        rw [cut1] at hl1
        have hutd := tdAll_mem hdum
        have hwu := wt_mem hdum
        refine ⟨_, rfl, _, rfl, _, rfl, a, _, _, u, rfl, rfl, sqT_keep s4 hs3, at_of (j := c) rfl hu, ?_⟩
        refine ⟨_, rfl, _, _, rfl, rfl, n', rfl, τ, m' + 1 + 1, u, du, dp + 1, by simp, hT3.up s4, by omega, hzu.same s4, (fmAll_mem hF du hdum).1, by omega, by omega, by omega, by omega, fun x e H5 m5 hze hoe hT5 hm5 hB5 => ?_⟩
        have hT4 := hT3.up s4
        refine ⟨len_le (Nat.le_of_ble_eq_true rfl), fun t5 nt5 => ?_⟩
        generalize eG5 : upd H5 t5 _ = G5
        obtain ⟨st5, ht5⟩ := new_step nt5 eG5
        clear eG5
        have hl1' := sqT_keep st5 (sqT_tape hl1 hT4 hB5)
        have hs5 := sqT_keep st5 (sqT_tape (sqT_keep s4 hs3) hT4 hB5)
        refine ⟨l1, t5, _, _, rfl, rfl, hl1', .inl (.inl ht5), slen (by simp; omega), fun l2 H6 s6 hl2 => ?_⟩
        refine ⟨_, rfl, _, rfl, _, _, rfl, rfl, _, rfl, a, us, rfl, sqT_keep s6 hs5, fun l3 H7 s7 hl3 => ?_⟩
        rw [cut2] at hl3
        refine ⟨l2, l3, _, _, rfl, rfl, sqT_keep s7 hl2, hl3, slen (by simp; omega), fun l4 H8 s8 hl4 => ?_⟩
        have sm58 : Same H5 H8 := st5.trans (s6.trans (s7.trans s8))
        have hall8 := DzAll.same sm58 (dzs_tape hT4 hB5 (DzAll.same s4 hall3))
        refine fin l4 _ (ds.take c ++ [e] ++ ds.drop (c + 1)) H8 m5 hl4 (((hall8.take c).app (.cons (hze.same sm58) .nil)).app (hall8.drop (c + 1))) ?_ (hT5.up sm58) (by omega) ((But.of s4).trans (hB5.trans (But.of sm58)))
        rw [List.append_assoc]
        exact (ow_app (OwAll.ins (hoe.mono (Nat.le_refl _) (by omega)) fD (ow_fms fD (Nat.le_succ_of_le depD))) fT (Nat.le_succ_of_le depT)).mono (by omega) (Nat.le_refl _)
      dsimp only [tNext]
      refine ⟨_, rfl, rfl, _, rfl, ?_⟩
      refine ifE (fun hw3 => ?_) (fun hw3 => ?_)
      · refine ⟨_, rfl, _, rfl, _, rfl, a, us, rfl, hs3, fun l1 H4 s4 hl1 => ?_⟩
        rw [cut1] at hl1
        refine ⟨_, rfl, _, rfl, _, _, rfl, rfl, _, rfl, a, us, rfl, sqT_keep s4 hs3, fun l3 H5 s5 hl3 => ?_⟩
        rw [cut2] at hl3
        refine ⟨l1, l3, _, _, rfl, rfl, sqT_keep s5 hl1, hl3, slen (by simp; omega), fun l4 H6 s6 hl4 => ?_⟩
        have sm := s4.trans (s5.trans s6)
        have hall6 := DzAll.same sm hall3
        refine fin l4 _ (ds.take c ++ ds.drop (c + 1)) H6 _ hl4 ((hall6.take c).app (hall6.drop (c + 1))) ?_ (hT3.up sm) (by omega) (But.of sm)
        exact (ow_app (ow_fms fD (Nat.le_succ_of_le depD)) fT (Nat.le_succ_of_le depT)).mono (by omega) (Nat.le_refl _)
      dsimp only [tNext]
      refine ⟨_, rfl, rfl, _, rfl, ?_⟩
      refine ifE (fun hw3 => ?_) (fun hw3 => ?_)
      · refine ⟨_, rfl, _, rfl, _, rfl, a, us, rfl, hs3, fun l1 H4 s4 hl1 => ?_⟩
        rw [cut1] at hl1
        refine ⟨_, rfl, _, rfl, a, _, _, u, rfl, rfl, sqT_keep s4 hs3, at_of (j := c) rfl hu, ?_⟩
        refine ⟨len_le (Nat.le_of_ble_eq_true rfl), fun t5 nt5 => ?_⟩
        generalize eG5 : upd H4 t5 _ = G5
        obtain ⟨st5, ht5⟩ := new_step nt5 eG5
        clear eG5
        refine ⟨l1, t5, _, _, rfl, rfl, sqT_keep st5 hl1, .inl (.inl ht5), slen (by simp; omega), fun l2 H6 s6 hl2 => ?_⟩
        have sm6 := s4.trans (st5.trans s6)
        refine ⟨_, rfl, _, rfl, _, rfl, a, us, rfl, sqT_keep sm6 hs3, fun l3 H7 s7 hl3 => ?_⟩
        rw [cut3] at hl3
        refine ⟨l2, l3, _, _, rfl, rfl, sqT_keep s7 hl2, hl3, slen (by simp; omega), fun l4 H8 s8 hl4 => ?_⟩
        have sm := sm6.trans (s7.trans s8)
        have hall8 := DzAll.same sm hall3
        refine fin l4 _ (ds.take c ++ [du] ++ ds.drop c) H8 _ hl4 (((hall8.take c).app (.cons (hzu.same sm) .nil)).app (hall8.drop c)) ?_ (hT3.up sm) (by omega) (But.of sm)
        rw [List.append_assoc]
        have hdd : du.depth ≤ td (.tuple ds) + 1 := by
          have := depthAll_le.mp (Nat.le_refl (PyData.depthAll ds)) du hdum
          omega
        exact (ow_app (OwAll.fm (fmAll_mem hF du hdum).1 hdd (ow_fms fD0 (Nat.le_succ_of_le depD0))) fT (Nat.le_succ_of_le depT)).mono (by omega) (Nat.le_refl _)
      dsimp only [tNext]
      refine ⟨_, rfl, _, rfl, a, us, rfl, .inr hs3, ?_⟩
      intro u1 nu1
      generalize eG1 : upd H3 u1 _ = G1
      obtain ⟨su1, hu1⟩ := new_step nu1 eG1
      clear eG1
      refine ⟨_, rfl, a, us, rfl, sqT_keep su1 hs3, ?_⟩
      intro u2 nu2
      generalize eG2 : upd G1 u2 _ = G2
      obtain ⟨su2, hu2⟩ := new_step nu2 eG2
      clear eG2
      have s02 := su1.trans su2
      refine ⟨_, rfl, ?_⟩
      refine ⟨len_le (Nat.le_of_ble_eq_true rfl), fun t0 nt0 => ?_⟩
      generalize eG3 : upd G2 t0 _ = G3
      obtain ⟨st0, ht0⟩ := new_step nt0 eG3
      clear eG3
      have s03 := s02.trans st0
      refine ⟨a, t0, _, _, rfl, rfl, sqT_keep s03 hs3, .inl (.inl ht0), slen (by simp; omega), fun l1 G4 s4 hl1 => ?_⟩
      have s04 := s03.trans s4
      refine ⟨_, rfl, _, rfl, _, rfl, a, us, rfl, sqT_keep s04 hs3, fun l2 G5 s5 hl2 => ?_⟩
      have s05 := s04.trans s5
      rw [cut1] at hl2
      refine ⟨_, rfl, _, rfl, _, rfl, a, us, rfl, sqT_keep s05 hs3, fun l3 G6 s6 hl3 => ?_⟩
      have s06 := s05.trans s6
      rw [cut3] at hl3
      refine ⟨l3, _, rfl, hl3, ?_⟩
      intro u4 nu4
      generalize eG7 : upd G6 u4 _ = G7
      obtain ⟨su4, hu4⟩ := new_step nu4 eG7
      clear eG7
      refine ⟨l2, u4, _, _, rfl, rfl, sqT_keep (s6.trans su4) hl2, .inl (.inl hu4), slen (by simp; omega), fun l5 G8 s8 hl5 => ?_⟩
      refine ⟨len_le (Nat.le_of_ble_eq_true rfl), fun lL nlL => ?_⟩
      generalize eG9 : upd G8 lL _ = G9
      obtain ⟨slL, hlL⟩ := new_step nlL eG9
      clear eG9
      have s79 := s8.trans slL
      have s69 := su4.trans s79
      have s59 := s6.trans s69
      have s49 := s5.trans s59
      have s39 := s4.trans s49
      have s29 := st0.trans s39
      have s19 := su2.trans s29
      have s09 := su1.trans s19
      have hall9 := DzAll.same s09 hall3
      have all : DzAll K G9 _ [.list ds, .tuple ds.reverse, .tuple (ds ++ [.int 0]), .tuple (ds.take c ++ (ds.drop c).reverse)] :=
        .cons (.lst (s19 _ _ hu1) hall9) <| .cons (.tup (.inl (.inl (s29 _ _ hu2))) hall9.rev) <| .cons (.tup (sqT_keep s49 hl1) (hall9.app (.cons (.int 0) .nil))) <| .cons (.tup (sqT_keep slL hl5) ((hall9.take c).app (hall9.drop c).rev)) .nil
      refine ⟨τ, lL, m' + 1 + 1, _, rfl, by omega, hT3.up s09, hlL, Nat.le_of_ble_eq_true rfl, Nat.le_of_ble_eq_true rfl, fun x H9 hx hT9 hB9 => ?_⟩
      obtain ⟨j, hj⟩ := List.mem_iff_getElem?.mp hx
      obtain ⟨e, he, hze⟩ := all.get hj
      refine q x e H9 _ (dz_tape (hT3.up s09) hB9 hze) ?_ hT9 (by omega) (hB03.trans ((But.of s09).trans hB9))
      have hem := List.mem_of_getElem? he
      have depS : PyData.depthAll ds ≤ td (.tuple ds) + 1 := by omega
      simp only [List.mem_cons, List.not_mem_nil, or_false] at hem
      rcases hem with rfl | rfl | rfl | rfl
      · exact (ow_lst hF depS).mono (by omega) (by omega)
      · have fR : FmAll ds.reverse := fmAll_perm hF fun d hd => List.mem_reverse.mp hd
        have dR := dep (ys := ds.reverse) fun d hd => List.mem_reverse.mp hd
        exact (Ow.tup (ow_fms fR dR)).mono (by rw [wtAll_rev]; omega) (by omega)
      · have f0 : FmAll [.int 0] := by
          rw [fmAll_cons, val_int]
          exact ⟨fmi (i := 0) (by decide), by decide, fmAll_nil⟩
        have h0 : OwAll [.int 0] (27 * wtAll [.int 0]) (td (.tuple ds) + 1) := ow_fms f0 (by simp [PyData.depthAll, PyData.depth])
        have w0 : wtAll [.int 0] = 1 := by rw [wtAll_cons, wtAll_nil, wt_int]
        exact (Ow.tup (ow_app h0 hF depS)).mono (by omega) (by omega)
      · have fR : FmAll (ds.drop c).reverse := fmAll_perm hF fun d hd => List.mem_of_mem_drop (List.mem_reverse.mp hd)
        have dR := dep (ys := (ds.drop c).reverse) fun d hd => List.mem_of_mem_drop (List.mem_reverse.mp hd)
        exact (Ow.tup (ow_app (ow_fms fR dR) fT depT)).mono (by rw [wtAll_rev]; omega) (by omega)
theorem ok__law_otherwise (T : Top K mg) : ∀ n, FnOk P w K mg base CX0 (n + 5) T.f__law_otherwise T.fd__law_otherwise ["_law_tape", "_law_form_here", "_law_deep"]  (sp_other K n) := by
  intro n
  induction n with
  | zero => exact other_step T 0 ⟨fun vs H Q E ⟨m, h, _⟩ => by omega, fun A outer s H args us vs Q E hr he hb hv ⟨m, h, _⟩ => by omega⟩
  | succ n ih => exact other_step T (n + 1) (ih.imp fun vs H Q E ⟨m, h, g⟩ => by
    obtain rfl : m = n := by omega
    exact g)
end
end K00
set_option Elab.async false
set_option linter.all false
set_option maxRecDepth 100000
set_option pp.deepTerms false
set_option pp.maxSteps 1500
set_option maxHeartbeats 1000000
/-! forms at the limits -/
namespace K00
open PySem PySem.Spec PyProof.Rows L2 HX TV FM DX FB FC PM
local macro_rules | `(tactic| walk_at "r") => `(tactic| (repeat (first | refine Exists.intro _ (And.intro rfl ?_) | refine And.intro rfl ?_ | refine Exists.intro _ (Exists.intro _ (And.intro rfl (And.intro rfl ?_))) | refine And.intro (by omega) ?_ | refine And.intro (Or.inl (And.intro (by omega) (by omega))) ?_ | refine And.intro (Or.inr (And.intro (by omega) (by omega))) ?_ | refine And.intro (And.intro (by omega) (by omega)) ?_ | refine And.intro (And.intro (by decide) (And.intro (by decide) (by decide))) ?_ | refine Or.inl (Exists.intro _ (And.intro rfl ?_)) | (dsimp only [gName]; first | with_reducible refine seqC ?_ | with_reducible refine asgC ?_))))
local macro_rules | `(tactic| walk_at "s") => `(tactic| (repeat (first | refine Exists.intro _ (And.intro rfl ?_) | refine And.intro rfl ?_ | refine Exists.intro _ (Exists.intro _ (And.intro rfl (And.intro rfl ?_))) | refine And.intro (by omega) ?_ | refine And.intro (Or.inl (And.intro (by omega) (by omega))) ?_ | refine And.intro (Or.inr (And.intro (by omega) (by omega))) ?_ | refine And.intro (And.intro (by omega) (by omega)) ?_ | refine And.intro (And.intro (by decide) (And.intro (by decide) (by decide))) ?_ | refine Or.inl (Exists.intro _ (And.intro rfl ?_)) | refine Exists.intro _ (Exists.intro _ (And.intro rfl ?_)) | (dsimp only [gName]; first | with_reducible refine seqC ?_ | with_reducible refine asgC ?_))))
section
variable {P : Program} {w : World} {K : PySem.W.Frag} {mg : Str → Option Value} {base : Heap}
/-- a thing, and whether it is a form within the limits -/
def LimAt (K : PySem.W.Frag) (H : Hp) (x : V) : Prop := ∃ (t : Addr) (v : V) (d : PyData) (b : Bool), x = .ref t ∧ H t = some (.tup [v, .bl b]) ∧ Dz K H v d ∧ (b = true ↔ td d ≤ 6 ∧ tz d ≤ 2000 ∧ Fm d)
def wd (n : Nat) : List Nat := (List.range n).map fun k => 100 + k
theorem asc_wd (n : Nat) : Asc (wd n) := by
  refine asc_pairwise.mpr ?_
  unfold wd
  rw [List.pairwise_map]
  exact List.pairwise_lt_range.imp fun h => by omega
theorem lt_wd {n t : Nat} (h : t ∈ wd n) : t < 100 + n := by
  obtain ⟨k, hk, rfl⟩ := List.mem_map.mp h
  have := List.mem_range.mp hk
  omega
theorem len_wd (n : Nat) : (wd n).length = n := by simp [wd]
theorem tdAll_iD (ts : List Nat) (h : ∀ t ∈ ts, t < 2 ^ 64) : tdAll (iD ts) = 0 := by
  rw [← depthAll_td (fmAll_iD h), depthAll_iD]
theorem tzAll_iD (ts : List Nat) (h : ∀ t ∈ ts, t < 2 ^ 64) : tzAll (iD ts) = ts.length := by
  rw [tzAll_wt (fmAll_iD h), wtAll_iD]
theorem td_tuple (ds : List PyData) : td (.tuple ds) = tdAll ds + 1 := by simp [td]
theorem tdAll_cons (d : PyData) (r : List PyData) : tdAll (d :: r) = max (td d) (tdAll r) := by simp [tdAll]
theorem tdAll_nil : tdAll [] = 0 := by simp [tdAll]
theorem tzAll_nil : tzAll [] = 0 := by simp [tzAll]
theorem td_int (i : Int) : td (.int i) = 0 := by simp [td]
theorem tz_int (i : Int) : tz (.int i) = 1 := by simp [tz]
theorem lim_wide {n : Nat} (h1 : 1 ≤ n) (h2 : n ≤ 3000) : (td (.tuple (iD (wd n))) ≤ 6 ∧ tz (.tuple (iD (wd n))) ≤ 2000 ∧ Fm (.tuple (iD (wd n)))) ↔ n + 1 ≤ 2000 := by
  have hb : ∀ t ∈ wd n, t < 2 ^ 64 := fun t ht => by
    have := lt_wd ht
    omega
  rw [td_tuple, tz_tuple, tdAll_iD _ hb, tzAll_iD _ hb, len_wd]
  constructor
  · rintro ⟨_, h, _⟩
    exact h
  · intro h
    refine ⟨by decide, h, ?_⟩
    rw [fm_tuple, vals_iD]
    exact ⟨fmAll_iD hb, asc_wd n, 100, List.mem_map.mpr ⟨0, List.mem_range.mpr (by omega), rfl⟩, by decide⟩
theorem fm_70 : Fm (.tuple [.int 70, .int 71]) := by
  have h : [PyData.int 70, .int 71] = iD [70, 71] := rfl
  rw [h, fm_tuple, vals_iD]
  exact ⟨fmAll_iD (by decide), asc_pairwise.mpr (by decide), 70, by simp, by decide⟩
theorem big_of {ds : List PyData} (f : Fm (.tuple ds)) (h : ds.length % 2 = 0) : 2 ^ 64 ≤ val (.tuple ds) := by
  have h1 := tuple_far f
  have h2 := val_neg f
  have h3 : ¬ val (.tuple ds) < 0 := fun z => by
    have := h2.mp z
    omega
  omega
theorem lim_mix {ts : List Nat} (hA : Asc ts) (hb : ∀ t ∈ ts, t < 10000) (hl : ts.length ≤ 1000) : (td (.tuple (iD ts ++ [.tuple [.int 70, .int 71]])) ≤ 6 ∧ tz (.tuple (iD ts ++ [.tuple [.int 70, .int 71]])) ≤ 2000 ∧ Fm (.tuple (iD ts ++ [.tuple [.int 70, .int 71]]))) := by
  have hb2 : ∀ t ∈ ts, t < 2 ^ 64 := fun t ht => by
    have := hb t ht
    omega
  have hg := big_of fm_70 rfl
  have fA : FmAll (iD ts ++ [.tuple [.int 70, .int 71]]) := by
    rw [fmAll_app, fmAll_cons]
    exact ⟨fmAll_iD hb2, fm_70, by omega, fmAll_nil⟩
  have f : Fm (.tuple (iD ts ++ [.tuple [.int 70, .int 71]])) := by
    rw [fm_tuple, vals_app, vals_cons, vals_nil, vals_iD]
    refine ⟨fA, asc_snoc.mpr ⟨hA, fun t ht => ?_⟩, (val (.tuple [.int 70, .int 71])).toNat, by simp, by omega⟩
    have := hb t ht
    omega
  refine ⟨?_, ?_, f⟩
  · rw [← depth_td f, depth_tuple]
    have : PyData.depthAll (iD ts ++ [.tuple [.int 70, .int 71]]) ≤ 1 := by
      rw [depthAll_le]
      intro d hd
      rcases List.mem_append.mp hd with h | h
      · have := depthAll_le.mp (Nat.le_of_eq (depthAll_iD ts)) d h
        omega
      · rw [List.mem_singleton.mp h]
        decide
    omega
  · rw [tz_wt f, wt_tuple, wtAll_app, wtAll_iD, wtAll_cons, wtAll_nil, wt_tuple, wtAll_cons, wtAll_cons, wtAll_nil, wt_int, wt_int]
    omega
/-- a tall form -/
def tl : Nat → PyData
  | 0 => .tuple [.int 64, .int 70]
  | k + 1 => .tuple [.int 64, tl k]
theorem tl_ok : ∀ k, Fm (tl k) ∧ 2 ^ 64 ≤ val (tl k) ∧ td (tl k) = k + 1 ∧ tz (tl k) = 3 + 2 * k
  | 0 => by
    have h : [PyData.int 64, .int 70] = iD [64, 70] := rfl
    have f : Fm (.tuple [.int 64, .int 70]) := by
      rw [h, fm_tuple, vals_iD]
      exact ⟨fmAll_iD (by decide), asc_pairwise.mpr (by decide), 70, by simp, by decide⟩
    refine ⟨f, big_of f rfl, ?_, ?_⟩
    · rw [tl, td_tuple, tdAll_cons, tdAll_cons, tdAll_nil, td_int, td_int]
      rfl
    · rw [tl, tz_tuple, tzAll_cons, tzAll_cons, tzAll_nil, tz_int, tz_int]
  | k + 1 => by
    obtain ⟨f, hv, h1, h2⟩ := tl_ok k
    have f2 : Fm (.tuple [.int 64, tl k]) := by
      rw [fm_tuple, fmAll_cons, fmAll_cons, vals_cons, vals_cons, vals_nil, val_int]
      refine ⟨⟨fmi (i := 64) (by decide), by decide, f, by omega, fmAll_nil⟩, asc_pairwise.mpr ?_, (val (tl k)).toNat, by simp, by omega⟩
      simp only [List.pairwise_cons, List.mem_singleton, forall_eq, List.not_mem_nil, false_implies, implies_true, List.Pairwise.nil, and_true]
      show (64 : Int).toNat < (val (tl k)).toNat
      have : (64 : Int).toNat = 64 := rfl
      omega
    refine ⟨f2, big_of f2 (by simp), ?_, ?_⟩
    · rw [tl, td_tuple, tdAll_cons, tdAll_cons, tdAll_nil, td_int, h1]
      omega
    · rw [tl, tz_tuple, tzAll_cons, tzAll_cons, tzAll_nil, tz_int, h2]
      omega
def sp_limits (K : PySem.W.Frag) : Sp := fun vs H Q _ => ∃ (τ : Tp) (m : Nat), vs = [.ref τ.p] ∧ Tape H τ m ∧ m ≤ 800000 ∧
  ∀ (L : Addr) (xs : List V) H', H' L = some (.lst xs) → (∀ x ∈ xs, LimAt K H' x) → Tape H' τ (m + 2) → But τ.p H H' → Q (.ref L) H'
theorem ok__law_limits (T : Top K mg) : FnOk P w K mg base CX0 (5) T.f__law_limits T.fd__law_limits ["_law_tape"]  (sp_limits K) := by
  have G__law_draw : FnOk P w K mg base CX0 (1) T.f__law_draw T.fd__law_draw ["_law_tape", "_law_limit"]  sp_draw := ok__law_draw T
  refine T.F__law_limits.ok sc__law_limits (fun vs H Q E h => ?_) (fun cdv A outer s H vs Q E hr h => ?_)
  · obtain ⟨τ, m, rfl, _⟩ := h
    rfl
  · obtain ⟨τ, m, rfl, hT, hm, q⟩ := h
    refine ⟨_, (pss_cons (ps_set (i := 1) sc__law_limits.nd rfl (Or.inl rfl) (pe_op op_add pe_int (pe_call G__law_draw (hr.mono (by omega)) (by rfl) T.g__law_draw T.F__law_draw.kp T.b__law_draw .nil pass0 (pa_cons (pv 0) (pa_cons pe_int pa_nil)))))
    (pss_cons (ps_set (i := 2) sc__law_limits.nd rfl (Or.inl rfl) (pe_callTy call_tuple_of (by rfl) T.m_tuple (by decide +kernel) (pa_cons (pe_lc (own := [("_law_k", 3)]) (g := gName 3) (by rfl) sc__law_limits.nd (pi_range1 (by rfl) T.m_range (pa_cons (pe_op op_sub (pv 1) pe_int) pa_nil)) (blkOk_by (own := [("_law_k", 3)]) (N := ["_law_tape", "_law_size_here", "_law_wide", "_law_k", "_law_tall"]) (sc := defScope s__law_limits) (by decide +kernel)) (fun _ _ _ _ _ => (pg_name (i := 3) sc__law_limits.nd rfl (Or.inl rfl))) (fun _ _ _ _ _ => pts_nil) (fun _ _ _ _ _ => (pe_op op_add pe_int (pv 3)))) pa_nil)))
    (pss_cons (ps_set (i := 4) sc__law_limits.nd rfl (Or.inl rfl) pe_int)
    (pss_cons (ps_for PassesOwn.never rfl (pi_range1 (by rfl) T.m_range (pa_cons pe_int pa_nil)) (pg_name (i := 3) sc__law_limits.nd rfl (Or.inl rfl))
      (pss_one (ps_set (i := 4) sc__law_limits.nd rfl (Or.inl rfl) (pe_ifExp (pt_cmpR op_gt (pv 3) pe_int (nomark _)) (pe_tup (pa_cons pe_int (pa_cons (pv 4) pa_nil))) (pe_tup (pa_cons pe_int (pa_cons pe_int pa_nil)))))))
    (pss_one (ps_ret (pe_lst (pa_cons (pe_tup (pa_cons (pv 2) (pa_cons (pe_cmpR op_le (pv 1) pe_int (nomark _)) pa_nil))) (pa_cons (pe_tup (pa_cons (pe_op op_catB (pe_slice sl_tupB (pv 2) po_none (po_some (pe_call G__law_draw (hr.mono (by omega)) (by rfl) T.g__law_draw T.F__law_draw.kp T.b__law_draw .nil pass0 (pa_cons (pv 0) (pa_cons pe_int pa_nil))))) (pe_tup (pa_cons (pe_tup (pa_cons pe_int (pa_cons pe_int pa_nil))) pa_nil))) (pa_cons pe_bl pa_nil))) (pa_cons (pe_tup (pa_cons (pv 4) (pa_cons pe_bl pa_nil))) (pa_cons (pe_tup (pa_cons (pe_tup (pa_cons pe_int (pa_cons (pv 4) pa_nil))) (pa_cons pe_bl pa_nil))) pa_nil))))))))))), ?_⟩
    refine ⟨_, rfl, τ, m, 20, rfl, by decide, by decide, by omega, hT, fun x H1 x1 x2 hT1 hB1 => ?_⟩
    refine ⟨_, _, rfl, rfl, ?_⟩
    obtain ⟨c, rfl⟩ := Int.eq_ofNat_of_zero_le x1
    have wl : (List.range (1989 + c)).length = 1989 + c := List.length_range
    dsimp only [gName]
    refine cut (fun σ H' => ∃ (wa : Addr) (z3 z4 : Option V), σ = [some (.ref τ.p), some (.int (1990 + (c : Nat))), some (.ref wa), z3, z4] ∧ Same H1 H' ∧ H' wa = some (.tup (nv (wd (1989 + c))))) (fun J0 J => ?_) ?_
    · refine ⟨_, rfl, _, _, rfl, rfl, ?_⟩
      refine ⟨_, rfl, by omega, by omega, fun D nD => lc_range (lo := 0) (n := (1990 + (c : Int) - 1).toNat) (fun i H' => Same H1 H' ∧ H' D = some (.lst (nv (wd i)))) ⟨sm_upd nD, upd_same⟩ ?_ ?_⟩
      · rintro i H' hi ⟨sm, eD⟩
        dsimp only [gName]
        refine ⟨rfl, ?_⟩
        dsimp only [tYes]
        rw [if_pos rfl]
        refine ⟨_, rfl, _, _, rfl, rfl, _, eD, len_le (by rw [show (nv (wd i)).length = i by simp [nv, wd]]; omega), sm_mut sm nD, ?_⟩
        rw [upd_same]
        have : nv (wd (i + 1)) = nv (wd i) ++ [V.int (100 + (0 + (i : Int)))] := by
          unfold nv wd
          rw [List.range_succ, List.map_append, List.map_append, Int.zero_add]
          rfl
        rw [this]
      · rintro H' ⟨sm, eD⟩
        refine ⟨D, _, rfl, .inl ⟨.inl (.inl eD), fun l nl => ?_⟩⟩
        refine J.nx _ _ ⟨l, _, _, rfl, sm.trans (sm_upd nl), ?_⟩
        rw [upd_same, show (1990 + (c : Int) - 1).toNat = 1989 + c by omega]
    rintro σ H2 ⟨wa, z3, z4, rfl, s2, hwa⟩
    refine cut (fun σ H' => σ = [some (.ref τ.p), some (.int (1990 + (c : Nat))), some (.ref wa), z3, some (.int 70)] ∧ H' = H2) (fun J0 J => J.nx _ _ ⟨rfl, rfl⟩) ?_
    rintro σ H' ⟨rfl, rfl⟩
    refine cut (fun σ H'' => ∃ (z3 : Option V) (v : V), σ = [some (.ref τ.p), some (.int (1990 + (c : Nat))), some (.ref wa), z3, some v] ∧ Same H' H'' ∧ Dz K H'' v (tl 5)) (fun J0 J => ?_) ?_
    · refine ⟨_, rfl, by decide, by decide, ?_⟩
      refine flR (n := 6) (fun i σ H'' => ∃ (z3 : Option V) (v : V), σ = [some (.ref τ.p), some (.int (1990 + (c : Nat))), some (.ref wa), z3, some v] ∧ Same H' H'' ∧ (0 < i → Dz K H'' v (tl (i - 1)))) ⟨_, _, rfl, Same.refl _, fun z => absurd z (by decide)⟩ ?_ ?_
      · rintro i σ G hi ⟨z3, v, rfl, sm, hv⟩ D' B
        dsimp only [gName]
        rw [Int.zero_add]
        refine ⟨_, rfl, _, _, rfl, rfl, _, rfl, ?_⟩
        refine ifD (fun h0 => ?_) (fun h0 => ?_)
        · refine ⟨_, rfl, ?_⟩
          refine ⟨len_le (Nat.le_of_ble_eq_true rfl), fun t1 nt1 => ?_⟩
          generalize eG1 : upd G t1 _ = G1
          obtain ⟨st1, ht1⟩ := new_step nt1 eG1
          clear eG1
          obtain ⟨k, rfl⟩ : ∃ k, i = k + 1 := ⟨i - 1, by omega⟩
          exact B.nx _ _ ⟨_, _, rfl, sm.trans st1, fun _ => .tup (.inl (.inl ht1)) (.cons (.int 64) (.cons ((hv (by omega)).same st1) .nil))⟩
        · obtain rfl : i = 0 := by omega
          refine ⟨len_le (Nat.le_of_ble_eq_true rfl), fun t1 nt1 => ?_⟩
          generalize eG1 : upd G t1 _ = G1
          obtain ⟨st1, ht1⟩ := new_step nt1 eG1
          clear eG1
          exact B.nx _ _ ⟨_, _, rfl, sm.trans st1, fun _ => .tup (.inl (.inl ht1)) (.cons (.int 64) (.cons (.int 70) .nil))⟩
      · rintro σ G ⟨z3, v, rfl, sm, hv⟩
        exact J.nx _ _ ⟨_, _, rfl, sm, hv (by decide)⟩
    rintro σ H3 ⟨z3, v, rfl, s3, hv3⟩
    have s13 : Same H1 H3 := s2.trans s3
    have hT3 := hT1.up s13
    have hwa3 := s3 _ _ hwa
    refine ⟨_, rfl, _, rfl, _, _, rfl, rfl, ?_⟩
    refine ⟨len_le (Nat.le_of_ble_eq_true rfl), fun t1 nt1 => ?_⟩
    generalize eG1 : upd H3 t1 _ = G1
    obtain ⟨st1, ht1⟩ := new_step nt1 eG1
    clear eG1
    refine ⟨_, rfl, _, rfl, τ, m + 1, 900, rfl, by decide, by decide, by omega, hT3.up st1, fun y G2 y1 y2 hT2 hB2 => ?_⟩
    obtain ⟨e, rfl⟩ := Int.eq_ofNat_of_zero_le y1
    have hTg := hT3.up st1
    have hwa2 := hB2 _ _ (hTg.neT (st1 _ _ hwa3)) (st1 _ _ hwa3)
    have hv2 := dz_tape hTg hB2 (hv3.same st1)
    have ht1' := hB2 _ _ (hTg.neT ht1) ht1
    refine ⟨_, rfl, wa, _, rfl, .inl (.inl hwa2), fun l G3 s4 hl => ?_⟩
    have ecut : cutV (nv (wd (1989 + c))) none (some (e : Int)) = nv ((wd (1989 + c)).take e) := by
      unfold cutV
      rw [HT.sIx_none, HT.sIx_nat, List.drop_zero, Nat.sub_zero]
      unfold nv
      rw [List.length_map, len_wd, Nat.min_eq_left (by omega), List.map_take]
    rw [ecut] at hl
    refine ⟨len_le (Nat.le_of_ble_eq_true rfl), fun a1 na1 => ?_⟩
    generalize eG4 : upd G3 a1 _ = G4
    obtain ⟨sa1, ha1⟩ := new_step na1 eG4
    clear eG4
    refine ⟨len_le (Nat.le_of_ble_eq_true rfl), fun a2 na2 => ?_⟩
    generalize eG5 : upd G4 a2 _ = G5
    obtain ⟨sa2, ha2⟩ := new_step na2 eG5
    clear eG5
    have s45 := sa1.trans sa2
    refine ⟨l, a2, _, _, rfl, rfl, sqT_keep s45 hl, .inl (.inl ha2), ?_, fun l2 G6 s6 hl2 => ?_⟩
    · refine len_le ?_
      show (nv ((wd (1989 + c)).take e)).length + 1 ≤ _
      rw [show (nv ((wd (1989 + c)).take e)).length = ((wd (1989 + c)).take e).length by simp [nv], List.length_take]
      omega
    refine ⟨len_le (Nat.le_of_ble_eq_true rfl), fun t2 nt2 => ?_⟩
    generalize eG7 : upd G6 t2 _ = G7
    obtain ⟨st2, ht2⟩ := new_step nt2 eG7
    clear eG7
    refine ⟨_, rfl, ?_⟩
    refine ⟨len_le (Nat.le_of_ble_eq_true rfl), fun t3 nt3 => ?_⟩
    generalize eG8 : upd G7 t3 _ = G8
    obtain ⟨st3, ht3⟩ := new_step nt3 eG8
    clear eG8
    refine ⟨_, rfl, ?_⟩
    refine ⟨len_le (Nat.le_of_ble_eq_true rfl), fun a3 na3 => ?_⟩
    generalize eG9 : upd G8 a3 _ = G9
    obtain ⟨sa3, ha3⟩ := new_step na3 eG9
    clear eG9
    refine ⟨len_le (Nat.le_of_ble_eq_true rfl), fun t4 nt4 => ?_⟩
    generalize eG10 : upd G9 t4 _ = G10
    obtain ⟨st4, ht4⟩ := new_step nt4 eG10
    clear eG10
    refine ⟨len_le (Nat.le_of_ble_eq_true rfl), fun L nL => ?_⟩
    generalize eG11 : upd G10 L _ = G11
    obtain ⟨sL, hL⟩ := new_step nL eG11
    clear eG11
    have k10 := sL
    have k9 := st4.trans k10
    have k8 := sa3.trans k9
    have k7 := st3.trans k8
    have k6 := st2.trans k7
    have k5 := s6.trans k6
    have k4 := sa2.trans k5
    have k3 := sa1.trans k4
    have k2 := s4.trans k3
    have hvE := hv2.same k2
    have hbig : But τ.p H1 G11 := (But.of (s13.trans st1)).trans (hB2.trans (But.of k2))
    refine q L _ G11 hL (fun x hx => ?_) (hT2.up k2) (hB1.trans hbig)
    · have hw1 : DzAll K G11 (nv (wd (1989 + c))) (iD (wd (1989 + c))) := dzAll_of_dp (dp_nv _) (fmAll_iD fun t ht => by have := lt_wd ht; omega)
      have tk : ∀ t ∈ (wd (1989 + c)).take e, t < 10000 := fun t ht => by
        have := lt_wd (List.mem_of_mem_take ht)
        omega
      simp only [List.mem_cons, List.not_mem_nil, or_false] at hx
      rcases hx with rfl | rfl | rfl | rfl
      · refine ⟨t1, _, _, _, rfl, k2 _ _ ht1', .tup (.inl (.inl (k2 _ _ hwa2))) hw1, ?_⟩
        rw [decide_eq_true_eq, lim_wide (by omega) (by omega)]
        omega
      · refine ⟨t2, _, _, _, rfl, k7 _ _ ht2, .tup (sqT_keep k6 hl2) (DzAll.app (dzAll_of_dp (dp_nv _) (fmAll_iD fun t ht => by have := tk t ht; omega)) (.cons (.tup (.inl (.inl (k4 _ _ ha1))) (.cons (.int 70) (.cons (.int 71) .nil))) .nil)), ?_⟩
        refine ⟨fun _ => lim_mix (asc_pairwise.mpr ((asc_pairwise.mp (asc_wd _)).sublist (List.take_sublist e _))) tk (by rw [List.length_take]; omega), fun _ => rfl⟩
      · obtain ⟨o1, o2, o3, o4⟩ := tl_ok 5
        refine ⟨t3, _, _, _, rfl, k8 _ _ ht3, hvE, ?_⟩
        exact ⟨fun _ => ⟨by omega, by omega, o1⟩, fun _ => rfl⟩
      · obtain ⟨o1, o2, o3, o4⟩ := tl_ok 6
        refine ⟨t4, _, _, _, rfl, k10 _ _ ht4, .tup (.inl (.inl (k9 _ _ ha3))) (.cons (.int 64) (.cons hvE .nil)), ?_⟩
        refine ⟨(fun z => nomatch z), fun z => ?_⟩
        have : td (.tuple [.int 64, tl 5]) ≤ 6 := z.1
        rw [show (PyData.tuple [.int 64, tl 5]) = tl 6 from rfl] at this
        omega
end
end K00
set_option Elab.async false
set_option linter.all false
set_option maxRecDepth 100000
set_option pp.deepTerms false
set_option pp.maxSteps 1500
set_option maxHeartbeats 2000000
namespace K00
open PySem PySem.Spec PyProof.Rows L2 HX TV FM DX FB FC FD PM
local macro_rules | `(tactic| walk_at "r") => `(tactic| (repeat (first | refine Exists.intro _ (And.intro rfl ?_) | refine And.intro rfl ?_ | refine Exists.intro _ (Exists.intro _ (And.intro rfl (And.intro rfl ?_))) | refine And.intro (by omega) ?_ | refine And.intro (Or.inl (And.intro (by omega) (by omega))) ?_ | refine And.intro (Or.inr (And.intro (by omega) (by omega))) ?_ | refine And.intro (And.intro (by omega) (by omega)) ?_ | refine And.intro (And.intro (by decide) (And.intro (by decide) (by decide))) ?_ | refine Or.inl (Exists.intro _ (And.intro rfl ?_)) | (dsimp only [gName]; first | with_reducible refine seqC ?_ | with_reducible refine asgC ?_))))
local macro_rules | `(tactic| walk_at "s") => `(tactic| (repeat (first | refine Exists.intro _ (And.intro rfl ?_) | refine And.intro rfl ?_ | refine Exists.intro _ (Exists.intro _ (And.intro rfl (And.intro rfl ?_))) | refine And.intro (by omega) ?_ | refine And.intro (Or.inl (And.intro (by omega) (by omega))) ?_ | refine And.intro (Or.inr (And.intro (by omega) (by omega))) ?_ | refine And.intro (And.intro (by omega) (by omega)) ?_ | refine And.intro (And.intro (by decide) (And.intro (by decide) (by decide))) ?_ | refine Or.inl (Exists.intro _ (And.intro rfl ?_)) | refine Exists.intro _ (Exists.intro _ (And.intro rfl ?_)) | (dsimp only [gName]; first | with_reducible refine seqC ?_ | with_reducible refine asgC ?_))))
section
variable {P : Program} {w : World} {K : PySem.W.Frag} {mg : Str → Option Value} {base : Heap}
theorem limAt_same {H H' : Hp} (e : Same H H') {x : V} (h : LimAt K H x) : LimAt K H' x := by
  obtain ⟨t, v, d, b, rfl, h1, h2, h3⟩ := h
  exact ⟨t, v, d, b, rfl, e _ _ h1, h2.same e, h3⟩
theorem form_int (i : Int) : (td (.int i) ≤ 6 ∧ tz (.int i) ≤ 2000 ∧ Fm (.int i)) ↔ (-18446744073709551616 ≤ i ∧ i < 18446744073709551616) := by
  have e64 : (2 : Int) ^ 64 = 18446744073709551616 := by decide
  rw [td_int, tz_int, fm_int, e64]
  omega
theorem form_64 : td (.tuple [.int 64, .int 65]) ≤ 6 ∧ tz (.tuple [.int 64, .int 65]) ≤ 2000 ∧ Fm (.tuple [.int 64, .int 65]) := by
  have h : [PyData.int 64, .int 65] = iD [64, 65] := rfl
  refine ⟨?_, ?_, ?_⟩
  · rw [td_tuple, tdAll_cons, tdAll_cons, tdAll_nil, td_int, td_int]
    decide
  · rw [tz_tuple, tzAll_cons, tzAll_cons, tzAll_nil, tz_int, tz_int]
    decide
  · rw [h, fm_tuple, vals_iD]
    exact ⟨fmAll_iD (by decide), asc_pairwise.mpr (by decide), 65, by simp, by decide⟩
theorem form_0 : ¬ Fm (.tuple [.int 0, .int 64]) := fun h => by
  have h2 : [PyData.int 0, .int 64] = iD [0, 64] := rfl
  rw [h2, fm_tuple, vals_iD] at h
  obtain ⟨_, _, t, ht, h64⟩ := h
  simp at ht
  omega
def spLaw (K : PySem.W.Frag) : Sp := fun vs H Q _ => ∃ (a : Addr) (ns : List Int), vs = [.ref a] ∧ SqL K H a (ns.map V.int) ∧ ns.length ≤ 63 ∧ ∀ H', Q (.bl true) H'
theorem ok_law (T : Top K mg) {fa : Addr} {fd : FuncData} (F : Fun K "law" "law" s_law fa fd) : FnG P w K mg base 41 fa fd ["_law_script"] (spLaw K) := by
  have G__law_begin : FnOk P w K mg base CX0 (1) T.f__law_begin T.fd__law_begin ["_law_script"]  (sp_begin K) := ok__law_begin T
  have G__law_draw : FnOk P w K mg base CX0 (1) T.f__law_draw T.fd__law_draw ["_law_tape", "_law_limit"]  sp_draw := ok__law_draw T
  have G__law_pick : FnOk P w K mg base CX0 (2) T.f__law_pick T.fd__law_pick ["_law_tape", "_law_some"]  sp_pick := ok__law_pick T
  have G__law_fields : FnOk P w K mg base CX0 (3) T.f__law_fields T.fd__law_fields ["_law_tape", "_law_many"]  (sp_fields K) := ok__law_fields T
  have G__law_codes : FnOk P w K mg base CX0 (4) T.f__law_codes T.fd__law_codes ["_law_tape", "_law_many", "_law_count", "_law_known"]  (sp_codes K) := ok__law_codes T
  have G__law_form_of_codes : FnOk P w K mg base CX0 (4) T.f__law_form_of_codes T.fd__law_form_of_codes ["_law_codes_here", "_law_fields_here"]  (sp_foc K) := ok__law_form_of_codes T
  have G__law_limits : FnOk P w K mg base CX0 (5) T.f__law_limits T.fd__law_limits ["_law_tape"]  (sp_limits K) := ok__law_limits T
  have G__law_otherwise : FnOk P w K mg base CX0 (10) T.f__law_otherwise T.fd__law_otherwise ["_law_tape", "_law_form_here", "_law_deep"]  (sp_other K 5) := ok__law_otherwise T 5
  have G__law_is_own_form : FnOk P w K mg base CX0 (20) T.f__law_is_own_form T.fd__law_is_own_form ["_law_thing", "_law_deep"]  (sp_own K 7) := ok__law_is_own_form T 7
  have G__law_size : FnOk P w K mg base CX0 (7) T.f__law_size T.fd__law_size ["_law_form_here"]  (sp_size K 6) := ok__law_size T 6
  have G_is_form : FnOk P w K mg base CX0 (40) T.f_is_form T.fd_is_form ["value"]  (sp_isform K) := ok_is_form T
  have kb_is_form := kb_of T.F_is_form (ps := ["value"]) (n := 0) (ks := ["value"]) (g := fun _ ws => ws) (gV := fun _ zs => zs) (fun kV doc pm an cdv ct us ws h1 h2 => match us, h1, ws, h2 with | [], _, [_], _ => rfl) (fun _ r => r)
  refine funG F sc_law (fun vs H Q E h => ?_) (fun cdv A outer s H vs Q E hg hr h => ?_)
  · obtain ⟨a, ns, rfl, _⟩ := h
    rfl
  · obtain ⟨a, ns, rfl, hS, hl, q⟩ := h
    refine ⟨_, (pss_cons (ps_set (i := 1) sc_law.nd rfl (Or.inl rfl) (pe_call G__law_begin (hr.mono (by omega)) (by rfl) T.g__law_begin T.F__law_begin.kp T.b__law_begin .nil pass0 (pa_cons (pv 0) pa_nil)))
    (pss_cons (ps_for PassesOwn.never rfl (pi_list (pe_call G__law_limits (hr.mono (by omega)) (by rfl) T.g__law_limits T.F__law_limits.kp T.b__law_limits .nil pass0 (pa_cons (pv 1) pa_nil))) (pg_tup rfl (pgs_cons (pg_name (i := 2) sc_law.nd rfl (Or.inl rfl)) (pgs_cons (pg_name (i := 3) sc_law.nd rfl (Or.inl rfl)) pgs_nil)))
      (pss_one (ps_if (pt_cmpR op_ne (pe_callB HX.call_repr_bl (by rfl) T.m_repr (by decide +kernel) (pa_cons (pe_call G_is_form (hr.mono (by omega)) (by rfl) T.g_is_form T.F_is_form.kp T.b_is_form .nil pass0 (pa_cons (pv 2) pa_nil)) pa_nil)) (pe_callB HX.call_repr_bl (by rfl) T.m_repr (by decide +kernel) (pa_cons (pv 3) pa_nil)) (nomark _))
        (pss_one (ps_ret pe_bl))
        pss_nil)))
    (pss_cons (ps_for PassesOwn.never rfl (pi_range1 (by rfl) T.m_range (pa_cons pe_int pa_nil)) (pg_name (i := 4) sc_law.nd rfl (Or.inl rfl))
      (pss_cons (ps_set (i := 5) sc_law.nd rfl (Or.inl rfl) (pe_call G__law_fields (hr.mono (by omega)) (by rfl) T.g__law_fields T.F__law_fields.kp T.b__law_fields .nil pass0 (pa_cons (pv 1) (pa_cons pe_int pa_nil))))
      (pss_cons (ps_set (i := 6) sc_law.nd rfl (Or.inl rfl) (pe_call G__law_form_of_codes (hr.mono (by omega)) (by rfl) T.g__law_form_of_codes T.F__law_form_of_codes.kp T.b__law_form_of_codes .nil pass0 (pa_cons (pe_call G__law_codes (hr.mono (by omega)) (by rfl) T.g__law_codes T.F__law_codes.kp T.bd__law_codes T.dv__law_codes pass0 (pa_cons (pv 1) (pa_cons pe_int (pa_cons (pe_op op_add pe_int (pe_call G__law_draw (hr.mono (by omega)) (by rfl) T.g__law_draw T.F__law_draw.kp T.b__law_draw .nil pass0 (pa_cons (pv 1) (pa_cons pe_int pa_nil)))) pa_nil)))) (pa_cons (pv 5) pa_nil))))
      (pss_cons (ps_set (i := 2) sc_law.nd rfl (Or.inl rfl) (pe_ifExp (pt_cmpR op_lt (pv 4) pe_int (nomark _)) (pe_call G__law_otherwise (hr.mono (by omega)) (by rfl) T.g__law_otherwise T.F__law_otherwise.kp T.b__law_otherwise .nil pass0 (pa_cons (pv 1) (pa_cons (pv 6) (pa_cons pe_int pa_nil)))) (pv 6)))
      (pss_cons (ps_set (i := 7) sc_law.nd rfl (Or.inl rfl) (pe_callB (HX.call_repr_dz hg hr.units) (by rfl) T.m_repr (by decide +kernel) (pa_cons (pv 2) pa_nil)))
      (pss_cons (ps_set (i := 3) sc_law.nd rfl (Or.inl rfl) (pe_and (pe_call G__law_is_own_form (hr.mono (by omega)) (by rfl) T.g__law_is_own_form T.F__law_is_own_form.kp T.b__law_is_own_form .nil pass0 (pa_cons (pv 2) (pa_cons pe_int pa_nil))) (pe_one (pe_cmpR op_le (pe_call G__law_size (hr.mono (by omega)) (by rfl) T.g__law_size T.F__law_size.kp T.b__law_size .nil pass0 (pa_cons (pv 2) pa_nil)) pe_int (nomark _)))))
      (pss_cons (ps_if (PW.pt (pw_or (pt_cmpR op_ne (pe_callB HX.call_repr_bl (by rfl) T.m_repr (by decide +kernel) (pa_cons (pe_callN0 G_is_form (hr.mono (by omega)) (by rfl) T.g_is_form T.F_is_form.kp kb_is_form pass0 (pk_cons (pv 2) pk_nil)) pa_nil)) (pe_callB HX.call_repr_bl (by rfl) T.m_repr (by decide +kernel) (pa_cons (pv 3) pa_nil)) (nomark _)) (pw_or1 (pt_cmpR op_ne (pe_callB (HX.call_repr_dz hg hr.units) (by rfl) T.m_repr (by decide +kernel) (pa_cons (pv 2) pa_nil)) (pv 7) (nomark _)))))
        (pss_one (ps_ret pe_bl))
        pss_nil)
      (pss_cons (ps_set (i := 8) sc_law.nd rfl (Or.inl rfl) (pe_op op_mul (pe_call G__law_pick (hr.mono (by omega)) (by rfl) T.g__law_pick T.F__law_pick.kp T.b__law_pick .nil pass0 (pa_cons (pv 1) (pa_cons (pe_lst (pa_cons (pe_un un_neg pe_int) (pa_cons pe_int pa_nil))) pa_nil))) (pe_op op_sub (pe_op op_add (pe_op op_pow pe_int pe_int) (pe_call G__law_draw (hr.mono (by omega)) (by rfl) T.g__law_draw T.F__law_draw.kp T.b__law_draw .nil pass0 (pa_cons (pv 1) (pa_cons pe_int pa_nil)))) pe_int)))
      (pss_one (ps_if (pt_cmpR op_ne (pe_callB HX.call_repr_bl (by rfl) T.m_repr (by decide +kernel) (pa_cons (pe_call G_is_form (hr.mono (by omega)) (by rfl) T.g_is_form T.F_is_form.kp T.b_is_form .nil pass0 (pa_cons (pv 8) pa_nil)) pa_nil)) (pe_callB HX.call_repr_bl (by rfl) T.m_repr (by decide +kernel) (pa_cons (pe_chain op_le op_lt (pe_un un_neg (pe_op op_pow pe_int pe_int)) (pv 8) (pe_op op_pow pe_int pe_int)) pa_nil)) (nomark _))
        (pss_one (ps_ret pe_bl))
        pss_nil))))))))))
    (pss_one (ps_ret (pe_and (pe_cmpR RC.op_isB (pe_call G_is_form (hr.mono (by omega)) (by rfl) T.g_is_form T.F_is_form.kp T.b_is_form .nil pass0 (pa_cons pe_int pa_nil)) pe_bl (nomark _)) (pe_and (pe_cmpR RC.op_isB (pe_call G_is_form (hr.mono (by omega)) (by rfl) T.g_is_form T.F_is_form.kp T.b_is_form .nil pass0 (pa_cons (pe_tup (pa_cons pe_int (pa_cons pe_int pa_nil))) pa_nil)) pe_bl (nomark _)) (pe_one (pe_cmpR RC.op_isB (pe_call G_is_form (hr.mono (by omega)) (by rfl) T.g_is_form T.F_is_form.kp T.b_is_form .nil pass0 (pa_cons (pe_tup (pa_cons pe_int (pa_cons pe_int pa_nil))) pa_nil)) pe_bl (nomark _)))))))))), ?_⟩
    refine ⟨_, rfl, a, ns, rfl, hS, hl, fun τ H1 sm1 np hT => ?_⟩
    dsimp only [gName]
    refine cut (fun σ H' => ∃ z2 z3 : Option V, σ = [some (.ref a), some (.ref τ.p), z2, z3, none, none, none, none, none] ∧ Tape H' τ 2) (fun J0 J => ?_) ?_
    · refine ⟨_, rfl, τ, 0, rfl, hT, by decide, fun L xs H2 hL hx hT2 hB2 => ?_⟩
      refine ⟨L, rfl, ⟨_, .inl (.inl hL)⟩, flL (xs := xs) (fun i σ H' => ∃ z2 z3 : Option V, σ = [some (.ref a), some (.ref τ.p), z2, z3, none, none, none, none, none] ∧ Same H2 H') ⟨none, none, rfl, Same.refl _⟩ ?_ ?_ ?_⟩
      · rintro i σ G _ ⟨_, _, _, sm⟩
        exact .inl (.inl (sm _ _ hL))
      · rintro i x σ G hxi ⟨z2, z3, rfl, sm⟩ D' B
        obtain ⟨t, v, d, b, rfl, h1, h2, h3⟩ := limAt_same sm (hx x (List.mem_of_getElem? hxi))
        refine ⟨t, _, rfl, .inl (.inl h1), rfl, _, _, rfl, _, _, rfl, rfl, ?_⟩
        refine ⟨_, rfl, v, d, rfl, h2, fun b2 G2 hb2 s2 => ?_⟩
        refine ⟨b2, rfl, _, rfl, b, rfl, rfl, _, rfl, ?_⟩
        have e : b2 = b := by rw [Bool.eq_iff_iff, hb2, h3]
        subst e
        rw [shown_bl, beq_self_eq_true]
        exact iteF (B.nx _ _ ⟨_, _, rfl, sm.trans s2⟩)
      · rintro σ G ⟨z2, z3, rfl, sm⟩
        exact J.nx _ _ ⟨_, _, rfl, hT2.up sm⟩
    rintro σ H2 ⟨z2, z3, rfl, hT2⟩
    refine cut (fun σ H' => ∃ z2 z3 z4 z5 z6 z7 z8 : Option V, σ = [some (.ref a), some (.ref τ.p), z2, z3, z4, z5, z6, z7, z8]) (fun J0 J => ?_) ?_
    · refine ⟨_, rfl, by decide, by decide, ?_⟩
      refine flR (n := 8) (fun i σ H' => ∃ z2 z3 z4 z5 z6 z7 z8 : Option V, σ = [some (.ref a), some (.ref τ.p), z2, z3, z4, z5, z6, z7, z8] ∧ Tape H' τ (2 + 100 * i)) ⟨_, _, _, _, _, _, _, rfl, hT2⟩ ?_ ?_
      · rintro i σ G hi ⟨z2, z3, z4, z5, z6, z7, z8, rfl, hTG⟩ D' B
        dsimp only [gName]
        rw [Int.zero_add]
        refine ⟨_, rfl, τ, 2 + 100 * i, 4, rfl, by omega, by decide, hTG, fun lf us fs H3 hFs hDf nlf hlf hT3 b3 => ?_⟩
        have hFA := fields_fm hFs
        refine ⟨_, rfl, _, rfl, τ, 2 + 100 * i + 12, 5, rfl, by decide, by decide, by omega, hT3, fun d4 H4 hd4 hd4' hT4 b4 => ?_⟩
        obtain ⟨c4, rfl, hct⟩ := nat_of (n := 5) hd4 hd4'
        have hlf4 := b4 _ _ (hT3.ne hlf) hlf
        have hDf4 := dpAll_tk (but_tk hT3 b4) hFA hDf
        refine ⟨_, _, rfl, rfl, ?_⟩
        refine ⟨τ, 2 + 100 * i + 13, 4, 4, 2 ^ 60, 1 + c4, .non, [], by simp, by decide, by decide, by decide, by omega, by omega, hT4, .inl ⟨rfl, rfl⟩, by simp, Nat.le_refl _, by simp, fun lc cs H5 hpw hdg hcl nlc hlc hT5 b5 => ?_⟩
        have hlf5 := b5 _ _ (hT4.ne hlf4) hlf4
        have hDf5 := dpAll_tk (but_tk hT4 b5) hFA hDf4
        refine ⟨_, rfl, lc, lf, cs, us, fs, 4, rfl, hlc, hlf5, by decide, hFs, hDf5, hpw, fun c hc => (hdg c hc).code (by
          have : 2 ^ 60 + 4 * (1 + c4) ≤ 2 ^ 61 := by omega
          exact Nat.le_trans this (Nat.pow_le_pow_right (by decide) (by decide))), by omega, fun v6 d6 H6 f1 f2 f3 f5 f4 sm6 => ?_⟩
        have hT6 := hT5.up sm6
        have hcw : (cs.map cwt).sum ≤ 247 * cs.length := by
          have : ∀ l : List Int, (∀ c ∈ l, cwt c ≤ 247) → (l.map cwt).sum ≤ 247 * l.length := fun l => by
            induction l with
            | nil => intro _; simp
            | cons c r ih =>
              intro h
              have := h c (by simp)
              have := ih fun x hx => h x (by simp [hx])
              rw [List.map_cons, List.sum_cons, List.length_cons]
              omega
          exact this cs fun c hc => (hdg c hc).cwt (by omega)
        have hz6 := dz_of_dp f4 f1
        have hd6 := depth_td f1
        dsimp only [gName]
        refine cut (fun σ H' => ∃ (x : V) (e : PyData), σ = [some (.ref a), some (.ref τ.p), some x, z3, some (.int (i : Nat)), some (.ref lf), some v6, z7, z8] ∧ Dz K H' x e ∧ Ow e 100000 10 ∧ Tape H' τ (2 + 100 * i + 97)) (fun J0 J => ?_) ?_
        · refine ⟨_, rfl, _, _, rfl, rfl, _, rfl, ?_⟩
          refine ifD (fun h0 => ?_) (fun h0 => ?_)
          · refine ⟨_, rfl, _, rfl, τ, 2 + 100 * i + 13 + 12 * (1 + c4), v6, d6, 0, rfl, hT6, by omega, hz6, f1, by omega, by decide, by decide, by omega, fun u e H7 m7 hze how hT7 hm7 b7 => ?_⟩
            exact J.nx _ _ ⟨u, e, rfl, hze, how.mono (by omega) (by omega), hT7.le (by omega)⟩
          · exact ⟨_, rfl, J.nx _ _ ⟨v6, d6, rfl, hz6, (ow_fm f1).mono (by omega) (by omega), hT6.le (by omega)⟩⟩
        rintro σ H7 ⟨x, e, rfl, hze, how, hT7⟩
        have hdp : e.depth ≤ 60 := Nat.le_trans how.q.dp (by decide)
        have hln : e.shown.length ≤ sizeLine := len_le (Nat.le_trans how.q.ln (by decide))
        refine ⟨_, rfl, x, e, rfl, hze, how.q.sh, how.l, hdp, hln, ?_⟩
        dsimp only [gName]
        refine cut (fun σ H' => ∃ b : Bool, σ = [some (.ref a), some (.ref τ.p), some x, some (.bl b), some (.int (i : Nat)), some (.ref lf), some v6, some (.str e.shown), z8] ∧ Same H7 H' ∧ (b = true ↔ td e ≤ 6 ∧ tz e ≤ 2000 ∧ Fm e)) (fun J0 J => ?_) ?_
        · refine ⟨_, rfl, x, e, 0, rfl, hze, Nat.le_trans how.z (by decide), by decide, by decide, fun b H8 hb s8 => ?_⟩
          refine ⟨_, rfl, ?_⟩
          cases b with
          | false => exact iteF (J.nx _ _ ⟨false, rfl, s8, (fun z => nomatch z), fun z => (by have := hb.mpr ⟨z.2.2, by omega⟩; cases this)⟩)
          | true =>
            obtain ⟨fe, te⟩ := hb.mp rfl
            have hdt := depth_td fe
            have htw := tz_wt fe
            have htz := how.z
            refine iteT ⟨_, rfl, x, e, rfl, (hze.same s8).dp fe, fe, by omega, by omega, fun H9 s9 => ?_⟩
            refine ⟨_, _, rfl, rfl, J.nx _ _ ⟨_, rfl, s8.trans s9, ?_⟩⟩
            rw [decide_eq_true_eq]
            exact ⟨fun z => ⟨by omega, by omega, fe⟩, fun z => by omega⟩
        rintro σ H8 ⟨b, rfl, s8, hb⟩
        have hze8 := hze.same s8
        refine cut (fun σ H' => σ = [some (.ref a), some (.ref τ.p), some x, some (.bl b), some (.int (i : Nat)), some (.ref lf), some v6, some (.str e.shown), z8] ∧ Same H8 H') (fun J0 J => ?_) ?_
        · refine ⟨_, rfl, rfl, rfl, x, e, rfl, hze8, fun b2 H9 hb2 s9 => ?_⟩
          refine ⟨b2, rfl, _, rfl, b, rfl, rfl, _, rfl, ?_⟩
          have eb : b2 = b := by rw [Bool.eq_iff_iff, hb2, hb]
          subst eb
          rw [shown_bl, beq_self_eq_true]
          refine iteF ⟨_, rfl, x, e, rfl, hze8.same s9, how.q.sh, how.l, hdp, hln, _, rfl, rfl, _, rfl, ?_⟩
          rw [decide_eq_true rfl]
          exact iteF (J.nx _ _ ⟨rfl, s9⟩)
        rintro σ H9 ⟨rfl, s9⟩
        have hT9 := hT7.up (s8.trans s9)
        refine ⟨_, rfl, _, rfl, ?_⟩
        refine ⟨len_le (Nat.le_of_ble_eq_true rfl), fun l1 nl1 => ?_⟩
        generalize eG1 : upd H9 l1 _ = G1
        obtain ⟨sl1, hl1⟩ := new_step nl1 eG1
        clear eG1
        refine ⟨τ, l1, 2 + 100 * i + 97, _, rfl, by omega, hT9.up sl1, hl1, by decide, by decide, fun sg H10 hsg hT10 b10 => ?_⟩
        have cp : CPow 2 64 := ⟨by decide, by decide, by decide⟩
        have e64 : ((2 : Int) ^ Int.toNat 64) = 18446744073709551616 := by decide
        refine ⟨_, _, rfl, rfl, cp, _, rfl, τ, 2 + 100 * i + 98, 5, rfl, by decide, by decide, by omega, hT10, fun y H11 y1 y2 hT11 b11 => ?_⟩
        refine ⟨_, _, rfl, rfl, _, _, rfl, rfl, ?_⟩
        obtain ⟨j, rfl, hj⟩ : ∃ j : Int, sg = .int j ∧ (j = -1 ∨ j = 1) := by
          simp only [List.mem_cons, List.not_mem_nil, or_false] at hsg
          rcases hsg with rfl | rfl
          · exact ⟨-1, rfl, .inl rfl⟩
          · exact ⟨1, rfl, .inr rfl⟩
        refine ⟨_, _, rfl, rfl, .inl (by
          have : (2 : Int) ^ 64 = 18446744073709551616 := by decide
          rcases hj with rfl | rfl <;> (rw [this]; decide)), ?_⟩
        dsimp only [gName]
        generalize j * (2 ^ Int.toNat 64 + y - 2) = num
        refine ⟨_, rfl, _, .int num, rfl, .int num, fun b3 H12 hb3 s12 => ?_⟩
        rw [form_int] at hb3
        have hT12 : Tape H12 τ (2 + 100 * (i + 1)) := (hT11.up s12).le (by omega)
        refine ⟨b3, rfl, ?_⟩
        refine ⟨_, _, rfl, rfl, cp, _, rfl, _, rfl, _, _, rfl, rfl, _, rfl, ?_⟩
        rw [e64]
        refine ifD (fun h1 => ?_) (fun h1 => ?_)
        · refine ⟨_, _, rfl, rfl, cp, _, _, rfl, rfl, _, rfl, rfl, _, rfl, ?_⟩
          rw [e64]
          have eb : b3 = decide (num < 18446744073709551616) := by
            rw [Bool.eq_iff_iff, hb3, decide_eq_true_eq]
            omega
          rw [eb, shown_bl, beq_self_eq_true]
          exact iteF (B.nx _ _ ⟨_, _, _, _, _, _, _, rfl, hT12⟩)
        · refine ⟨_, rfl, rfl, _, rfl, ?_⟩
          have eb : b3 = false := by
            cases b3 with
            | false => rfl
            | true => exact absurd (hb3.mp rfl).1 h1
          rw [eb, shown_bl, beq_self_eq_true]
          exact iteF (B.nx _ _ ⟨_, _, _, _, _, _, _, rfl, hT12⟩)
      · rintro σ G ⟨z2, z3, z4, z5, z6, z7, z8, rfl, hTG⟩
        exact J.nx _ _ ⟨_, _, _, _, _, _, _, rfl⟩
    rintro σ H3 ⟨z2, z3, z4, z5, z6, z7, z8, rfl⟩
    have eT : ∀ (b : Bool) {p : Prop}, p → (b = true ↔ p) → b = true := fun b p h h2 => h2.mpr h
    refine ⟨_, .int 0, rfl, .int 0, fun b1 G1 h1 s1 => ?_⟩
    obtain rfl : b1 = true := h1.mpr ((form_int 0).mpr (by decide))
    refine ⟨_, _, rfl, rfl, _, rfl, ?_⟩
    rw [decide_eq_true rfl, if_pos rfl]
    refine ⟨len_le (Nat.le_of_ble_eq_true rfl), fun t1 nt1 => ?_⟩
    generalize eG2 : upd G1 t1 _ = G2
    obtain ⟨st1, ht1⟩ := new_step nt1 eG2
    clear eG2
    refine ⟨_, .tuple [.int 64, .int 65], rfl, .tup (.inl (.inl ht1)) (.cons (.int 64) (.cons (.int 65) .nil)), fun b2 G3 h2 s2 => ?_⟩
    obtain rfl : b2 = true := h2.mpr form_64
    refine ⟨_, _, rfl, rfl, _, rfl, ?_⟩
    rw [decide_eq_true rfl, if_pos rfl]
    refine ⟨len_le (Nat.le_of_ble_eq_true rfl), fun t2 nt2 => ?_⟩
    generalize eG4 : upd G3 t2 _ = G4
    obtain ⟨st2, ht2⟩ := new_step nt2 eG4
    clear eG4
    refine ⟨_, .tuple [.int 0, .int 64], rfl, .tup (.inl (.inl ht2)) (.cons (.int 0) (.cons (.int 64) .nil)), fun b3 G5 h3 s3 => ?_⟩
    obtain rfl : b3 = false := by
      cases b3 with
      | false => rfl
      | true => exact absurd (h3.mp rfl).2.2 form_0
    exact ⟨_, _, rfl, rfl, q G5⟩
end
end K00
set_option Elab.async false
set_option linter.all false
set_option maxRecDepth 100000
namespace K00
open PySem PySem.Spec PyProof.Rows L2
set_option maxHeartbeats 4000000 in
theorem all_mk {l : PySem.W.OpenLaw} {w : World} {K : PySem.W.Frag} {h : Heap} {mg : Str → Option Value} {fa a_turns_of_int a_turns a_negative a_order a_room_left a_is_plain a_is_valid a_is_form a__law_begin a__law_draw a__law_pick a__law_turns a__law_int a__law_form a__law_row_form a__law_size a__law_fields a__law_moved a__law_form_of_codes a__law_code a__law_codes a__law_before a__law_is_own_form a__law_otherwise a__law_limits a_law : Addr} (X : K.In h) (G : h.Ns mainGlobals mg) (hfa : mg "law" = some (.ref fa))
    {od0 an0 : Option Addr} {sl0 : Array (Option Value)} {oc0 kV0 dc0 pm0 cd0 ct0 : Value}
    (p0 : PySem.W.nsIn K mainGlobals "turns_of_int" = some (some (.ref a_turns_of_int))) (l0 : K.lookup a_turns_of_int = some ⟨oc0, od0, .func (PySem.W.fnOf "turns_of_int" "turns_of_int" (defArgs s_turns_of_int) (defBody s_turns_of_int) (defScope s_turns_of_int) .none kV0 dc0 pm0 an0 cd0 ct0), sl0⟩) (c0 : PySem.W.codeIn K cd0 "turns_of_int" = true) (k0 : PySem.W.keepIn K (.ref a_turns_of_int) = true)
    {od1 an1 : Option Addr} {sl1 : Array (Option Value)} {oc1 kV1 dc1 pm1 cd1 ct1 : Value}
    (p1 : PySem.W.nsIn K mainGlobals "turns" = some (some (.ref a_turns))) (l1 : K.lookup a_turns = some ⟨oc1, od1, .func (PySem.W.fnOf "turns" "turns" (defArgs s_turns) (defBody s_turns) (defScope s_turns) .none kV1 dc1 pm1 an1 cd1 ct1), sl1⟩) (c1 : PySem.W.codeIn K cd1 "turns" = true) (k1 : PySem.W.keepIn K (.ref a_turns) = true)
    {od2 an2 : Option Addr} {sl2 : Array (Option Value)} {oc2 kV2 dc2 pm2 cd2 ct2 : Value}
    (p2 : PySem.W.nsIn K mainGlobals "negative" = some (some (.ref a_negative))) (l2 : K.lookup a_negative = some ⟨oc2, od2, .func (PySem.W.fnOf "negative" "negative" (defArgs s_negative) (defBody s_negative) (defScope s_negative) .none kV2 dc2 pm2 an2 cd2 ct2), sl2⟩) (c2 : PySem.W.codeIn K cd2 "negative" = true) (k2 : PySem.W.keepIn K (.ref a_negative) = true)
    {od3 an3 : Option Addr} {sl3 : Array (Option Value)} {oc3 kV3 dc3 pm3 cd3 ct3 : Value}
    (p3 : PySem.W.nsIn K mainGlobals "order" = some (some (.ref a_order))) (l3 : K.lookup a_order = some ⟨oc3, od3, .func (PySem.W.fnOf "order" "order" (defArgs s_order) (defBody s_order) (defScope s_order) .none kV3 dc3 pm3 an3 cd3 ct3), sl3⟩) (c3 : PySem.W.codeIn K cd3 "order" = true) (k3 : PySem.W.keepIn K (.ref a_order) = true)
    {od4 an4 : Option Addr} {sl4 : Array (Option Value)} {oc4 kV4 dc4 pm4 cd4 ct4 : Value}
    (p4 : PySem.W.nsIn K mainGlobals "room_left" = some (some (.ref a_room_left))) (l4 : K.lookup a_room_left = some ⟨oc4, od4, .func (PySem.W.fnOf "room_left" "room_left" (defArgs s_room_left) (defBody s_room_left) (defScope s_room_left) .none kV4 dc4 pm4 an4 cd4 ct4), sl4⟩) (c4 : PySem.W.codeIn K cd4 "room_left" = true) (k4 : PySem.W.keepIn K (.ref a_room_left) = true)
    {od5 an5 : Option Addr} {sl5 : Array (Option Value)} {oc5 kV5 dc5 pm5 cd5 ct5 : Value}
    (p5 : PySem.W.nsIn K mainGlobals "is_plain" = some (some (.ref a_is_plain))) (l5 : K.lookup a_is_plain = some ⟨oc5, od5, .func (PySem.W.fnOf "is_plain" "is_plain" (defArgs s_is_plain) (defBody s_is_plain) (defScope s_is_plain) .none kV5 dc5 pm5 an5 cd5 ct5), sl5⟩) (c5 : PySem.W.codeIn K cd5 "is_plain" = true) (k5 : PySem.W.keepIn K (.ref a_is_plain) = true)
    {od6 an6 : Option Addr} {sl6 : Array (Option Value)} {oc6 kV6 dc6 pm6 cd6 ct6 : Value}
    (p6 : PySem.W.nsIn K mainGlobals "is_valid" = some (some (.ref a_is_valid))) (l6 : K.lookup a_is_valid = some ⟨oc6, od6, .func (PySem.W.fnOf "is_valid" "is_valid" (defArgs s_is_valid) (defBody s_is_valid) (defScope s_is_valid) .none kV6 dc6 pm6 an6 cd6 ct6), sl6⟩) (c6 : PySem.W.codeIn K cd6 "is_valid" = true) (k6 : PySem.W.keepIn K (.ref a_is_valid) = true)
    {od7 an7 : Option Addr} {sl7 : Array (Option Value)} {oc7 kV7 dc7 pm7 cd7 ct7 : Value}
    (p7 : PySem.W.nsIn K mainGlobals "is_form" = some (some (.ref a_is_form))) (l7 : K.lookup a_is_form = some ⟨oc7, od7, .func (PySem.W.fnOf "is_form" "is_form" (defArgs s_is_form) (defBody s_is_form) (defScope s_is_form) .none kV7 dc7 pm7 an7 cd7 ct7), sl7⟩) (c7 : PySem.W.codeIn K cd7 "is_form" = true) (k7 : PySem.W.keepIn K (.ref a_is_form) = true)
    {od8 an8 : Option Addr} {sl8 : Array (Option Value)} {oc8 kV8 dc8 pm8 cd8 ct8 : Value}
    (p8 : PySem.W.nsIn K mainGlobals "_law_begin" = some (some (.ref a__law_begin))) (l8 : K.lookup a__law_begin = some ⟨oc8, od8, .func (PySem.W.fnOf "_law_begin" "_law_begin" (defArgs s__law_begin) (defBody s__law_begin) (defScope s__law_begin) .none kV8 dc8 pm8 an8 cd8 ct8), sl8⟩) (c8 : PySem.W.codeIn K cd8 "_law_begin" = true) (k8 : PySem.W.keepIn K (.ref a__law_begin) = true)
    {od9 an9 : Option Addr} {sl9 : Array (Option Value)} {oc9 kV9 dc9 pm9 cd9 ct9 : Value}
    (p9 : PySem.W.nsIn K mainGlobals "_law_draw" = some (some (.ref a__law_draw))) (l9 : K.lookup a__law_draw = some ⟨oc9, od9, .func (PySem.W.fnOf "_law_draw" "_law_draw" (defArgs s__law_draw) (defBody s__law_draw) (defScope s__law_draw) .none kV9 dc9 pm9 an9 cd9 ct9), sl9⟩) (c9 : PySem.W.codeIn K cd9 "_law_draw" = true) (k9 : PySem.W.keepIn K (.ref a__law_draw) = true)
    {od10 an10 : Option Addr} {sl10 : Array (Option Value)} {oc10 kV10 dc10 pm10 cd10 ct10 : Value}
    (p10 : PySem.W.nsIn K mainGlobals "_law_pick" = some (some (.ref a__law_pick))) (l10 : K.lookup a__law_pick = some ⟨oc10, od10, .func (PySem.W.fnOf "_law_pick" "_law_pick" (defArgs s__law_pick) (defBody s__law_pick) (defScope s__law_pick) .none kV10 dc10 pm10 an10 cd10 ct10), sl10⟩) (c10 : PySem.W.codeIn K cd10 "_law_pick" = true) (k10 : PySem.W.keepIn K (.ref a__law_pick) = true)
    {od11 an11 : Option Addr} {sl11 : Array (Option Value)} {oc11 kV11 dc11 pm11 cd11 ct11 : Value}
    (p11 : PySem.W.nsIn K mainGlobals "_law_turns" = some (some (.ref a__law_turns))) (l11 : K.lookup a__law_turns = some ⟨oc11, od11, .func (PySem.W.fnOf "_law_turns" "_law_turns" (defArgs s__law_turns) (defBody s__law_turns) (defScope s__law_turns) .none kV11 dc11 pm11 an11 cd11 ct11), sl11⟩) (c11 : PySem.W.codeIn K cd11 "_law_turns" = true) (k11 : PySem.W.keepIn K (.ref a__law_turns) = true)
    {od12 an12 : Option Addr} {sl12 : Array (Option Value)} {oc12 kV12 dc12 pm12 cd12 ct12 : Value}
    (p12 : PySem.W.nsIn K mainGlobals "_law_int" = some (some (.ref a__law_int))) (l12 : K.lookup a__law_int = some ⟨oc12, od12, .func (PySem.W.fnOf "_law_int" "_law_int" (defArgs s__law_int) (defBody s__law_int) (defScope s__law_int) .none kV12 dc12 pm12 an12 cd12 ct12), sl12⟩) (c12 : PySem.W.codeIn K cd12 "_law_int" = true) (k12 : PySem.W.keepIn K (.ref a__law_int) = true)
    {od13 an13 : Option Addr} {sl13 : Array (Option Value)} {oc13 kV13 dc13 pm13 cd13 ct13 : Value}
    (p13 : PySem.W.nsIn K mainGlobals "_law_form" = some (some (.ref a__law_form))) (l13 : K.lookup a__law_form = some ⟨oc13, od13, .func (PySem.W.fnOf "_law_form" "_law_form" (defArgs s__law_form) (defBody s__law_form) (defScope s__law_form) .none kV13 dc13 pm13 an13 cd13 ct13), sl13⟩) (c13 : PySem.W.codeIn K cd13 "_law_form" = true) (k13 : PySem.W.keepIn K (.ref a__law_form) = true)
    {od14 an14 : Option Addr} {sl14 : Array (Option Value)} {oc14 kV14 dc14 pm14 cd14 ct14 : Value}
    (p14 : PySem.W.nsIn K mainGlobals "_law_row_form" = some (some (.ref a__law_row_form))) (l14 : K.lookup a__law_row_form = some ⟨oc14, od14, .func (PySem.W.fnOf "_law_row_form" "_law_row_form" (defArgs s__law_row_form) (defBody s__law_row_form) (defScope s__law_row_form) .none kV14 dc14 pm14 an14 cd14 ct14), sl14⟩) (c14 : PySem.W.codeIn K cd14 "_law_row_form" = true) (k14 : PySem.W.keepIn K (.ref a__law_row_form) = true)
    {od15 an15 : Option Addr} {sl15 : Array (Option Value)} {oc15 kV15 dc15 pm15 cd15 ct15 : Value}
    (p15 : PySem.W.nsIn K mainGlobals "_law_size" = some (some (.ref a__law_size))) (l15 : K.lookup a__law_size = some ⟨oc15, od15, .func (PySem.W.fnOf "_law_size" "_law_size" (defArgs s__law_size) (defBody s__law_size) (defScope s__law_size) .none kV15 dc15 pm15 an15 cd15 ct15), sl15⟩) (c15 : PySem.W.codeIn K cd15 "_law_size" = true) (k15 : PySem.W.keepIn K (.ref a__law_size) = true)
    {od16 an16 : Option Addr} {sl16 : Array (Option Value)} {oc16 kV16 dc16 pm16 cd16 ct16 : Value}
    (p16 : PySem.W.nsIn K mainGlobals "_law_fields" = some (some (.ref a__law_fields))) (l16 : K.lookup a__law_fields = some ⟨oc16, od16, .func (PySem.W.fnOf "_law_fields" "_law_fields" (defArgs s__law_fields) (defBody s__law_fields) (defScope s__law_fields) .none kV16 dc16 pm16 an16 cd16 ct16), sl16⟩) (c16 : PySem.W.codeIn K cd16 "_law_fields" = true) (k16 : PySem.W.keepIn K (.ref a__law_fields) = true)
    {od17 an17 : Option Addr} {sl17 : Array (Option Value)} {oc17 kV17 dc17 pm17 cd17 ct17 : Value}
    (p17 : PySem.W.nsIn K mainGlobals "_law_moved" = some (some (.ref a__law_moved))) (l17 : K.lookup a__law_moved = some ⟨oc17, od17, .func (PySem.W.fnOf "_law_moved" "_law_moved" (defArgs s__law_moved) (defBody s__law_moved) (defScope s__law_moved) .none kV17 dc17 pm17 an17 cd17 ct17), sl17⟩) (c17 : PySem.W.codeIn K cd17 "_law_moved" = true) (k17 : PySem.W.keepIn K (.ref a__law_moved) = true)
    {od18 an18 : Option Addr} {sl18 : Array (Option Value)} {oc18 kV18 dc18 pm18 cd18 ct18 : Value}
    (p18 : PySem.W.nsIn K mainGlobals "_law_form_of_codes" = some (some (.ref a__law_form_of_codes))) (l18 : K.lookup a__law_form_of_codes = some ⟨oc18, od18, .func (PySem.W.fnOf "_law_form_of_codes" "_law_form_of_codes" (defArgs s__law_form_of_codes) (defBody s__law_form_of_codes) (defScope s__law_form_of_codes) .none kV18 dc18 pm18 an18 cd18 ct18), sl18⟩) (c18 : PySem.W.codeIn K cd18 "_law_form_of_codes" = true) (k18 : PySem.W.keepIn K (.ref a__law_form_of_codes) = true)
    {od19 an19 : Option Addr} {sl19 : Array (Option Value)} {oc19 kV19 dc19 pm19 cd19 ct19 : Value}
    (p19 : PySem.W.nsIn K mainGlobals "_law_code" = some (some (.ref a__law_code))) (l19 : K.lookup a__law_code = some ⟨oc19, od19, .func (PySem.W.fnOf "_law_code" "_law_code" (defArgs s__law_code) (defBody s__law_code) (defScope s__law_code) .none kV19 dc19 pm19 an19 cd19 ct19), sl19⟩) (c19 : PySem.W.codeIn K cd19 "_law_code" = true) (k19 : PySem.W.keepIn K (.ref a__law_code) = true)
    {od20 an20 : Option Addr} {sl20 : Array (Option Value)} {oc20 kV20 dc20 pm20 cd20 ct20 : Value}
    {T20 : Addr} {oT20 : Value} {dT20 : Option Addr} {nT20 : Nat} {sT20 : Array (Option Value)} 
    (p20 : PySem.W.nsIn K mainGlobals "_law_codes" = some (some (.ref a__law_codes))) (l20 : K.lookup a__law_codes = some ⟨oc20, od20, .func (PySem.W.fnOf "_law_codes" "_law_codes" (defArgs s__law_codes) (defBody s__law_codes) (defScope s__law_codes) (.ref T20) kV20 dc20 pm20 an20 cd20 ct20), sl20⟩) (c20 : PySem.W.codeIn K cd20 "_law_codes" = true) (k20 : PySem.W.keepIn K (.ref a__law_codes) = true)
    (lT20 : K.lookup T20 = some ⟨oT20, dT20, .seq #[.none] nT20, sT20⟩)
    {od21 an21 : Option Addr} {sl21 : Array (Option Value)} {oc21 kV21 dc21 pm21 cd21 ct21 : Value}
    (p21 : PySem.W.nsIn K mainGlobals "_law_before" = some (some (.ref a__law_before))) (l21 : K.lookup a__law_before = some ⟨oc21, od21, .func (PySem.W.fnOf "_law_before" "_law_before" (defArgs s__law_before) (defBody s__law_before) (defScope s__law_before) .none kV21 dc21 pm21 an21 cd21 ct21), sl21⟩) (c21 : PySem.W.codeIn K cd21 "_law_before" = true) (k21 : PySem.W.keepIn K (.ref a__law_before) = true)
    {od22 an22 : Option Addr} {sl22 : Array (Option Value)} {oc22 kV22 dc22 pm22 cd22 ct22 : Value}
    (p22 : PySem.W.nsIn K mainGlobals "_law_is_own_form" = some (some (.ref a__law_is_own_form))) (l22 : K.lookup a__law_is_own_form = some ⟨oc22, od22, .func (PySem.W.fnOf "_law_is_own_form" "_law_is_own_form" (defArgs s__law_is_own_form) (defBody s__law_is_own_form) (defScope s__law_is_own_form) .none kV22 dc22 pm22 an22 cd22 ct22), sl22⟩) (c22 : PySem.W.codeIn K cd22 "_law_is_own_form" = true) (k22 : PySem.W.keepIn K (.ref a__law_is_own_form) = true)
    {od23 an23 : Option Addr} {sl23 : Array (Option Value)} {oc23 kV23 dc23 pm23 cd23 ct23 : Value}
    (p23 : PySem.W.nsIn K mainGlobals "_law_otherwise" = some (some (.ref a__law_otherwise))) (l23 : K.lookup a__law_otherwise = some ⟨oc23, od23, .func (PySem.W.fnOf "_law_otherwise" "_law_otherwise" (defArgs s__law_otherwise) (defBody s__law_otherwise) (defScope s__law_otherwise) .none kV23 dc23 pm23 an23 cd23 ct23), sl23⟩) (c23 : PySem.W.codeIn K cd23 "_law_otherwise" = true) (k23 : PySem.W.keepIn K (.ref a__law_otherwise) = true)
    {od24 an24 : Option Addr} {sl24 : Array (Option Value)} {oc24 kV24 dc24 pm24 cd24 ct24 : Value}
    (p24 : PySem.W.nsIn K mainGlobals "_law_limits" = some (some (.ref a__law_limits))) (l24 : K.lookup a__law_limits = some ⟨oc24, od24, .func (PySem.W.fnOf "_law_limits" "_law_limits" (defArgs s__law_limits) (defBody s__law_limits) (defScope s__law_limits) .none kV24 dc24 pm24 an24 cd24 ct24), sl24⟩) (c24 : PySem.W.codeIn K cd24 "_law_limits" = true) (k24 : PySem.W.keepIn K (.ref a__law_limits) = true)
    {od25 an25 : Option Addr} {sl25 : Array (Option Value)} {oc25 kV25 dc25 pm25 cd25 ct25 : Value}
    (p25 : PySem.W.nsIn K mainGlobals "law" = some (some (.ref a_law))) (l25 : K.lookup a_law = some ⟨oc25, od25, .func (PySem.W.fnOf "law" "law" (defArgs s_law) (defBody s_law) (defScope s_law) .none kV25 dc25 pm25 an25 cd25 ct25), sl25⟩) (c25 : PySem.W.codeIn K cd25 "law" = true) (k25 : PySem.W.keepIn K (.ref a_law) = true)
    {t_PLAIN_LEAST : Tok} (e_PLAIN_LEAST : PySem.W.nsIn K mainGlobals "PLAIN_LEAST" = some (some (.int (-18446744073709551616) t_PLAIN_LEAST)))
    {t_PLAIN_MOST : Tok} (e_PLAIN_MOST : PySem.W.nsIn K mainGlobals "PLAIN_MOST" = some (some (.int (18446744073709551615) t_PLAIN_MOST)))
    {t_LAST_PLAIN_TURN : Tok} (e_LAST_PLAIN_TURN : PySem.W.nsIn K mainGlobals "LAST_PLAIN_TURN" = some (some (.int (64) t_LAST_PLAIN_TURN)))
    {t_MOST_HEIGHT : Tok} (e_MOST_HEIGHT : PySem.W.nsIn K mainGlobals "MOST_HEIGHT" = some (some (.int (6) t_MOST_HEIGHT)))
    {t_MOST_SIZE : Tok} (e_MOST_SIZE : PySem.W.nsIn K mainGlobals "MOST_SIZE" = some (some (.int (2000) t_MOST_SIZE)))
    (z_bool : PySem.W.nsIn K mainGlobals "bool" = some none)
    (z_enumerate : PySem.W.nsIn K mainGlobals "enumerate" = some none)
    (z_int : PySem.W.nsIn K mainGlobals "int" = some none)
    (z_isinstance : PySem.W.nsIn K mainGlobals "isinstance" = some none)
    (z_len : PySem.W.nsIn K mainGlobals "len" = some none)
    (z_list : PySem.W.nsIn K mainGlobals "list" = some none)
    (z_min : PySem.W.nsIn K mainGlobals "min" = some none)
    (z_range : PySem.W.nsIn K mainGlobals "range" = some none)
    (z_repr : PySem.W.nsIn K mainGlobals "repr" = some none)
    (z_sorted : PySem.W.nsIn K mainGlobals "sorted" = some none)
    (z_sum : PySem.W.nsIn K mainGlobals "sum" = some none)
    (z_tuple : PySem.W.nsIn K mainGlobals "tuple" = some none)
    : ∃ fd : FuncData, (∀ (s : Shared) (v : Value), BindsTo s fd ⟨[v], []⟩ [("_law_script", v)]) ∧ ∀ base : Heap, K.In base → base.Ns mainGlobals mg → HX.FnG l.prog w K mg base 41 fa fd ["_law_script"] (spLaw K) := by
  have e := hfa.symm.trans (PySem.W.mg_of X G p25)
  cases e
  have F0 := fun_mk (st := s_turns_of_int) l0 c0 k0
  have b0 := F0.binds (ps := ["number"]) fun _ _ _ _ _ _ us hl => match us, hl with | [_], _ => rfl
  have F1 := fun_mk (st := s_turns) l1 c1 k1
  have b1 := F1.binds (ps := ["x"]) fun _ _ _ _ _ _ us hl => match us, hl with | [_], _ => rfl
  have F2 := fun_mk (st := s_negative) l2 c2 k2
  have b2 := F2.binds (ps := ["x"]) fun _ _ _ _ _ _ us hl => match us, hl with | [_], _ => rfl
  have F3 := fun_mk (st := s_order) l3 c3 k3
  have b3 := F3.binds (ps := ["x", "y"]) fun _ _ _ _ _ _ us hl => match us, hl with | [_, _], _ => rfl
  have F4 := fun_mk (st := s_room_left) l4 c4 k4
  have b4 := F4.binds (ps := ["value", "room", "levels"]) fun _ _ _ _ _ _ us hl => match us, hl with | [_, _, _], _ => rfl
  have F5 := fun_mk (st := s_is_plain) l5 c5 k5
  have b5 := F5.binds (ps := ["value"]) fun _ _ _ _ _ _ us hl => match us, hl with | [_], _ => rfl
  have F6 := fun_mk (st := s_is_valid) l6 c6 k6
  have b6 := F6.binds (ps := ["value"]) fun _ _ _ _ _ _ us hl => match us, hl with | [_], _ => rfl
  have F7 := fun_mk (st := s_is_form) l7 c7 k7
  have b7 := F7.binds (ps := ["value"]) fun _ _ _ _ _ _ us hl => match us, hl with | [_], _ => rfl
  have F8 := fun_mk (st := s__law_begin) l8 c8 k8
  have b8 := F8.binds (ps := ["_law_script"]) fun _ _ _ _ _ _ us hl => match us, hl with | [_], _ => rfl
  have F9 := fun_mk (st := s__law_draw) l9 c9 k9
  have b9 := F9.binds (ps := ["_law_tape", "_law_limit"]) fun _ _ _ _ _ _ us hl => match us, hl with | [_, _], _ => rfl
  have F10 := fun_mk (st := s__law_pick) l10 c10 k10
  have b10 := F10.binds (ps := ["_law_tape", "_law_some"]) fun _ _ _ _ _ _ us hl => match us, hl with | [_, _], _ => rfl
  have F11 := fun_mk (st := s__law_turns) l11 c11 k11
  have b11 := F11.binds (ps := ["_law_number"]) fun _ _ _ _ _ _ us hl => match us, hl with | [_], _ => rfl
  have F12 := fun_mk (st := s__law_int) l12 c12 k12
  have b12 := F12.binds (ps := ["_law_places"]) fun _ _ _ _ _ _ us hl => match us, hl with | [_], _ => rfl
  have F13 := fun_mk (st := s__law_form) l13 c13 k13
  have b13 := F13.binds (ps := ["_law_number"]) fun _ _ _ _ _ _ us hl => match us, hl with | [_], _ => rfl
  have F14 := fun_mk (st := s__law_row_form) l14 c14 k14
  have b14 := F14.binds (ps := ["_law_places"]) fun _ _ _ _ _ _ us hl => match us, hl with | [_], _ => rfl
  have F15 := fun_mk (st := s__law_size) l15 c15 k15
  have b15 := F15.binds (ps := ["_law_form_here"]) fun _ _ _ _ _ _ us hl => match us, hl with | [_], _ => rfl
  have F16 := fun_mk (st := s__law_fields) l16 c16 k16
  have b16 := F16.binds (ps := ["_law_tape", "_law_many"]) fun _ _ _ _ _ _ us hl => match us, hl with | [_, _], _ => rfl
  have F17 := fun_mk (st := s__law_moved) l17 c17 k17
  have b17 := F17.binds (ps := ["_law_code_here", "_law_fields_here"]) fun _ _ _ _ _ _ us hl => match us, hl with | [_, _], _ => rfl
  have F18 := fun_mk (st := s__law_form_of_codes) l18 c18 k18
  have b18 := F18.binds (ps := ["_law_codes_here", "_law_fields_here"]) fun _ _ _ _ _ _ us hl => match us, hl with | [_, _], _ => rfl
  have F19 := fun_mk (st := s__law_code) l19 c19 k19
  have b19 := F19.binds (ps := ["_law_tape", "_law_many", "_law_known"]) fun _ _ _ _ _ _ us hl => match us, hl with | [_, _, _], _ => rfl
  have F20 := HX.funD_mk (st := s__law_codes) (dv := .non) l20 c20 k20 lT20 rfl rfl
  have b20 := HX.binds_nil (F20.binds1 (ps := ["_law_tape", "_law_many", "_law_count", "_law_known"]) 4 1 (by simp) rfl fun _ _ _ _ _ _ _ us its hl hl2 => match us, hl, its, hl2 with | [_, _, _, _], _, [_], _ => ⟨_, rfl, rfl⟩)
  obtain ⟨ds20, dv20, bd20⟩ := F20.binds1 (ps := ["_law_tape", "_law_many", "_law_count", "_law_known"]) 3 0 (by simp) rfl fun _ _ _ _ _ _ _ us its hl hl2 => match us, hl, its, hl2 with | [_, _, _], _, [_], _ => ⟨_, rfl, rfl⟩
  have F21 := fun_mk (st := s__law_before) l21 c21 k21
  have b21 := F21.binds (ps := ["_law_one", "_law_other"]) fun _ _ _ _ _ _ us hl => match us, hl with | [_, _], _ => rfl
  have F22 := fun_mk (st := s__law_is_own_form) l22 c22 k22
  have b22 := F22.binds (ps := ["_law_thing", "_law_deep"]) fun _ _ _ _ _ _ us hl => match us, hl with | [_, _], _ => rfl
  have F23 := fun_mk (st := s__law_otherwise) l23 c23 k23
  have b23 := F23.binds (ps := ["_law_tape", "_law_form_here", "_law_deep"]) fun _ _ _ _ _ _ us hl => match us, hl with | [_, _, _], _ => rfl
  have F24 := fun_mk (st := s__law_limits) l24 c24 k24
  have b24 := F24.binds (ps := ["_law_tape"]) fun _ _ _ _ _ _ us hl => match us, hl with | [_], _ => rfl
  have F25 := fun_mk (st := s_law) l25 c25 k25
  have b25 := F25.binds (ps := ["_law_script"]) fun _ _ _ _ _ _ us hl => match us, hl with | [_], _ => rfl
  have T : Top K mg := ⟨_, _, F0, PySem.W.mg_of X G p0, b0, _, _, F1, PySem.W.mg_of X G p1, b1, _, _, F2, PySem.W.mg_of X G p2, b2, _, _, F3, PySem.W.mg_of X G p3, b3, _, _, F4, PySem.W.mg_of X G p4, b4, _, _, F5, PySem.W.mg_of X G p5, b5, _, _, F6, PySem.W.mg_of X G p6, b6, _, _, F7, PySem.W.mg_of X G p7, b7, _, _, F8, PySem.W.mg_of X G p8, b8, _, _, F9, PySem.W.mg_of X G p9, b9, _, _, F10, PySem.W.mg_of X G p10, b10, _, _, F11, PySem.W.mg_of X G p11, b11, _, _, F12, PySem.W.mg_of X G p12, b12, _, _, F13, PySem.W.mg_of X G p13, b13, _, _, F14, PySem.W.mg_of X G p14, b14, _, _, F15, PySem.W.mg_of X G p15, b15, _, _, F16, PySem.W.mg_of X G p16, b16, _, _, F17, PySem.W.mg_of X G p17, b17, _, _, F18, PySem.W.mg_of X G p18, b18, _, _, F19, PySem.W.mg_of X G p19, b19, _, _, F20, ds20, dv20, bd20, PySem.W.mg_of X G p20, b20, _, _, F21, PySem.W.mg_of X G p21, b21, _, _, F22, PySem.W.mg_of X G p22, b22, _, _, F23, PySem.W.mg_of X G p23, b23, _, _, F24, PySem.W.mg_of X G p24, b24, _, _, F25, PySem.W.mg_of X G p25, b25, t_PLAIN_LEAST, PySem.W.mg_of X G e_PLAIN_LEAST, t_PLAIN_MOST, PySem.W.mg_of X G e_PLAIN_MOST, t_LAST_PLAIN_TURN, PySem.W.mg_of X G e_LAST_PLAIN_TURN, t_MOST_HEIGHT, PySem.W.mg_of X G e_MOST_HEIGHT, t_MOST_SIZE, PySem.W.mg_of X G e_MOST_SIZE, PySem.W.mg_none_of X G z_bool, PySem.W.mg_none_of X G z_enumerate, PySem.W.mg_none_of X G z_int, PySem.W.mg_none_of X G z_isinstance, PySem.W.mg_none_of X G z_len, PySem.W.mg_none_of X G z_list, PySem.W.mg_none_of X G z_min, PySem.W.mg_none_of X G z_range, PySem.W.mg_none_of X G z_repr, PySem.W.mg_none_of X G z_sorted, PySem.W.mg_none_of X G z_sum, PySem.W.mg_none_of X G z_tuple⟩
  exact ⟨PySem.W.fnOf "law" "law" (defArgs s_law) (defBody s_law) (defScope s_law) .none kV25 dc25 pm25 an25 cd25 ct25, fun s v => .of_eq rfl, fun base _ _ => ok_law T F25⟩
end K00
open PySem PySem.W PyProof.Rows
set_option maxHeartbeats 0 in
theorem PySem.Challenge.cw_farbits_k00_forms_told_from_other_values_holds : PySem.Challenge.rw_farbits_k00_forms_told_from_other_values.Holds := by
  w_on; o_law; k_head; (case hw => w_witness2)
  k_fill
  refine HX.walk_ofG (l := PySem.Challenge.rw_farbits_k00_forms_told_from_other_values) (n := 63) (k := 41) (x := "_law_script") (sp := fun w => K00.spLaw _) rfl (by decide) rfl ⟨rfl, by decide, by decide⟩ (fun w h Y => PySem.W.kIn_of Y) ?F (fun _ _ a ns hl _ hS => ⟨a, ns, rfl, hS, hl, fun _ => rfl⟩)
  case F =>
    intro w mg fa h KX G hmg
    refine' K00.all_mk KX G hmg ?p0 ?l0 ?c0 ?k0 ?p1 ?l1 ?c1 ?k1 ?p2 ?l2 ?c2 ?k2 ?p3 ?l3 ?c3 ?k3 ?p4 ?l4 ?c4 ?k4 ?p5 ?l5 ?c5 ?k5 ?p6 ?l6 ?c6 ?k6 ?p7 ?l7 ?c7 ?k7 ?p8 ?l8 ?c8 ?k8 ?p9 ?l9 ?c9 ?k9 ?p10 ?l10 ?c10 ?k10 ?p11 ?l11 ?c11 ?k11 ?p12 ?l12 ?c12 ?k12 ?p13 ?l13 ?c13 ?k13 ?p14 ?l14 ?c14 ?k14 ?p15 ?l15 ?c15 ?k15 ?p16 ?l16 ?c16 ?k16 ?p17 ?l17 ?c17 ?k17 ?p18 ?l18 ?c18 ?k18 ?p19 ?l19 ?c19 ?k19 ?p20 ?l20 ?c20 ?k20 ?lT20 ?p21 ?l21 ?c21 ?k21 ?p22 ?l22 ?c22 ?k22 ?p23 ?l23 ?c23 ?k23 ?p24 ?l24 ?c24 ?k24 ?p25 ?l25 ?c25 ?k25 ?e_PLAIN_LEAST ?e_PLAIN_MOST ?e_LAST_PLAIN_TURN ?e_MOST_HEIGHT ?e_MOST_SIZE ?z_bool ?z_enumerate ?z_int ?z_isinstance ?z_len ?z_list ?z_min ?z_range ?z_repr ?z_sorted ?z_sum ?z_tuple
    (case p0 => k_is); (case l0 => k_is); (case c0 => k_is); (case k0 => k_is); (case p1 => k_is); (case l1 => k_is); (case c1 => k_is); (case k1 => k_is)
    (case p2 => k_is); (case l2 => k_is); (case c2 => k_is); (case k2 => k_is); (case p3 => k_is); (case l3 => k_is); (case c3 => k_is); (case k3 => k_is)
    (case p4 => k_is); (case l4 => k_is); (case c4 => k_is); (case k4 => k_is); (case p5 => k_is); (case l5 => k_is); (case c5 => k_is); (case k5 => k_is)
    (case p6 => k_is); (case l6 => k_is); (case c6 => k_is); (case k6 => k_is); (case p7 => k_is); (case l7 => k_is); (case c7 => k_is); (case k7 => k_is)
    (case p8 => k_is); (case l8 => k_is); (case c8 => k_is); (case k8 => k_is); (case p9 => k_is); (case l9 => k_is); (case c9 => k_is); (case k9 => k_is)
    (case p10 => k_is); (case l10 => k_is); (case c10 => k_is); (case k10 => k_is); (case p11 => k_is); (case l11 => k_is); (case c11 => k_is); (case k11 => k_is)
    (case p12 => k_is); (case l12 => k_is); (case c12 => k_is); (case k12 => k_is); (case p13 => k_is); (case l13 => k_is); (case c13 => k_is); (case k13 => k_is)
    (case p14 => k_is); (case l14 => k_is); (case c14 => k_is); (case k14 => k_is); (case p15 => k_is); (case l15 => k_is); (case c15 => k_is); (case k15 => k_is)
    (case p16 => k_is); (case l16 => k_is); (case c16 => k_is); (case k16 => k_is); (case p17 => k_is); (case l17 => k_is); (case c17 => k_is); (case k17 => k_is)
    (case p18 => k_is); (case l18 => k_is); (case c18 => k_is); (case k18 => k_is); (case p19 => k_is); (case l19 => k_is); (case c19 => k_is); (case k19 => k_is)
    (case p20 => k_is); (case l20 => k_is); (case c20 => k_is); (case k20 => k_is); (case lT20 => k_is); (case p21 => k_is); (case l21 => k_is); (case c21 => k_is)
    (case k21 => k_is); (case p22 => k_is); (case l22 => k_is); (case c22 => k_is); (case k22 => k_is); (case p23 => k_is); (case l23 => k_is); (case c23 => k_is)
    (case k23 => k_is); (case p24 => k_is); (case l24 => k_is); (case c24 => k_is); (case k24 => k_is); (case p25 => k_is); (case l25 => k_is); (case c25 => k_is)
    (case k25 => k_is); (case e_PLAIN_LEAST => k_is); (case e_PLAIN_MOST => k_is); (case e_LAST_PLAIN_TURN => k_is); (case e_MOST_HEIGHT => k_is); (case e_MOST_SIZE => k_is); (case z_bool => k_is); (case z_enumerate => k_is)
    (case z_int => k_is); (case z_isinstance => k_is); (case z_len => k_is); (case z_list => k_is); (case z_min => k_is); (case z_range => k_is); (case z_repr => k_is); (case z_sorted => k_is)
    (case z_sum => k_is); (case z_tuple => k_is)
