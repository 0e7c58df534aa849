import PyProof.Rows.All
import Wide.All
import OpenK.AllK
import Wide.FinOn
import HandS.ForMost
import HandS.WideBits
import HandS.Style
import HandS.IsInst
import HandS.TupAny
import HandS.Defaults
import HandS.Wide
import HandS.Small
import HandS.Flow
import HandS.RaiseMore
import KE.GoesMore
import KE.GoesEnum
import KE.KBits
import KE.BitLaws
import PySem.PyData
import PyProof.Claim2
import HandS.Nested
import HandS.ExcInit
import KE.KExcSuper
import HandS.ExcIs
import HandS.ExcField
import HandS.Exc
import HandS.TryMany
import HandS.WordsExc
import HandS.Lambda
import HandS.EndTab
import KE.KNest
import HandS.ExcOwn
import HandS.SortInts
import PySem.Challenge.RW_farbits_k13_powers
set_option Elab.async false
set_option linter.all false
set_option maxRecDepth 100000
/-! small helpers over the hand layer, for every law -/
namespace HX
open PySem PySem.Spec PyProof.Rows L2

/-- ends that take P behind, and else what D takes -/
structure Jn (D : Ends) (P : L2.St → Hp → Prop) (D' : Ends) : Prop where
  nx : ∀ σ' H', P σ' H' → D'.nx σ' H'
  ct : ∀ σ' H', D.ct σ' H' → D'.ct σ' H'
  bk : ∀ σ' H', D.bk σ' H' → D'.bk σ' H'
  rt : ∀ v H', D.rt v H' → D'.rt v H'
theorem if_join {c : Prop} [Decidable c] {t u : TS} {D : Ends} {σ : L2.St} {H : Hp} (P : L2.St → Hp → Prop) (hr : ∀ σ' H', P σ' H' → D.nx σ' H')
    (h1 : ∀ D', Jn D P D' → c → t D' σ H) (h2 : ∀ D', Jn D P D' → ¬ c → u D' σ H) : if c then t D σ H else u D σ H := by
  by_cases h : c
  · rw [if_pos h]
    exact h1 _ ⟨hr, fun _ _ h => h, fun _ _ h => h, fun _ _ h => h⟩ h
  · rw [if_neg h]
    exact h2 _ ⟨hr, fun _ _ h => h, fun _ _ h => h, fun _ _ h => h⟩ h
/-- a statement, then the rest: P stands between -/
theorem cut {t u : TS} {D : Ends} {σ : L2.St} {H : Hp} (P : L2.St → Hp → Prop) (h1 : ∀ D', Jn D P D' → t D' σ H) (h2 : ∀ σ' H', P σ' H' → u D σ' H') : tSeq t u D σ H :=
  h1 { D with nx := u D } ⟨h2, fun _ _ h => h, fun _ _ h => h, fun _ _ h => h⟩
theorem ifD {p A B : Prop} [Decidable p] (h1 : p → A) (h2 : ¬ p → B) : if decide p = true then A else B := by
  by_cases h : p
  · rw [if_pos (decide_eq_true h)]
    exact h1 h
  · rw [if_neg (by rw [decide_eq_false h]; exact Bool.false_ne_true)]
    exact h2 h
theorem ifN {p A B : Prop} [Decidable p] (h1 : ¬ p → A) (h2 : p → B) : if (!decide p) = true then A else B := by
  by_cases h : p
  · rw [decide_eq_true h]
    exact iteF (h2 h)
  · rw [decide_eq_false h]
    exact iteT (h1 h)
theorem ifE {a b : Int} {A B : Prop} (h1 : a = b → A) (h2 : a ≠ b → B) : if decide (V.int a = V.int b) = true then A else B :=
  ifD (fun e => h1 (V.int.inj e)) (fun e => h2 fun z => e (congrArg V.int z))
theorem ifNE {a b : Int} {A B : Prop} (h1 : a ≠ b → A) (h2 : a = b → B) : if (!decide (V.int a = V.int b)) = true then A else B :=
  ifN (fun e => h1 fun z => e (congrArg V.int z)) (fun e => h2 (V.int.inj e))
/-- what is shown once and used on several ways -/
theorem keep {Y G : Prop} (hY : Y) (h : Y → G) : G := h hY
/-- a and b: where a is false, and where b is false, the same comes -/
theorem ifAnd {p A X Y : Prop} [Decidable p] (hY : Y) (h : p → Y → A) : if decide p = true then A else (if false = true then X else Y) :=
  ifD (fun hp => h hp hY) (fun _ => iteF hY)
/-- a < b < c as a test: where the first is false, and where the second is -/
theorem ifChain {p A B X : Prop} [Decidable p] (hB : B) (h : p → B → X) : if decide p = true then X else (∃ k, V.bl false = V.bl k ∧ if k = true then A else B) :=
  ifD (fun hp => h hp hB) (fun _ => ⟨false, rfl, iteF hB⟩)
theorem ifOr {p A X Y : Prop} [Decidable p] (hX : X) (h : ¬ p → X → A) : if decide p = true then (if true = true then X else Y) else A :=
  ifD (fun _ => iteT hX) (fun hp => h hp hX)
theorem ifY {c A B : Prop} [Decidable c] (hc : c) (h : A) : if c then A else B := by
  rw [if_pos hc]
  exact h
theorem ifZ {c A B : Prop} [Decidable c] (hc : ¬ c) (h : B) : if c then A else B := by
  rw [if_neg hc]
  exact h
/-- the ends of a loop's body, by what they are known to take -/
structure Bd (D : Ends) (N : L2.St → Hp → Prop) (D' : Ends) : Prop where
  nx : ∀ σ' H', N σ' H' → D'.nx σ' H'
  ct : ∀ σ' H', N σ' H' → D'.ct σ' H'
  bk : ∀ σ' H', D.nx σ' H' → D'.bk σ' H'
  rt : ∀ v H', D.rt v H' → D'.rt v H'
/-- a while's turn: the body for any ends -/
theorem wb {tb : TS} {D : Ends} {m : Nat} {σ : L2.St} {H1 : Hp} {W : Nat → L2.St → Hp → Prop} (h : ∀ D', Bd D (fun σ' H' => ∃ m', m' < m ∧ W m' σ' H') D' → tb D' σ H1) :
    ∃ N : L2.St → Hp → Prop, (∀ σ' H', N σ' H' → ∃ m', m' < m ∧ W m' σ' H') ∧ tb { D with nx := N, ct := N, bk := D.nx } σ H1 :=
  ⟨_, fun _ _ h => h, h _ ⟨fun _ _ h => h, fun _ _ h => h, fun _ _ h => h, fun _ _ h => h⟩⟩
theorem flL {K : PySem.W.Frag} {a : Addr} {xs : List V} {g : TG} {tb : TS} {D : Ends} {σ : L2.St} {H : Hp} (Pv : Nat → L2.St → Hp → Prop) (h0 : Pv 0 σ H) (hl : ∀ i σ H, i ≤ xs.length → Pv i σ H → SqL K H a xs)
    (hs : ∀ i x σ H, xs[i]? = some x → Pv i σ H → ∀ D', Bd D (Pv (i + 1)) D' → g x σ H fun σ2 H2 => tb D' σ2 H2) (hd : ∀ σ H, Pv xs.length σ H → D.nx σ H) :
    ∃ W : Nat → Nat → L2.St → Hp → Prop, (∃ m, W 0 m σ H) ∧ ∀ i m σ H, W i m σ H →
      ((Itl K a).stop i H ∧ D.nx σ H) ∨ ((Itl K a).go i H ∧ ∃ N : L2.St → Hp → Prop, (∀ σ' H', N σ' H' → ∃ m', m' < m ∧ W (i + 1) m' σ' H') ∧ ∀ x H', (Itl K a).yld i H x H' → g x σ H' fun σ2 H2 => tb { D with nx := N, ct := N, bk := D.nx } σ2 H2) :=
  for_list Pv h0 hl (fun i x σ H hx p => hs i x σ H hx p _ ⟨fun _ _ h => h, fun _ _ h => h, fun _ _ h => h, fun _ _ h => h⟩) hd
theorem flT {K : PySem.W.Frag} {a : Addr} {xs : List V} {g : TG} {tb : TS} {D : Ends} {σ : L2.St} {H : Hp} (Pv : Nat → L2.St → Hp → Prop) (h0 : Pv 0 σ H) (hl : ∀ i σ H, i ≤ xs.length → Pv i σ H → SqT K H a xs)
    (hs : ∀ i x σ H, xs[i]? = some x → Pv i σ H → ∀ D', Bd D (Pv (i + 1)) D' → g x σ H fun σ2 H2 => tb D' σ2 H2) (hd : ∀ σ H, Pv xs.length σ H → D.nx σ H) :
    ∃ W : Nat → Nat → L2.St → Hp → Prop, (∃ m, W 0 m σ H) ∧ ∀ i m σ H, W i m σ H →
      ((Itt K a).stop i H ∧ D.nx σ H) ∨ ((Itt K a).go i H ∧ ∃ N : L2.St → Hp → Prop, (∀ σ' H', N σ' H' → ∃ m', m' < m ∧ W (i + 1) m' σ' H') ∧ ∀ x H', (Itt K a).yld i H x H' → g x σ H' fun σ2 H2 => tb { D with nx := N, ct := N, bk := D.nx } σ2 H2) :=
  for_tup Pv h0 hl (fun i x σ H hx p => hs i x σ H hx p _ ⟨fun _ _ h => h, fun _ _ h => h, fun _ _ h => h, fun _ _ h => h⟩) hd
theorem flR {lo : Int} {n : Nat} {g : TG} {tb : TS} {D : Ends} {σ : L2.St} {H : Hp} (Pv : Nat → L2.St → Hp → Prop) (h0 : Pv 0 σ H)
    (hs : ∀ i σ H, i < n → Pv i σ H → ∀ D', Bd D (Pv (i + 1)) D' → g (.int (lo + i)) σ H fun σ2 H2 => tb D' σ2 H2) (hd : ∀ σ H, Pv n σ H → D.nx σ H) :
    ∃ W : Nat → Nat → L2.St → Hp → Prop, (∃ m, W 0 m σ H) ∧ ∀ i m σ H, W i m σ H →
      ((Itr lo n).stop i H ∧ D.nx σ H) ∨ ((Itr lo n).go i H ∧ ∃ N : L2.St → Hp → Prop, (∀ σ' H', N σ' H' → ∃ m', m' < m ∧ W (i + 1) m' σ' H') ∧ ∀ x H', (Itr lo n).yld i H x H' → g x σ H' fun σ2 H2 => tb { D with nx := N, ct := N, bk := D.nx } σ2 H2) :=
  for_range Pv h0 (fun i σ H hx p => hs i σ H hx p _ ⟨fun _ _ h => h, fun _ _ h => h, fun _ _ h => h, fun _ _ h => h⟩) hd
theorem seqC {i : Nat} {v : V} {u : TS} {D : Ends} {σ : L2.St} {H : Hp} (h : u D (σ.set i (some v)) H) : tSeq (tAsg (tC v) (gName i)) u D σ H := h
theorem asgC {i : Nat} {v : V} {D : Ends} {σ : L2.St} {H : Hp} (h : D.nx (σ.set i (some v)) H) : tAsg (tC v) (gName i) D σ H := h
/-- an expression that the proof never comes to -/
def tNevE : TE := fun _ _ _ => False
theorem pe_never {X : Cx} {e : Expr} : PE X e tNevE := ⟨fun _ _ _ _ _ _ h => h.elim⟩
theorem sm_upd {H : Hp} {p : Addr} {o : HO} (h : H p = none) : Same H (upd H p o) := fun b x e => by
  rw [upd_ne (ne_of_none e h)]
  exact e
theorem upd_at {H : Hp} {p : Addr} {o : HO} (_ : H p = none) : upd H p o p = some o := upd_same
theorem sm_mut {H H' : Hp} {p : Addr} {o : HO} (e : Same H H') (h : H p = none) : Same H (upd H' p o) := fun b x z => by
  rw [upd_ne (ne_of_none z h)]
  exact e b x z
theorem new_step {H G : Hp} {p : Addr} {o : HO} (h : H p = none) (e : upd H p o = G) : Same H G ∧ G p = some o := e ▸ ⟨sm_upd h, upd_same⟩
/-- all but p is as it was -/
def But (p : Addr) (H H' : Hp) : Prop := ∀ b o, b ≠ p → H b = some o → H' b = some o
theorem But.refl {p : Addr} (H : Hp) : But p H H := fun _ _ _ h => h
theorem But.trans {p : Addr} {H H1 H2 : Hp} (a : But p H H1) (b : But p H1 H2) : But p H H2 := fun c o h e => b c o h (a c o h e)
theorem But.of {p : Addr} {H H' : Hp} (a : Same H H') : But p H H' := fun b o _ e => a b o e
theorem But.upd {p : Addr} {H H' : Hp} {o : HO} (a : But p H H') : But p H (upd H' p o) := fun b x h e => by
  rw [upd_ne h]
  exact a b x h e
theorem But.new {p q : Addr} {H H' : Hp} {o : HO} (a : But p H H') (h : H' q = none) : But p H (L2.upd H' q o) := a.trans (But.of (sm_upd h))
theorem But.same {p : Addr} {H0 H H' : Hp} (e : Same H0 H) (n : H0 p = none) (a : But p H H') : Same H0 H' := fun b o h => a b o (ne_of_none h n) (e b o h)
/-- a new object, its heap by what is known of it -/
theorem new_by {H : Hp} {o : HO} {Q : Addr → Hp → Prop} (h : ∀ p H', H p = none → Same H H' → H' p = some o → (∀ b, b ≠ p → H' b = H b) → Q p H') : ∀ p, H p = none → Q p (upd H p o) := fun p hp =>
  h p _ hp (sm_upd hp) upd_same fun _ hb => upd_ne hb
theorem Same.tup {K : PySem.W.Frag} {H H' : Hp} {a : Addr} {xs : List V} (e : Same H H') (h : SqT K H a xs) : SqT K H' a xs := by
  rcases h with (h | ⟨o, h⟩) | h
  · exact .inl (.inl (e _ _ h))
  · exact .inl (.inr ⟨o, e _ _ h⟩)
  · exact .inr h
theorem len_le {n : Nat} (h : n ≤ 16000000) : n ≤ sizeLine := Nat.le_trans h (by decide)
theorem len_lt {n : Nat} (h : n < 16000000) : n < sizeLine := Nat.lt_of_lt_of_le h (by decide)
/-- ints that are counted from 0 on -/
def nv (ps : List Nat) : List V := ps.map fun q => .int (q : Nat)
theorem nv_app (ps : List Nat) (q : Nat) : nv (ps ++ [q]) = nv ps ++ [.int (q : Nat)] := by simp [nv]
theorem nv_len (ps : List Nat) : (nv ps).length = ps.length := by simp [nv]
theorem nv_get {ps : List Nat} {i : Nat} {v : V} (h : (nv ps)[i]? = some v) : ∃ q, ps[i]? = some q ∧ v = .int (q : Nat) := by
  unfold nv at h
  rw [List.getElem?_map] at h
  cases e : ps[i]? with
  | none => rw [e] at h; cases h
  | some q => rw [e] at h; exact ⟨q, rfl, (Option.some.inj h).symm⟩
theorem atI_neg1 {xs : List V} {v : V} (h : xs[xs.length - 1]? = some v) : atI xs (-1) = some v := by
  have hne : xs ≠ [] := by
    rintro rfl
    cases h
  have e : xs = xs.dropLast ++ [xs.getLast hne] := (List.dropLast_concat_getLast hne).symm
  have e2 : xs.getLast hne = v := by
    rw [List.getLast_eq_getElem]
    have := List.getElem?_eq_some_iff.mp h
    exact this.2
  rw [e, e2]
  exact atI_last _ _
/-! ### the readings of some calls, by names -/
def rLen (K : PySem.W.Frag) : List V → Hp → VK → Prop := fun xs H Q => ∃ p ys, xs = [.ref p] ∧ (SqL K H p ys ∨ SqT K H p ys) ∧ Q (.int ys.length) H
def rTupOf (K : PySem.W.Frag) : List V → Hp → VK → Prop := fun xs H Q => ∃ p ys, xs = [.ref p] ∧ ((SqL K H p ys ∧ ∀ l, H l = none → Q (.ref l) (upd H l (.tup ys))) ∨ (SqT K H p ys ∧ Q (.ref p) H))
def rLstOf (K : PySem.W.Frag) : List V → Hp → VK → Prop := fun xs H Q => ∃ p ys, xs = [.ref p] ∧ (SqL K H p ys ∨ SqT K H p ys) ∧ ∀ l, H l = none → Q (.ref l) (upd H l (.lst ys))
/-! ### isinstance -/
theorem isi_int {K : PySem.W.Frag} {H : Hp} {i : Int} {n : String} {b : Bool} {Q : VK} (h : kitB "int" n = some b) (q : Q (.bl b) H) : rIsi K [.int i, .ty n] H Q := ⟨_, _, _, _, b, rfl, .ty n, .base (.int i), kit_ty h, q⟩
theorem isi_bl {K : PySem.W.Frag} {H : Hp} {i : Bool} {n : String} {b : Bool} {Q : VK} (h : kitB "bool" n = some b) (q : Q (.bl b) H) : rIsi K [.bl i, .ty n] H Q := ⟨_, _, _, _, b, rfl, .ty n, .base (.bl i), kit_ty h, q⟩
theorem isi_tup {K : PySem.W.Frag} {H : Hp} {a : Addr} {xs : List V} {n : String} {b : Bool} {Q : VK} (e : SqT K H a xs) (h : kitB "tuple" n = some b) (q : Q (.bl b) H) : rIsi K [.ref a, .ty n] H Q := by
  rcases e with (e | ⟨o, e⟩) | ⟨o, its, m, e, c, _⟩
  · exact ⟨_, _, _, _, b, rfl, .ty n, .base (.tup e), kit_ty h, q⟩
  · exact ⟨_, _, _, _, b, rfl, .ty n, .fTuple e, kit_ty h, q⟩
  · exact ⟨_, _, _, _, b, rfl, .ty n, .kTuple e c, kit_ty h, q⟩
theorem isi_lst {K : PySem.W.Frag} {H : Hp} {a : Addr} {xs : List V} {n : String} {b : Bool} {Q : VK} (e : H a = some (.lst xs)) (h : kitB "list" n = some b) (q : Q (.bl b) H) : rIsi K [.ref a, .ty n] H Q := ⟨_, _, _, _, b, rfl, .ty n, .base (.lst e), kit_ty h, q⟩
theorem tyT {K : PySem.W.Frag} {H : Hp} {a : Addr} {xs : List V} (e : SqT K H a xs) : TyX K H (.ref a) (.type "tuple") := by
  rcases e with (e | ⟨o, e⟩) | ⟨o, its, m, e, c, _⟩
  · exact .base (.tup e)
  · exact .fTuple e
  · exact .kTuple e c
theorem tyI {K : PySem.W.Frag} {H : Hp} (i : Int) : TyX K H (.int i) (.type "int") := .base (.int i)
theorem k_ii : kitB "int" "int" = some true := by decide +kernel
theorem k_ib : kitB "int" "bool" = some false := by decide +kernel
theorem k_it : kitB "int" "tuple" = some false := by decide +kernel
theorem k_tt : kitB "tuple" "tuple" = some true := by decide +kernel
theorem k_ti : kitB "tuple" "int" = some false := by decide +kernel
theorem k_tb : kitB "tuple" "bool" = some false := by decide +kernel
/-! ### a dict of three text keys -/
def tri (k1 k2 k3 : Str) (a b c : V) : List (Key × V) := [(.inr k1, a), (.inr k2, b), (.inr k3, c)]
structure Dif (k1 k2 k3 : Str) : Prop where
  n12 : k1 ≠ k2
  n13 : k1 ≠ k3
  n23 : k2 ≠ k3
section
variable {k1 k2 k3 : Str} {a b c v : V} {H : Hp} {p : Addr}
theorem inr_ne {x y : Str} (h : x ≠ y) : ¬ (Sum.inr x : Key) = Sum.inr y := fun e => h (Sum.inr.inj e)
theorem tri_get1 (h : H p = some (.dK (tri k1 k2 k3 a b c))) : DGet H p (.str k1) (some a) := by
  have := DGet.k (k := (.inr k1 : Key)) h
  unfold tri at this
  rw [valV_pos rfl] at this
  exact this
theorem tri_get2 (d : Dif k1 k2 k3) (h : H p = some (.dK (tri k1 k2 k3 a b c))) : DGet H p (.str k2) (some b) := by
  have := DGet.k (k := (.inr k2 : Key)) h
  unfold tri at this
  rw [valV_neg (inr_ne d.n12), valV_pos rfl] at this
  exact this
theorem tri_get3 (d : Dif k1 k2 k3) (h : H p = some (.dK (tri k1 k2 k3 a b c))) : DGet H p (.str k3) (some c) := by
  have := DGet.k (k := (.inr k3 : Key)) h
  unfold tri at this
  rw [valV_neg (inr_ne d.n13), valV_neg (inr_ne d.n23), valV_pos rfl] at this
  exact this
theorem tri_put2 (d : Dif k1 k2 k3) (h : H p = some (.dK (tri k1 k2 k3 a b c))) : DPut H p (.str k2) v (upd H p (.dK (tri k1 k2 k3 a v c))) := by
  have := DPut.k (k := (.inr k2 : Key)) (v := v) h (by show 3 < sizeLine; decide)
  have e : putK (tri k1 k2 k3 a b c) (.inr k2) v = tri k1 k2 k3 a v c := by
    simp [putK, tri, d.n12, d.n23, Ne.symm d.n23]
  rw [e] at this
  exact this
theorem tri_put3 (d : Dif k1 k2 k3) (h : H p = some (.dK (tri k1 k2 k3 a b c))) : DPut H p (.str k3) v (upd H p (.dK (tri k1 k2 k3 a b v))) := by
  have := DPut.k (k := (.inr k3 : Key)) (v := v) h (by show 3 < sizeLine; decide)
  have e : putK (tri k1 k2 k3 a b c) (.inr k3) v = tri k1 k2 k3 a b v := by
    simp [putK, tri, d.n13, d.n23]
  rw [e] at this
  exact this
theorem tri_disp (d : Dif k1 k2 k3) : mergeK [] (tri k1 k2 k3 a b c) = tri k1 k2 k3 a b c := by
  simp [mergeK, putK, tri, d.n12, d.n13, d.n23]
end
/-! ### data -/
theorem dp_ints {K : PySem.W.Frag} {H : Hp} : ∀ ns : List Int, DpAll K H (ns.map V.int) (ns.map PyData.int)
  | [] => .nil
  | n :: r => .cons (.int n) (dp_ints r)
theorem lay_ints : ∀ ns : List Int, PyData.canLayAll0 (ns.map PyData.int) = true
  | [] => rfl
  | n :: r => by
    show (PyData.canLay0 (.int n) && PyData.canLayAll0 (r.map PyData.int)) = true
    rw [lay_ints r]
    rfl
theorem dep_ints : ∀ ns : List Int, PyData.depthAll (ns.map PyData.int) = 0
  | [] => rfl
  | n :: r => by
    show max (PyData.depth (.int n)) (PyData.depthAll (r.map PyData.int)) = 0
    rw [dep_ints r]
    rfl
theorem shaped_ints (ns : List Int) : SeqAt.shaped (.list (ns.map PyData.int)) = true := by
  show (PyData.canLayAll0 (ns.map PyData.int) && decide (PyData.depthAll (ns.map PyData.int) + 1 ≤ 64)) = true
  rw [lay_ints, dep_ints]
  rfl
theorem shaped_intsT (ns : List Int) : SeqAt.shaped (.tuple (ns.map PyData.int)) = true := shaped_ints ns
theorem eqv_nil (ds : List PyData) : PyData.eqv (.list ds) (.list []) = ds.isEmpty := by
  cases ds <;> rfl
/-! ### defs with one default -/
section
variable {P : Program} {w : World} {K : PySem.W.Frag} {mg : Str → Option Value} {base : Heap}
theorem funD_ok0 {x qual : Str} {st : Stmt} {dvs : List V} {kws : List (Str × V)} {f : Addr} {fd : FuncData} {N ps : List Str} {k : Nat} {sp : Sp} (F : FunD K x qual (defArgs st) (defBody st) (defScope st) dvs kws f fd)
    (S : FnScope N ps (defScope st)) (len : ∀ vs H Q E, sp vs H Q E → vs.length = ps.length)
    (hb : ∀ (cdv : Value) (A : Around) (outer : List Env) (s : Shared) (H : Hp) (vs : List V) (Q : VK) (E : XK), Room k (A.deeper (envOfC qual (defScope st) s.heap.objs.size f cdv)) → sp vs H Q E →
      ∃ t, PSs (cxOf CX0 P w K mg base N qual (defScope st) f cdv A outer s H E).nox (defBody st) t ∧ t { nx := fun _ H' => Q .non H', rt := Q } (start N vs) H) : FnOk P w K mg base CX0 (k + 1) f fd ps sp :=
  F.ok S len fun cdv A outer s H vs Q E hr h => by
    obtain ⟨t, h1, h2⟩ := hb cdv A outer s H vs Q E hr h
    exact ⟨t, h1.nox, h2⟩
theorem funD_mk {x qual : Str} {st : Stmt} {dv : V} {u : Value} {f T : Addr} {oc : Value} {od an : Option Addr} {osl : Array (Option Value)} {kV doc pm cdv ct : Value} {oT : Obj} {n : Nat}
    (l : K.lookup f = some ⟨oc, od, .func (PySem.W.fnOf x qual (defArgs st) (defBody st) (defScope st) (.ref T) kV doc pm an cdv ct), osl⟩) (c : PySem.W.codeIn K cdv qual = true) (k : PySem.W.keepIn K (.ref f) = true)
    (lT : K.lookup T = some oT) (hT : oT.data = .seq #[u] n) (r : RelV dv u) :
    FunD K x qual (defArgs st) (defBody st) (defScope st) [dv] [] f (PySem.W.fnOf x qual (defArgs st) (defBody st) (defScope st) (.ref T) kV doc pm an cdv ct) :=
  ⟨⟨oc, od, _, kV, doc, pm, an, cdv, ct, osl, rfl, l, c, .inr ⟨by simp, T, oT, [u], n, rfl, lT, hT, .cons r .nil⟩, .inl rfl⟩, k⟩
theorem binds_nil {fd : FuncData} {ps : List Str} (h : ∃ ds, Vals [] ds ∧ Binds K fd ps ds) : Binds K fd ps [] := by
  obtain ⟨ds, h1, h2⟩ := h
  cases h1
  exact h2
end
/-! ### f(k = v, ..): keywords alone -/
section
variable {X : Cx} {CX : CXT} {k : Nat} {f : Addr} {fd : FuncData} {ps ks : List Str} {sp : Sp} {E : XK} {x : Str} {p pos : Pos} {kws : List Keyword} {tk : TA} {g : List Value → List Value → List Value} {gV : List V → List V → List V}
theorem pe_callN0 (F : FnOk X.prog X.w X.K X.mg X.base CX k f fd ps sp) (hr : Room k X.A) (hg : Gl X x) (hm : X.mg x = some (.ref f)) (hk : PySem.W.keepIn X.K (.ref f) = true) (hb : KBn X.K fd ps 0 ks g gV) (hx : Passes CX X E) (hkw : PK X kws tk)
    (hall : (backToKw pos (keywordEach kws X.env)).all (·.1.isSome) = true := by rfl) (hks : (backToKw pos (keywordEach kws X.env)).filterMap (·.1) = ks := by rfl) (hdb : (x == ("__debug__" : Str)) = false := by decide)
    (hpl : ((backTo pos (starEach [] X.env)).any (·.1) || (backToKw pos (keywordEach kws X.env)).any (·.1.isNone)) = false := by rfl) :
    PE X (.Call (.Name x p) [] kws pos) (tCallN 0 ks.length sp gV E tNil tk) := by
  refine ⟨fun pins s σ H Q I h => ?_⟩
  refine wpAny_Call_Name_kw (ld_glob I hg hm ?_ hdb)
  refine PySem.W.callWith_KW0 (h₀ := X.base) I.ok.mod.kin hk hall ?_ hpl
  refine thn (hkw.run pos pins s σ H _ I h) fun ws s2 ⟨zs, H2, I2, rz, l1, l2, q2⟩ => ⟨I2.kIn, ?_⟩
  rw [hks]
  exact run_fnN (us := []) (vs := []) F hr hb hx I2 .nil rz rfl l2 q2
end
theorem kb_of {K : PySem.W.Frag} {x qual : Str} {st : Stmt} {f : Addr} {fd : FuncData} {ps ks : List Str} {n : Nat} {g : List Value → List Value → List Value} {gV : List V → List V → List V} (F : Fun K x qual st f fd)
    (h : ∀ (kV doc pm : Value) (an : Option Addr) (cdv ct : Value) (us ws : List Value), us.length = n → ws.length = ks.length → bindArgs (PySem.W.fnOf x qual (defArgs st) (defBody st) (defScope st) .none kV doc pm an cdv ct) ⟨us, ks.zip ws⟩ = pure (ps.zip (g us ws)))
    (rel : ∀ {vs : List V} {us : List Value} {zs : List V} {ws : List Value}, Vals vs us → Vals zs ws → Vals (gV vs zs) (g us ws)) : KBn K fd ps n ks g gV := by
  obtain ⟨oc, od, kV, doc, pm, an, cdv, ct, osl, rfl, lk, hcd⟩ := F.ex
  exact ⟨fun s us ws _ h1 h2 => .of_eq (h kV doc pm an cdv ct us ws h1 h2), rel⟩
end HX
set_option Elab.async false
set_option linter.all false
set_option maxRecDepth 100000
/-! defs that ask for a text of nested data (repr): nothing is being shown around them -/
namespace HX
open PySem PySem.Spec PyProof.Rows L2
/-- a def keeps its promise where no repr is under way -/
structure FnG (P : Program) (w : World) (K : PySem.W.Frag) (mg : Str → Option Value) (base : Heap) (k : Nat) (f : Addr) (fd : FuncData) (ps : List Str) (sp : Sp) : Prop where
  ln : ∀ vs H Q E, sp vs H Q E → vs.length = ps.length
  go : ∀ (A : Around) (outer : List Env) (s : Shared) (H : Hp) (args : Args) (us : List Value) (vs : List V) (Q : VK) (E : XK), A.guards = some [] → Room k A → Env0 P w K mg base A outer s H →
    BindsTo s fd args (ps.zip us) → Vals vs us → sp vs H Q E → codeAny (model P w) A (.call (.ref f) args) (CR CX0 outer P w H s Q E) s
theorem FnG.of {P : Program} {w : World} {K : PySem.W.Frag} {mg : Str → Option Value} {base : Heap} {k : Nat} {f : Addr} {fd : FuncData} {ps : List Str} {sp : Sp} (F : FnOk P w K mg base CX0 k f fd ps sp) : FnG P w K mg base k f fd ps sp :=
  ⟨F.len, fun A o s H args us vs Q E _ hr => F.run A o s H args us vs Q E hr⟩
theorem funG {P : Program} {w : World} {K : PySem.W.Frag} {mg : Str → Option Value} {base : Heap} {x qual : Str} {st : Stmt} {f : Addr} {fd : FuncData} {N ps : List Str} {k : Nat} {sp : Sp} (F : Fun K x qual st f fd) (S : FnScope N ps (defScope st))
    (ln : ∀ vs H Q E, sp vs H Q E → vs.length = ps.length)
    (hb : ∀ (cdv : Value) (A : Around) (outer : List Env) (s : Shared) (H : Hp) (vs : List V) (Q : VK) (E : XK), A.guards = some [] → Room k (A.deeper (envOfC qual (defScope st) s.heap.objs.size f cdv)) → sp vs H Q E →
      ∃ t, PSs (cxOf CX0 P w K mg base N qual (defScope st) f cdv A outer s H E).nox (defBody st) t ∧ t { nx := fun _ H' => Q .non H', rt := Q } (start N vs) H) : FnG P w K mg base (k + 1) f fd ps sp := by
  obtain ⟨oc, od, kV, doc, pm, an, cdv, ct, osl, rfl, lk, hcd⟩ := F.ex
  refine ⟨ln, fun A outer s H args us vs Q E hg hr e0 hbd r hsp => ?_⟩
  have hle := ln _ _ _ _ hsp
  have KX : K.In s.heap := e0.mod.kin.keeps (fun b o z => (e0.bs b o z).1)
  have nl : s.heap.NoLimit := e0.mod.nolimit.keeps (fun b o z => (e0.bs b o z).1)
  have hkd : ∀ y ∈ ps.zip us, (defScope st).names.lookup y.1 = some .local ∨ ((defScope st).names.lookup y.1 = some .cell ∧ ((cellsFrom (s.heap.objs.size + 1) (defScope st).names []).lookup y.1).isSome = true) := by
    rintro ⟨n, v⟩ hy
    exact (S.par n (List.of_mem_zip hy).1).elim (fun q => .inl q) (fun q => .inr ⟨q, PySem.W.cellsFrom_some _ _ _ (.inl q)⟩)
  refine codeAny_call_function hr.depth (KX _ _ lk) rfl S.co S.gen rfl (PySem.W.codeRec_of KX hcd) (hbd _ _ _ _ (wpAny_newFunctionEnv_cells S.kind hkd fun env he s1 x => ?_))
  subst he
  refine ⟨nl.keeps x.toInCall.keep, codeAny_func ?_⟩
  obtain ⟨t, ht, hq⟩ := hb cdv A outer s H vs Q E hg (hr.deeper _) hsp
  have I0 : Inv (cxOf CX0 P w K mg base N qual (defScope st) f cdv A outer s H E) [] (start N vs) H s1 := inv_start S hr.hd e0 hle r x
  refine wpAny_mono (ht.nox.run [] s1 (start N vs) H _ I0 hq) (fun fl s' hs => ?_) (fun _ _ z => z)
  match fl, hs with
  | .ret u, ⟨v, σ', H', J, rv, q⟩ => exact ⟨v, H', J.os, J.bare, J.base, J.hok, rv, q⟩
  | .next, ⟨σ', H', J, q⟩ => exact ⟨V.non, H', J.os, J.bare, J.base, J.hok, rfl, q⟩
  | .brk, ⟨_, _, _, q⟩ => exact False.elim q
  | .cont, ⟨_, _, _, q⟩ => exact False.elim q
section
variable {X : Cx} {k : Nat} {f : Addr} {fd : FuncData} {ps : List Str} {sp : Sp} {dvs : List V} {ds : List Value} {E : XK} {x : Str} {p pos : Pos} {e : Expr} {es : List Expr} {t : TA}
theorem pe_callG (F : FnG X.prog X.w X.K X.mg X.base k f fd ps sp) (hgd : X.A.guards = some []) (hr : Room k X.A) (hg : Gl X x) (hm : X.mg x = some (.ref f)) (hk : PySem.W.keepIn X.K (.ref f) = true) (hb : Binds X.K fd ps ds) (hd : Vals dvs ds) (hx : Passes CX0 X E)
    (ha : PA X (e :: es) t) (hdb : (x == ("__debug__" : Str)) = false := by decide) (he : starEach (e :: es) X.env = (false, eval e X.env) :: starEach es X.env := by rfl) (hpl : (backTo pos (starEach es X.env)).any (·.1) = false := by rfl) :
    PE X (.Call (.Name x p) (e :: es) [] pos) (tCall sp dvs E t) := by
  constructor
  intro pins s σ H Q I h
  refine wpAny_Call_Name_kw (ld_glob I hg hm (PySem.W.callWith_K (h₀ := X.base) I.ok.mod.kin hk (thn (ha.run pos pins s σ H _ I h) fun us s1 ⟨vs, H1, I1, r, q⟩ => ⟨I1.kIn, ?_⟩) he hpl) hdb)
  have r2 : Vals (vs ++ dvs) (us ++ ds) := r.append hd
  have hl : (us ++ ds).length = ps.length := by rw [← r2.length]; exact F.ln _ _ _ _ q
  refine wpAny_call (codeAny_mono (F.go X.A X.stack s1 H1 ⟨us, []⟩ (us ++ ds) (vs ++ dvs) Q E hgd hr I1.env0 (hb s1 us I1.kIn hl) r2 q) fun fl s' hq => ?_)
  match fl, hq with
  | .error z, hq => exact hx pins σ H1 s1 z s' I1 hq
  | .ok (.ret u), hq => exact I1.after hq
  | .ok .next, hq => exact False.elim hq
  | .ok .brk, hq => exact False.elim hq
  | .ok .cont, hq => exact False.elim hq
end
/-! ### the law's own call -/
theorem law_callG {P : Program} {w : World} {K : PySem.W.Frag} {mg mb : Str → Option Value} {k : Nat} {fa a : Addr} {fd : FuncData} {x : Str} {sp : Sp} {st : Shared} {vs : List Value} {ns : List Int}
    (KX : K.In st.heap) (hns : st.heap.Ns mainGlobals mg) (hb : st.heap.Ns builtinsNs mb) (hbb : ∀ x : Str, x ≠ "__name__" → mb x = bootBuiltins x) (nl : st.heap.NoLimit) (hg : st.gens = #[])
    (ha : st.heap.get? a = some { cls := .type "list", data := .seq vs.toArray }) (hi : IntsAre vs ns) (hl : ns.length ≤ sizeLine) (hr : Room k callerA)
    (F : ∀ base : Heap, K.In base → base.Ns mainGlobals mg → FnG P w K mg base k fa fd [x] sp) (hbd : ∀ (s : Shared) (u : Value), BindsTo s fd ⟨[u], []⟩ [(x, u)])
    (hsp : ∀ H : Hp, Only H → SqL K H a (ns.map V.int) → sp [.ref a] H (fun v _ => v = .bl true) fun _ _ _ => False) :
    codeAny (model P w) callerA (.call (.ref fa) ⟨[.ref a], []⟩) (fun r s' => r = .ok (.ret (.bool true)) ∧ OldK st.heap s'.heap ∧ s'.os = st.os ∧ AllBare s'.gens) st := by
  have rv := vals_ints hi
  have lv := hi.length
  have main : ∀ H : Hp, Only H → SqL K H a (ns.map V.int) → HOk P w H st.heap → (∀ b, H b ≠ none → b = a) → (H a ≠ none → K.lookup a = none) →
      codeAny (model P w) callerA (.call (.ref fa) ⟨[.ref a], []⟩) (fun r s' => r = .ok (.ret (.bool true)) ∧ OldK st.heap s'.heap ∧ s'.os = st.os ∧ AllBare s'.gens) st := by
    intro H hO hS hok hA hK
    have free : ∀ b, (∀ u, H b = some u → b = a → False) → H b = none := fun b z => by
      match q : H b with
      | none => rfl
      | some u => exact (z u q (hA b (by rw [q]; exact Option.some_ne_none u))).elim
    have nsK : ∀ {b : Addr} {m : Str → Option Value}, st.heap.Ns b m → (hidT st.heap H).Ns b m := fun {b m} ⟨o, es, ep, e, d, r⟩ => ⟨o, es, ep, hidT_get e (free b fun u q z => by
      subst z
      rw [ha] at e
      cases e
      exact nomatch (show Data.seq vs.toArray _ = Data.dict es ep from d)), d, r⟩
    have hKb : K.In (hidT st.heap H) := fun b o e => hidT_get (KX b o e) (free b fun u q z => by
      subst z
      rw [hK (by rw [q]; exact Option.some_ne_none u)] at e
      cases e)
    obtain ⟨mc, c1, c2⟩ := nl
    have e0 : Env0 P w K mg (hidT st.heap H) callerA [] st H := ⟨rfl, ⟨hKb, nsK hns, ⟨mb, nsK hb, hbb⟩, ⟨mc, nsK c1, c2⟩⟩, fun b o e => of_hidT e, Nat.le_of_eq (hidT_size _ _), trivial, (fun b hb => absurd (show b ∈ ([] : List Addr) from hb) List.not_mem_nil), hok, .of_eq hg⟩
    refine codeAny_mono ((F _ hKb (nsK hns)).go callerA [] st H ⟨[.ref a], []⟩ [.ref a] [.ref a] _ _ rfl hr e0 (hbd st (.ref a)) (.cons rfl .nil) (hsp H hO hS)) fun r s' h => ?_
    match r, h with
    | .error e, h => exact (h : False).elim
    | .ok .next, h => exact (h : False).elim
    | .ok .brk, h => exact (h : False).elim
    | .ok .cont, h => exact (h : False).elim
    | .ok (.ret u), ⟨v, H', os, bare, un, hok', r', q⟩ =>
      obtain rfl : v = .bl true := q
      obtain rfl : u = Value.bool true := r'
      refine ⟨rfl, OldK.of_keep fun b o e => ?_, os, bare⟩
      match q : H b with
      | none => exact un.keep b o e q (fun z => absurd (show b ∈ ([] : List Addr) from z) List.not_mem_nil) List.not_mem_nil
      | some u =>
        rcases hO b with z | ⟨ob, ys, z⟩
        · exact nomatch q.symm.trans z
        · have e1 := (hok b _ z).1
          rw [e] at e1
          cases e1
          exact (hok' b _ (un.frzs b _ _ z)).1
  match hk : K.lookup a with
  | some o =>
    have e := KX a o hk
    rw [ha] at e
    cases e
    exact main (fun _ => none) (fun _ => .inl rfl) (.inr ⟨_, vs.toArray, _, hk, rfl, rfl, rfl, by rw [List.size_toArray, lv]; exact hl, by simpa using rv⟩) (fun b u z => nomatch (show (none : Option HO) = some u from z)) (fun b z => absurd rfl z) fun z => absurd rfl z
  | none =>
    refine main (fun b => if b = a then some (.frz { cls := .type "list", data := .seq vs.toArray } (.lst (ns.map V.int))) else none) (fun b => ?_) (.inl (.inr ⟨{ cls := .type "list", data := .seq vs.toArray }, if_pos rfl⟩)) (fun b u z => ?_) (fun b z => ?_) fun _ => hk
    · by_cases hc : b = a
      · exact .inr ⟨_, _, if_pos hc⟩
      · exact .inl (if_neg hc)
    · by_cases hc : b = a
      · cases (if_pos hc).symm.trans z
        subst hc
        exact ⟨ha, by rw [List.length_map]; exact hl, vs, _, rv, ha⟩
      · cases (if_neg hc).symm.trans z
    · by_cases hc : b = a
      · exact hc
      · exact absurd (if_neg hc) z
theorem walk_ofG {l : PySem.W.OpenLaw} {n k : Nat} {q : Program} {loose : List Str} {XP : (Str → Option Value) → Heap → Prop} {YP : World → Heap → Prop} {d : DefRec} {K : Params → PySem.W.Frag} {sp : World → Sp} {x : Str}
    (hn : l.most = some n) (hn2 : n ≤ sizeLine) (hdf : d.params.defaults = []) (hr : Room k callerA) (hY : ∀ (w : World) (h : Heap), YP w h → (K w.params).In h)
    (F : ∀ (w : World) (mg : Str → Option Value) (fa : Addr) (h : Heap), (K w.params).In h → h.Ns mainGlobals mg → mg d.name = some (.ref fa) →
      ∃ fd : FuncData, (∀ (s : Shared) (u : Value), BindsTo s fd ⟨[u], []⟩ [(x, u)]) ∧ ∀ base : Heap, (K w.params).In base → base.Ns mainGlobals mg → FnG l.prog w (K w.params) mg base k fa fd [x] (sp w))
    (hsp : ∀ (w : World) (H : Hp) (a : Addr) (ns : List Int), ns.length ≤ n → Only H → SqL (K w.params) H a (ns.map V.int) → sp w [.ref a] H (fun v _ => v = .bl true) fun _ _ _ => False) :
    PySem.W.WalkO q loose XP YP l.row.toRowW d [] (fun f vs => PySem.call f vs) :=
  Att.attach_call hn hdf fun w s0 s1 mg mb fa o pm cd doc a vs ns G Y ho hd hcd hmg hobj hints hlen hg => by
    obtain ⟨fd, hb, hF⟩ := F w mg fa _ (hY w _ Y) G.T.g hmg
    exact law_callG (hY w _ Y) G.T.g G.T.b G.T.builtins G.T.nolimit hg hobj hints (Nat.le_trans hlen hn2) hr hF hb fun H hO hS => hsp w H a ns hlen hO hS
/-! ### repr of data -/
def rRepr (K : PySem.W.Frag) : List V → Hp → VK → Prop := fun xs H Q => ∃ v d, xs = [v] ∧ Dp K H v d ∧ d.showable = true ∧ d.hasDict = false ∧ d.depth ≤ 60 ∧ d.shown.length ≤ sizeLine ∧ Q (.str d.shown) H
theorem call_repr_data {X : Cx} (hgd : X.A.guards = some []) (hu : X.A.units + 64 < cLine) : CallR X (.builtin "repr") (rRepr X.K) := by
  intro pins s σ H xs us Q I r h
  obtain ⟨v, d, rfl, hd, hs, hn, hdp, hz, q⟩ := h
  obtain ⟨u, rfl, rv⟩ := vals1 r
  obtain ⟨as, rd⟩ := Dp.reads I d v u hd rv
  have ref : ∀ {a : Addr}, u = .ref a → wpAny (model X.prog X.w) X.A (call (.builtin "repr") [u]) (EP X pins σ Q) X.xe s := by
    rintro a rfl
    exact repr_of_reads' rd hs (fun z => absurd (hn.symm.trans z) Bool.false_ne_true) hgd (by omega) (fun _ _ e => e) (fun h' u tk hk => ⟨.str _, H, I.kept hk, ⟨_, rfl⟩, q⟩) hz
  cases rd with
  | none => exact PySem.P.repr_of_none ⟨.str _, H, I.tok _, ⟨_, rfl⟩, q⟩
  | bool b => exact PySem.P.repr_of_bool ⟨.str _, H, I.tok _, ⟨_, rfl⟩, q⟩
  | int i t => exact PySem.P.repr_of_int (by simpa [PyData.showable] using hs) ⟨.str _, H, I.tok _, ⟨_, rfl⟩, q⟩
  | str x t => exact PySem.P.repr_of_str ⟨.str _, H, I.tok _, ⟨_, rfl⟩, q⟩ hz
  | list h1 h2 h3 h4 => exact ref rfl
  | tuple h1 h2 h3 h4 => exact ref rfl
  | dict h1 h2 h3 h4 h5 => exact ref rfl
/-! ### data that can be shown: how long the text is, how deep -/
structure Rp (d : PyData) (n k : Nat) : Prop where
  sh : d.showable = true
  nd : d.hasDict = false
  dp : d.depth ≤ k
  ln : d.shown.length ≤ n
structure RpAll (ds : List PyData) (n k : Nat) : Prop where
  sh : PyData.showableAll ds = true
  nd : PyData.hasDictAll ds = false
  dp : PyData.depthAll ds ≤ k
  ln : piled (PyData.shownAll ds) ≤ n
theorem Rp.mono {d : PyData} {n k n' k' : Nat} (h : Rp d n k) (a : n ≤ n') (b : k ≤ k') : Rp d n' k' := ⟨h.sh, h.nd, Nat.le_trans h.dp b, Nat.le_trans h.ln a⟩
theorem RpAll.mono {d : List PyData} {n k n' k' : Nat} (h : RpAll d n k) (a : n ≤ n') (b : k ≤ k') : RpAll d n' k' := ⟨h.sh, h.nd, Nat.le_trans h.dp b, Nat.le_trans h.ln a⟩
theorem RpAll.nil : RpAll [] 0 0 := ⟨by simp [PyData.showableAll], by simp [PyData.hasDictAll], by simp [PyData.depthAll], by simp [PyData.shownAll, piled]⟩
theorem RpAll.cons {d : PyData} {ds : List PyData} {n m k : Nat} (h : Rp d n k) (hs : RpAll ds m k) : RpAll (d :: ds) (n + 2 + m) k := by
  refine ⟨by simp [PyData.showableAll, h.sh, hs.sh], by simp [PyData.hasDictAll, h.nd, hs.nd], ?_, ?_⟩
  · simp only [PyData.depthAll]
    have := h.dp
    have := hs.dp
    omega
  · simp only [PyData.shownAll, piled_cons]
    have := h.ln
    have := hs.ln
    omega
theorem Rp.tup {ds : List PyData} {n k : Nat} (h : RpAll ds n k) : Rp (.tuple ds) (n + 3) (k + 1) := by
  refine ⟨by simp [PyData.showable, h.sh], by simp [PyData.hasDict, h.nd], by simp only [PyData.depth]; have := h.dp; omega, ?_⟩
  simp only [PyData.shown]
  have hl := h.ln
  generalize PyData.shownAll ds = ts at *
  have hj : (Str.join ", " ts).length ≤ piled ts := by
    by_cases e : ts = []
    · subst e
      decide
    · have := join_length_add ts e
      omega
  unfold tupleText
  rw [strLen_append, strLen_append]
  have h1 : (("(" : Str)).length = 1 := by decide +kernel
  have h2 : ∀ b : Bool, ((if b = true then ",)" else ")" : String) : Str).length ≤ 2 := by decide +kernel
  have := h2 (ts.length == 1)
  omega
theorem Rp.lst {ds : List PyData} {n k : Nat} (h : RpAll ds n k) : Rp (.list ds) (n + 3) (k + 1) := by
  refine ⟨by simp [PyData.showable, h.sh], by simp [PyData.hasDict, h.nd], by simp only [PyData.depth]; have := h.dp; omega, ?_⟩
  simp only [PyData.shown]
  have hl := h.ln
  generalize PyData.shownAll ds = ts at *
  cases ts with
  | nil =>
    rw [listText_nil]
    have : (("[]" : Str)).length = 2 := by decide +kernel
    omega
  | cons t r =>
    have h1 := textFrom_length_pos r 1 (("[" : Str) ++ (if (0 : Nat) > 0 then ", " else "" : String) ++ t) (Nat.succ_pos 0)
    have h2 : (("[" : Str) ++ (if (0 : Nat) > 0 then ", " else "" : String) ++ t).length = 1 + t.length := by
      rw [strLen_append, strLen_append]
      rfl
    have h3 : (listText (t :: r)).length = (textFrom 1 (("[" : Str) ++ (if (0 : Nat) > 0 then ", " else "" : String) ++ t) r).length + 1 := by
      show (textFrom 0 "[" (t :: r) ++ "]").length = _
      rw [strLen_append]
      rfl
    rw [piled_cons] at hl
    omega
theorem Rp.bool (b : Bool) : Rp (.bool b) 5 0 := ⟨by simp [PyData.showable], by simp [PyData.hasDict], by simp [PyData.depth], by cases b <;> decide +kernel⟩
theorem Rp.int {i : Int} (h : i.natAbs < 10 ^ 20) : Rp (.int i) 21 0 := by
  have hz := int_text_length_le10 (k := 20) (by decide) h
  refine ⟨?_, by simp [PyData.hasDict], by simp [PyData.depth], ?_⟩
  · simp only [PyData.showable, decide_eq_true_eq]
    by_cases e : i.natAbs = 0
    · rw [e]
      decide
    · rw [Nat.log2_lt e]
      exact Nat.lt_of_lt_of_le h (Nat.le_trans (by decide : 10 ^ 20 ≤ 2 ^ 70) (Nat.pow_le_pow_right (by decide) (by decide)))
  · simp only [PyData.shown]
    rw [PySem.ofString_length]
    exact hz
theorem Rp.str {x : Str} {n : Nat} (h : (reprText x).length ≤ n) : Rp (.str x) n 0 := ⟨by simp [PyData.showable], by simp [PyData.hasDict], by simp [PyData.depth], by simpa [PyData.shown] using h⟩
/-! ### tuples cut and joined: one way on -/
def rSlB (K : PySem.W.Frag) : V → Option Int → Option Int → Hp → VK → Prop := fun x lo hi H Q => ∃ a xs, x = .ref a ∧ SqT K H a xs ∧ ∀ l H', Same H H' → SqT K H' l (cutV xs lo hi) → Q (.ref l) H'
def rCatB (K : PySem.W.Frag) : R2 := fun x y H Q => ∃ a b xs ys, x = .ref a ∧ y = .ref b ∧ SqT K H a xs ∧ SqT K H b ys ∧ xs.length + ys.length ≤ sizeLine ∧ ∀ l H', Same H H' → SqT K H' l (xs ++ ys) → Q (.ref l) H'
theorem sl_tupB {X : Cx} : SlR X (rSlB X.K) := by
  intro pins s σ H x v vl vu lo hi sl Q I rx hs pl pu h
  obtain ⟨a, xs, rfl, hx, q⟩ := h
  refine sl_tupA pins s σ H _ v vl vu lo hi sl Q I rx hs pl pu ⟨a, xs, rfl, hx, fun hc => q a H (Same.refl _) ?_, fun _ p np => q p _ (sm_upd np) (.inl (.inl upd_same))⟩
  have e : cutV xs lo hi = xs := by
    unfold cutV
    rw [hc.1, hc.2, List.drop_zero, Nat.sub_zero, List.take_length]
  rw [e]
  exact hx
theorem op_catB {X : Cx} : OpR X (binaryOp .Add) (rCatB X.K) := by
  intro pins s σ H x y v u Q I rx ry h
  obtain ⟨a, b, xs, ys, rfl, rfl, ha, hb, hz, q⟩ := h
  refine op_catA pins s σ H _ _ v u Q I rx ry ⟨a, b, xs, ys, rfl, rfl, ha, hb, hz, fun e => q b H (Same.refl _) ?_, fun _ e => q a H (Same.refl _) ?_, fun _ _ p np => q p _ (sm_upd np) (.inl (.inl upd_same))⟩
  · rw [e]
    exact hb
  · rw [e, List.append_nil]
    exact ha
theorem cut_to {xs : List V} {m : Nat} : cutV xs none (some (m : Int)) = xs.take m := by
  unfold cutV
  rw [HT.sIx_nat xs.length xs.length m, HT.sIx_none]
  show List.take (min m xs.length - 0) xs = _
  rw [Nat.sub_zero, List.take_eq_take_iff]
  omega
theorem cut_from {xs : List V} {m : Nat} : cutV xs (some (m : Int)) none = xs.drop m := by
  unfold cutV
  rw [HT.sIx_nat xs.length 0 m, HT.sIx_none]
  by_cases h : m ≤ xs.length
  · rw [Nat.min_eq_left h, List.take_of_length_le (by rw [List.length_drop]; exact Nat.le_refl _)]
  · rw [Nat.min_eq_right (by omega), List.drop_of_length_le (Nat.le_refl _), List.drop_of_length_le (by omega)]
    simp
end HX
set_option Elab.async false
set_option linter.all false
set_option maxRecDepth 100000
/-! for i, x in enumerate(a tuple) -/
namespace HX
open PySem PySem.Spec PyProof.Rows L2
set_option maxHeartbeats 1000000 in
theorem meets_enumT (l : Addr) (items : Array Value) :
    Meets (Builtin.«enumerate.__new__» ⟨[.type "enumerate", .ref l], []⟩) (fun _ R s => s.heap.IsTuple l items ∧
      R (.ok (.ret (.ref (s.heap.push { cls := .type "tuple_iterator", data := .fields #[.ref l, .int 0 0] }).objs.size)))
        { s with heap := (s.heap.push { cls := .type "tuple_iterator", data := .fields #[.ref l, .int 0 0] }).push { cls := .type "enumerate", data := .fields #[.none, .bool false, .ref s.heap.objs.size, rawInt 0, .none, .none] } }) :=
  .of_wp fun prog w A R s h => by
    obtain ⟨hp, g, d, tk, os⟩ := s
    obtain ⟨hT, h⟩ := h
    have hsub := sub_enumerate
    have q1 : ∀ {A' : Around} {E : Value → Shared → Prop} {Q : Value → Shared → Prop}, Q (.ref hp.objs.size) ⟨hp.push { cls := .type "tuple_iterator", data := .fields #[.ref l, .int 0 0] }, g, d, tk, os⟩ → wpAny (model prog w) A' (pyIter (.ref l)) Q E ⟨hp, g, d, tk, os⟩ :=
      fun q => wpAny_pyIter_tuple (s := ⟨hp, g, d, tk, os⟩) hT q
    wp_walk using q1
    refine wpAny_stack_any fun st => wpAny_pure ?_
    split
    · rename_i c _ _ _ _ _
      by_cases hc : (c == Value.type "enumerate") = true
      all_goals (wp_walk using q1; exact ⟨_, rfl, h⟩)
    · wp_walk using q1
      exact ⟨_, rfl, h⟩
theorem call_enumT {prog : Program} {w : World} {A : Around} {E : Value → Shared → Prop} {s : Shared} {l : Addr} {items : Array Value} {Q : Value → Shared → Prop} (hT : s.heap.IsTuple l items)
    (h : ∀ h', IsEnum h' (s.heap.objs.size + 1) s.heap.objs.size 0 .none → h'.IsTupleIter s.heap.objs.size l 0 → h'.objs.size = s.heap.objs.size + 2 → (∀ b o, s.heap.get? b = some o → h'.get? b = some o) →
      Q (.ref (s.heap.objs.size + 1)) { s with heap := h' }) : wpAny (model prog w) A (call (.type "enumerate") [.ref l]) Q E s := by
  refine callType_new F.called_enumerate (by decide) (F.typeCall_enumerate_1 _) (F.newCall_enumerate_1 _) (fun obj => F.args_object_init_2 obj _) F.entry_enumerate_new (meets_enumT l items) ⟨hT, ?_⟩
  have hz : (s.heap.push { cls := .type "tuple_iterator", data := .fields #[.ref l, .int 0 0] }).objs.size = s.heap.objs.size + 1 := Heap.size_push ..
  show _ ∧ _
  rw [hz]
  have he : IsEnum ((s.heap.push { cls := .type "tuple_iterator", data := .fields #[.ref l, .int 0 0] }).push { cls := .type "enumerate", data := .fields #[.none, .bool false, .ref s.heap.objs.size, rawInt 0, .none, .none] }) (s.heap.objs.size + 1) s.heap.objs.size 0 .none := by
    have q := Heap.get?_push_size (s.heap.push { cls := .type "tuple_iterator", data := .fields #[.ref l, .int 0 0] }) (o := { cls := .type "enumerate", data := .fields #[.none, .bool false, .ref s.heap.objs.size, rawInt 0, .none, .none] }) rfl
    rw [hz] at q
    exact q
  exact ⟨⟨_, he, rfl⟩, h _ he ⟨_, Heap.get?_push_of_some _ (Heap.get?_push_size _ rfl), rfl, rfl⟩ (by rw [Heap.size_push, hz]) fun b o x => Heap.get?_push_of_some _ (Heap.get?_push_of_some _ x)⟩
/-- the tuple at a, each item in a new pair -/
def IteT (K : PySem.W.Frag) (a : Addr) : It :=
  ⟨fun i H => ∃ (xs : List V) (x : V), SqT K H a xs ∧ xs[i]? = some x, fun i H v H' => ∃ T x, v = .ref T ∧ H T = none ∧ H' = upd H T (.tup [.int (i : Nat), x]) ∧ ∀ xs, SqT K H a xs → xs[i]? = some x, fun i H => ∃ xs : List V, SqT K H a xs ∧ xs.length ≤ i⟩
theorem turn_enumT {P : Program} {w : World} {K : PySem.W.Frag} {elts : List Expr} {kk : Nat} {tpos : Pos} (a e it : Addr) :
    Turn P w K (.Tuple elts kk tpos) (IteT K a) [e, it] e (fun i h => (∃ old, IsEnum h e it ((i : Nat) : Int) old) ∧ h.IsTupleIter it a i ∧ e ≠ it) where
  mem := by simp
  obj := fun i h st b hb => by
    obtain ⟨⟨old, he⟩, ⟨o, ho, hc, hd⟩, _⟩ := st
    rcases (show b = e ∨ b = it by simpa using hb) with z | z
    · subst z
      exact ⟨_, he, fun v q => nomatch q⟩
    · subst z
      exact ⟨o, ho, fun v q => nomatch hd.symm.trans q⟩
  keep := fun i h h' st k => let ⟨⟨old, he⟩, hi, hne⟩ := st; ⟨⟨old, k e (by simp) _ he⟩, hi.at (fun o q => k it (by simp) o q), hne⟩
  item := by
    intro X hP hw hK hc i pins s σ H E I hf st hg
    subst hP hw hK
    obtain ⟨⟨old, he⟩, hit, hne⟩ := st
    obtain ⟨xs, x, hq, hx⟩ := hg
    obtain ⟨its, rv, p, hz⟩ := I.tuple hq
    obtain ⟨u, hu, ru⟩ := rv.get hx
    have p' : s.heap.IsTuple a its.toArray := p
    have hel : e < s.heap.objs.size := Heap.lt_size he
    have hil : it < s.heap.objs.size := by
      obtain ⟨_, q, _⟩ := hit
      exact Heap.lt_size q
    have hai : a ≠ it := fun z => by
      obtain ⟨o1, g1, c1, _⟩ := hit
      obtain ⟨o2, g2, c2, _⟩ := p'
      rw [z, g1] at g2
      cases g2
      exact nomatch (show ("tuple_iterator" : String) = "tuple" from Value.type.inj (c1.symm.trans c2))
    have hae : e ≠ a := fun z => by
      obtain ⟨o2, g2, c2, _⟩ := p'
      rw [← z] at g2
      have he' : s.heap.get? e = some _ := he
      rw [he'] at g2
      cases g2
      exact nomatch (show ("enumerate" : String) = "tuple" from Value.type.inj c2)
    have hii : i < its.length := (List.getElem?_eq_some_iff.mp hu).1
    refine wpAny_pyNext_enum_itemD (Draws.tuple (A := X.A.in1) (I.ok.hd hc) it a hai its.toArray) he ⟨hit, p'⟩ (by simpa using hii) hne (by simp [hne, hae]) fun y h' tk hPy ho hit' hT hsz hk => ?_
    have hyu : y = u := by
      have q : its.toArray[i]? = some y := hPy
      have q2 : its[i]? = some y := by simpa using q
      rw [hu] at q2
      exact (Option.some.inj q2).symm
    subst hyu
    refine ⟨_, rfl, wpAny_letOwnedTupleGo_enum (s := { s with heap := h', toks := tk + 1 }) ho fun h'' he' sb => ?_⟩
    have hT2 : h''.get? s.heap.objs.size = some { cls := .type "tuple", data := .seq #[.int i tk, y] } := (sb.2 _ (Nat.ne_of_gt hel)).trans hT
    have new : ObjOk X.prog X.w (upd H s.heap.objs.size (.tup [.int (i : Nat), x])) h'' s.heap.objs.size (.tup [.int (i : Nat), x]) :=
      ⟨by show 2 ≤ sizeLine; decide, [.int i tk, y], .cons ⟨_, rfl⟩ (.cons ru .nil), ⟨_, hT2, rfl, _, rfl⟩⟩
    have I1 : Inv X pins σ (upd H s.heap.objs.size (.tup [.int (i : Nat), x])) { s with heap := h'', toks := tk + 1 } :=
      I.turnedNew (ch := [e, it]) (fun b ob hb q => (sb.2 b (fun z => hb (by simp [z]))).trans (hk b ob (fun z => hb (by simp [z])) (fun z => hb (by simp [z])) q)) hf (Nat.le_refl _) new
    refine ⟨.ref s.heap.objs.size, _, I1, rfl, ⟨_, x, rfl, I.hok.fresh (Nat.le_refl _), rfl, fun ys hy => by rw [I.tuple_inj hy hq]; exact hx⟩, ⟨⟨y, ?_⟩, hit'.1.at (fun o q => (sb.2 it (Ne.symm hne)).trans q), hne⟩, fun b hb => ?_⟩
    · rw [show ((i + 1 : Nat) : Int) = (i : Int) + 1 by omega]
      exact he'
    · have hb' : b < s.heap.objs.size := (show b = e ∨ b = it by simpa using hb).elim (fun z => z ▸ hel) (fun z => z ▸ hil)
      rw [upd_ne (Nat.ne_of_lt hb')]
      exact (hf b hb).1
  done := by
    intro X hP hw hK hc i pins s σ H E I hf st hg
    subst hP hw hK
    obtain ⟨⟨old, he⟩, hit, hne⟩ := st
    obtain ⟨xs, hq, hx⟩ := hg
    obtain ⟨its, rv, p, hz⟩ := I.tuple hq
    have p' : s.heap.IsTuple a its.toArray := p
    obtain ⟨f0, f1, f2, f3, f4, f5⟩ := hf it (by simp)
    have hl := rv.length
    have hT : s.TypeIs (.ref e) "enumerate" := ⟨_, he, rfl⟩
    unfold pyNext
    refine wpAny_bind (wpAny_attempt (wpAny_callSpecial?_slot (name := Str.ofString "__next__") hT F.slot_enumerate_next (wpAny_call_entry F.slot_enumerate_next hT F.entry_enumerate_next ?_ (F.args_enumerate_next_1 _))))
    show wpAny _ _ (field (.ref e) 2 >>= _) _ _ _
    refine wpAny_bind (wpAny_field he rfl (x := .ref it) rfl ?_)
    refine wpAny_bind (wpAny_nextOf_tuple_end (A := X.A.in1) (I.ok.hd hc) hit p' (by simp; omega) fun h' z he' hz' => ?_)
    obtain ⟨o, ho, hc'⟩ := hz'
    refine wpAny_bind (wpAny_isInstance (T := "StopIteration") (b := true) ⟨o, ho, hc'⟩ isSubtype_stop ?_)
    exact wpAny_pure ⟨rfl, I.turned (t' := s.toks) (fun b o hb q => he' b o hb q) f0 f1 f3 f4 f5⟩
  self := fun A i s Q E st h => let ⟨⟨_, he⟩, _⟩ := st; wpAny_pyIter_enum he h
def iEnumT (K : PySem.W.Frag) (ta : TA) : TI := fun σ H R => ta σ H fun vs H1 => ∃ a xs, vs = [.ref a] ∧ SqT K H1 a xs ∧ R (IteT K a) H1
theorem pi_enumT {X : Cx} {e : Expr} {ta : TA} {p pos tpos : Pos} {elts : List Expr} {kk : Nat} (hg : Gl X "enumerate") (hm : X.mg "enumerate" = none) (ha : PA X [e] ta) (hs : starEach [e] X.env = [(false, eval e X.env)] := by rfl) :
    PI X (.Tuple elts kk tpos) (.Call (.Name "enumerate" p) [e] [] pos) (iEnumT X.K ta) := by
  constructor
  intro pins s σ H R I h
  refine Call_ (ld_blt I hg hm boot_enumerate (PyProof.Rows.callWith_type1 (thn (ha.run pos pins s σ H _ I h) fun us s1 ⟨vs, H1, I1, r1, q1⟩ => ?_) hs rfl))
  obtain ⟨a, xs, rfl, hq, q⟩ := q1
  obtain ⟨u, rfl, ru⟩ := vals1 r1
  cases ru
  obtain ⟨its, rv, p', hz⟩ := I1.tuple hq
  refine call_enumT (show s1.heap.IsTuple a its.toArray from p') fun h' he hit hsz hk => wpAny_pyIter_enum he ?_
  have I2 : Inv X pins σ H1 { s1 with heap := h' } := I1.kept (t' := s1.toks) hk
  refine ⟨s1.heap.objs.size + 1, [s1.heap.objs.size + 1, s1.heap.objs.size], _, _, H1, rfl, I2, turn_enumT a (s1.heap.objs.size + 1) s1.heap.objs.size, ⟨⟨.none, he⟩, hit, Nat.succ_ne_self _⟩, fun b hb => ?_, q⟩
  have hle : s1.heap.objs.size ≤ b := (show b = s1.heap.objs.size + 1 ∨ b = s1.heap.objs.size by simpa using hb).elim (fun z => z ▸ Nat.le_add_right _ _) (fun z => Nat.le_of_eq z.symm)
  exact I1.fpOk hle (I1.hok.fresh hle)
/-- the loops: the pair is taken apart -/
theorem flE {K : PySem.W.Frag} {a : Addr} {xs : List V} {g : TG} {tb : TS} {D : Ends} {σ : L2.St} {H : Hp} (Pv : Nat → L2.St → Hp → Prop) (h0 : Pv 0 σ H) (hl : ∀ i σ H, i ≤ xs.length → Pv i σ H → SqL K H a xs)
    (hs : ∀ i x σ H, xs[i]? = some x → Pv i σ H → ∀ T, H T = none → ∀ D', Bd D (Pv (i + 1)) D' → g (.ref T) σ (upd H T (.tup [.int (i : Nat), x])) fun σ2 H2 => tb D' σ2 H2) (hd : ∀ σ H, Pv xs.length σ H → D.nx σ H) :
    ∃ W : Nat → Nat → L2.St → Hp → Prop, (∃ m, W 0 m σ H) ∧ ∀ i m σ H, W i m σ H →
      ((Ite K a).stop i H ∧ D.nx σ H) ∨ ((Ite K a).go i H ∧ ∃ N : L2.St → Hp → Prop, (∀ σ' H', N σ' H' → ∃ m', m' < m ∧ W (i + 1) m' σ' H') ∧ ∀ x H', (Ite K a).yld i H x H' → g x σ H' fun σ2 H2 => tb { D with nx := N, ct := N, bk := D.nx } σ2 H2) := by
  refine ⟨fun i m σ H => i + m = xs.length ∧ Pv i σ H, ⟨xs.length, by omega, h0⟩, ?_⟩
  rintro i m σ H ⟨he, hp⟩
  have hq := hl i σ H (by omega) hp
  cases m with
  | zero => exact .inl ⟨⟨xs, hq, by omega⟩, hd σ H ((show i = xs.length by omega) ▸ hp)⟩
  | succ m =>
    have hi : i < xs.length := by omega
    refine .inr ⟨⟨xs, xs[i], hq, by simp [hi]⟩, fun σ' H' => Pv (i + 1) σ' H', fun σ' H' h => ⟨m, Nat.lt_succ_self m, by omega, h⟩, ?_⟩
    rintro v H' ⟨T, x, rfl, nT, rfl, hx⟩
    exact hs i x σ H (hx xs hq) hp T nT _ ⟨fun _ _ h => h, fun _ _ h => h, fun _ _ h => h, fun _ _ h => h⟩
theorem flET {K : PySem.W.Frag} {a : Addr} {xs : List V} {g : TG} {tb : TS} {D : Ends} {σ : L2.St} {H : Hp} (Pv : Nat → L2.St → Hp → Prop) (h0 : Pv 0 σ H) (hl : ∀ i σ H, i ≤ xs.length → Pv i σ H → SqT K H a xs)
    (hs : ∀ i x σ H, xs[i]? = some x → Pv i σ H → ∀ T, H T = none → ∀ D', Bd D (Pv (i + 1)) D' → g (.ref T) σ (upd H T (.tup [.int (i : Nat), x])) fun σ2 H2 => tb D' σ2 H2) (hd : ∀ σ H, Pv xs.length σ H → D.nx σ H) :
    ∃ W : Nat → Nat → L2.St → Hp → Prop, (∃ m, W 0 m σ H) ∧ ∀ i m σ H, W i m σ H →
      ((IteT K a).stop i H ∧ D.nx σ H) ∨ ((IteT K a).go i H ∧ ∃ N : L2.St → Hp → Prop, (∀ σ' H', N σ' H' → ∃ m', m' < m ∧ W (i + 1) m' σ' H') ∧ ∀ x H', (IteT K a).yld i H x H' → g x σ H' fun σ2 H2 => tb { D with nx := N, ct := N, bk := D.nx } σ2 H2) := by
  refine ⟨fun i m σ H => i + m = xs.length ∧ Pv i σ H, ⟨xs.length, by omega, h0⟩, ?_⟩
  rintro i m σ H ⟨he, hp⟩
  have hq := hl i σ H (by omega) hp
  cases m with
  | zero => exact .inl ⟨⟨xs, hq, by omega⟩, hd σ H ((show i = xs.length by omega) ▸ hp)⟩
  | succ m =>
    have hi : i < xs.length := by omega
    refine .inr ⟨⟨xs, xs[i], hq, by simp [hi]⟩, fun σ' H' => Pv (i + 1) σ' H', fun σ' H' h => ⟨m, Nat.lt_succ_self m, by omega, h⟩, ?_⟩
    rintro v H' ⟨T, x, rfl, nT, rfl, hx⟩
    exact hs i x σ H (hx xs hq) hp T nT _ ⟨fun _ _ h => h, fun _ _ h => h, fun _ _ h => h, fun _ _ h => h⟩
end HX
set_option linter.all false
/-! turns and values: integers by the places where their bits change (plain mathematics) -/
namespace TV
/-- the value of ascending turns, the first with sign s -/
def tvs : Int → List Nat → Int
  | _, [] => 0
  | s, t :: r => s * 2 ^ t + tvs (-s) r
def tv (ts : List Nat) : Int := tvs (-1) ts
def Asc : List Nat → Prop
  | [] => True
  | [_] => True
  | a :: b :: r => a < b ∧ Asc (b :: r)
theorem Asc.tail {a : Nat} {r : List Nat} (h : Asc (a :: r)) : Asc r := by
  cases r with
  | nil => trivial
  | cons b r => exact h.2
theorem Asc.lt {a : Nat} : ∀ {r : List Nat}, Asc (a :: r) → ∀ b ∈ r, a < b
  | [], _, b, hb => by simp at hb
  | c :: r, h, b, hb => by
    rcases List.mem_cons.mp hb with rfl | hb
    · exact h.1
    · exact Nat.lt_trans h.1 (Asc.lt h.2 b hb)
theorem asc_cons {a : Nat} {r : List Nat} (h : ∀ b ∈ r, a < b) (hr : Asc r) : Asc (a :: r) := by
  cases r with
  | nil => trivial
  | cons b r => exact ⟨h b (by simp), hr⟩
theorem asc_pairwise : ∀ {l : List Nat}, Asc l ↔ l.Pairwise (· < ·)
  | [] => by simp [Asc]
  | a :: r => by
    rw [List.pairwise_cons]
    constructor
    · intro h
      exact ⟨fun b hb => Asc.lt h b hb, asc_pairwise.mp h.tail⟩
    · rintro ⟨h1, h2⟩
      exact asc_cons h1 (asc_pairwise.mpr h2)
theorem tvs_neg (s : Int) : ∀ ts, tvs (-s) ts = -tvs s ts
  | [] => by simp [tvs]
  | t :: r => by
    have := tvs_neg (-s) r
    simp only [tvs, Int.neg_neg] at *
    rw [Int.neg_mul]
    omega
theorem tv_cons (t : Nat) (r : List Nat) : tv (t :: r) = -(2 ^ t) - tv r := by
  show (-1 : Int) * 2 ^ t + tvs (- -1) r = -(2 ^ t) - tvs (-1) r
  rw [tvs_neg (-1) r]
  omega
theorem tv_nil : tv [] = 0 := rfl
/-- the bit of n at p -/
def tb (n : Int) (p : Nat) : Bool := decide (n / 2 ^ p % 2 = 1)
theorem tb_zero (n : Int) : tb n 0 = decide (n % 2 = 1) := by simp [tb]
theorem tb_succ (n : Int) (p : Nat) : tb n (p + 1) = tb (n / 2) p := by
  unfold tb
  rw [Int.pow_succ, Int.mul_comm, ← Int.ediv_ediv_of_nonneg (by decide)]
/-- how many turns are at most p -/
def cnt (ts : List Nat) (p : Nat) : Nat := ts.countP fun t => decide (t ≤ p)
theorem cnt_nil (p : Nat) : cnt [] p = 0 := rfl
theorem cnt_cons (t : Nat) (r : List Nat) (p : Nat) : cnt (t :: r) p = cnt r p + if t ≤ p then 1 else 0 := by
  unfold cnt
  rw [List.countP_cons]
  simp
theorem cnt_zero {ts : List Nat} {p : Nat} (h : ∀ t ∈ ts, p < t) : cnt ts p = 0 := by
  unfold cnt
  rw [List.countP_eq_zero]
  intro t ht
  have := h t ht
  simp
  omega
/-- halving: the value of shifted turns -/
theorem tv_map_succ : ∀ ts : List Nat, tv (ts.map (· + 1)) = 2 * tv ts
  | [] => rfl
  | t :: r => by
    rw [List.map_cons, tv_cons, tv_cons, tv_map_succ r, Int.pow_succ]
    omega
theorem pred_map {ts : List Nat} (h : ∀ t ∈ ts, 0 < t) : (ts.map (· - 1)).map (· + 1) = ts := by
  rw [List.map_map]
  conv => rhs; rw [← List.map_id ts]
  apply List.map_congr_left
  intro t ht
  have := h t ht
  show t - 1 + 1 = t
  omega
theorem asc_pred : ∀ {ts : List Nat}, Asc ts → (∀ t ∈ ts, 0 < t) → Asc (ts.map (· - 1))
  | [], _, _ => trivial
  | [_], _, _ => trivial
  | a :: b :: r, h, h0 => by
    have ha := h0 a (by simp)
    refine ⟨by have := h.1; show a - 1 < b - 1; omega, asc_pred h.2 fun t ht => h0 t (by simp [ht])⟩
theorem cnt_succ {ts : List Nat} (h : ∀ t ∈ ts, 0 < t) (p : Nat) : cnt ts (p + 1) = cnt (ts.map (· - 1)) p := by
  unfold cnt
  rw [List.countP_map]
  apply List.countP_congr
  intro t ht
  have := h t ht
  simp

/-- the bits of a row of turns: how many are passed, odd or even -/
theorem tb_tv : ∀ (p : Nat) {ts : List Nat}, Asc ts → tb (tv ts) p = decide (cnt ts p % 2 = 1)
  | 0, [], _ => by decide
  | 0, t :: r, h => by
    have hr : ∀ b ∈ r, 0 < b := fun b hb => by have := Asc.lt h b hb; omega
    have e : tv r = 2 * tv (r.map (· - 1)) := by
      rw [← tv_map_succ, pred_map hr]
    rw [tb_zero, tv_cons, cnt_cons, cnt_zero hr, e]
    cases t with
    | zero => simp
    | succ t =>
      rw [Int.pow_succ]
      simp

  | p + 1, [], _ => by
    rw [tb_succ]
    exact tb_tv p (ts := []) trivial
  | p + 1, t :: r, h => by
    have hr : ∀ b ∈ r, 0 < b := fun b hb => by have := Asc.lt h b hb; omega
    have er : tv r = 2 * tv (r.map (· - 1)) := by
      rw [← tv_map_succ, pred_map hr]
    rw [tb_succ]
    cases t with
    | succ t =>
      have h0 : ∀ b ∈ (t + 1) :: r, 0 < b := fun b hb => by
        rcases List.mem_cons.mp hb with rfl | hb
        · omega
        · exact hr b hb
      have e : tv ((t + 1) :: r) = 2 * tv (((t + 1) :: r).map (· - 1)) := by
        rw [← tv_map_succ, pred_map h0]
      rw [e, Int.mul_ediv_cancel_left _ (by decide), tb_tv p (asc_pred h h0), cnt_succ h0]
    | zero =>
      -- n = -1 - 2 m = 2 (-m - 1) + 1
      rw [tv_cons, er]
      have e2 : (-(2 ^ 0) - 2 * tv (r.map (· - 1)) : Int) / 2 = -tv (r.map (· - 1)) - 1 := by
        rw [Int.pow_zero]
        omega
      rw [e2, cnt_cons, if_pos (Nat.zero_le _)]
      have hA : Asc (r.map (· - 1)) := asc_pred h.tail hr
      have ih := tb_tv p hA
      -- the bits of -m - 1 are those of m turned
      have e3 : tb (-tv (r.map (· - 1)) - 1) p = !tb (tv (r.map (· - 1))) p := by
        unfold tb
        generalize tv (r.map (· - 1)) = m
        have hp : (0 : Int) < 2 ^ p := Int.pow_pos (by decide)
        have e4 : (-m - 1) / 2 ^ p = -(m / 2 ^ p) - 1 := by
          have h1 := Int.emod_nonneg m (Int.ne_of_gt hp)
          have h2 := Int.emod_lt_of_pos m hp
          have h3 := Int.mul_ediv_add_emod m (2 ^ p)
          rw [show -m - 1 = (2 ^ p - 1 - m % 2 ^ p) + 2 ^ p * (-(m / 2 ^ p) - 1) by
            rw [Int.mul_sub, Int.mul_neg]
            omega]
          rw [Int.add_mul_ediv_left _ _ (Int.ne_of_gt hp), Int.ediv_eq_zero_of_lt (by omega) (by omega), Int.zero_add]
        rw [e4]
        generalize m / 2 ^ p = q
        rcases Int.emod_two_eq q with e | e
        · simp [e]; omega
        · simp [e]; omega
      rw [e3, ih, cnt_succ hr]
      rcases Nat.mod_two_eq_zero_or_one (cnt (r.map (· - 1)) p) with e | e
      · simp [e]; omega
      · simp [e]; omega
/-- integers with the same bits are equal -/
theorem tb_ext {n m : Int} (h : ∀ p, tb n p = tb m p) : n = m := by
  have key : ∀ (k : Nat) (n m : Int), (∀ p, tb n p = tb m p) → (n - m) % 2 ^ k = 0 := by
    intro k
    induction k with
    | zero => intro n m _; simp
    | succ k ih =>
      intro n m h
      have h0 := h 0
      rw [tb_zero, tb_zero] at h0
      have h1 := ih (n / 2) (m / 2) fun p => by
        have := h (p + 1)
        rwa [tb_succ, tb_succ] at this
      have hm : n % 2 = m % 2 := by
        have e1 := Int.emod_two_eq n
        have e2 := Int.emod_two_eq m
        rcases e1 with e1 | e1 <;> rcases e2 with e2 | e2 <;> simp [e1, e2] at h0 ⊢
      obtain ⟨c, hc⟩ := Int.dvd_of_emod_eq_zero h1
      have : n - m = 2 ^ (k + 1) * c := by
        have e1 : n - m = 2 * (n / 2 - m / 2) := by omega
        rw [e1, hc, Int.pow_succ]
        rw [← Int.mul_assoc, Int.mul_comm 2]
      rw [this, Int.mul_emod_right]
  apply Classical.byContradiction
  intro hne
  have hd := key (n - m).natAbs n m h
  have hlt : (n - m).natAbs < 2 ^ (n - m).natAbs := Nat.lt_two_pow_self
  obtain ⟨c, hc⟩ := Int.dvd_of_emod_eq_zero hd
  have h1 : (n - m).natAbs = 2 ^ (n - m).natAbs * c.natAbs := by
    conv => lhs; rw [hc]
    rw [Int.natAbs_mul, Int.natAbs_pow]
    rfl
  have h2 : c.natAbs ≠ 0 := by
    intro e
    rw [e] at h1
    omega
  have h3 : 2 ^ (n - m).natAbs * 1 ≤ 2 ^ (n - m).natAbs * c.natAbs := Nat.mul_le_mul_left _ (by omega)
  omega
theorem mem_cnt {ts : List Nat} (h : Asc ts) (p : Nat) : p ∈ ts ↔ cnt ts p ≠ (if p = 0 then 0 else cnt ts (p - 1)) := by
  induction ts with
  | nil => simp [cnt]
  | cons t r ih =>
    have ih := ih h.tail
    rw [List.mem_cons, cnt_cons, cnt_cons]
    have hlt := fun b hb => Asc.lt h b hb
    by_cases e : p = t
    · subst e
      have hz : cnt r p = 0 := cnt_zero hlt
      by_cases p0 : p = 0
      · simp [p0] at *

      · have hz2 : cnt r (p - 1) = 0 := cnt_zero fun b hb => by have := hlt b hb; omega
        simp [p0, hz, hz2]
        omega
    · by_cases p0 : p = 0
      · subst p0
        have hz : cnt r 0 = 0 := cnt_zero fun b hb => by have := hlt b hb; omega
        simp at *
        constructor
        · rintro (z | z)
          · omega
          · have := hlt 0 z; omega
        · intro z
          omega
      · simp only [p0, if_false] at *
        rw [ih]
        simp only [e, false_or]
        by_cases c : t ≤ p
        · have c2 : t ≤ p - 1 := by omega
          simp [c, c2]
        · have c2 : ¬ t ≤ p - 1 := by omega
          simp [c, c2]
theorem cnt_mono (ts : List Nat) (p : Nat) : Asc ts → cnt ts p ≤ cnt ts (p + 1) ∧ cnt ts (p + 1) ≤ cnt ts p + 1 := by
  intro h
  induction ts with
  | nil => simp [cnt]
  | cons t r ih =>
    have ih := ih h.tail
    have hlt := fun b hb => Asc.lt h b hb
    rw [cnt_cons, cnt_cons]
    by_cases c : t ≤ p
    · have : t ≤ p + 1 := by omega
      simp [c, this]
      omega
    · by_cases c2 : t ≤ p + 1
      · have e : t = p + 1 := by omega
        have hz : cnt r (p + 1) = 0 := cnt_zero fun b hb => by have := hlt b hb; omega
        have hz2 : cnt r p = 0 := cnt_zero fun b hb => by have := hlt b hb; omega
        simp [c, c2, hz, hz2]
      · simp [c, c2]
        omega
/-- p is a turn exactly if the bit there differs from the one before -/
theorem mem_tb {ts : List Nat} (h : Asc ts) (p : Nat) : p ∈ ts ↔ tb (tv ts) p ≠ (if p = 0 then false else tb (tv ts) (p - 1)) := by
  rw [mem_cnt h, tb_tv p h]
  by_cases p0 : p = 0
  · subst p0
    have : cnt ts 0 ≤ 1 := by
      cases ts with
      | nil => simp [cnt]
      | cons t r =>
        rw [cnt_cons, cnt_zero fun b hb => by have := Asc.lt h b hb; omega]
        split <;> omega
    simp
    omega
  · obtain ⟨q, rfl⟩ : ∃ q, p = q + 1 := ⟨p - 1, by omega⟩
    simp only [Nat.add_sub_cancel, Nat.add_one_ne_zero, if_false]
    rw [tb_tv q h]
    have := cnt_mono ts q h
    have h2 := Nat.mod_two_eq_zero_or_one (cnt ts q)
    have h3 := Nat.mod_two_eq_zero_or_one (cnt ts (q + 1))
    rcases h2 with e2 | e2 <;> rcases h3 with e3 | e3 <;> simp [e2, e3] <;> omega
theorem asc_ext : ∀ {ts us : List Nat}, Asc ts → Asc us → (∀ p, p ∈ ts ↔ p ∈ us) → ts = us
  | [], [], _, _, _ => rfl
  | [], u :: _, _, _, h => absurd ((h u).mpr (by simp)) (by simp)
  | t :: _, [], _, _, h => absurd ((h t).mp (by simp)) (by simp)
  | t :: r, u :: q, h1, h2, h => by
    have e : t = u := by
      have a := (h t).mp (by simp)
      have b := (h u).mpr (by simp)
      rcases List.mem_cons.mp a with a | a
      · exact a
      · rcases List.mem_cons.mp b with b | b
        · exact b.symm
        · have := Asc.lt h2 t a
          have := Asc.lt h1 u b
          omega
    subst e
    congr 1
    refine asc_ext h1.tail h2.tail fun p => ?_
    constructor
    · intro hp
      have := Asc.lt h1 p hp
      rcases List.mem_cons.mp ((h p).mp (by simp [hp])) with z | z
      · omega
      · exact z
    · intro hp
      have := Asc.lt h2 p hp
      rcases List.mem_cons.mp ((h p).mpr (by simp [hp])) with z | z
      · omega
      · exact z
/-- one integer, one row of turns -/
theorem tv_inj {ts us : List Nat} (h1 : Asc ts) (h2 : Asc us) (h : tv ts = tv us) : ts = us :=
  asc_ext h1 h2 fun p => by rw [mem_tb h1, mem_tb h2, h]
/-! ### every integer has its turns -/
theorem asc_succ : ∀ {ts : List Nat}, Asc ts → Asc (ts.map (· + 1))
  | [], _ => trivial
  | [_], _ => trivial
  | a :: b :: r, h => ⟨by have := h.1; show a + 1 < b + 1; omega, asc_succ h.2⟩
theorem turns_ex : ∀ n : Int, ∃ ts, Asc ts ∧ tv ts = n := by
  have key : ∀ (k : Nat) (n : Int), 2 * n.natAbs + (if 0 < n then 1 else 0) ≤ k → ∃ ts, Asc ts ∧ tv ts = n := by
    intro k
    induction k with
    | zero =>
      intro n h
      have : n = 0 := by omega
      subst this
      exact ⟨[], trivial, rfl⟩
    | succ k ih =>
      intro n h
      by_cases h0 : n = 0
      · subst h0
        exact ⟨[], trivial, rfl⟩
      rcases Int.emod_two_eq n with e | e
      · obtain ⟨ts, h1, h2⟩ := ih (n / 2) (by split at h <;> split <;> omega)
        exact ⟨ts.map (· + 1), asc_succ h1, by rw [tv_map_succ, h2]; omega⟩
      · obtain ⟨ts, h1, h2⟩ := ih (-(n / 2) - 1) (by split at h <;> split <;> omega)
        refine ⟨0 :: ts.map (· + 1), asc_cons (fun b hb => ?_) (asc_succ h1), ?_⟩
        · obtain ⟨c, _, rfl⟩ := List.mem_map.mp hb
          omega
        · rw [tv_cons, tv_map_succ, h2, Int.pow_zero]
          omega
  intro n
  exact key _ n (Nat.le_refl _)
/-! ### the marks: a one at each turn -/
open PySem PyProof.Rows PySem.W in
theorem tb_and (x y : Int) : ∀ p, tb (Builtin.bitAnd x y) p = (tb x p && tb y p) := by
  intro p
  induction p generalizing x y with
  | zero =>
    rw [tb_zero, tb_zero, tb_zero, kbt_halves x y]
    have h1 := Int.emod_two_eq x
    have h2 := Int.emod_two_eq y
    rcases h1 with h1 | h1 <;> rcases h2 with h2 | h2 <;> simp [h1, h2] <;> omega
  | succ p ih =>
    rw [tb_succ, tb_succ, tb_succ, ← ih]
    congr 1
    rw [kbt_halves x y]
    split <;> omega
open PySem PyProof.Rows PySem.W in
theorem tb_xor (x y : Int) : ∀ p, tb (Builtin.bitXor x y) p = (tb x p ^^ tb y p) := by
  intro p
  induction p generalizing x y with
  | zero =>
    rw [tb_zero, tb_zero, tb_zero, bitXor_and x y]
    have h1 := Int.emod_two_eq x
    have h2 := Int.emod_two_eq y
    rcases h1 with h1 | h1 <;> rcases h2 with h2 | h2 <;> simp [h1, h2] <;> omega
  | succ p ih =>
    rw [tb_succ, tb_succ, tb_succ, ← ih]
    congr 1
    rw [bitXor_and, bitXor_and, kbt_halves x y]
    have h1 := Int.emod_two_eq x
    have h2 := Int.emod_two_eq y
    rcases h1 with h1 | h1 <;> rcases h2 with h2 | h2 <;> simp [h1, h2] <;> omega
/-- the sum of the powers of two at the turns -/
def psum : List Nat → Int
  | [] => 0
  | t :: r => 2 ^ t + psum r
theorem psum_map_succ : ∀ ts : List Nat, psum (ts.map (· + 1)) = 2 * psum ts
  | [] => rfl
  | t :: r => by
    rw [List.map_cons, psum, psum, psum_map_succ r, Int.pow_succ]
    omega
theorem psum_nonneg : ∀ ts : List Nat, 0 ≤ psum ts
  | [] => Int.le_refl _
  | t :: r => by
    have := psum_nonneg r
    have : (0 : Int) < 2 ^ t := Int.pow_pos (by decide)
    show 0 ≤ 2 ^ t + psum r
    omega
theorem psum_low {t : Nat} : ∀ {r : List Nat}, (∀ b ∈ r, t < b) → ∃ c, psum r = 2 ^ (t + 1) * c
  | [], _ => ⟨0, by simp [psum]⟩
  | b :: r, h => by
    obtain ⟨c, e⟩ := psum_low (r := r) fun x hx => h x (by simp [hx])
    have hb := h b (by simp)
    refine ⟨2 ^ (b - (t + 1)) + c, ?_⟩
    rw [psum, e, Int.mul_add, ← Int.pow_add]
    congr 3
    omega
theorem psum_cons {t : Nat} {r : List Nat} (h : Asc (t :: r)) : ∃ c, psum (t :: r) = 2 ^ t * (2 * c + 1) := by
  obtain ⟨c, e⟩ := psum_low fun b hb => Asc.lt h b hb
  refine ⟨c, ?_⟩
  rw [psum, e, Int.pow_succ, Int.mul_add, Int.mul_one, ← Int.mul_assoc]
  omega
theorem tb_psum : ∀ (p : Nat) {ts : List Nat}, Asc ts → tb (psum ts) p = decide (p ∈ ts)
  | p, [], _ => by simp [psum, tb]
  | 0, t :: r, h => by
    have hr : ∀ b ∈ r, 0 < b := fun b hb => by have := Asc.lt h b hb; omega
    have e : psum r = 2 * psum (r.map (· - 1)) := by rw [← psum_map_succ, pred_map hr]
    have hn : 0 ∉ r := fun z => by have := hr 0 z; omega
    rw [tb_zero, psum, e]
    cases t with
    | zero => simp
    | succ t =>
      rw [Int.pow_succ]
      simp [hn]

  | p + 1, t :: r, h => by
    have hr : ∀ b ∈ r, 0 < b := fun b hb => by have := Asc.lt h b hb; omega
    have er : psum r = 2 * psum (r.map (· - 1)) := by rw [← psum_map_succ, pred_map hr]
    have hA := asc_pred h.tail hr
    have hm : ∀ {l : List Nat}, (∀ b ∈ l, 0 < b) → (p ∈ l.map (· - 1) ↔ p + 1 ∈ l) := fun {l} hl => by
      rw [List.mem_map]
      constructor
      · rintro ⟨a, ha, e⟩
        have := hl a ha
        have : a = p + 1 := by omega
        exact this ▸ ha
      · intro hp
        exact ⟨p + 1, hp, by omega⟩
    rw [tb_succ, psum]
    cases t with
    | zero =>
      rw [er, show ((2 : Int) ^ 0 + 2 * psum (r.map (· - 1))) / 2 = psum (r.map (· - 1)) by rw [Int.pow_zero]; omega, tb_psum p hA]
      simp [hm hr]
    | succ t =>
      have h0 : ∀ b ∈ (t + 1) :: r, 0 < b := fun b hb => by
        rcases List.mem_cons.mp hb with rfl | hb
        · omega
        · exact hr b hb
      have e : (2 : Int) ^ (t + 1) + psum r = 2 * psum (((t + 1) :: r).map (· - 1)) := by
        show psum ((t + 1) :: r) = _
        rw [← psum_map_succ, pred_map h0]
      rw [e, Int.mul_ediv_cancel_left _ (by decide), tb_psum p (asc_pred h h0)]
      exact decide_eq_decide.mpr (hm h0)
theorem tb_dbl (n : Int) (p : Nat) : tb (n * 2) p = if p = 0 then false else tb n (p - 1) := by
  cases p with
  | zero => simp [tb_zero]
  | succ p => rw [tb_succ, Int.mul_ediv_cancel _ (by decide)]; simp
open PySem PyProof.Rows PySem.W in
theorem marks {ts : List Nat} (h : Asc ts) : Builtin.bitXor (tv ts) (tv ts * 2) = psum ts := by
  apply tb_ext
  intro p
  rw [tb_xor, tb_dbl, tb_psum p h]
  have := mem_tb h p
  by_cases hp : p ∈ ts
  · rw [decide_eq_true hp]
    have := this.mp hp
    revert this
    cases tb (tv ts) p <;> cases (if p = 0 then false else tb (tv ts) (p - 1)) <;> simp
  · rw [decide_eq_false hp]
    have h2 : ¬ _ := fun z => hp (this.mpr z)
    revert h2
    cases tb (tv ts) p <;> cases (if p = 0 then false else tb (tv ts) (p - 1)) <;> simp
open PySem PyProof.Rows PySem.W in
/-- one step of reading the marks -/
theorem low_mark {t : Nat} {r : List Nat} (h : Asc (t :: r)) : Builtin.bitAnd (psum (t :: r)) (-psum (t :: r)) = 2 ^ t := by
  obtain ⟨c, e⟩ := psum_cons h
  rw [e]
  exact kbt_low t c
open PySem PyProof.Rows PySem.W in
theorem off_mark {t : Nat} {r : List Nat} (h : Asc (t :: r)) : Builtin.bitXor (psum (t :: r)) (2 ^ t) = psum r := by
  obtain ⟨c, e⟩ := psum_cons h
  have hp : (0 : Int) < 2 ^ t := Int.pow_pos (by decide)
  rw [bitXor_and, kbt_bit]
  have e2 : psum (t :: r) / 2 ^ t % 2 = 1 := by
    rw [e, Int.mul_ediv_cancel_left _ (Int.ne_of_gt hp)]
    omega
  rw [e2, psum]
  omega
theorem psum_pos {t : Nat} {r : List Nat} : 0 < psum (t :: r) := by
  have := psum_nonneg r
  have : (0 : Int) < 2 ^ t := Int.pow_pos (by decide)
  show 0 < 2 ^ t + psum r
  omega
/-! ### the sign of a row of turns -/
theorem tv_bound : ∀ {ts : List Nat} {k : Nat}, Asc ts → (∀ t ∈ ts, t < k) → -(2 ^ k) < tv ts ∧ tv ts < 2 ^ k
  | [], k, _, _ => by
    have : (0 : Int) < 2 ^ k := Int.pow_pos (by decide)
    rw [tv_nil]
    omega
  | [t], k, h, hb => by
    have h1 := hb t (by simp)
    have h2 : (2 : Int) ^ t < 2 ^ k := Int.pow_lt_pow_of_lt (by decide) h1
    have h3 : (0 : Int) < 2 ^ t := Int.pow_pos (by decide)
    rw [tv_cons, tv_nil]
    omega
  | t :: u :: r, k, h, hb => by
    -- the rest is between -2^k and 2^k, and has a low part
    have ih := tv_bound h.tail (fun x hx => hb x (by simp [hx]))
    have h1 := hb t (by simp)
    have h3 : (0 : Int) < 2 ^ t := Int.pow_pos (by decide)
    -- tv (u :: r) is a multiple of 2 ^ (t + 1)
    have hm : ∀ {l : List Nat}, (∀ b ∈ l, t < b) → ∃ c, tv l = 2 ^ (t + 1) * c := by
      intro l
      induction l with
      | nil => intro _; exact ⟨0, by simp [tv_nil]⟩
      | cons b l ihl =>
        intro hl
        obtain ⟨c, e⟩ := ihl fun x hx => hl x (by simp [hx])
        have hbt := hl b (by simp)
        refine ⟨-(2 ^ (b - (t + 1))) - c, ?_⟩
        rw [tv_cons, e, Int.mul_sub, Int.mul_neg, ← Int.pow_add]
        congr 3
        omega
    obtain ⟨c, e⟩ := hm fun b hb => Asc.lt h b hb
    have e2 : (2 : Int) ^ k = 2 ^ (t + 1) * 2 ^ (k - (t + 1)) := by
      rw [← Int.pow_add]
      congr 1
      omega
    rw [tv_cons]
    have h4 : (2 : Int) ^ (t + 1) = 2 * 2 ^ t := by rw [Int.pow_succ]; omega
    rw [e, e2] at ih
    have hq : (0 : Int) < 2 ^ (t + 1) := Int.pow_pos (by decide)
    have a1 : -(2 ^ (k - (t + 1))) < c := by
      have := ih.1
      rw [← Int.mul_neg] at this
      exact Int.lt_of_mul_lt_mul_left this (Int.le_of_lt hq)
    have a2 : c < 2 ^ (k - (t + 1)) := Int.lt_of_mul_lt_mul_left ih.2 (Int.le_of_lt hq)
    rw [e, e2]
    generalize hz : (2 : Int) ^ (k - (t + 1)) = z at *
    generalize hy : (2 : Int) ^ (t + 1) = y at *
    have b1 : y * (c + 1) ≤ y * z := Int.mul_le_mul_of_nonneg_left (by omega) (by omega)
    have b2 : y * (-z + 1) ≤ y * c := Int.mul_le_mul_of_nonneg_left (by omega) (by omega)
    rw [Int.mul_add, Int.mul_one] at b1 b2
    rw [Int.mul_neg] at b2
    omega
/-- the sign of a row: odd rows are below 0 -/
theorem tv_sign : ∀ {ts : List Nat} {t : Nat}, Asc (ts ++ [t]) → (tv (ts ++ [t]) < 0 ↔ ts.length % 2 = 0) ∧ tv (ts ++ [t]) ≠ 0 := by
  intro ts t h
  have hlow : ∀ x ∈ ts, x < t := by
    have := asc_pairwise.mp h
    rw [List.pairwise_append] at this
    exact fun x hx => this.2.2 x hx t (by simp)
  have hA : Asc ts := by
    have := asc_pairwise.mp h
    rw [List.pairwise_append] at this
    exact asc_pairwise.mpr this.1
  have hb := tv_bound hA hlow
  have e : tv (ts ++ [t]) = tv ts + (if ts.length % 2 = 0 then -(2 ^ t) else 2 ^ t) := by
    clear hb hA hlow h
    induction ts with
    | nil => simp [tv_cons, tv_nil]
    | cons a r ih =>
      rw [List.cons_append, tv_cons, tv_cons, ih, List.length_cons]
      split <;> split <;> omega
  rw [e]
  split <;> constructor <;> omega
end TV
set_option linter.all false
/-! forms as data: their values; forms of one value are one form -/
namespace FM
open PySem TV
/-! ### ranges -/
theorem tb_shift (n : Int) (k p : Nat) : tb (n / 2 ^ k) p = tb n (k + p) := by
  unfold tb
  rw [Int.pow_add, Int.ediv_ediv_of_nonneg (Int.le_of_lt (Int.pow_pos (by decide)))]
theorem tb_top (p : Nat) : tb 0 p = false := by simp [tb]
theorem tb_neg1 : ∀ p : Nat, tb (-1) p = true
  | 0 => by decide
  | p + 1 => by
    rw [tb_succ]
    exact tb_neg1 p
theorem cnt_all {ts : List Nat} {p : Nat} (h : ∀ t ∈ ts, t ≤ p) : cnt ts p = ts.length := by
  unfold cnt
  rw [List.countP_eq_length]
  intro t ht
  simp
  exact h t ht
/-- all turns at most k: exactly the integers of k bits and a sign -/
theorem tv_range {ts : List Nat} {k : Nat} (h : Asc ts) : (∀ t ∈ ts, t ≤ k) ↔ -(2 ^ k) ≤ tv ts ∧ tv ts < 2 ^ k := by
  have hp : (0 : Int) < 2 ^ k := Int.pow_pos (by decide)
  have iff1 : (-(2 ^ k) ≤ tv ts ∧ tv ts < 2 ^ k) ↔ (tv ts / 2 ^ k = 0 ∨ tv ts / 2 ^ k = -1) := by
    have h1 := Int.emod_nonneg (tv ts) (Int.ne_of_gt hp)
    have h2 := Int.emod_lt_of_pos (tv ts) hp
    have h3 := Int.mul_ediv_add_emod (tv ts) (2 ^ k)
    generalize tv ts / 2 ^ k = q at *
    generalize tv ts % 2 ^ k = r at *
    generalize (2 : Int) ^ k = z at *
    constructor
    · rintro ⟨a, b⟩
      have c1 : q < 1 := by
        apply Int.lt_of_mul_lt_mul_left (a := z) _ (by omega)
        omega
      have c2 : -2 < q := by
        apply Int.lt_of_mul_lt_mul_left (a := z) _ (by omega)
        omega
      omega
    · rintro (e | e)
      · subst e; omega
      · subst e; omega
  rw [iff1]
  constructor
  · intro ha
    have hc : ∀ p, tb (tv ts / 2 ^ k) p = decide (ts.length % 2 = 1) := fun p => by
      rw [tb_shift, tb_tv _ h, cnt_all fun t ht => by have := ha t ht; omega]
    by_cases e : ts.length % 2 = 1
    · right
      apply tb_ext
      intro p
      rw [hc, tb_neg1, decide_eq_true e]
    · left
      apply tb_ext
      intro p
      rw [hc, tb_top, decide_eq_false e]
  · intro hq t ht
    apply Nat.le_of_not_lt
    intro hlt
    have := (mem_tb h t).mp ht
    apply this
    rw [if_neg (by omega)]
    have hc : ∀ p q, k ≤ p → k ≤ q → tb (tv ts) p = tb (tv ts) q := fun p q hp hq' => by
      have e1 : tb (tv ts) p = tb (tv ts / 2 ^ k) (p - k) := by rw [tb_shift]; congr 1; omega
      have e2 : tb (tv ts) q = tb (tv ts / 2 ^ k) (q - k) := by rw [tb_shift]; congr 1; omega
      rw [e1, e2]
      rcases hq with e | e <;> rw [e]
      · rw [tb_top, tb_top]
      · rw [tb_neg1, tb_neg1]
    exact hc _ _ (by omega) (by omega)
theorem asc_len {k : Nat} : ∀ {ts : List Nat} {a : Nat}, Asc ts → (∀ t ∈ ts, a ≤ t ∧ t ≤ k) → ts.length ≤ k + 1 - a
  | [], a, _, _ => Nat.zero_le _
  | t :: r, a, h, hb => by
    have h1 := hb t (by simp)
    have := asc_len (a := t + 1) h.tail fun x hx => ⟨Asc.lt h x hx, (hb x (by simp [hx])).2⟩
    rw [List.length_cons]
    omega
/-! ### forms -/
mutual
def val : PyData → Int
  | .int i => i
  | .tuple ds => tv (vals ds)
  | _ => 0
def vals : List PyData → List Nat
  | [] => []
  | d :: r => (val d).toNat :: vals r
end
mutual
def Fm : PyData → Prop
  | .int i => -(2 ^ 64) ≤ i ∧ i < 2 ^ 64
  | .tuple ds => FmAll ds ∧ Asc (vals ds) ∧ ∃ t ∈ vals ds, 64 < t
  | _ => False
def FmAll : List PyData → Prop
  | [] => True
  | d :: r => Fm d ∧ 0 ≤ val d ∧ FmAll r
end
theorem val_int (i : Int) : val (.int i) = i := by simp [val]
theorem val_tuple (ds : List PyData) : val (.tuple ds) = tv (vals ds) := by simp [val]
theorem vals_nil : vals [] = [] := by simp [vals]
theorem vals_cons (d : PyData) (r : List PyData) : vals (d :: r) = (val d).toNat :: vals r := by simp [vals]
theorem fm_int (i : Int) : Fm (.int i) ↔ -(2 ^ 64) ≤ i ∧ i < 2 ^ 64 := by simp [Fm]
theorem fm_tuple (ds : List PyData) : Fm (.tuple ds) ↔ FmAll ds ∧ Asc (vals ds) ∧ ∃ t ∈ vals ds, 64 < t := by simp [Fm]
theorem fmAll_nil : FmAll [] := by simp [FmAll]
theorem fmAll_cons (d : PyData) (r : List PyData) : FmAll (d :: r) ↔ Fm d ∧ 0 ≤ val d ∧ FmAll r := by simp [FmAll]
theorem vals_len : ∀ ds : List PyData, (vals ds).length = ds.length
  | [] => by simp [vals]
  | d :: r => by rw [vals_cons, List.length_cons, vals_len r, List.length_cons]
theorem vals_app : ∀ ds es : List PyData, vals (ds ++ es) = vals ds ++ vals es
  | [], es => by simp [vals]
  | d :: r, es => by rw [List.cons_append, vals_cons, vals_cons, vals_app r es, List.cons_append]
theorem fmAll_app : ∀ ds es : List PyData, FmAll (ds ++ es) ↔ FmAll ds ∧ FmAll es
  | [], es => by simp [FmAll]
  | d :: r, es => by
    rw [List.cons_append, fmAll_cons, fmAll_cons, fmAll_app r es]
    exact ⟨fun ⟨a, b, c, e⟩ => ⟨⟨a, b, c⟩, e⟩, fun ⟨⟨a, b, c⟩, e⟩ => ⟨a, b, c, e⟩⟩
theorem fmAll_mem : ∀ {ds : List PyData}, FmAll ds → ∀ d ∈ ds, Fm d ∧ 0 ≤ val d
  | [], _, d, hd => by simp at hd
  | e :: r, h, d, hd => by
    rw [fmAll_cons] at h
    rcases List.mem_cons.mp hd with rfl | hd
    · exact ⟨h.1, h.2.1⟩
    · exact fmAll_mem h.2.2 d hd
theorem mem_vals : ∀ {ds : List PyData} {t : Nat}, t ∈ vals ds ↔ ∃ d ∈ ds, (val d).toNat = t
  | [], t => by simp [vals]
  | e :: r, t => by
    rw [vals_cons, List.mem_cons, mem_vals (ds := r)]
    constructor
    · rintro (h | ⟨d, h1, h2⟩)
      · exact ⟨e, by simp, h.symm⟩
      · exact ⟨d, by simp [h1], h2⟩
    · rintro ⟨d, h1, h2⟩
      rcases List.mem_cons.mp h1 with rfl | h1
      · exact .inl h2.symm
      · exact .inr ⟨d, h1, h2⟩
/-- a tuple form is no plain integer -/
theorem tuple_far {ds : List PyData} (h : Fm (.tuple ds)) : ¬ (-(2 ^ 64) ≤ val (.tuple ds) ∧ val (.tuple ds) < 2 ^ 64) := by
  rw [fm_tuple] at h
  rw [val_tuple, ← tv_range h.2.1]
  intro hc
  obtain ⟨t, ht, h64⟩ := h.2.2
  have := hc t ht
  omega
mutual
theorem fm_inj : ∀ {d e : PyData}, Fm d → Fm e → val d = val e → d = e
  | .int i, .int j, _, _, h => by
    rw [val_int, val_int] at h
    rw [h]
  | .int i, .tuple es, hd, he, h => by
    rw [fm_int] at hd
    rw [val_int] at h
    exact absurd (h ▸ hd) (tuple_far he)
  | .tuple ds, .int j, hd, he, h => by
    rw [fm_int] at he
    rw [val_int] at h
    exact absurd (h ▸ he) (tuple_far hd)
  | .tuple ds, .tuple es, hd, he, h => by
    have hd' := (fm_tuple ds).mp hd
    have he' := (fm_tuple es).mp he
    rw [val_tuple, val_tuple] at h
    rw [fmAll_inj hd'.1 he'.1 (tv_inj hd'.2.1 he'.2.1 h)]
  | .none, _, hd, _, _ => by simp [Fm] at hd
  | .bool _, _, hd, _, _ => by simp [Fm] at hd
  | .str _, _, hd, _, _ => by simp [Fm] at hd
  | .list _, _, hd, _, _ => by simp [Fm] at hd
  | .dict _, _, hd, _, _ => by simp [Fm] at hd
  | .int _, .none, _, he, _ => by simp [Fm] at he
  | .int _, .bool _, _, he, _ => by simp [Fm] at he
  | .int _, .str _, _, he, _ => by simp [Fm] at he
  | .int _, .list _, _, he, _ => by simp [Fm] at he
  | .int _, .dict _, _, he, _ => by simp [Fm] at he
  | .tuple _, .none, _, he, _ => by simp [Fm] at he
  | .tuple _, .bool _, _, he, _ => by simp [Fm] at he
  | .tuple _, .str _, _, he, _ => by simp [Fm] at he
  | .tuple _, .list _, _, he, _ => by simp [Fm] at he
  | .tuple _, .dict _, _, he, _ => by simp [Fm] at he
theorem fmAll_inj : ∀ {ds es : List PyData}, FmAll ds → FmAll es → vals ds = vals es → ds = es
  | [], [], _, _, _ => rfl
  | [], e :: r, _, _, h => by
    rw [vals_nil, vals_cons] at h
    cases h
  | d :: r, [], _, _, h => by
    rw [vals_nil, vals_cons] at h
    cases h
  | d :: r, e :: q, hd, he, h => by
    rw [vals_cons, vals_cons] at h
    injection h with h1 h2
    rw [fmAll_cons] at hd he
    have h0 := hd.2.1
    have h0' := he.2.1
    rw [fm_inj hd.1 he.1 (by omega), fmAll_inj hd.2.2 he.2.2 h2]
end
/-! ### sizes -/
mutual
def wt : PyData → Nat
  | .tuple ds => 1 + wtAll ds
  | _ => 1
def wtAll : List PyData → Nat
  | [] => 0
  | d :: r => wt d + wtAll r
end
theorem wt_int (i : Int) : wt (.int i) = 1 := by simp [wt]
theorem wt_tuple (ds : List PyData) : wt (.tuple ds) = 1 + wtAll ds := by simp [wt]
theorem wtAll_nil : wtAll [] = 0 := by simp [wtAll]
theorem wtAll_cons (d : PyData) (r : List PyData) : wtAll (d :: r) = wt d + wtAll r := by simp [wtAll]
theorem wtAll_app : ∀ ds es : List PyData, wtAll (ds ++ es) = wtAll ds + wtAll es
  | [], es => by simp [wtAll]
  | d :: r, es => by rw [List.cons_append, wtAll_cons, wtAll_cons, wtAll_app r es, Nat.add_assoc]
/-- small turns as data -/
def iD (ts : List Nat) : List PyData := ts.map fun t => .int (t : Nat)
theorem vals_iD : ∀ ts : List Nat, vals (iD ts) = ts
  | [] => by simp [iD, vals]
  | t :: r => by
    show vals (.int (t : Nat) :: iD r) = _
    rw [vals_cons, vals_iD r, val_int]
    rfl
theorem fmAll_iD : ∀ {ts : List Nat}, (∀ t ∈ ts, t < 2 ^ 64) → FmAll (iD ts)
  | [], _ => by simp [iD, FmAll]
  | t :: r, h => by
    show FmAll (.int (t : Nat) :: iD r)
    rw [fmAll_cons, val_int, fm_int]
    have := h t (by simp)
    exact ⟨by omega, by omega, fmAll_iD fun x hx => h x (by simp [hx])⟩
theorem wtAll_iD : ∀ ts : List Nat, wtAll (iD ts) = ts.length
  | [] => by simp [iD, wtAll]
  | t :: r => by
    show wtAll (.int (t : Nat) :: iD r) = _
    rw [wtAll_cons, wtAll_iD r, wt_int, List.length_cons]
    omega
/-- no other value has this form: the plain forms, the forms of few turns -/
theorem fm_small {ts : List Nat} (h : Asc ts) (hb : ∀ t ∈ ts, t < 2 ^ 64) (h64 : ∃ t ∈ ts, 64 < t) : Fm (.tuple (iD ts)) ∧ val (.tuple (iD ts)) = tv ts := by
  rw [fm_tuple, val_tuple, vals_iD]
  exact ⟨⟨fmAll_iD hb, h, h64⟩, rfl⟩
end FM
set_option Elab.async false
set_option linter.all false
set_option maxRecDepth 100000
/-! data in the heap: forms stay where nothing but lists, dicts and objects change -/
namespace DX
open PySem PySem.Spec PyProof.Rows L2 HX TV FM
/-- what can't be written stays -/
def Tk (H H' : Hp) : Prop := ∀ a o, H a = some o → ¬ Mut (some o) → (∀ ps, o ≠ .tbl ps) → H' a = some o
theorem Tk.refl (H : Hp) : Tk H H := fun _ _ h _ _ => h
theorem Tk.trans {H H1 H2 : Hp} (a : Tk H H1) (b : Tk H1 H2) : Tk H H2 := fun x o h m n => b x o (a x o h m n) m n
theorem tk_same {H H' : Hp} (a : Same H H') : Tk H H' := fun x o h _ _ => a x o h
theorem tk_but {p : Addr} {H H' : Hp} (a : But p H H') (m : Mut (H p)) : Tk H H' := fun x o h n _ => a x o (fun e => by
  subst e
  rw [h] at m
  exact n m) h
theorem tk_mut {p : Addr} {H : Hp} {o : HO} (m : Mut (H p)) : Tk H (upd H p o) := fun x u h n _ => by
  rw [upd_ne (fun e => by
    subst e
    rw [h] at m
    exact n m)]
  exact h
theorem tk_tup {K : PySem.W.Frag} {H H' : Hp} {a : Addr} {xs : List V} (e : Tk H H') (h : SqT K H a xs) : SqT K H' a xs := by
  rcases h with (h | ⟨o, h⟩) | h
  · exact .inl (.inl (e _ _ h (fun z => z) fun ps z => nomatch z))
  · exact .inl (.inr ⟨o, e _ _ h (fun z => z) fun ps z => nomatch z⟩)
  · exact .inr h
mutual
theorem dp_tk {K : PySem.W.Frag} {H H' : Hp} (e : Tk H H') : ∀ {d : PyData} {v : V}, Fm d → Dp K H v d → Dp K H' v d
  | .int i, _, _, h => by
    cases h
    exact .int i
  | .tuple ds, _, f, h => by
    rw [fm_tuple] at f
    cases h with
    | tup h1 h2 => exact .tup (tk_tup e h1) (dpAll_tk e f.1 h2)
  | .none, _, f, _ => by simp [Fm] at f
  | .bool _, _, f, _ => by simp [Fm] at f
  | .str _, _, f, _ => by simp [Fm] at f
  | .list _, _, f, _ => by simp [Fm] at f
  | .dict _, _, f, _ => by simp [Fm] at f
theorem dpAll_tk {K : PySem.W.Frag} {H H' : Hp} (e : Tk H H') : ∀ {ds : List PyData} {vs : List V}, FmAll ds → DpAll K H vs ds → DpAll K H' vs ds
  | [], _, _, h => by
    cases h
    exact .nil
  | d :: r, _, f, h => by
    rw [fmAll_cons] at f
    cases h with
    | cons h1 h2 => exact .cons (dp_tk e f.1 h1) (dpAll_tk e f.2.2 h2)
end
theorem dpAll_len {K : PySem.W.Frag} {H : Hp} : ∀ {ds : List PyData} {vs : List V}, DpAll K H vs ds → vs.length = ds.length
  | [], _, h => by
    cases h
    rfl
  | d :: r, _, h => by
    cases h with
    | cons h1 h2 => rw [List.length_cons, dpAll_len h2, List.length_cons]
theorem dpAll_app {K : PySem.W.Frag} {H : Hp} : ∀ {ds es : List PyData} {vs us : List V}, DpAll K H vs ds → DpAll K H us es → DpAll K H (vs ++ us) (ds ++ es)
  | [], _, _, _, h, h' => by
    cases h
    exact h'
  | d :: r, _, _, _, h, h' => by
    cases h with
    | cons h1 h2 => exact .cons h1 (dpAll_app h2 h')
theorem dpAll_get {K : PySem.W.Frag} {H : Hp} : ∀ {ds : List PyData} {vs : List V} {i : Nat} {v : V}, DpAll K H vs ds → vs[i]? = some v → ∃ d, ds[i]? = some d ∧ Dp K H v d
  | [], _, i, v, h, e => by
    cases h
    simp at e
  | d :: r, _, i, v, h, e => by
    cases h with
    | cons h1 h2 =>
      cases i with
      | zero =>
        simp at e
        subst e
        exact ⟨d, rfl, h1⟩
      | succ i =>
        obtain ⟨d', h3, h4⟩ := dpAll_get (i := i) (v := v) h2 (by simpa using e)
        exact ⟨d', by simpa using h3, h4⟩
theorem dp_nv {K : PySem.W.Frag} {H : Hp} : ∀ ts : List Nat, DpAll K H (nv ts) (iD ts)
  | [] => .nil
  | t :: r => .cons (.int _) (dp_nv r)
/-! data that can be laid and compared: forms -/
mutual
theorem fm_lay : ∀ {d : PyData}, Fm d → PyData.canLay0 d = true
  | .int i, _ => by simp [PyData.canLay0]
  | .tuple ds, f => by
    rw [fm_tuple] at f
    simp only [PyData.canLay0]
    exact fmAll_lay f.1
  | .none, f => by simp [Fm] at f
  | .bool _, f => by simp [Fm] at f
  | .str _, f => by simp [Fm] at f
  | .list _, f => by simp [Fm] at f
  | .dict _, f => by simp [Fm] at f
theorem fmAll_lay : ∀ {ds : List PyData}, FmAll ds → PyData.canLayAll0 ds = true
  | [], _ => by simp [PyData.canLayAll0]
  | d :: r, f => by
    rw [fmAll_cons] at f
    simp only [PyData.canLayAll0, fm_lay f.1, fmAll_lay f.2.2, Bool.and_self]
end
theorem shaped_fm {d : PyData} (h : Fm d) (hd : d.depth ≤ 64) : SeqAt.shaped d = true := by
  unfold SeqAt.shaped
  rw [fm_lay h, decide_eq_true hd]
  rfl
theorem shaped_fms {ds : List PyData} (h : FmAll ds) (hd : PyData.depthAll ds ≤ 60) : SeqAt.shaped (.list ds) = true := by
  show (PyData.canLayAll0 ds && decide (PyData.depthAll ds + 1 ≤ 64)) = true
  rw [fmAll_lay h, decide_eq_true (by omega)]
  rfl
theorem depth_int (i : Int) : PyData.depth (.int i) = 0 := by simp [PyData.depth]
theorem depth_tuple (ds : List PyData) : PyData.depth (.tuple ds) = PyData.depthAll ds + 1 := by simp [PyData.depth]
theorem depthAll_nil : PyData.depthAll [] = 0 := by simp [PyData.depthAll]
theorem depthAll_cons (d : PyData) (r : List PyData) : PyData.depthAll (d :: r) = max d.depth (PyData.depthAll r) := by simp [PyData.depthAll]
theorem depthAll_le : ∀ {ds : List PyData} {k : Nat}, PyData.depthAll ds ≤ k ↔ ∀ d ∈ ds, d.depth ≤ k
  | [], k => by simp [PyData.depthAll]
  | d :: r, k => by
    rw [depthAll_cons]
    constructor
    · intro h e he
      rcases List.mem_cons.mp he with rfl | he
      · omega
      · exact depthAll_le.mp (by omega) e he
    · intro h
      have h1 := h d (by simp)
      have h2 := depthAll_le (ds := r) (k := k) |>.mpr fun e he => h e (by simp [he])
      omega
theorem depthAll_iD (ts : List Nat) : PyData.depthAll (iD ts) = 0 := by
  have : PyData.depthAll (iD ts) ≤ 0 := depthAll_le.mpr fun d hd => by
    obtain ⟨t, _, rfl⟩ := List.mem_map.mp hd
    rw [depth_int]
    exact Nat.le_refl _
  omega
theorem shaped_iD (ts : List Nat) : SeqAt.shaped (.list (iD ts)) = true := by
  have : iD ts = (ts.map fun t => ((t : Nat) : Int)).map PyData.int := by
    unfold iD
    rw [List.map_map]
    rfl
  rw [this]
  exact shaped_ints _
end DX
set_option Elab.async false
set_option linter.all false
set_option maxRecDepth 100000
/-! fields and codes: the law's own far places (plain mathematics) -/
namespace FB
open PySem TV FM DX
theorem even_pos {ts : List Nat} (h : Asc ts) (hn : ts ≠ []) (he : ts.length % 2 = 0) : 0 < tv ts := by
  obtain ⟨a, r, e⟩ : ∃ a r, ts = r ++ [a] := ⟨ts.getLast hn, ts.dropLast, (List.dropLast_concat_getLast hn).symm⟩
  subst e
  have := tv_sign h
  simp at he
  have h1 : ¬ tv (r ++ [a]) < 0 := fun z => by
    have := this.1.mp z
    omega
  have := this.2
  omega
theorem big_of {ts : List Nat} {t k : Nat} (h : Asc ts) (h0 : 0 ≤ tv ts) (ht : t ∈ ts) (hk : k < t) : 2 ^ k ≤ tv ts := by
  apply Int.le_of_not_gt
  intro hc
  have hp : (0 : Int) < 2 ^ k := Int.pow_pos (by decide)
  have := (tv_range h).mpr ⟨by omega, hc⟩ t ht
  omega
theorem pow_big {n : Nat} (h : 10 ≤ n) : n + 500 ≤ 2 ^ n := by
  induction n with
  | zero => omega
  | succ n ih =>
    by_cases e : n = 9
    · subst e
      decide
    · have := ih (by omega)
      rw [Nat.pow_succ]
      omega
/-- the four fields: a small place and far ones with many zero bits at the low end, ascending with room between them -/
structure Fields (fs : List PyData) : Prop where
  ex : ∃ (f1 : Nat) (es2 es3 : List PyData), fs = [.int 0, .int (f1 : Nat), .tuple es2, .tuple es3] ∧ 130 ≤ f1 ∧ f1 < 2 ^ 64 ∧ Fm (.tuple es2) ∧ Fm (.tuple es3) ∧ (∀ t ∈ vals es2, 150 ≤ t) ∧ (∀ t ∈ vals es3, 150 ≤ t) ∧
    (2 : Int) ^ 140 ≤ val (.tuple es2) ∧ val (.tuple es2) + 400 ≤ val (.tuple es3) ∧ PyData.depthAll es2 ≤ 0 ∧ PyData.depthAll es3 ≤ 2 ∧ es2.length ≤ 100 ∧ es3.length ≤ 100 ∧ wtAll es2 ≤ 14 ∧ wtAll es3 ≤ 14
/-- a second field: turns from 200 on -/
structure Sec (ts : List Nat) : Prop where
  asc : Asc ts
  ne : ts ≠ []
  even : ts.length % 2 = 0
  low : ∀ t ∈ ts, 200 ≤ t
  top : ∀ t ∈ ts, t < 2 ^ 64
  len : ts.length ≤ 4
theorem Sec.fm {ts : List Nat} (h : Sec ts) : Fm (.tuple (iD ts)) ∧ val (.tuple (iD ts)) = tv ts ∧ (2 : Int) ^ 140 ≤ tv ts := by
  obtain ⟨a, ha⟩ := List.exists_mem_of_ne_nil ts h.ne
  obtain ⟨f, e⟩ := fm_small h.asc h.top ⟨a, ha, by have := h.low a ha; omega⟩
  exact ⟨f, e, big_of h.asc (Int.le_of_lt (even_pos h.asc h.ne h.even)) ha (by have := h.low a ha; omega)⟩
theorem tv2 (a b : Nat) : tv [a, b] = 2 ^ b - 2 ^ a := by
  rw [tv_cons, tv_cons, tv_nil]
  omega
/-- the third field, in its three makes: some turn of it is the second field -/
theorem fields_of {f1 : Nat} {ts : List Nat} {es : List PyData} (h1 : 130 ≤ f1) (h2 : f1 < 2 ^ 64) (S : Sec ts) (hF : FmAll es) (hA : Asc (vals es)) (he : es.length % 2 = 0) (hl : ∀ t ∈ vals es, 150 ≤ t) (hm : .tuple (iD ts) ∈ es)
    (hd : PyData.depthAll es ≤ 2) (hlen : es.length ≤ 100) (hw : wtAll es ≤ 14) : Fields [.int 0, .int (f1 : Nat), .tuple (iD ts), .tuple es] := by
  obtain ⟨f, e, hb⟩ := S.fm
  have hmem : (val (.tuple (iD ts))).toNat ∈ vals es := mem_vals.mpr ⟨_, hm, rfl⟩
  have hne : vals es ≠ [] := List.ne_nil_of_mem hmem
  have hev : (vals es).length % 2 = 0 := by rw [vals_len]; exact he
  have hpos := even_pos hA hne hev
  have h140 : (2 : Nat) ^ 140 ≤ (val (.tuple (iD ts))).toNat := by
    rw [e]
    have : ((2 ^ 140 : Nat) : Int) = (2 : Int) ^ 140 := by simp
    omega
  have h64 : ∃ t ∈ vals es, 64 < t := ⟨_, hmem, Nat.lt_of_lt_of_le (by decide) h140⟩
  refine ⟨f1, iD ts, es, rfl, h1, h2, f, (fm_tuple _).mpr ⟨hF, hA, h64⟩, fun t ht => ?_, hl, e ▸ hb, ?_, by rw [depthAll_iD]; exact Nat.le_refl _, hd, by have := S.len; simp [iD]; omega, hlen, by rw [wtAll_iD]; have := S.len; omega, hw⟩
  · rw [vals_iD] at ht
    have := S.low t ht
    omega
  · rw [val_tuple es]
    have hb2 := big_of hA (Int.le_of_lt hpos) hmem (k := (val (.tuple (iD ts))).toNat - 1) (by omega)
    have hp := pow_big (n := (val (.tuple (iD ts))).toNat - 1) (by omega)
    have hc : (((2 : Nat) ^ ((val (.tuple (iD ts))).toNat - 1) : Nat) : Int) = (2 : Int) ^ ((val (.tuple (iD ts))).toNat - 1) := by simp
    generalize (2 : Int) ^ ((val (.tuple (iD ts))).toNat - 1) = z at *
    generalize (2 : Nat) ^ ((val (.tuple (iD ts))).toNat - 1) = y at *
    have e0 : 0 ≤ val (.tuple (iD ts)) := by omega
    omega
/-- what a third field must be -/
structure Third (ts : List Nat) (es : List PyData) : Prop where
  fm : FmAll es
  asc : Asc (vals es)
  even : es.length % 2 = 0
  low : ∀ t ∈ vals es, 150 ≤ t
  mem : .tuple (iD ts) ∈ es
  dep : PyData.depthAll es ≤ 2
  len : es.length ≤ 100
  wt : wtAll es ≤ 14
theorem Third.fields {f1 : Nat} {ts : List Nat} {es : List PyData} (h : Third ts es) (h1 : 130 ≤ f1) (h2 : f1 < 2 ^ 64) (S : Sec ts) : Fields [.int 0, .int (f1 : Nat), .tuple (iD ts), .tuple es] :=
  fields_of h1 h2 S h.fm h.asc h.even h.low h.mem h.dep h.len h.wt
theorem Sec.big {ts : List Nat} (S : Sec ts) : 2 ^ 140 ≤ (tv ts).toNat := by
  have h := S.fm.2.2
  have : ((2 ^ 140 : Nat) : Int) = (2 : Int) ^ 140 := by simp
  omega
theorem thirdA {ts : List Nat} {g : Nat} (S : Sec ts) (h1 : 150 ≤ g) (h2 : g < 400) : Third ts [.int (g : Nat), .tuple (iD ts)] := by
  obtain ⟨f, e, hb⟩ := S.fm
  have hB := S.big
  have hv : vals [.int (g : Nat), .tuple (iD ts)] = [g, (tv ts).toNat] := by
    rw [vals_cons, vals_cons, vals_nil, val_int, e]
    rfl
  have h140 : (400 : Nat) < 2 ^ 140 := by decide
  refine ⟨?_, ?_, by simp, ?_, by simp, ?_, by simp, by simp only [wtAll_cons, wtAll_nil, wt_int, wt_tuple, wtAll_iD, List.length_cons]; have := S.len; omega⟩
  · rw [fmAll_cons, fmAll_cons, fm_int, val_int]
    exact ⟨by omega, by omega, f, by omega, fmAll_nil⟩
  · rw [hv]
    exact ⟨by omega, trivial⟩
  · rw [hv]
    intro t ht
    simp at ht
    omega
  · rw [depthAll_cons, depthAll_cons, depthAll_nil, depth_int, depth_tuple, depthAll_iD]
    decide
theorem thirdB {ts : List Nat} {x : Nat} (S : Sec ts) (h2 : x < 64) : Third ts [.tuple (iD ts), .tuple (iD (x :: 64 :: ts))] := by
  obtain ⟨f, e, hb⟩ := S.fm
  have hB := S.big
  have h140 : (2 : Nat) ^ 65 < 2 ^ 140 := by decide
  have hA : Asc (x :: 64 :: ts) := asc_cons (fun b hb => by
    rcases List.mem_cons.mp hb with rfl | hb
    · exact h2
    · have := S.low b hb; omega) (asc_cons (fun b hb => by have := S.low b hb; omega) S.asc)
  have ht : ∀ t ∈ x :: 64 :: ts, t < 2 ^ 64 := fun t ht => by
    rcases List.mem_cons.mp ht with rfl | ht
    · omega
    · rcases List.mem_cons.mp ht with rfl | ht
      · omega
      · exact S.top t ht
  obtain ⟨a, ha⟩ := List.exists_mem_of_ne_nil ts S.ne
  obtain ⟨f2, e2⟩ := fm_small hA ht ⟨a, by simp [ha], by have := S.low a ha; omega⟩
  have e3 : tv (x :: 64 :: ts) = 2 ^ 64 - 2 ^ x + tv ts := by
    rw [tv_cons, tv_cons]
    omega
  have hx : (2 : Int) ^ x < 2 ^ 64 := Int.pow_lt_pow_of_lt (by decide) h2
  have hv : vals [.tuple (iD ts), .tuple (iD (x :: 64 :: ts))] = [(tv ts).toNat, (2 ^ 64 - 2 ^ x + tv ts).toNat] := by
    rw [vals_cons, vals_cons, vals_nil, e, e2, e3]
  refine ⟨?_, ?_, by simp, ?_, by simp, ?_, by simp, by simp only [wtAll_cons, wtAll_nil, wt_int, wt_tuple, wtAll_iD, List.length_cons]; have := S.len; omega⟩
  · rw [fmAll_cons, fmAll_cons]
    exact ⟨f, by omega, f2, by omega, fmAll_nil⟩
  · rw [hv]
    exact ⟨by omega, trivial⟩
  · rw [hv]
    intro t ht
    simp at ht
    omega
  · rw [depthAll_cons, depthAll_cons, depthAll_nil, depth_tuple, depth_tuple, depthAll_iD, depthAll_iD]
    decide
theorem thirdC {ts : List Nat} {g : Nat} (S : Sec ts) (h1 : 150 ≤ g) (h2 : g < 400) : Third ts [.int (g : Nat), .int ((g + 1 : Nat) : Int), .tuple (iD ts), .tuple [.int (g : Nat), .tuple (iD ts)]] := by
  obtain ⟨f, e, hb⟩ := S.fm
  have hB := S.big
  have h140 : (2 : Nat) ^ 65 < 2 ^ 140 := by decide
  have TA := thirdA S h1 h2
  have hva : vals [.int (g : Nat), .tuple (iD ts)] = [g, (tv ts).toNat] := by
    rw [vals_cons, vals_cons, vals_nil, val_int, e]
    rfl
  have hpos := even_pos TA.asc (by rw [hva]; simp) (by rw [hva]; simp)
  have hbig := big_of TA.asc (Int.le_of_lt hpos) (t := (tv ts).toNat) (k := (tv ts).toNat - 1) (by rw [hva]; simp) (by omega)
  have hp := pow_big (n := (tv ts).toNat - 1) (by omega)
  have hc : (((2 : Nat) ^ ((tv ts).toNat - 1) : Nat) : Int) = (2 : Int) ^ ((tv ts).toNat - 1) := by simp
  have fA : Fm (.tuple [.int (g : Nat), .tuple (iD ts)]) := (fm_tuple _).mpr ⟨TA.fm, TA.asc, (tv ts).toNat, by rw [hva]; simp, by omega⟩
  rw [← val_tuple] at hbig hpos
  have hv : vals [.int (g : Nat), .int ((g + 1 : Nat) : Int), .tuple (iD ts), .tuple [.int (g : Nat), .tuple (iD ts)]] = [g, g + 1, (tv ts).toNat, (val (.tuple [.int (g : Nat), .tuple (iD ts)])).toNat] := by
    rw [vals_cons, vals_cons, vals_cons, vals_cons, vals_nil, val_int, val_int, e]
    rfl
  generalize hW : val (.tuple [.int (g : Nat), .tuple (iD ts)]) = W at *
  generalize (2 : Int) ^ ((tv ts).toNat - 1) = z at *
  generalize (2 : Nat) ^ ((tv ts).toNat - 1) = y at *
  refine ⟨?_, ?_, by simp, ?_, by simp, ?_, by simp, by simp only [wtAll_cons, wtAll_nil, wt_int, wt_tuple, wtAll_iD, List.length_cons]; have := S.len; omega⟩
  · rw [fmAll_cons, fmAll_cons, fmAll_cons, fmAll_cons, fm_int, fm_int, val_int, val_int, hW]
    exact ⟨by omega, by omega, by omega, by omega, f, by omega, fA, by omega, fmAll_nil⟩
  · rw [hv]
    exact ⟨by omega, by omega, by omega, trivial⟩
  · rw [hv]
    intro t ht
    simp at ht
    omega
  · have h5 : PyData.depthAll [.int (g : Nat), .tuple (iD ts)] = 1 := by
      rw [depthAll_cons, depthAll_cons, depthAll_nil, depth_int, depth_tuple, depthAll_iD]
      decide
    rw [depthAll_cons, depthAll_cons, depthAll_cons, depthAll_cons, depthAll_nil, depth_int, depth_int, depth_tuple, depth_tuple, depthAll_iD, h5]
    decide
end FB
set_option Elab.async false
set_option linter.all false
set_option maxRecDepth 100000
/-! order of turns; codes and the far numbers they stand for (plain mathematics) -/
namespace FC
open PySem TV FM DX FB
theorem tv_snoc (r : List Nat) (a : Nat) : tv (r ++ [a]) = tv r + (if r.length % 2 = 0 then -(2 ^ a) else 2 ^ a) := by
  induction r with
  | nil => simp [tv_cons, tv_nil]
  | cons x r ih =>
    rw [List.cons_append, tv_cons, tv_cons, ih, List.length_cons]
    split <;> split <;> omega
theorem tv_append (r s : List Nat) : tv (r ++ s) = tv r + (if r.length % 2 = 0 then tv s else -tv s) := by
  induction r with
  | nil => simp [tv_nil]
  | cons x r ih =>
    rw [List.cons_append, tv_cons, tv_cons, ih, List.length_cons]
    split <;> split <;> omega
theorem asc_snoc {r : List Nat} {a : Nat} : Asc (r ++ [a]) ↔ Asc r ∧ ∀ x ∈ r, x < a := by
  rw [asc_pairwise, asc_pairwise, List.pairwise_append]
  constructor
  · rintro ⟨h1, _, h3⟩
    exact ⟨h1, fun x hx => h3 x hx a (by simp)⟩
  · rintro ⟨h1, h2⟩
    exact ⟨h1, by simp, fun x hx y hy => by simp at hy; subst hy; exact h2 x hx⟩
/-- the order of two rows of turns, from the top -/
def lessD : List Nat → List Nat → Bool
  | [], [] => false
  | [], _ :: s => decide (s.length % 2 = 1)
  | _ :: r, [] => decide (r.length % 2 = 0)
  | a :: r, b :: s =>
    if r.length % 2 ≠ s.length % 2 then decide (r.length % 2 = 0)
    else if a = b then lessD r s
    else if a < b then decide (s.length % 2 = 1)
    else decide (r.length % 2 = 0)
theorem snoc_cases (l : List Nat) : l = [] ∨ ∃ r a, l = r ++ [a] := by
  by_cases h : l = []
  · exact .inl h
  · exact .inr ⟨l.dropLast, l.getLast h, (List.dropLast_concat_getLast h).symm⟩
theorem top_out {r : List Nat} {a k : Nat} (h : Asc (r ++ [a])) (hk : k < a) : (r.length % 2 = 1 → 2 ^ k ≤ tv (r ++ [a])) ∧ (r.length % 2 = 0 → tv (r ++ [a]) < -(2 ^ k)) := by
  have hs := tv_sign h
  have hp : (0 : Int) < 2 ^ k := Int.pow_pos (by decide)
  have hr := (tv_range (k := k) h)
  have hno : ¬ (-(2 ^ k) ≤ tv (r ++ [a]) ∧ tv (r ++ [a]) < 2 ^ k) := fun z => by
    have := hr.mpr z a (by simp)
    omega
  constructor
  · intro hl
    have h1 : ¬ tv (r ++ [a]) < 0 := fun z => by
      have := hs.1.mp z
      omega
    omega
  · intro hl
    have h1 := hs.1.mpr hl
    omega
theorem less_iff : ∀ (n : Nat) (ts us : List Nat), ts.length ≤ n → Asc ts → Asc us → (lessD ts.reverse us.reverse = true ↔ tv ts < tv us) := by
  intro n
  induction n with
  | zero =>
    intro ts us hn hA hB
    have : ts = [] := List.length_eq_zero_iff.mp (by omega)
    subst this
    rcases snoc_cases us with rfl | ⟨s, b, rfl⟩
    · simp [lessD]
    · have hs := tv_sign hB
      rw [List.reverse_append]
      show decide (s.reverse.length % 2 = 1) = true ↔ tv [] < _
      rw [decide_eq_true_iff, List.length_reverse, tv_nil]
      constructor
      · intro h
        have : ¬ tv (s ++ [b]) < 0 := fun z => by have := hs.1.mp z; omega
        have := hs.2
        omega
      · intro h
        have : ¬ s.length % 2 = 0 := fun z => by have := hs.1.mpr z; omega
        omega
  | succ n ih =>
    intro ts us hn hA hB
    rcases snoc_cases ts with rfl | ⟨r, a, rfl⟩
    · exact ih [] us (Nat.zero_le _) hA hB
    rcases snoc_cases us with rfl | ⟨s, b, rfl⟩
    · have hs := tv_sign hA
      rw [List.reverse_append]
      show decide (r.reverse.length % 2 = 0) = true ↔ _ < tv []
      rw [decide_eq_true_iff, List.length_reverse, tv_nil]
      exact hs.1.symm
    · have hsA := tv_sign hA
      have hsB := tv_sign hB
      obtain ⟨hr, hra⟩ := asc_snoc.mp hA
      obtain ⟨hs, hsb⟩ := asc_snoc.mp hB
      rw [List.reverse_append, List.reverse_append]
      show (if r.reverse.length % 2 ≠ s.reverse.length % 2 then decide (r.reverse.length % 2 = 0) else if a = b then lessD r.reverse s.reverse else if a < b then decide (s.reverse.length % 2 = 1) else decide (r.reverse.length % 2 = 0)) = true ↔ _
      rw [List.length_reverse, List.length_reverse]
      by_cases hpar : r.length % 2 ≠ s.length % 2
      · rw [if_pos hpar, decide_eq_true_iff]
        constructor
        · intro h
          have h1 := hsA.1.mpr h
          have h2 : ¬ tv (s ++ [b]) < 0 := fun z => by have := hsB.1.mp z; omega
          omega
        · intro h
          apply Classical.byContradiction
          intro hc
          have h1 : ¬ tv (r ++ [a]) < 0 := fun z => hc (hsA.1.mp z)
          have h2 := hsB.1.mpr (by omega)
          omega
      · rw [if_neg hpar]
        have hpar' : r.length % 2 = s.length % 2 := by omega
        by_cases e : a = b
        · subst e
          rw [if_pos rfl, ih r s (by simp at hn; omega) hr hs, tv_snoc, tv_snoc, hpar']
          split <;> omega
        · rw [if_neg e]
          by_cases hlt : a < b
          · rw [if_pos hlt, decide_eq_true_iff]
            have hin : ∀ t ∈ r ++ [a], t ≤ b - 1 := fun t ht => by
              rcases List.mem_append.mp ht with ht | ht
              · have := hra t ht; omega
              · simp at ht; omega
            have hrg := (tv_range hA).mp hin
            have ho := top_out hB (k := b - 1) (by omega)
            constructor
            · intro h
              have := ho.1 h
              omega
            · intro h
              apply Classical.byContradiction
              intro hc
              have := ho.2 (by omega)
              omega
          · rw [if_neg hlt, decide_eq_true_iff]
            have hin : ∀ t ∈ s ++ [b], t ≤ a - 1 := fun t ht => by
              rcases List.mem_append.mp ht with ht | ht
              · have := hsb t ht; omega
              · simp at ht; omega
            have hrg := (tv_range hB).mp hin
            have ho := top_out hA (k := a - 1) (by omega)
            constructor
            · intro h
              have := ho.2 h
              omega
            · intro h
              apply Classical.byContradiction
              intro hc
              have := ho.1 (by omega)
              omega
theorem less_map {f : Nat → Nat} : ∀ (r s : List Nat), (∀ x ∈ r, ∀ y ∈ s, (x < y → f x < f y) ∧ (y < x → f y < f x)) → lessD (r.map f) (s.map f) = lessD r s
  | [], [], _ => rfl
  | [], b :: s, _ => by simp [lessD]
  | a :: r, [], _ => by simp [lessD]
  | a :: r, b :: s, h => by
    have hab := h a (by simp) b (by simp)
    show lessD (f a :: r.map f) (f b :: s.map f) = lessD (a :: r) (b :: s)
    simp only [lessD, List.length_map]
    have e1 : (f a = f b) ↔ a = b := by
      constructor
      · intro e
        rcases Nat.lt_trichotomy a b with c | c | c
        · have := hab.1 c; omega
        · exact c
        · have := hab.2 c; omega
      · rintro rfl; rfl
    have e2 : (f a < f b) ↔ a < b := by
      constructor
      · intro e
        rcases Nat.lt_trichotomy a b with c | c | c
        · exact c
        · subst c; omega
        · have := hab.2 c; omega
      · exact hab.1
    rw [less_map r s fun x hx y hy => h x (by simp [hx]) y (by simp [hy])]
    simp only [e1, e2]
theorem asc_map {f : Nat → Nat} {ts : List Nat} (h : Asc ts) (hf : ∀ x ∈ ts, ∀ y ∈ ts, x < y → f x < f y) : Asc (ts.map f) := by
  rw [asc_pairwise] at *
  rw [List.pairwise_map]
  exact h.imp_of_mem fun ha hb hab => hf _ ha _ hb hab
/-- places moved, the order kept: the values keep their order -/
theorem tv_map_lt {f : Nat → Nat} {ts us : List Nat} (hA : Asc ts) (hB : Asc us) (hf : ∀ x ∈ ts ++ us, ∀ y ∈ ts ++ us, x < y → f x < f y) (h : tv ts < tv us) : tv (ts.map f) < tv (us.map f) := by
  have hA' := asc_map hA fun x hx y hy => hf x (by simp [hx]) y (by simp [hy])
  have hB' := asc_map hB fun x hx y hy => hf x (by simp [hx]) y (by simp [hy])
  rw [← less_iff _ _ _ (Nat.le_refl _) hA' hB', ← List.map_reverse, ← List.map_reverse]
  rw [less_map]
  · exact (less_iff _ _ _ (Nat.le_refl _) hA hB).mpr h
  · intro x hx y hy
    simp at hx hy
    exact ⟨hf x (by simp [hx]) y (by simp [hy]), hf y (by simp [hy]) x (by simp [hx])⟩
/-! ### the turns of an integer as a function -/
noncomputable def turnsOf (n : Int) : List Nat := Classical.choose (turns_ex n)
theorem turnsOf_asc (n : Int) : Asc (turnsOf n) := (Classical.choose_spec (turns_ex n)).1
theorem turnsOf_tv (n : Int) : tv (turnsOf n) = n := (Classical.choose_spec (turns_ex n)).2
theorem turnsOf_eq {ts : List Nat} (h : Asc ts) : turnsOf (tv ts) = ts := tv_inj (turnsOf_asc _) h (turnsOf_tv _)
theorem turnsOf_is {ts : List Nat} {n : Int} (h : Asc ts) (e : tv ts = n) : turnsOf n = ts := e ▸ turnsOf_eq h
theorem even_of_nonneg {ts : List Nat} (h : Asc ts) (h0 : 0 ≤ tv ts) : ts.length % 2 = 0 := by
  rcases snoc_cases ts with rfl | ⟨r, a, rfl⟩
  · rfl
  · have := tv_sign h
    simp
    apply Classical.byContradiction
    intro hc
    have := this.1.mpr (by omega)
    omega
/-! ### digits of two hundred bits -/
def num : List Nat → Int
  | [] => 0
  | a :: r => (a : Int) + 2 ^ 200 * num r
theorem num_nonneg : ∀ ps : List Nat, 0 ≤ num ps
  | [] => Int.le_refl _
  | a :: r => by
    have := num_nonneg r
    have h2 : (0 : Int) ≤ 2 ^ 200 * num r := Int.mul_nonneg (Int.le_of_lt (Int.pow_pos (by decide))) this
    show 0 ≤ (a : Int) + 2 ^ 200 * num r
    omega
theorem num_set : ∀ (ps : List Nat) (d y : Nat) (a : Nat), ps[d]? = some a → num (ps.set d (a + y)) = num ps + y * 2 ^ (200 * d)
  | [], d, y, a, h => by simp at h
  | b :: r, 0, y, a, h => by
    simp at h
    subst h
    show ((b + y : Nat) : Int) + 2 ^ 200 * num r = (b : Int) + 2 ^ 200 * num r + y * 2 ^ 0
    rw [Int.pow_zero]
    omega
  | b :: r, d + 1, y, a, h => by
    have ih := num_set r d y a (by simpa using h)
    show (b : Int) + 2 ^ 200 * num (r.set d (a + y)) = (b : Int) + 2 ^ 200 * num r + y * 2 ^ (200 * (d + 1))
    rw [ih, Int.mul_add, show 200 * (d + 1) = 200 + 200 * d by omega, Int.pow_add]
    have : (2 : Int) ^ 200 * (y * 2 ^ (200 * d)) = y * (2 ^ 200 * 2 ^ (200 * d)) := by
      rw [← Int.mul_assoc, Int.mul_comm (2 ^ 200) (y : Int), Int.mul_assoc]
    rw [this]
    omega
theorem num_zero : ∀ m : Nat, num (List.replicate m 0) = 0
  | 0 => rfl
  | m + 1 => by
    show ((0 : Nat) : Int) + 2 ^ 200 * num (List.replicate m 0) = 0
    rw [num_zero m]
    simp
/-- m digits below B -/
def Dg (m B : Nat) (c : Int) : Prop := ∃ ps : List Nat, ps.length = m ∧ (∀ a ∈ ps, a < B) ∧ c = num ps
theorem Dg.mono {m B B' : Nat} {c : Int} (h : Dg m B c) (l : B ≤ B') : Dg m B' c := by
  obtain ⟨ps, h1, h2, h3⟩ := h
  exact ⟨ps, h1, fun a ha => Nat.lt_of_lt_of_le (h2 a ha) l, h3⟩
theorem Dg.nonneg {m B : Nat} {c : Int} (h : Dg m B c) : 0 ≤ c := by
  obtain ⟨ps, _, _, rfl⟩ := h
  exact num_nonneg ps
theorem Dg.zero {m B : Nat} (h : 0 < B) : Dg m B 0 := ⟨List.replicate m 0, by simp, fun a ha => by
  rw [List.mem_replicate] at ha
  omega, (num_zero m).symm⟩
theorem Dg.add {m B Y : Nat} {c : Int} (h : Dg m B c) {d y : Nat} (hd : d < m) (hy : y < Y) : Dg m (B + Y) (c + y * 2 ^ (200 * d)) := by
  obtain ⟨ps, h1, h2, rfl⟩ := h
  have hg : ps[d]? = some ps[d] := List.getElem?_eq_getElem (by omega)
  refine ⟨ps.set d (ps[d] + y), by simp [h1], fun a ha => ?_, (num_set ps d y _ hg).symm⟩
  rcases List.mem_or_eq_of_mem_set ha with ha | ha
  · have := h2 a ha; omega
  · have := h2 ps[d] (List.getElem_mem _)
    omega
theorem tb_add {a q : Nat} {c : Int} (ha : a < 2 ^ 200) : tb ((a : Int) + 2 ^ 200 * c) q = if q < 200 then tb (a : Int) q else tb c (q - 200) := by
  have hp : (0 : Int) < 2 ^ q := Int.pow_pos (by decide)
  split
  · rename_i hq
    unfold tb
    have e : (2 : Int) ^ 200 * c = 2 ^ q * (2 * (2 ^ (199 - q) * c)) := by
      rw [← Int.mul_assoc, ← Int.mul_assoc, ← Int.pow_succ, ← Int.pow_add]
      congr 2
      omega
    rw [e, Int.add_mul_ediv_left _ _ (Int.ne_of_gt hp)]
    congr 1
    apply propext
    constructor <;> intro h <;> omega
  · rename_i hq
    have e : ((a : Int) + 2 ^ 200 * c) / 2 ^ 200 = c := by
      rw [Int.add_mul_ediv_left _ _ (Int.ne_of_gt (Int.pow_pos (by decide)))]
      rw [Int.ediv_eq_zero_of_lt (by omega) (by
        have : ((2 ^ 200 : Nat) : Int) = (2 : Int) ^ 200 := by simp
        omega)]
      omega
    have := tb_shift ((a : Int) + 2 ^ 200 * c) 200 (q - 200)
    rw [e] at this
    rw [this]
    congr 1
    omega
theorem tb_small {a k q : Nat} (ha : a < 2 ^ k) (hq : k ≤ q) : tb (a : Int) q = false := by
  unfold tb
  have h1 : (a : Int) < 2 ^ q := by
    have : a < 2 ^ q := Nat.lt_of_lt_of_le ha (Nat.pow_le_pow_right (by decide) hq)
    have h3 : ((2 ^ q : Nat) : Int) = (2 : Int) ^ q := by simp
    omega
  rw [Int.ediv_eq_zero_of_lt (by omega) h1]
  rfl
/-- no turn of a code lies high in its digit -/
theorem dg_turns : ∀ (ps : List Nat), (∀ a ∈ ps, a < 2 ^ 100) → ∀ q, (ps.length ≤ q / 200 ∨ 100 ≤ q % 200) → tb (num ps) q = false
  | [], _, q, _ => tb_top q
  | a :: r, h, q, hq => by
    have ha := h a (by simp)
    have ha2 : a < 2 ^ 200 := Nat.lt_of_lt_of_le ha (Nat.pow_le_pow_right (by decide) (by decide))
    show tb ((a : Int) + 2 ^ 200 * num r) q = false
    rw [tb_add ha2]
    split
    · refine tb_small ha ?_
      simp at hq
      omega
    · refine dg_turns r (fun x hx => h x (by simp [hx])) (q - 200) ?_
      simp at hq
      omega
/-- a code's turns: fields below m, steps up to 101 -/
def CodeOk (m : Nat) (c : Int) : Prop := 0 ≤ c ∧ ∀ t ∈ turnsOf c, t / 200 < m ∧ t % 200 ≤ 101
theorem Dg.code {m B : Nat} {c : Int} (h : Dg m B c) (hB : B ≤ 2 ^ 100) : CodeOk m c := by
  refine ⟨h.nonneg, fun t ht => ?_⟩
  obtain ⟨ps, h1, h2, rfl⟩ := h
  have hz := dg_turns ps fun a ha => Nat.lt_of_lt_of_le (h2 a ha) hB
  have hm := (mem_tb (turnsOf_asc (num ps)) t).mp ht
  rw [turnsOf_tv] at hm
  apply Classical.byContradiction
  intro hc
  apply hm
  by_cases h0 : t = 0
  · subst h0
    rw [if_pos rfl]
    exact hz 0 (by omega)
  · rw [if_neg h0, hz t (by omega), hz (t - 1) (by omega)]
theorem code_range {m : Nat} {c : Int} (h : CodeOk m c) : -(2 ^ (200 * m)) ≤ c ∧ c < 2 ^ (200 * m) := by
  have := (tv_range (k := 200 * m) (turnsOf_asc c)).mp fun t ht => by
    have := h.2 t ht
    omega
  rwa [turnsOf_tv] at this
/-- where field i lies -/
def Fi (fs : List PyData) (i : Nat) : Nat := (val (fs.getD i (.int 0))).toNat
def phi (fs : List PyData) (t : Nat) : Nat := Fi fs (t / 200) + t % 200
theorem fields_step {fs : List PyData} (F : Fields fs) : ∀ i j, i < j → j < 4 → Fi fs i + 102 ≤ Fi fs j := by
  obtain ⟨f1, es2, es3, rfl, h1, h2, _, _, _, _, h3, h4, _⟩ := F.ex
  have e0 : Fi [.int 0, .int (f1 : Nat), .tuple es2, .tuple es3] 0 = 0 := by
    show (val (.int 0)).toNat = 0
    rw [val_int]; rfl
  have e1 : Fi [.int 0, .int (f1 : Nat), .tuple es2, .tuple es3] 1 = f1 := by
    show (val (.int (f1 : Nat))).toNat = f1
    rw [val_int]; omega
  have e2 : Fi [.int 0, .int (f1 : Nat), .tuple es2, .tuple es3] 2 = (val (.tuple es2)).toNat := rfl
  have e3 : Fi [.int 0, .int (f1 : Nat), .tuple es2, .tuple es3] 3 = (val (.tuple es3)).toNat := rfl
  have h140 : (2 : Int) ^ 65 < 2 ^ 140 := by decide
  intro i j hij hj
  have hi : i = 0 ∨ i = 1 ∨ i = 2 := by omega
  have hj' : j = 1 ∨ j = 2 ∨ j = 3 := by omega
  rcases hi with rfl | rfl | rfl <;> rcases hj' with rfl | rfl | rfl <;> first | omega | (simp only [e0, e1, e2, e3]; omega)
theorem phi_lt {fs : List PyData} (F : Fields fs) {m t u : Nat} (hm : m ≤ 4) (ht : t / 200 < m ∧ t % 200 ≤ 101) (hu : u / 200 < m ∧ u % 200 ≤ 101) (h : t < u) : phi fs t < phi fs u := by
  unfold phi
  by_cases e : t / 200 = u / 200
  · rw [e]
    omega
  · have := fields_step F (t / 200) (u / 200) (by omega) (by omega)
    omega
/-- the far number of a code -/
noncomputable def Phi (fs : List PyData) (c : Int) : Int := tv ((turnsOf c).map (phi fs))
theorem phi_asc {fs : List PyData} (F : Fields fs) {m : Nat} {c : Int} (hm : m ≤ 4) (h : CodeOk m c) : Asc ((turnsOf c).map (phi fs)) :=
  asc_map (turnsOf_asc c) fun x hx y hy hxy => phi_lt F hm (h.2 x hx) (h.2 y hy) hxy
theorem Phi_nonneg {fs : List PyData} (F : Fields fs) {m : Nat} {c : Int} (hm : m ≤ 4) (h : CodeOk m c) : 0 ≤ Phi fs c := by
  have hA := phi_asc F hm h
  have he := even_of_nonneg (turnsOf_asc c) (by rw [turnsOf_tv]; exact h.1)
  by_cases hn : (turnsOf c).map (phi fs) = []
  · unfold Phi
    rw [hn]
    exact Int.le_refl _
  · exact Int.le_of_lt (even_pos hA hn (by rw [List.length_map]; exact he))
theorem Phi_lt {fs : List PyData} (F : Fields fs) {m : Nat} {c d : Int} (hm : m ≤ 4) (hc : CodeOk m c) (hd : CodeOk m d) (h : c < d) : Phi fs c < Phi fs d := by
  refine tv_map_lt (turnsOf_asc c) (turnsOf_asc d) (fun x hx y hy hxy => ?_) (by rw [turnsOf_tv, turnsOf_tv]; exact h)
  have good : ∀ z ∈ turnsOf c ++ turnsOf d, z / 200 < m ∧ z % 200 ≤ 101 := fun z hz => (List.mem_append.mp hz).elim (hc.2 z) (hd.2 z)
  exact phi_lt F hm (good x hx) (good y hy) hxy
/-- a far place: a field and a step -/
theorem place_far {es : List PyData} {us : List Nat} {j : Nat} (hF : Fm (.tuple es)) (hl : ∀ t ∈ vals es, 150 ≤ t) (h0 : 0 ≤ val (.tuple es)) (hA : Asc us) (hj : tv us = j) (hu : ∀ t ∈ us, t ≤ 100) :
    Fm (.tuple (iD us ++ es)) ∧ val (.tuple (iD us ++ es)) = val (.tuple es) + j := by
  have hF' := (fm_tuple es).mp hF
  have he := even_of_nonneg hA (by omega)
  rw [fm_tuple, val_tuple, val_tuple, vals_app, vals_iD, fmAll_app, tv_append, if_pos he]
  refine ⟨⟨⟨fmAll_iD fun t ht => by have := hu t ht; omega, hF'.1⟩, ?_, ?_⟩, by omega⟩
  · rw [asc_pairwise, List.pairwise_append]
    exact ⟨asc_pairwise.mp hA, asc_pairwise.mp hF'.2.1, fun x hx y hy => by have := hu x hx; have := hl y hy; omega⟩
  · obtain ⟨t, ht, h64⟩ := hF'.2.2
    exact ⟨t, by simp [ht], h64⟩
/-- a little above the plain numbers: few turns -/
theorem near_int {d : PyData} (f : Fm d) (h0 : 0 ≤ val d) (hp : val d < 2 ^ 64) : wt d = 1 := by
  have e : d = .int (val d) := by
    cases d with
    | int i => rw [val_int]
    | tuple ds => exact absurd ⟨by omega, hp⟩ (tuple_far f)
    | none => simp [Fm] at f
    | bool _ => simp [Fm] at f
    | str _ => simp [Fm] at f
    | list _ => simp [Fm] at f
    | dict _ => simp [Fm] at f
  rw [e, wt_int]
/-- the weight of a code's turn, at most; of a code -/
def cw (t : Nat) : Nat := if t < 200 then 1 else 23
noncomputable def cwt (c : Int) : Nat := 1 + ((turnsOf c).map cw).sum
theorem near64 {d : PyData} (f : Fm d) (h0 : 0 ≤ val d) (h1 : val d < 2 ^ 64 + 102) : wt d ≤ 23 := by
  by_cases hp : val d < 2 ^ 64
  · rw [near_int f h0 hp]
    decide
  · obtain ⟨us, hA, e⟩ := turns_ex (val d - 2 ^ 64)
    have hb : ∀ t ∈ us, t ≤ 7 := (tv_range hA).mpr ⟨by omega, by omega⟩
    have hl := asc_len (a := 0) hA fun t ht => ⟨Nat.zero_le _, hb t ht⟩
    have hev : us.length % 2 = 0 := by
      by_cases hn : us = []
      · subst hn
        rfl
      · obtain ⟨a, r, rfl⟩ : ∃ a r, us = r ++ [a] := ⟨us.getLast hn, us.dropLast, (List.dropLast_concat_getLast hn).symm⟩
        have := tv_sign hA
        have h2 : ¬ tv (r ++ [a]) < 0 := by omega
        rw [this.1] at h2
        simp
        omega
    have hA2 : Asc (us ++ [64, 65]) := asc_pairwise.mpr (List.pairwise_append.mpr ⟨asc_pairwise.mp hA, by simp, fun x hx y hy => by
      have := hb x hx
      simp at hy
      omega⟩)
    obtain ⟨f1, f2⟩ := fm_small hA2 (fun t ht => by
      rcases List.mem_append.mp ht with ht | ht
      · have := hb t ht
        omega
      · simp at ht
        omega) ⟨65, by simp, by decide⟩
    have e2 : tv (us ++ [64, 65]) = tv us + tv [64, 65] := by
      rw [tv_append, if_pos hev]
    have e3 : tv [64, 65] = 2 ^ 64 := by decide
    rw [fm_inj f f1 (by rw [f2, e2, e3, e]; omega), wt_tuple, wtAll_iD, List.length_append]
    simp
    omega
/-- how many turns a code has -/
theorem code_len {m : Nat} {c : Int} {ts : List Nat} (hA : Asc ts) (h : ∀ t ∈ ts, t / 200 < m ∧ t % 200 ≤ 101) (hm : m ≤ 4) : ts.length ≤ 408 := by
  have h2 : Asc (ts.map fun t => t / 200 * 102 + t % 200) := asc_map hA fun x hx y hy hxy => by
    have := h x hx
    have := h y hy
    omega
  have h3 := asc_len (a := 0) (k := 407) h2 fun t ht => by
    obtain ⟨x, hx, rfl⟩ := List.mem_map.mp ht
    have := h x hx
    omega
  rw [List.length_map] at h3
  omega
theorem cw_sum : ∀ ts : List Nat, (ts.map cw).sum ≤ 23 * ts.length
  | [] => by simp
  | t :: r => by
    have := cw_sum r
    simp only [List.map_cons, List.sum_cons, List.length_cons]
    have : cw t ≤ 23 := by unfold cw; split <;> omega
    omega
theorem CodeOk.cwt {m : Nat} {c : Int} (h : CodeOk m c) (hm : m ≤ 4) : cwt c ≤ 12300 := by
  have h1 := code_len (c := c) (turnsOf_asc c) h.2 hm
  have h2 := cw_sum (turnsOf c)
  unfold FC.cwt
  omega
theorem cwts_le {m : Nat} (hm : m ≤ 4) : ∀ {cs : List Int}, (∀ c ∈ cs, CodeOk m c) → (cs.map cwt).sum ≤ 12300 * cs.length
  | [], _ => by simp
  | c :: r, h => by
    have h1 := (h c (by simp)).cwt hm
    have h2 := cwts_le hm (cs := r) fun x hx => h x (by simp [hx])
    simp only [List.map_cons, List.sum_cons, List.length_cons]
    omega
end FC
set_option Elab.async false
set_option linter.all false
set_option maxRecDepth 100000
/-! sums of powers of two at far places, known by sums at near places -/
namespace MS
open PySem PySem.Spec TV FM FC
theorem tv_map_add (Q : Nat) (ts : List Nat) : tv (ts.map (· + Q)) = 2 ^ Q * tv ts := by
  induction Q with
  | zero => simp
  | succ Q ih =>
    have : ts.map (· + (Q + 1)) = (ts.map (· + Q)).map (· + 1) := by
      rw [List.map_map]
      rfl
    rw [this, tv_map_succ, ih, Int.pow_succ, Int.mul_comm (2 ^ Q) 2, Int.mul_assoc]
theorem asc_map_add (Q : Nat) {ts : List Nat} (h : Asc ts) : Asc (ts.map (· + Q)) := asc_map h fun x _ y _ hxy => by omega
theorem turns_app {L Hh : Int} {Q : Nat} (hL : ∀ t ∈ turnsOf L, t < Q) : turnsOf (L + 2 ^ Q * Hh) = turnsOf L ++ (turnsOf (if (turnsOf L).length % 2 = 0 then Hh else -Hh)).map (· + Q) := by
  refine turnsOf_is ?_ ?_
  · refine asc_pairwise.mpr (List.pairwise_append.mpr ⟨asc_pairwise.mp (turnsOf_asc L), asc_pairwise.mp (asc_map_add Q (turnsOf_asc _)), fun x hx y hy => ?_⟩)
    obtain ⟨z, _, rfl⟩ := List.mem_map.mp hy
    have := hL x hx
    omega
  · rw [tv_append, tv_map_add, turnsOf_tv, turnsOf_tv]
    by_cases h : (turnsOf L).length % 2 = 0
    · rw [if_pos h, if_pos h]
    · rw [if_neg h, if_neg h, Int.mul_neg, Int.neg_neg]
theorem stretch {L Hh : Int} {Q δ : Nat} (hL : ∀ t ∈ turnsOf L, t < Q) : turnsOf (L + 2 ^ (Q + δ) * Hh) = (turnsOf (L + 2 ^ Q * Hh)).map fun t => if t < Q then t else t + δ := by
  rw [turns_app hL, turns_app (Q := Q + δ) fun t ht => by have := hL t ht; omega, List.map_append, List.map_map]
  congr 1
  · conv => lhs; rw [← List.map_id (turnsOf L)]
    refine List.map_congr_left fun t ht => ?_
    rw [if_pos (hL t ht)]
    rfl
  · refine List.map_congr_left fun t _ => ?_
    show t + (Q + δ) = if t + Q < Q then t + Q else t + Q + δ
    rw [if_neg (by omega)]
    omega
/-- the sum of the terms, each at its place -/
def Sm (T : List (Nat × Int)) (π : Nat → Nat) : Int := (T.map fun t => t.2 * 2 ^ π t.1).sum
def Ab (T : List (Nat × Int)) : Nat := (T.map fun t => t.2.natAbs).sum
theorem Sm_congr {T : List (Nat × Int)} {π π' : Nat → Nat} (h : ∀ t ∈ T, π t.1 = π' t.1) : Sm T π = Sm T π' := by
  unfold Sm
  congr 1
  refine List.map_congr_left fun t ht => ?_
  rw [h t ht]
theorem Sm_split {π : Nat → Nat} (k : Nat) : ∀ T : List (Nat × Int), Sm T π = Sm (T.filter fun t => decide (t.1 < k)) π + Sm (T.filter fun t => !decide (t.1 < k)) π
  | [] => rfl
  | t :: r => by
    have ih := Sm_split (π := π) k r
    unfold Sm at *
    rw [List.map_cons, List.sum_cons, ih]
    by_cases h : t.1 < k
    · rw [List.filter_cons_of_pos (by simpa using h), List.filter_cons_of_neg (by simpa using h), List.map_cons, List.sum_cons, Int.add_assoc]
    · rw [List.filter_cons_of_neg (by simpa using h), List.filter_cons_of_pos (by simpa using h), List.map_cons, List.sum_cons]
      omega
theorem Sm_lift {π : Nat → Nat} {Q : Nat} : ∀ {T : List (Nat × Int)}, (∀ t ∈ T, Q ≤ π t.1) → Sm T π = 2 ^ Q * Sm T fun i => π i - Q
  | [], _ => by simp [Sm]
  | t :: r, h => by
    have ih := Sm_lift (π := π) (Q := Q) (T := r) fun t ht => h t (by simp [ht])
    unfold Sm at *
    rw [List.map_cons, List.sum_cons, ih, List.map_cons, List.sum_cons, Int.mul_add]
    congr 1
    have e : π t.1 = Q + (π t.1 - Q) := by
      have := h t (by simp)
      omega
    show t.2 * 2 ^ π t.1 = 2 ^ Q * (t.2 * 2 ^ (π t.1 - Q))
    conv => lhs; rw [e, Int.pow_add]
    rw [Int.mul_left_comm]
theorem Ab_filter (p : Nat × Int → Bool) : ∀ T, Ab (T.filter p) ≤ Ab T
  | [] => Nat.le_refl _
  | t :: r => by
    have ih := Ab_filter p r
    unfold Ab at *
    rw [List.map_cons, List.sum_cons]
    cases h : p t
    · rw [List.filter_cons_of_neg (by simp [h])]
      omega
    · rw [List.filter_cons_of_pos h, List.map_cons, List.sum_cons]
      omega
theorem Sm_abs {π : Nat → Nat} {b : Nat} : ∀ {T : List (Nat × Int)}, (∀ t ∈ T, π t.1 ≤ b) → (Sm T π).natAbs ≤ Ab T * 2 ^ b
  | [], _ => by simp [Sm]
  | t :: r, h => by
    have ih := Sm_abs (π := π) (b := b) (T := r) fun t ht => h t (by simp [ht])
    unfold Sm Ab at *
    rw [List.map_cons, List.sum_cons, List.map_cons, List.sum_cons, Nat.add_mul]
    have h1 : (t.2 * 2 ^ π t.1).natAbs ≤ t.2.natAbs * 2 ^ b := by
      rw [Int.natAbs_mul, Int.natAbs_pow]
      exact Nat.mul_le_mul_left _ (Nat.pow_le_pow_right (by decide) (h t (by simp)))
    have := Int.natAbs_add_le (t.2 * 2 ^ π t.1) (r.map fun t => t.2 * 2 ^ π t.1).sum
    omega
theorem turns_lt {n : Int} {b c : Nat} (h : n.natAbs ≤ 2 ^ c * 2 ^ b) : ∀ t ∈ turnsOf n, t ≤ b + c + 1 := by
  refine (tv_range (turnsOf_asc n)).mpr ?_
  rw [turnsOf_tv]
  have e : (2 : Int) ^ (b + c + 1) = ((2 ^ c * 2 ^ b * 2 : Nat) : Int) := by
    rw [Int.pow_succ, Nat.add_comm b c, Int.pow_add]
    simp
  have hp : 0 < 2 ^ c * 2 ^ b := Nat.mul_pos (Nat.pow_pos (by decide)) (Nat.pow_pos (by decide))
  rw [e]
  omega
theorem stretch_sum {T : List (Nat × Int)} {π π' : Nat → Nat} {k Q δ : Nat} (hlow : ∀ t ∈ T, t.1 < k → π t.1 + 120 ≤ Q ∧ π' t.1 = π t.1) (hhigh : ∀ t ∈ T, k ≤ t.1 → Q ≤ π t.1 ∧ π' t.1 = π t.1 + δ) (hb : Ab T ≤ 2 ^ 100) :
    turnsOf (Sm T π') = (turnsOf (Sm T π)).map fun t => if t < Q then t else t + δ := by
  have e1 := Sm_split (π := π) k T
  have e2 := Sm_split (π := π') k T
  have l1 : ∀ t ∈ T.filter (fun t => decide (t.1 < k)), t ∈ T ∧ t.1 < k := fun t ht => by simpa using List.mem_filter.mp ht
  have l2 : ∀ t ∈ T.filter (fun t => !decide (t.1 < k)), t ∈ T ∧ k ≤ t.1 := fun t ht => by simpa using List.mem_filter.mp ht
  have e3 : Sm (T.filter fun t => decide (t.1 < k)) π' = Sm (T.filter fun t => decide (t.1 < k)) π := Sm_congr fun t ht => (hlow t (l1 t ht).1 (l1 t ht).2).2
  have e4 : Sm (T.filter fun t => !decide (t.1 < k)) π = 2 ^ Q * _ := Sm_lift fun t ht => (hhigh t (l2 t ht).1 (l2 t ht).2).1
  have e5 : Sm (T.filter fun t => !decide (t.1 < k)) π' = 2 ^ (Q + δ) * _ := Sm_lift fun t ht => by
    have := hhigh t (l2 t ht).1 (l2 t ht).2
    omega
  have e6 : Sm (T.filter fun t => !decide (t.1 < k)) (fun i => π' i - (Q + δ)) = Sm (T.filter fun t => !decide (t.1 < k)) (fun i => π i - Q) := Sm_congr fun t ht => by
    have := hhigh t (l2 t ht).1 (l2 t ht).2
    show π' t.1 - (Q + δ) = π t.1 - Q
    omega
  rw [e1, e2, e3, e4, e5, e6]
  refine stretch fun t ht => ?_
  by_cases hn : T.filter (fun t => decide (t.1 < k)) = []
  · rw [hn] at ht
    have : turnsOf (Sm [] π) = [] := turnsOf_is (ts := []) trivial rfl
    rw [this] at ht
    exact absurd ht (by simp)
  · obtain ⟨u, hu⟩ := List.exists_mem_of_ne_nil _ hn
    have hq := (hlow u (l1 u hu).1 (l1 u hu).2).1
    have h1 := Sm_abs (π := π) (b := Q - 120) (T := T.filter fun t => decide (t.1 < k)) fun t ht => by
      have := (hlow t (l1 t ht).1 (l1 t ht).2).1
      omega
    have h2 := Nat.le_trans (Ab_filter (fun t => decide (t.1 < k)) T) hb
    have h3 := Nat.le_trans h1 (Nat.mul_le_mul_right (2 ^ (Q - 120)) h2)
    have := turns_lt (c := 100) h3 t ht
    omega
/-- places near and far: the same steps, but that a step of 120 may stand for a longer one -/
structure Near (n : Nat) (q P : Nat → Nat) : Prop where
  z : q 0 = 0
  s : ∀ k, k + 1 < n → q k ≤ q (k + 1) ∧ ((P (k + 1) = P k + (q (k + 1) - q k)) ∨ (q (k + 1) = q k + 120 ∧ P k + 120 ≤ P (k + 1)))
theorem Near.mono {n : Nat} {q P : Nat → Nat} (h : Near n q P) {i : Nat} : ∀ {j : Nat}, i ≤ j → j < n → q i ≤ q j ∧ q j - q i + P i ≤ P j
  | 0, hij, hj => by
    have : i = 0 := by omega
    subst this
    omega
  | j + 1, hij, hj => by
    by_cases e : i = j + 1
    · subst e
      omega
    · have ih := h.mono (i := i) (j := j) (by omega) (by omega)
      have := h.s j hj
      omega
theorem Near.le {n : Nat} {q P : Nat → Nat} (h : Near n q P) {i : Nat} (hi : i < n) : q i ≤ P i := by
  have := h.mono (Nat.zero_le i) hi
  have := h.z
  omega
def At (n : Nat) (q : Nat → Nat) (at_ : Nat → Nat) (t : Nat) : Prop := at_ t < n ∧ q (at_ t) ≤ t ∧ (at_ t + 1 = n ∨ t < q (at_ t + 1))
theorem near_turns {n : Nat} {q P at_ : Nat → Nat} {T : List (Nat × Int)} (N : Near n q P) (hT : ∀ t ∈ T, t.1 < n) (hb : Ab T ≤ 2 ^ 100) (ha : ∀ t ∈ turnsOf (Sm T q), At n q at_ t) :
    turnsOf (Sm T P) = (turnsOf (Sm T q)).map fun t => t + (P (at_ t) - q (at_ t)) := by
  let Dk : Nat → Nat := fun k => if k = 0 then 0 else P (k - 1) - q (k - 1)
  let πk : Nat → Nat → Nat := fun k i => if i < k then q i else P i - Dk k
  let fk : Nat → Nat → Nat := fun k t => if k ≤ at_ t then t + (P (at_ t) - q (at_ t)) - Dk k else t
  have main : ∀ j, j ≤ n → turnsOf (Sm T (πk (n - j))) = (turnsOf (Sm T q)).map (fk (n - j)) := by
    intro j
    induction j with
    | zero =>
      intro _
      have e1 : Sm T (πk (n - 0)) = Sm T q := Sm_congr fun t ht => by
        show (if t.1 < n - 0 then q t.1 else _) = _
        rw [if_pos (show t.1 < n - 0 from hT t ht)]
      have e2 : (turnsOf (Sm T q)).map (fk (n - 0)) = (turnsOf (Sm T q)).map id := List.map_congr_left fun t ht => by
        show (if n - 0 ≤ at_ t then _ else t) = t
        rw [if_neg (by have := (ha t ht).1; omega)]
      rw [e1, e2, List.map_id]
    | succ j ih =>
      intro hj
      have ih := ih (by omega)
      obtain ⟨k, hk⟩ : ∃ k, n - (j + 1) = k := ⟨_, rfl⟩
      have hk1 : n - j = k + 1 := by omega
      have hkn : k < n := by omega
      rw [hk]
      rw [hk1] at ih
      have hD1 : Dk (k + 1) = P k - q k := by
        show (if k + 1 = 0 then 0 else P (k + 1 - 1) - q (k + 1 - 1)) = _
        rw [if_neg (by omega), Nat.add_sub_cancel]
      have hqk := N.le hkn
      have hmono : ∀ i, k ≤ i → i < n → q k ≤ q i ∧ q i - q k + P k ≤ P i := fun i h1 h2 => N.mono h1 h2
      have hDle : Dk k ≤ P k - q k ∧ (Dk k = P k - q k ∨ ∀ i, i < k → q i + 120 ≤ q k) := by
        show (if k = 0 then 0 else P (k - 1) - q (k - 1)) ≤ P k - q k ∧ ((if k = 0 then 0 else P (k - 1) - q (k - 1)) = P k - q k ∨ _)
        by_cases h0 : k = 0
        · rw [if_pos h0]
          exact ⟨Nat.zero_le _, .inr fun i hi => by omega⟩
        · rw [if_neg h0]
          have hs := N.s (k - 1) (by omega)
          rw [show k - 1 + 1 = k by omega] at hs
          have hq1 := N.le (i := k - 1) (by omega)
          refine ⟨by omega, ?_⟩
          rcases hs.2 with hs2 | hs2
          · left
            omega
          · right
            intro i hi
            have := (N.mono (i := i) (j := k - 1) (by omega) (by omega)).1
            omega
      have hat : ∀ t ∈ turnsOf (Sm T q), (at_ t < k → t < q k) ∧ (k ≤ at_ t → q k ≤ t ∧ P k - q k ≤ P (at_ t) - q (at_ t)) := fun t ht => by
        obtain ⟨a1, a2, a3⟩ := ha t ht
        refine ⟨fun h => ?_, fun h => ?_⟩
        · have := (N.mono (i := at_ t + 1) (j := k) (by omega) hkn).1
          omega
        · have := hmono (at_ t) h a1
          have := N.le a1
          omega
      by_cases hδ : Dk k = P k - q k
      · have e1 : Sm T (πk k) = Sm T (πk (k + 1)) := Sm_congr fun t ht => by
          have htn := hT t ht
          show (if t.1 < k then q t.1 else P t.1 - Dk k) = (if t.1 < k + 1 then q t.1 else P t.1 - Dk (k + 1))
          by_cases h1 : t.1 < k
          · rw [if_pos h1, if_pos (by omega)]
          · rw [if_neg h1]
            by_cases h2 : t.1 = k
            · rw [if_pos (by omega), h2]
              omega
            · rw [if_neg (by omega), hD1, hδ]
        rw [e1, ih]
        refine List.map_congr_left fun t ht => ?_
        have hh := hat t ht
        show (if k + 1 ≤ at_ t then t + (P (at_ t) - q (at_ t)) - Dk (k + 1) else t) = (if k ≤ at_ t then t + (P (at_ t) - q (at_ t)) - Dk k else t)
        by_cases h1 : k + 1 ≤ at_ t
        · rw [if_pos h1, if_pos (by omega), hD1, hδ]
        · rw [if_neg h1]
          by_cases h2 : k ≤ at_ t
          · have : at_ t = k := by omega
            rw [if_pos h2, this]
            omega
          · rw [if_neg h2]
      · have hcap := hDle.2.resolve_left hδ
        have hst := stretch_sum (T := T) (π := πk (k + 1)) (π' := πk k) (k := k) (Q := q k) (δ := P k - q k - Dk k) (fun t ht hlt => ?_) (fun t ht hge => ?_) hb
        · rw [hst, ih, List.map_map]
          refine List.map_congr_left fun t ht => ?_
          have hh := hat t ht
          show (if fk (k + 1) t < q k then fk (k + 1) t else fk (k + 1) t + (P k - q k - Dk k)) = (if k ≤ at_ t then t + (P (at_ t) - q (at_ t)) - Dk k else t)
          by_cases h2 : k ≤ at_ t
          · have h3 := hh.2 h2
            rw [if_pos h2]
            by_cases h1 : k + 1 ≤ at_ t
            · have ef : fk (k + 1) t = t + (P (at_ t) - q (at_ t)) - Dk (k + 1) := if_pos h1
              rw [ef, hD1, if_neg (by omega)]
              omega
            · have ef : fk (k + 1) t = t := if_neg h1
              have : at_ t = k := by omega
              rw [ef, if_neg (by omega), this]
              omega
          · have ef : fk (k + 1) t = t := if_neg (by omega)
            rw [if_neg h2, ef, if_pos (hh.1 (by omega))]
        · refine ⟨?_, ?_⟩
          · show (if t.1 < k + 1 then q t.1 else _) + 120 ≤ q k
            rw [if_pos (by omega)]
            exact hcap _ hlt
          · show (if t.1 < k then q t.1 else _) = (if t.1 < k + 1 then q t.1 else _)
            rw [if_pos hlt, if_pos (by omega)]
        · have hm := hmono t.1 hge (hT t ht)
          show q k ≤ (if t.1 < k + 1 then q t.1 else P t.1 - Dk (k + 1)) ∧ (if t.1 < k then q t.1 else P t.1 - Dk k) = (if t.1 < k + 1 then q t.1 else P t.1 - Dk (k + 1)) + (P k - q k - Dk k)
          rw [if_neg (show ¬ t.1 < k by omega), hD1]
          by_cases h2 : t.1 = k
          · rw [if_pos (show t.1 < k + 1 by omega), h2]
            omega
          · rw [if_neg (show ¬ t.1 < k + 1 by omega)]
            omega
  have h0 := main n (Nat.le_refl n)
  rw [Nat.sub_self] at h0
  have e1 : Sm T (πk 0) = Sm T P := Sm_congr fun t _ => by
    show (if t.1 < 0 then q t.1 else P t.1 - 0) = P t.1
    rw [if_neg (by omega)]
    rfl
  rw [← e1, h0]
  refine List.map_congr_left fun t ht => ?_
  show (if 0 ≤ at_ t then t + (P (at_ t) - q (at_ t)) - 0 else t) = _
  rw [if_pos (Nat.zero_le _)]
  rfl
end MS
set_option Elab.async false
set_option linter.all false
set_option maxRecDepth 100000
/-! how many turns a sum of powers of two has -/
namespace MS
open PySem PySem.Spec TV FM FC
noncomputable def tau (n : Int) : Nat := (turnsOf n).length
theorem turns_dbl (m : Int) : turnsOf (2 * m) = (turnsOf m).map (· + 1) := turnsOf_is (asc_succ (turnsOf_asc m)) (by rw [tv_map_succ, turnsOf_tv])
theorem tau_dbl (m : Int) : tau (2 * m) = tau m := by
  unfold tau
  rw [turns_dbl, List.length_map]
theorem zero_turn (m : Int) : 0 ∈ turnsOf m ↔ m % 2 = 1 := by
  have := mem_tb (turnsOf_asc m) 0
  rw [turnsOf_tv, if_pos rfl, tb_zero] at this
  rw [this]
  simp
theorem tau_odd (m : Int) : tau (2 * m + 1) = tau m + if m % 2 = 0 then 2 else 0 := by
  by_cases h : m % 2 = 0
  · rw [if_pos h]
    have h0 : ∀ t ∈ turnsOf m, 0 < t := fun t ht => by
      apply Nat.pos_of_ne_zero
      intro e
      subst e
      have := (zero_turn m).mp ht
      omega
    have e : turnsOf (2 * m + 1) = 0 :: 1 :: (turnsOf m).map (· + 1) := by
      refine turnsOf_is (asc_cons (fun b hb => ?_) (asc_cons (fun b hb => ?_) (asc_succ (turnsOf_asc m)))) ?_
      · simp only [List.mem_cons, List.mem_map] at hb
        rcases hb with rfl | ⟨t, _, rfl⟩
        · decide
        · omega
      · obtain ⟨t, ht, rfl⟩ := List.mem_map.mp hb
        have := h0 t ht
        omega
      · rw [tv_cons, tv_cons, tv_map_succ, turnsOf_tv]
        omega
    unfold tau
    rw [e]
    simp
  · rw [if_neg h]
    have hz := (zero_turn m).mpr (by omega)
    have hA := turnsOf_asc m
    have hv := turnsOf_tv m
    unfold tau
    cases ht : turnsOf m with
    | nil => rw [ht] at hz; exact absurd hz (by simp)
    | cons a r =>
      rw [ht] at hz hA hv
      have ha : a = 0 := by
        rcases List.mem_cons.mp hz with e | e
        · exact e.symm
        · have := hA.lt 0 e
          omega
      subst ha
      have e : turnsOf (2 * m + 1) = 0 :: r.map (· + 1) := by
        refine turnsOf_is (asc_cons (fun b hb => ?_) (asc_succ hA.tail)) ?_
        · obtain ⟨t, _, rfl⟩ := List.mem_map.mp hb
          omega
        · rw [tv_cons, tv_map_succ]
          rw [tv_cons] at hv
          omega
      rw [e]
      simp
theorem half_ind {p : Int → Prop} (h0 : p 0) (h1 : p (-1)) (hs : ∀ m, p m → p (2 * m) ∧ p (2 * m + 1)) : ∀ n, p n := by
  have : ∀ k : Nat, ∀ n : Int, n.natAbs ≤ k → p n := by
    intro k
    induction k with
    | zero =>
      intro n hn
      have : n = 0 := by omega
      exact this ▸ h0
    | succ k ih =>
      intro n hn
      by_cases e0 : n = 0
      · exact e0 ▸ h0
      · by_cases e1 : n = -1
        · exact e1 ▸ h1
        · have := hs (n / 2) (ih (n / 2) (by omega))
          by_cases e : n % 2 = 0
          · have e2 : n = 2 * (n / 2) := by omega
            rw [e2]
            exact this.1
          · have e2 : n = 2 * (n / 2) + 1 := by omega
            rw [e2]
            exact this.2
  intro n
  exact this n.natAbs n (Nat.le_refl _)
theorem tau_zero : tau 0 = 0 := by
  unfold tau
  rw [show turnsOf 0 = [] from turnsOf_is (ts := []) trivial rfl]
  rfl
theorem tau_neg1 : tau (-1) = 1 := by
  unfold tau
  rw [turnsOf_is (ts := [0]) trivial (by decide)]
  rfl
theorem tau_one : tau 1 = 2 := by
  unfold tau
  rw [turnsOf_is (ts := [0, 1]) ⟨by decide, trivial⟩ (by decide)]
  rfl
theorem tau_s : ∀ n : Int, tau (n + 1) ≤ tau n + (if n % 2 = 0 then 2 else 0) ∧ tau n ≤ tau (n + 1) + (if n % 2 = 0 then 0 else 2) := by
  refine half_ind ?_ ?_ fun m ih => ⟨?_, ?_⟩
  · rw [show (0 : Int) + 1 = 1 by decide, tau_zero, tau_one]
    simp
  · rw [show (-1 : Int) + 1 = 0 by decide, tau_zero, tau_neg1]
    simp
  · rw [tau_odd, tau_dbl, if_pos (show 2 * m % 2 = 0 by omega), if_pos (show 2 * m % 2 = 0 by omega)]
    split <;> omega
  · rw [show 2 * m + 1 + 1 = 2 * (m + 1) by omega, tau_dbl, tau_odd, if_neg (show ¬ (2 * m + 1) % 2 = 0 by omega), if_neg (show ¬ (2 * m + 1) % 2 = 0 by omega)]
    obtain ⟨h1, h2⟩ := ih
    split at h1 <;> split at h2 <;> split <;> omega
/-- one more power of two, one less: two more turns at most -/
theorem tau_pow : ∀ (p : Nat) (n : Int), tau (n + 2 ^ p) ≤ tau n + 2 ∧ tau n ≤ tau (n + 2 ^ p) + 2
  | 0, n => by
    have := tau_s n
    rw [show (2 : Int) ^ 0 = 1 from rfl]
    obtain ⟨h1, h2⟩ := this
    split at h1 <;> split at h2 <;> omega
  | p + 1, n => by
    have ih := tau_pow p (n / 2)
    by_cases e : n % 2 = 0
    · have e1 : n = 2 * (n / 2) := by omega
      have e2 : n + 2 ^ (p + 1) = 2 * (n / 2 + 2 ^ p) := by rw [Int.pow_succ]; omega
      rw [e2, tau_dbl]
      have e3 : tau n = tau (n / 2) := by
        conv => lhs; rw [e1]
        exact tau_dbl _
      rw [e3]
      exact ih
    · have e1 : n = 2 * (n / 2) + 1 := by omega
      have e2 : n + 2 ^ (p + 1) = 2 * (n / 2 + 2 ^ p) + 1 := by rw [Int.pow_succ]; omega
      have e3 : tau n = tau (n / 2) + if n / 2 % 2 = 0 then 2 else 0 := by
        conv => lhs; rw [e1]
        exact tau_odd _
      rw [e2, tau_odd, e3]
      cases p with
      | zero =>
        rw [show (2 : Int) ^ 0 = 1 from rfl]
        have h := tau_s (n / 2)
        by_cases e4 : n / 2 % 2 = 0
        · rw [if_pos e4, if_neg (by omega)]
          rw [if_pos e4, if_pos e4] at h
          have e5 : n / 2 = 2 * (n / 2 / 2) := by omega
          have h6 := tau_dbl (n / 2 / 2)
          have h7 := tau_odd (n / 2 / 2)
          rw [← e5] at h6 h7
          omega
        · rw [if_neg e4, if_pos (by omega)]
          rw [if_neg e4, if_neg e4] at h
          omega
      | succ p =>
        have : (2 : Int) ^ (p + 1) = 2 ^ p * 2 := Int.pow_succ 2 p
        by_cases e4 : n / 2 % 2 = 0
        · rw [if_pos e4, if_pos (by omega)]
          omega
        · rw [if_neg e4, if_neg (by omega)]
          omega
theorem tau_mul {p : Nat} : ∀ (k : Nat) (n : Int), tau (n + k * 2 ^ p) ≤ tau n + 2 * k ∧ tau (n - k * 2 ^ p) ≤ tau n + 2 * k
  | 0, n => by simp
  | k + 1, n => by
    have ih := tau_mul (p := p) k n
    have h1 := (tau_pow p (n + k * 2 ^ p)).1
    have h2 := (tau_pow p (n - k * 2 ^ p - 2 ^ p)).2
    rw [show n - k * 2 ^ p - 2 ^ p + 2 ^ p = n - k * 2 ^ p by omega] at h2
    rw [show n + ((k + 1 : Nat) : Int) * 2 ^ p = n + k * 2 ^ p + 2 ^ p by rw [Int.natCast_add, Int.add_mul]; simp; omega, show n - ((k + 1 : Nat) : Int) * 2 ^ p = n - k * 2 ^ p - 2 ^ p by rw [Int.natCast_add, Int.add_mul]; simp; omega]
    omega
theorem tau_add (n c : Int) (p : Nat) : tau (n + c * 2 ^ p) ≤ tau n + 2 * c.natAbs := by
  have := tau_mul (p := p) c.natAbs n
  by_cases h : 0 ≤ c
  · have e : ((c.natAbs : Nat) : Int) = c := by omega
    rw [e] at this
    exact this.1
  · have e : ((c.natAbs : Nat) : Int) = -c := by omega
    rw [e, Int.neg_mul, Int.sub_neg] at this
    exact this.2
theorem tau_Sm {π : Nat → Nat} : ∀ T : List (Nat × Int), tau (Sm T π) ≤ 2 * Ab T
  | [] => by
    show tau 0 ≤ _
    rw [tau_zero]
    exact Nat.zero_le _
  | t :: r => by
    have ih := tau_Sm (π := π) r
    have := tau_add (Sm r π) t.2 (π t.1)
    unfold Sm Ab at *
    rw [List.map_cons, List.sum_cons, List.map_cons, List.sum_cons, Int.add_comm]
    omega
end MS
set_option Elab.async false
set_option linter.all false
set_option maxRecDepth 100000
/-! codes: digits, few turns in the far fields; the places that they stand for, near and far -/
namespace FD
open PySem PySem.Spec TV FM FB FC MS
/-- m digits below B; w turns at most in the far fields -/
def Dw (m B w : Nat) (c : Int) : Prop := ∃ (a : Nat) (r : List Nat), r.length + 1 = m ∧ a < B ∧ (∀ x ∈ r, x < B) ∧ c = (a : Int) + 2 ^ 200 * num r ∧ tau (num r) ≤ w
theorem Dw.dg {m B w : Nat} {c : Int} (h : Dw m B w c) : Dg m B c := by
  obtain ⟨a, r, h1, h2, h3, h4, h5⟩ := h
  exact ⟨a :: r, h1, fun x hx => (List.mem_cons.mp hx).elim (fun e => e ▸ h2) (h3 x), h4⟩
theorem Dw.mono {m B B' w w' : Nat} {c : Int} (h : Dw m B w c) (l : B ≤ B') (l2 : w ≤ w') : Dw m B' w' c := by
  obtain ⟨a, r, h1, h2, h3, h4, h5⟩ := h
  exact ⟨a, r, h1, by omega, fun x hx => by have := h3 x hx; omega, h4, by omega⟩
theorem Dw.code {m B w : Nat} {c : Int} (h : Dw m B w c) (hB : B ≤ 2 ^ 100) : CodeOk m c := h.dg.code hB
theorem Dw.nonneg {m B w : Nat} {c : Int} (h : Dw m B w c) : 0 ≤ c := h.dg.nonneg
theorem Dw.nat {m B x : Nat} (hm : 1 ≤ m) (hx : x < B) : Dw m B 0 (x : Nat) := by
  refine ⟨x, List.replicate (m - 1) 0, by simp; omega, hx, fun y hy => ?_, ?_, ?_⟩
  · rw [List.mem_replicate] at hy
    omega
  · rw [num_zero]
    simp
  · rw [num_zero, tau_zero]
    exact Nat.le_refl _
theorem Dw.add {m B Y w y : Nat} {c : Int} (h : Dw m B w c) (hy : y < Y) : Dw m (B + Y) w (c + (y : Nat)) := by
  obtain ⟨a, r, h1, h2, h3, rfl, h5⟩ := h
  exact ⟨a + y, r, h1, by omega, fun x hx => by have := h3 x hx; omega, by omega, h5⟩
/-- a number of at most two signed powers -/
def Two (y : Nat) : Prop := ∃ (a b : Nat) (s : Int), s.natAbs ≤ 1 ∧ (y : Int) = 2 ^ a + s * 2 ^ b
theorem Two.shl {y : Nat} (h : Two y) (k : Nat) : Two (y * 2 ^ k) := by
  obtain ⟨a, b, s, hs, e⟩ := h
  refine ⟨a + k, b + k, s, hs, ?_⟩
  rw [Int.pow_add, Int.pow_add, ← Int.mul_assoc, ← Int.add_mul, ← e]
  simp
theorem Dw.far {m B Y w y d : Nat} {c : Int} (h : Dw m B w c) (h0 : 1 ≤ d) (hd : d < m) (hy : y < Y) (ht : Two y) : Dw m (B + Y) (w + 4) (c + (y : Nat) * 2 ^ (200 * d)) := by
  obtain ⟨a, r, h1, h2, h3, rfl, h5⟩ := h
  obtain ⟨e, rfl⟩ : ∃ e, d = e + 1 := ⟨d - 1, by omega⟩
  have hg : r[e]? = some r[e] := List.getElem?_eq_getElem (by omega)
  have hn := num_set r e y _ hg
  refine ⟨a, r.set e (r[e] + y), by simp [h1], by omega, fun x hx => ?_, ?_, ?_⟩
  · rcases List.mem_or_eq_of_mem_set hx with hx | hx
    · have := h3 x hx; omega
    · have := h3 r[e] (List.getElem_mem _)
      omega
  · rw [hn, Int.mul_add, show 200 * (e + 1) = 200 + 200 * e by omega, Int.pow_add, Int.mul_left_comm]
    omega
  · rw [hn]
    obtain ⟨p, q, s, hs, ey⟩ := ht
    rw [ey, Int.add_mul, ← Int.pow_add, Int.mul_assoc, ← Int.pow_add, ← Int.add_assoc]
    have h6 := tau_add (num r + 2 ^ (p + 200 * e)) s (q + 200 * e)
    have h7 := (tau_pow (p + 200 * e) (num r)).1
    omega
/-- the far number of a row of digits from field j on -/
def far (fs : List PyData) : Nat → List Nat → Int
  | _, [] => 0
  | j, a :: r => (a : Int) * 2 ^ Fi fs j + far fs (j + 1) r
theorem Phi_far {fs : List PyData} : ∀ (ps : List Nat) (j : Nat), (∀ a ∈ ps, a < 2 ^ 100) → tv ((turnsOf (num ps)).map fun t => Fi fs (j + t / 200) + t % 200) = far fs j ps
  | [], j, _ => by
    rw [show turnsOf (num []) = [] from turnsOf_is (ts := []) trivial rfl]
    rfl
  | a :: r, j, h => by
    have ih := Phi_far (fs := fs) r (j + 1) fun x hx => h x (by simp [hx])
    have ha := h a (by simp)
    have hb : ∀ t ∈ turnsOf (a : Int), t ≤ 100 := by
      refine (tv_range (turnsOf_asc _)).mpr ?_
      rw [turnsOf_tv]
      have : ((2 ^ 100 : Nat) : Int) = 2 ^ 100 := by simp
      omega
    have he : (turnsOf (a : Int)).length % 2 = 0 := even_of_nonneg (turnsOf_asc _) (by rw [turnsOf_tv]; omega)
    show tv ((turnsOf ((a : Int) + 2 ^ 200 * num r)).map _) = (a : Int) * 2 ^ Fi fs j + far fs (j + 1) r
    rw [turns_app (Q := 200) fun t ht => by have := hb t ht; omega, if_pos he, List.map_append, tv_append, List.length_map, if_pos he, List.map_map, ← ih]
    congr 1
    · have : (turnsOf (a : Int)).map (fun t => Fi fs (j + t / 200) + t % 200) = (turnsOf (a : Int)).map (· + Fi fs j) := List.map_congr_left fun t ht => by
        have := hb t ht
        show Fi fs (j + t / 200) + t % 200 = t + Fi fs j
        rw [show j + t / 200 = j by omega]
        omega
      rw [this, tv_map_add, turnsOf_tv, Int.mul_comm]
    · congr 1
      refine List.map_congr_left fun t ht => ?_
      show Fi fs (j + (t + 200) / 200) + (t + 200) % 200 = Fi fs (j + 1 + t / 200) + t % 200
      rw [show j + (t + 200) / 200 = j + 1 + t / 200 by omega]
      omega
theorem Phi_num {fs : List PyData} {ps : List Nat} (h : ∀ a ∈ ps, a < 2 ^ 100) : Phi fs (num ps) = far fs 0 ps := by
  rw [← Phi_far ps 0 h]
  unfold Phi
  congr 1
  refine List.map_congr_left fun t _ => ?_
  unfold phi
  rw [Nat.zero_add]
theorem Fi_zero {fs : List PyData} (F : Fields fs) : Fi fs 0 = 0 := by
  obtain ⟨f1, es2, es3, rfl, _⟩ := F.ex
  show (val (.int 0)).toNat = 0
  rw [val_int]
  rfl
theorem Dg.split {m B : Nat} {c : Int} (h : Dg m B c) (hm : 1 ≤ m) : ∃ (a : Nat) (r : List Nat), r.length + 1 = m ∧ a < B ∧ (∀ x ∈ r, x < B) ∧ c = (a : Int) + 2 ^ 200 * num r := by
  obtain ⟨ps, h1, h2, rfl⟩ := h
  cases ps with
  | nil => simp at h1; omega
  | cons a r => exact ⟨a, r, h1, h2 a (by simp), fun x hx => h2 x (by simp [hx]), rfl⟩
/-- the weight of a code of few far turns -/
theorem Dw.cwt {m B : Nat} {c : Int} (h : Dw m B 8 c) (hB : B ≤ 2 ^ 61) : cwt c ≤ 247 := by
  obtain ⟨a, r, h1, h2, h3, rfl, h5⟩ := h
  have hb : ∀ t ∈ turnsOf (a : Int), t ≤ 61 := by
    refine (tv_range (turnsOf_asc _)).mpr ?_
    rw [turnsOf_tv]
    have : ((2 ^ 61 : Nat) : Int) = 2 ^ 61 := by simp
    omega
  have hl := asc_len (a := 0) (turnsOf_asc (a : Int)) fun t ht => ⟨Nat.zero_le _, hb t ht⟩
  have he : (turnsOf (a : Int)).length % 2 = 0 := even_of_nonneg (turnsOf_asc _) (by rw [turnsOf_tv]; omega)
  unfold FC.cwt
  rw [turns_app (Q := 200) fun t ht => by have := hb t ht; omega, if_pos he, List.map_append, List.sum_append]
  have e1 : (turnsOf (a : Int)).map cw = (turnsOf (a : Int)).map fun _ => 1 := List.map_congr_left fun t ht => by
    unfold cw
    rw [if_pos (by have := hb t ht; omega)]
  have e2 := cw_sum ((turnsOf (num r)).map (· + 200))
  have e3 : ((turnsOf (a : Int)).map fun _ => 1).sum = (turnsOf (a : Int)).length := by
    generalize turnsOf (a : Int) = l
    induction l with
    | nil => rfl
    | cons x y ih => simp only [List.map_cons, List.sum_cons, List.length_cons, ih]; omega
  rw [e1, e3]
  rw [List.length_map] at e2
  unfold tau at h5
  omega
theorem cwts_dw {m B : Nat} (hB : B ≤ 2 ^ 61) : ∀ {cs : List Int}, (∀ c ∈ cs, Dw m B 8 c) → (cs.map FC.cwt).sum ≤ 247 * cs.length
  | [], _ => by simp
  | c :: r, h => by
    have h1 := (h c (by simp)).cwt hB
    have h2 := cwts_dw hB (cs := r) fun x hx => h x (by simp [hx])
    simp only [List.map_cons, List.sum_cons, List.length_cons]
    omega
/-- a little further in field nought -/
theorem Phi_step {fs : List PyData} (F : Fields fs) {m B y : Nat} {c : Int} (h : Dg m B c) (hm : 1 ≤ m) (hB : B + y ≤ 2 ^ 100) : Phi fs (c + (y : Nat)) = Phi fs c + (y : Nat) := by
  obtain ⟨a, r, h1, h2, h3, rfl⟩ := Dg.split h hm
  have e1 : ((a : Int) + 2 ^ 200 * num r) = num (a :: r) := rfl
  have e2 : ((a : Int) + 2 ^ 200 * num r + (y : Nat)) = num ((a + y) :: r) := by
    show _ = ((a + y : Nat) : Int) + 2 ^ 200 * num r
    omega
  rw [e2, e1, Phi_num fun x hx => ?_, Phi_num fun x hx => ?_]
  · show ((a + y : Nat) : Int) * 2 ^ Fi fs 0 + _ = (a : Int) * 2 ^ Fi fs 0 + _ + (y : Nat)
    rw [Fi_zero F, Int.pow_zero]
    omega
  · rcases List.mem_cons.mp hx with rfl | hx
    · omega
    · have := h3 x hx
      omega
  · rcases List.mem_cons.mp hx with rfl | hx
    · omega
    · have := h3 x hx
      omega
/-- codes near one another: places so, too; codes apart: places so, too -/
theorem Phi_gap {fs : List PyData} (F : Fields fs) {m B : Nat} {c d : Int} (hc : Dg m B c) (hd : Dg m B d) (hm : 1 ≤ m) (hm4 : m ≤ 4) (hB : B ≤ 2 ^ 90) (h : c ≤ d) :
    (d - c < 120 → Phi fs d = Phi fs c + (d - c)) ∧ (120 ≤ d - c → Phi fs c + 120 ≤ Phi fs d) := by
  constructor
  · intro hlt
    have := Phi_step F (y := (d - c).toNat) hc hm (by omega)
    have e : (((d - c).toNat : Nat) : Int) = d - c := by omega
    rw [e, show c + (d - c) = d by omega] at this
    exact this
  · intro hge
    have h1 := Phi_step F (y := 120) hc hm (by omega)
    have h2 : CodeOk m (c + ((120 : Nat) : Int)) := by
      have := hc.add (d := 0) (y := 120) (Y := 121) (by omega) (by decide)
      rw [Nat.mul_zero, Int.pow_zero, Int.mul_one] at this
      exact this.code (by omega)
    have e : ((120 : Nat) : Int) = 120 := rfl
    rw [e] at h1 h2
    by_cases hz : c + 120 = d
    · rw [← hz, h1]
      exact Int.le_refl _
    · have := Phi_lt F hm4 h2 (hd.code (by omega)) (by omega)
      omega
/-- the turns that codes stand for -/
noncomputable def Phis (fs : List PyData) (cs : List Int) : List Nat := cs.map fun c => (Phi fs c).toNat
theorem Phis_asc {fs : List PyData} (F : Fields fs) {m : Nat} (hm : m ≤ 4) {cs : List Int} (h : cs.Pairwise (· < ·)) (hc : ∀ c ∈ cs, CodeOk m c) : Asc (Phis fs cs) := by
  rw [asc_pairwise]
  unfold Phis
  rw [List.pairwise_map]
  refine h.imp_of_mem fun {a b} ha hb hab => ?_
  have h1 := Phi_lt F hm (hc a ha) (hc b hb) hab
  have h2 := Phi_nonneg F hm (hc a ha)
  omega
/-- the code with number k of a row -/
def cd (cs : List Int) (k : Nat) : Int := cs.getD k 0
/-- the near places of a row of codes -/
def qN (cs : List Int) : Nat → Nat
  | 0 => 0
  | k + 1 => qN cs k + (min (cd cs (k + 1) - cd cs k) 120).toNat
theorem cd_at {cs : List Int} {k : Nat} (h : k < cs.length) : cs[k]? = some (cd cs k) := by
  unfold cd
  rw [List.getD_eq_getElem?_getD, List.getElem?_eq_getElem h]
  rfl
theorem cd_mem {cs : List Int} {k : Nat} (h : k < cs.length) : cd cs k ∈ cs := List.mem_of_getElem? (cd_at h)
theorem cd_le {cs : List Int} (hs : cs.Pairwise (· ≤ ·)) {i j : Nat} (hij : i ≤ j) (hj : j < cs.length) : cd cs i ≤ cd cs j := by
  by_cases e : i = j
  · rw [e]
    exact Int.le_refl _
  · have h1 := cd_at (cs := cs) (k := i) (by omega)
    have h2 := cd_at hj
    obtain ⟨h1', e1⟩ := List.getElem?_eq_some_iff.mp h1
    obtain ⟨h2', e2⟩ := List.getElem?_eq_some_iff.mp h2
    rw [← e1, ← e2]
    exact List.pairwise_iff_getElem.mp hs i j h1' h2' (by omega)
theorem qN_step {cs : List Int} (hs : cs.Pairwise (· ≤ ·)) {k : Nat} (hk : k + 1 < cs.length) : qN cs k ≤ qN cs (k + 1) ∧ ((qN cs (k + 1) : Int) = qN cs k + (cd cs (k + 1) - cd cs k) ∧ cd cs (k + 1) - cd cs k < 120 ∨ qN cs (k + 1) = qN cs k + 120 ∧ 120 ≤ cd cs (k + 1) - cd cs k) := by
  have := cd_le hs (show k ≤ k + 1 by omega) hk
  show qN cs k ≤ qN cs k + _ ∧ (((qN cs k + _ : Nat) : Int) = _ ∧ _ ∨ qN cs k + _ = _ ∧ _)
  omega
theorem qN_eq {cs : List Int} (hs : cs.Pairwise (· ≤ ·)) {i : Nat} : ∀ {j : Nat}, i ≤ j → j < cs.length → cd cs i = cd cs j → qN cs i = qN cs j
  | 0, hij, hj, e => by
    have : i = 0 := by omega
    rw [this]
  | j + 1, hij, hj, e => by
    by_cases z : i = j + 1
    · rw [z]
    · have h1 := cd_le hs (show i ≤ j by omega) (show j < cs.length by omega)
      have h2 := cd_le hs (show j ≤ j + 1 by omega) hj
      have ih := qN_eq hs (i := i) (j := j) (by omega) (by omega) (by omega)
      have := qN_step hs hj
      omega
theorem near_codes {fs : List PyData} (F : Fields fs) {m B : Nat} {cs : List Int} (hs : cs.Pairwise (· ≤ ·)) (hc : ∀ c ∈ cs, Dg m B c) (hm : 1 ≤ m) (hm4 : m ≤ 4) (hB : B ≤ 2 ^ 90) : Near cs.length (qN cs) fun k => (Phi fs (cd cs k)).toNat := by
  refine ⟨rfl, fun k hk => ?_⟩
  have h1 := qN_step hs hk
  have h2 := cd_le hs (show k ≤ k + 1 by omega) hk
  have d1 := hc _ (cd_mem (show k < cs.length by omega))
  have d2 := hc _ (cd_mem hk)
  have g := Phi_gap F d1 d2 hm hm4 hB h2
  have n1 := Phi_nonneg F hm4 (d1.code (by omega))
  have n2 := Phi_nonneg F hm4 (d2.code (by omega))
  refine ⟨h1.1, ?_⟩
  show (Phi fs (cd cs (k + 1))).toNat = (Phi fs (cd cs k)).toNat + (qN cs (k + 1) - qN cs k) ∨ _
  rcases h1.2 with ⟨e, hlt⟩ | ⟨e, hge⟩
  · left
    have := g.1 hlt
    omega
  · right
    have := g.2 hge
    refine ⟨e, ?_⟩
    show (Phi fs (cd cs k)).toNat + 120 ≤ (Phi fs (cd cs (k + 1))).toNat
    omega
/-- terms by the numbers of their codes -/
def ixT (cs : List Int) (ts : List (Int × Int)) : List (Nat × Int) := ts.map fun t => (cs.idxOf t.1, t.2)
def AbT (ts : List (Int × Int)) : Nat := (ts.map fun t => t.2.natAbs).sum
theorem Ab_ix (cs : List Int) (ts : List (Int × Int)) : Ab (ixT cs ts) = AbT ts := by
  unfold Ab AbT ixT
  rw [List.map_map]
  rfl
theorem Sm_ix (cs : List Int) (ts : List (Int × Int)) (π : Nat → Nat) : Sm (ixT cs ts) π = (ts.map fun t => t.2 * 2 ^ π (cs.idxOf t.1)).sum := by
  unfold Sm ixT
  rw [List.map_map]
  rfl
theorem cd_ix {cs : List Int} {c : Int} (h : c ∈ cs) : cs.idxOf c < cs.length ∧ cd cs (cs.idxOf c) = c := by
  have h1 := List.idxOf_lt_length_iff.mpr h
  refine ⟨h1, ?_⟩
  have := cd_at h1
  rw [List.getElem?_eq_getElem h1, List.getElem_idxOf h1] at this
  exact (Option.some.inj this).symm
theorem spot_eq {cs : List Int} (hs : cs.Pairwise (· ≤ ·)) {i : Nat} (hi : i < cs.length) : qN cs (cs.idxOf (cd cs i)) = qN cs i := by
  obtain ⟨h1, h2⟩ := cd_ix (cd_mem hi)
  rcases Nat.le_total (cs.idxOf (cd cs i)) i with h | h
  · exact qN_eq hs h hi h2
  · exact (qN_eq hs h h1 h2.symm).symm
theorem qN_le (cs : List Int) : ∀ k, qN cs k ≤ 120 * k
  | 0 => Nat.le_refl _
  | k + 1 => by
    have := qN_le cs k
    show qN cs k + _ ≤ _
    omega
/-- what the sum at near places tells -/
theorem summed {m B w : Nat} {cs : List Int} {ts : List (Int × Int)} {at_ : Nat → Nat} (hs : cs.Pairwise (· ≤ ·)) (hc : ∀ c ∈ cs, Dw m B w c) (hm : 1 ≤ m) (hm4 : m ≤ 4) (hB : B ≤ 2 ^ 80) (ht : ∀ t ∈ ts, t.1 ∈ cs) (hb : AbT ts ≤ 2 ^ 100)
    (ha : ∀ t ∈ turnsOf (Sm (ixT cs ts) (qN cs)), At cs.length (qN cs) at_ t) {ds : List Int} (hd : ds = (turnsOf (Sm (ixT cs ts) (qN cs))).map fun t => cd cs (at_ t) + (t : Nat) - (qN cs (at_ t) : Nat)) :
    ds.Pairwise (· < ·) ∧ (∀ d ∈ ds, Dw m (B + 122) w d) ∧ ds.length ≤ 2 * AbT ts ∧ ∀ fs, Fields fs → tv (Phis fs ds) = (ts.map fun t => t.2 * 2 ^ (Phi fs t.1).toNat).sum := by
  have hix : ∀ t ∈ ixT cs ts, t.1 < cs.length := fun t h => by
    obtain ⟨u, hu, rfl⟩ := List.mem_map.mp h
    exact (cd_ix (ht u hu)).1
  have hAb : Ab (ixT cs ts) ≤ 2 ^ 100 := by rw [Ab_ix]; exact hb
  have qm : ∀ {i j : Nat}, i ≤ j → j < cs.length → qN cs i ≤ qN cs j := fun {i j} => by
    intro hij hj
    induction j with
    | zero => rw [show i = 0 by omega]; exact Nat.le_refl _
    | succ j ih =>
      by_cases e : i = j + 1
      · rw [e]; exact Nat.le_refl _
      · have := ih (by omega) (by omega)
        have := (qN_step hs hj).1
        omega
  have small : ∀ t ∈ turnsOf (Sm (ixT cs ts) (qN cs)), t - qN cs (at_ t) ≤ 121 := fun t h => by
    obtain ⟨a1, a2, a3⟩ := ha t h
    rcases a3 with a3 | a3
    · have h1 := Sm_abs (π := qN cs) (b := qN cs (at_ t)) (T := ixT cs ts) fun u hu => qm (by have := hix u hu; omega) a1
      have h2 := turns_lt (c := 100) (Nat.le_trans h1 (Nat.mul_le_mul_right _ hAb)) t h
      omega
    · have : qN cs (at_ t + 1) ≤ qN cs (at_ t) + 120 := by
        show qN cs (at_ t) + _ ≤ _
        omega
      omega
  have hdg : ∀ d ∈ ds, Dw m (B + 122) w d := fun d h => by
    rw [hd] at h
    obtain ⟨t, h1, rfl⟩ := List.mem_map.mp h
    obtain ⟨a1, a2, a3⟩ := ha t h1
    have := (hc _ (cd_mem a1)).add (Y := 122) (y := t - qN cs (at_ t)) (by have := small t h1; omega)
    rw [show cd cs (at_ t) + (t : Nat) - (qN cs (at_ t) : Nat) = cd cs (at_ t) + ((t - qN cs (at_ t) : Nat) : Int) by omega]
    exact this
  refine ⟨?_, hdg, ?_, fun fs F => ?_⟩
  · rw [hd, List.pairwise_map]
    refine (asc_pairwise.mp (turnsOf_asc _)).imp_of_mem fun {t u} h1 h2 hlt => ?_
    obtain ⟨a1, a2, a3⟩ := ha t h1
    obtain ⟨b1, b2, b3⟩ := ha u h2
    have hle : at_ t ≤ at_ u := by
      apply Nat.le_of_not_lt
      intro hc
      have := qm (i := at_ u + 1) (j := at_ t) (by omega) a1
      omega
    by_cases e : at_ t = at_ u
    · rw [e]
      omega
    · have h3 := qN_step hs (k := at_ t) (by omega)
      have h4 := cd_le hs (i := at_ t + 1) (j := at_ u) (by omega) b1
      omega
  · rw [hd, List.length_map, ← Ab_ix cs]
    exact tau_Sm _
  · have N := near_codes F hs (fun c h => (hc c h).dg) hm hm4 (by omega)
    have e1 : Phis fs ds = turnsOf (Sm (ixT cs ts) fun k => (Phi fs (cd cs k)).toNat) := by
      rw [near_turns N hix hAb ha, hd]
      unfold Phis
      rw [List.map_map]
      refine List.map_congr_left fun t h => ?_
      obtain ⟨a1, a2, a3⟩ := ha t h
      have d1 := hc _ (cd_mem a1)
      have h1 := Phi_step F (y := t - qN cs (at_ t)) d1.dg hm (by have := small t h; omega)
      have h2 := Phi_nonneg F hm4 (d1.code (by omega))
      have h3 := N.le a1
      show (Phi fs (cd cs (at_ t) + (t : Nat) - (qN cs (at_ t) : Nat))).toNat = t + ((Phi fs (cd cs (at_ t))).toNat - qN cs (at_ t))
      rw [show cd cs (at_ t) + (t : Nat) - (qN cs (at_ t) : Nat) = cd cs (at_ t) + ((t - qN cs (at_ t) : Nat) : Int) by omega, h1]
      omega
    rw [e1, turnsOf_tv, Sm_ix]
    congr 1
    refine List.map_congr_left fun t h => ?_
    rw [(cd_ix (ht t h)).2]
end FD
set_option Elab.async false
set_option linter.all false
set_option maxRecDepth 100000
/-! bits of two rows of codes: which codes are the turns of the number made bit by bit -/
namespace FE
open PySem PySem.Spec TV FM FB FC FD
/-- how many are at most c -/
def N (cs : List Int) (c : Int) : Nat := cs.countP fun x => decide (x ≤ c)
def b2 (n : Nat) : Bool := decide (n % 2 = 1)
def FF (f : Bool → Bool → Bool) (as bs : List Int) (c : Int) : Bool := f (b2 (N as c)) (b2 (N bs c))
theorem b2_succ (n : Nat) : b2 (n + 1) = !b2 n := by
  unfold b2
  by_cases h : n % 2 = 1
  · rw [decide_eq_true h, decide_eq_false (by omega)]
    rfl
  · rw [decide_eq_false h, decide_eq_true (by omega)]
    rfl
theorem N_all {cs : List Int} {c : Int} (h : ∀ x ∈ cs, x ≤ c) : N cs c = cs.length := by
  unfold N
  exact List.countP_eq_length.mpr fun x hx => by simpa using h x hx
theorem N_app (cs : List Int) (d c : Int) : N (cs ++ [d]) c = N cs c + if d ≤ c then 1 else 0 := by
  unfold N
  rw [List.countP_append, List.countP_singleton]
  by_cases h : d ≤ c <;> simp [h]
/-- behind i codes -/
structure Bits (f : Bool → Bool → Bool) (as bs us : List Int) (i : Nat) (ds : List Int) (b : Bool) : Prop where
  asc : ds.Pairwise (· < ·)
  mem : ∀ d ∈ ds, d ∈ us.take i
  par : b2 ds.length = b
  at' : ∀ u ∈ us.take i, b2 (N ds u) = FF f as bs u
  len : ds.length ≤ i
section
variable {f : Bool → Bool → Bool} {as bs us ds : List Int} {i : Nat} {b : Bool} {u : Int}
theorem Bits.start : Bits f as bs us 0 [] false := ⟨List.Pairwise.nil, by simp, rfl, by simp, Nat.le_refl _⟩
theorem take_lt (h : us.Pairwise (· < ·)) (hu : us[i]? = some u) : ∀ c ∈ us.take i, c < u := fun c hc => by
  obtain ⟨j, hj, rfl⟩ := List.mem_iff_getElem.mp hc
  rw [List.length_take] at hj
  obtain ⟨hi, rfl⟩ := List.getElem?_eq_some_iff.mp hu
  rw [List.getElem_take]
  exact List.pairwise_iff_getElem.mp h j i (by omega) hi (by omega)
theorem take_mem (hu : us[i]? = some u) {c : Int} : c ∈ us.take (i + 1) ↔ c ∈ us.take i ∨ c = u := by
  rw [List.take_add_one, hu]
  simp
theorem Bits.put (h : Bits f as bs us i ds b) (hU : us.Pairwise (· < ·)) (hu : us[i]? = some u) (hne : FF f as bs u ≠ b) : Bits f as bs us (i + 1) (ds ++ [u]) (!b) := by
  have hlt := take_lt hU hu
  have hds : ∀ d ∈ ds, d < u := fun d hd => hlt d (h.mem d hd)
  have e : FF f as bs u = !b := by
    cases b <;> cases q : FF f as bs u <;> simp_all
  refine ⟨?_, fun d hd => ?_, ?_, fun v hv => ?_, by simp; have := h.len; omega⟩
  · rw [List.pairwise_append]
    exact ⟨h.asc, by simp, fun x hx y hy => by simp at hy; subst hy; exact hds x hx⟩
  · rw [take_mem hu]
    rcases List.mem_append.mp hd with hd | hd
    · exact .inl (h.mem d hd)
    · exact .inr (by simpa using hd)
  · rw [List.length_append]
    show b2 (ds.length + 1) = _
    rw [b2_succ, h.par]
  · rcases (take_mem hu).mp hv with hv | rfl
    · rw [N_app, if_neg (by have := hlt v hv; omega), Nat.add_zero]
      exact h.at' v hv
    · rw [N_app, if_pos (Int.le_refl _), N_all fun x hx => Int.le_of_lt (hds x hx), b2_succ, h.par, e]
theorem Bits.skip (h : Bits f as bs us i ds b) (hU : us.Pairwise (· < ·)) (hu : us[i]? = some u) (he : FF f as bs u = b) : Bits f as bs us (i + 1) ds b := by
  have hlt := take_lt hU hu
  refine ⟨h.asc, fun d hd => (take_mem hu).mpr (.inl (h.mem d hd)), h.par, fun v hv => ?_, by have := h.len; omega⟩
  rcases (take_mem hu).mp hv with hv | rfl
  · exact h.at' v hv
  · rw [N_all fun x hx => Int.le_of_lt (hlt x (h.mem x hx)), h.par, he]
end
theorem max_ex {P : Int → Prop} : ∀ (l : List Int), (∃ u ∈ l, P u) → ∃ u ∈ l, P u ∧ ∀ c ∈ l, P c → c ≤ u
  | [], h => by
    obtain ⟨u, hu, _⟩ := h
    cases hu
  | a :: r, h => by
    by_cases hr : ∃ u ∈ r, P u
    · obtain ⟨u, hu, hp, hm⟩ := max_ex r hr
      by_cases ha : P a ∧ u ≤ a
      · refine ⟨a, by simp, ha.1, fun c hc hpc => ?_⟩
        rcases List.mem_cons.mp hc with rfl | hc
        · exact Int.le_refl _
        · exact Int.le_trans (hm c hc hpc) ha.2
      · refine ⟨u, by simp [hu], hp, fun c hc hpc => ?_⟩
        rcases List.mem_cons.mp hc with rfl | hc
        · by_cases hl : u ≤ c
          · exact absurd ⟨hpc, hl⟩ ha
          · omega
        · exact hm c hc hpc
    · obtain ⟨u, hu, hp⟩ := h
      rcases List.mem_cons.mp hu with rfl | hu
      · refine ⟨u, by simp, hp, fun c hc hpc => ?_⟩
        rcases List.mem_cons.mp hc with rfl | hc
        · exact Int.le_refl _
        · exact absurd ⟨c, hc, hpc⟩ hr
      · exact absurd ⟨u, hu, hp⟩ hr
theorem cnt_phis (fs : List PyData) (cs : List Int) (p : Nat) : cnt (Phis fs cs) p = cs.countP fun c => decide ((Phi fs c).toNat ≤ p) := by
  unfold cnt Phis
  rw [List.countP_map]
  rfl
theorem bits_places {fs : List PyData} (F : Fields fs) {m : Nat} (hm : m ≤ 4) {f : Bool → Bool → Bool} {as bs us ds : List Int} (hc : ∀ c ∈ us, CodeOk m c) (ha : ∀ c ∈ as, c ∈ us) (hb : ∀ c ∈ bs, c ∈ us) (hd : ∀ c ∈ ds, c ∈ us)
    (pa : as.Pairwise (· < ·)) (pb : bs.Pairwise (· < ·)) (pd : ds.Pairwise (· < ·)) (hf : f false false = false) (h : ∀ u ∈ us, b2 (N ds u) = FF f as bs u) (p : Nat) :
    tb (tv (Phis fs ds)) p = f (tb (tv (Phis fs as)) p) (tb (tv (Phis fs bs)) p) := by
  have asc : ∀ {cs : List Int}, cs.Pairwise (· < ·) → (∀ c ∈ cs, c ∈ us) → tb (tv (Phis fs cs)) p = b2 (cs.countP fun c => decide ((Phi fs c).toNat ≤ p)) := fun {cs} hp hu => by
    rw [tb_tv p (Phis_asc F hm hp fun c hx => hc c (hu c hx)), cnt_phis]
    rfl
  rw [asc pd hd, asc pa ha, asc pb hb]
  by_cases hex : ∃ u ∈ us, (Phi fs u).toNat ≤ p
  · obtain ⟨u, hu, hp, hmax⟩ := max_ex us hex
    have key : ∀ {cs : List Int}, (∀ c ∈ cs, c ∈ us) → (cs.countP fun c => decide ((Phi fs c).toNat ≤ p)) = N cs u := fun {cs} hcs => by
      unfold N
      refine List.countP_congr fun c hx => ?_
      simp only [decide_eq_true_eq]
      constructor
      · exact fun z => hmax c (hcs c hx) z
      · intro z
        by_cases e : c = u
        · rw [e]
          exact hp
        · have := Phi_lt F hm (hc c (hcs c hx)) (hc u hu) (by omega)
          omega
    rw [key hd, key ha, key hb]
    exact h u hu
  · have key : ∀ {cs : List Int}, (∀ c ∈ cs, c ∈ us) → (cs.countP fun c => decide ((Phi fs c).toNat ≤ p)) = 0 := fun {cs} hcs => by
      rw [List.countP_eq_zero]
      intro c hx hz
      exact hex ⟨c, hcs c hx, by simpa using hz⟩
    rw [key hd, key ha, key hb]
    exact hf.symm
end FE
set_option Elab.async false
set_option linter.all false
set_option maxRecDepth 100000
/-! codes by digits of both signs, and the far numbers they stand for (plain mathematics) -/
namespace FS
open PySem TV FM DX FB FC MS FD
def numS : List Int → Int
  | [] => 0
  | a :: r => a + 2 ^ 200 * numS r
def farS (fs : List PyData) : Nat → List Int → Int
  | _, [] => 0
  | j, a :: r => a * 2 ^ Fi fs j + farS fs (j + 1) r
theorem numS_neg : ∀ ps : List Int, numS (ps.map (- ·)) = -numS ps
  | [] => rfl
  | a :: r => by
    show -a + 2 ^ 200 * numS (r.map (- ·)) = -(a + 2 ^ 200 * numS r)
    rw [numS_neg r, Int.mul_neg]
    omega
theorem farS_neg (fs : List PyData) : ∀ (ps : List Int) (j : Nat), farS fs j (ps.map (- ·)) = -farS fs j ps
  | [], _ => rfl
  | a :: r, j => by
    show -a * 2 ^ Fi fs j + farS fs (j + 1) (r.map (- ·)) = -(a * 2 ^ Fi fs j + farS fs (j + 1) r)
    rw [farS_neg fs r, Int.neg_mul]
    omega
theorem small_turns {a : Int} (h : a.natAbs < 2 ^ 100) : ∀ t ∈ turnsOf a, t ≤ 100 := by
  refine (tv_range (turnsOf_asc _)).mpr ?_
  rw [turnsOf_tv]
  have : ((2 ^ 100 : Nat) : Int) = 2 ^ 100 := by simp
  omega
theorem neg_bound {B : Nat} {r : List Int} (h : ∀ a ∈ r, a.natAbs < B) : ∀ a ∈ r.map (- ·), a.natAbs < B := fun a ha => by
  obtain ⟨b, hb, rfl⟩ := List.mem_map.mp ha
  have := h b hb
  show (-b).natAbs < B
  omega
theorem Phi_farS {fs : List PyData} : ∀ (n : Nat) (ps : List Int) (j : Nat), ps.length = n → (∀ a ∈ ps, a.natAbs < 2 ^ 100) → tv ((turnsOf (numS ps)).map fun t => Fi fs (j + t / 200) + t % 200) = farS fs j ps := by
  intro n
  induction n with
  | zero =>
    intro ps j hl _
    have : ps = [] := List.length_eq_zero_iff.mp hl
    subst this
    rw [show turnsOf (numS []) = [] from turnsOf_is (ts := []) trivial rfl]
    rfl
  | succ n ih =>
    intro ps j hl h
    cases ps with
    | nil => simp at hl
    | cons a r =>
      have hr : r.length = n := by simpa using hl
      have hb := small_turns (h a (by simp))
      have hbr : ∀ x ∈ r, x.natAbs < 2 ^ 100 := fun x hx => h x (by simp [hx])
      show tv ((turnsOf (a + 2 ^ 200 * numS r)).map _) = a * 2 ^ Fi fs j + farS fs (j + 1) r
      have e1 : tv ((turnsOf a).map fun t => Fi fs (j + t / 200) + t % 200) = a * 2 ^ Fi fs j := by
        have : (turnsOf a).map (fun t => Fi fs (j + t / 200) + t % 200) = (turnsOf a).map (· + Fi fs j) := List.map_congr_left fun t ht => by
          have := hb t ht
          show Fi fs (j + t / 200) + t % 200 = t + Fi fs j
          rw [show j + t / 200 = j by omega]
          omega
        rw [this, tv_map_add, turnsOf_tv, Int.mul_comm]
      have e2 : ∀ R : List Nat, (R.map (· + 200)).map (fun t => Fi fs (j + t / 200) + t % 200) = R.map fun t => Fi fs (j + 1 + t / 200) + t % 200 := fun R => by
        rw [List.map_map]
        refine List.map_congr_left fun t ht => ?_
        show Fi fs (j + (t + 200) / 200) + (t + 200) % 200 = Fi fs (j + 1 + t / 200) + t % 200
        rw [show j + (t + 200) / 200 = j + 1 + t / 200 by omega]
        omega
      rw [turns_app (Q := 200) fun t ht => by have := hb t ht; omega, List.map_append, tv_append, List.length_map, e1]
      by_cases he : (turnsOf a).length % 2 = 0
      · rw [if_pos he, if_pos he, e2, ih r (j + 1) hr hbr]
      · rw [if_neg he, if_neg he, e2, ← numS_neg, ih (r.map (- ·)) (j + 1) (by simpa using hr) (neg_bound hbr), farS_neg, Int.neg_neg]
theorem Phi_numS {fs : List PyData} {ps : List Int} (h : ∀ a ∈ ps, a.natAbs < 2 ^ 100) : Phi fs (numS ps) = farS fs 0 ps := by
  rw [← Phi_farS _ ps 0 rfl h]
  unfold Phi
  congr 1
  refine List.map_congr_left fun t _ => ?_
  unfold phi
  rw [Nat.zero_add]
theorem ds_turns : ∀ (n : Nat) (ps : List Int), ps.length = n → (∀ a ∈ ps, a.natAbs < 2 ^ 100) → ∀ t ∈ turnsOf (numS ps), t / 200 < n ∧ t % 200 ≤ 101 := by
  intro n
  induction n with
  | zero =>
    intro ps hl _
    have : ps = [] := List.length_eq_zero_iff.mp hl
    subst this
    rw [show turnsOf (numS []) = [] from turnsOf_is (ts := []) trivial rfl]
    intro t ht
    cases ht
  | succ n ih =>
    intro ps hl h
    cases ps with
    | nil => simp at hl
    | cons a r =>
      have hr : r.length = n := by simpa using hl
      have hb := small_turns (h a (by simp))
      have hbr : ∀ x ∈ r, x.natAbs < 2 ^ 100 := fun x hx => h x (by simp [hx])
      show ∀ t ∈ turnsOf (a + 2 ^ 200 * numS r), _
      rw [turns_app (Q := 200) fun t ht => by have := hb t ht; omega]
      intro t ht
      rcases List.mem_append.mp ht with ht | ht
      · have := hb t ht
        omega
      · obtain ⟨u, hu, rfl⟩ := List.mem_map.mp ht
        have : u / 200 < n ∧ u % 200 ≤ 101 := by
          by_cases he : (turnsOf a).length % 2 = 0
          · rw [if_pos he] at hu
            exact ih r hr hbr u hu
          · rw [if_neg he, ← numS_neg] at hu
            exact ih (r.map (- ·)) (by simpa using hr) (neg_bound hbr) u hu
        show (u + 200) / 200 < n + 1 ∧ (u + 200) % 200 ≤ 101
        omega
/-- c by m digits of both signs below B -/
def Ds (m B : Nat) (c : Int) : Prop := ∃ ps : List Int, ps.length = m ∧ (∀ a ∈ ps, a.natAbs < B) ∧ c = numS ps
theorem Ds.code {m B : Nat} {c : Int} (h : Ds m B c) (hB : B ≤ 2 ^ 100) (h0 : 0 ≤ c) : CodeOk m c := by
  obtain ⟨ps, h1, h2, rfl⟩ := h
  exact ⟨h0, ds_turns m ps h1 fun a ha => Nat.lt_of_lt_of_le (h2 a ha) hB⟩
theorem Ds.mono {m B B' : Nat} {c : Int} (h : Ds m B c) (l : B ≤ B') : Ds m B' c := by
  obtain ⟨ps, h1, h2, rfl⟩ := h
  exact ⟨ps, h1, fun a ha => Nat.lt_of_lt_of_le (h2 a ha) l, rfl⟩
theorem ds_of {m B : Nat} {c : Int} (h : Dg m B c) : Ds m B c := by
  obtain ⟨ps, h1, h2, rfl⟩ := h
  refine ⟨ps.map (fun a : Nat => (a : Int)), by simpa using h1, fun a ha => ?_, ?_⟩
  · obtain ⟨b, hb, rfl⟩ := List.mem_map.mp ha
    have := h2 b hb
    show ((b : Nat) : Int).natAbs < B
    omega
  · clear h1 h2
    induction ps with
    | nil => rfl
    | cons a r ih =>
      show (a : Int) + 2 ^ 200 * num r = (a : Int) + 2 ^ 200 * numS (r.map (fun a : Nat => (a : Int)))
      rw [ih]
theorem Ds.neg {m B : Nat} {c : Int} (h : Ds m B c) : Ds m B (-c) := by
  obtain ⟨ps, h1, h2, rfl⟩ := h
  exact ⟨ps.map (- ·), by simpa using h1, neg_bound h2, (numS_neg ps).symm⟩
theorem numS_add : ∀ (ps qs : List Int), ps.length = qs.length → numS (List.zipWith (· + ·) ps qs) = numS ps + numS qs
  | [], [], _ => rfl
  | [], _ :: _, h => by simp at h
  | _ :: _, [], h => by simp at h
  | a :: r, b :: s, h => by
    show (a + b) + 2 ^ 200 * numS (List.zipWith (· + ·) r s) = (a + 2 ^ 200 * numS r) + (b + 2 ^ 200 * numS s)
    rw [numS_add r s (by simpa using h), Int.mul_add]
    omega
theorem farS_add (fs : List PyData) : ∀ (ps qs : List Int) (j : Nat), ps.length = qs.length → farS fs j (List.zipWith (· + ·) ps qs) = farS fs j ps + farS fs j qs
  | [], [], _, _ => rfl
  | [], _ :: _, _, h => by simp at h
  | _ :: _, [], _, h => by simp at h
  | a :: r, b :: s, j, h => by
    show (a + b) * 2 ^ Fi fs j + farS fs (j + 1) (List.zipWith (· + ·) r s) = (a * 2 ^ Fi fs j + farS fs (j + 1) r) + (b * 2 ^ Fi fs j + farS fs (j + 1) s)
    rw [farS_add fs r s (j + 1) (by simpa using h), Int.add_mul]
    omega
theorem zip_bound {B C : Nat} : ∀ {ps qs : List Int}, (∀ a ∈ ps, a.natAbs < B) → (∀ a ∈ qs, a.natAbs < C) → ∀ a ∈ List.zipWith (· + ·) ps qs, a.natAbs < B + C
  | [], _, _, _, a, ha => by simp at ha
  | _ :: _, [], _, _, a, ha => by simp at ha
  | x :: r, y :: s, h1, h2, a, ha => by
    rw [List.zipWith_cons_cons, List.mem_cons] at ha
    rcases ha with rfl | ha
    · have := h1 x (by simp)
      have := h2 y (by simp)
      omega
    · exact zip_bound (fun z hz => h1 z (by simp [hz])) (fun z hz => h2 z (by simp [hz])) a ha
theorem Ds.add {m B C : Nat} {c d : Int} (h : Ds m B c) (g : Ds m C d) : Ds m (B + C) (c + d) := by
  obtain ⟨ps, h1, h2, rfl⟩ := h
  obtain ⟨qs, g1, g2, rfl⟩ := g
  exact ⟨List.zipWith (· + ·) ps qs, by rw [List.length_zipWith]; omega, zip_bound h2 g2, (numS_add ps qs (by omega)).symm⟩
theorem Ds.sub {m B C : Nat} {c d : Int} (h : Ds m B c) (g : Ds m C d) : Ds m (B + C) (c - d) := by
  have := h.add g.neg
  rwa [← Int.sub_eq_add_neg] at this
theorem numS_zero : ∀ k : Nat, numS (List.replicate k 0) = 0
  | 0 => rfl
  | k + 1 => by
    rw [List.replicate_succ]
    show 0 + 2 ^ 200 * numS (List.replicate k 0) = 0
    rw [numS_zero k]
    rfl
theorem Ds.low {m B : Nat} {x : Int} (hm : 1 ≤ m) (hx : x.natAbs < B) : Ds m B x := by
  refine ⟨x :: List.replicate (m - 1) 0, by simp; omega, fun a ha => ?_, ?_⟩
  · rcases List.mem_cons.mp ha with rfl | ha
    · exact hx
    · rw [List.eq_of_mem_replicate ha]
      show 0 < B
      omega
  · show x = x + 2 ^ 200 * numS (List.replicate (m - 1) 0)
    rw [numS_zero]
    omega
theorem Phi_add {fs : List PyData} {m B C : Nat} {c d : Int} (h : Ds m B c) (g : Ds m C d) (hB : B + C ≤ 2 ^ 100) : Phi fs (c + d) = Phi fs c + Phi fs d := by
  obtain ⟨ps, h1, h2, rfl⟩ := h
  obtain ⟨qs, g1, g2, rfl⟩ := g
  rw [← numS_add ps qs (by omega), Phi_numS fun a ha => by have := zip_bound h2 g2 a ha; omega, Phi_numS fun a ha => by have := h2 a ha; omega, Phi_numS fun a ha => by have := g2 a ha; omega, farS_add fs ps qs 0 (by omega)]
theorem Phi_neg {fs : List PyData} {m B : Nat} {c : Int} (h : Ds m B c) (hB : B ≤ 2 ^ 100) : Phi fs (-c) = -Phi fs c := by
  obtain ⟨ps, h1, h2, rfl⟩ := h
  rw [← numS_neg, Phi_numS fun a ha => by have := neg_bound h2 a ha; omega, Phi_numS fun a ha => by have := h2 a ha; omega, farS_neg]
theorem Phi_sub {fs : List PyData} {m B C : Nat} {c d : Int} (h : Ds m B c) (g : Ds m C d) (hB : B + C ≤ 2 ^ 100) : Phi fs (c - d) = Phi fs c - Phi fs d := by
  rw [Int.sub_eq_add_neg, Phi_add h g.neg hB, Phi_neg g (by omega), ← Int.sub_eq_add_neg]
theorem Phi_low {fs : List PyData} (F : Fields fs) {x : Int} (hx : x.natAbs < 2 ^ 100) : Phi fs x = x := by
  have e : x = numS [x] := by
    show x = x + 2 ^ 200 * 0
    omega
  have : Phi fs (numS [x]) = farS fs 0 [x] := Phi_numS (by simpa using hx)
  rw [← e] at this
  rw [this]
  show x * 2 ^ Fi fs 0 + 0 = x
  rw [Fi_zero F]
  omega
theorem Phis_shift {fs : List PyData} (F : Fields fs) {m B C : Nat} (hm : m ≤ 4) {cs : List Int} {am : Int} (hc : ∀ c ∈ cs, Ds m B c ∧ 0 ≤ c) (ha : Ds m C am) (h0 : 0 ≤ am) (hB : B + C ≤ 2 ^ 100) : Phis fs (cs.map (· + am)) = (Phis fs cs).map (· + (Phi fs am).toNat) := by
  unfold Phis
  rw [List.map_map, List.map_map]
  refine List.map_congr_left fun c h => ?_
  obtain ⟨h1, h2⟩ := hc c h
  show (Phi fs (c + am)).toNat = (Phi fs c).toNat + (Phi fs am).toNat
  rw [Phi_add h1 ha hB]
  have := Phi_nonneg F hm (h1.code (by omega) h2)
  have := Phi_nonneg F hm (ha.code (by omega) h0)
  omega
theorem Phi_lt_iff {fs : List PyData} (F : Fields fs) {m : Nat} (hm : m ≤ 4) {c d : Int} (hc : CodeOk m c) (hd : CodeOk m d) : (Phi fs c).toNat < (Phi fs d).toNat ↔ c < d := by
  have n1 := Phi_nonneg F hm hc
  have n2 := Phi_nonneg F hm hd
  constructor
  · intro h
    rcases Int.lt_trichotomy c d with z | z | z
    · exact z
    · rw [z] at h
      omega
    · have := Phi_lt F hm hd hc z
      omega
  · intro h
    have := Phi_lt F hm hc hd h
    omega
theorem Phis_drop {fs : List PyData} (F : Fields fs) {m B C : Nat} (hm : m ≤ 4) {am : Int} (ha : Ds m C am) (h0 : 0 ≤ am) (hB : B + C ≤ 2 ^ 100) : ∀ {cs : List Int}, (∀ c ∈ cs, Ds m B c ∧ 0 ≤ c) →
    Phis fs ((cs.filter fun c => decide (am < c)).map (· - am)) = ((Phis fs cs).filter fun t => decide ((Phi fs am).toNat < t)).map (· - (Phi fs am).toNat)
  | [], _ => rfl
  | c :: r, hc => by
    have ih := Phis_drop F hm ha h0 hB (cs := r) fun x hx => hc x (by simp [hx])
    obtain ⟨h1, h2⟩ := hc c (by simp)
    have hi := Phi_lt_iff F hm (ha.code (by omega) h0) (h1.code (by omega) h2)
    show Phis fs (((c :: r).filter fun c => decide (am < c)).map (· - am)) = (((Phi fs c).toNat :: Phis fs r).filter fun t => decide ((Phi fs am).toNat < t)).map (· - (Phi fs am).toNat)
    by_cases h : am < c
    · rw [List.filter_cons_of_pos (by simpa using h), List.filter_cons_of_pos (by simpa using hi.mpr h), List.map_cons, List.map_cons, ← ih]
      show (Phi fs (c - am)).toNat :: _ = _
      rw [Phi_sub h1 ha hB]
      congr 1
      have := Phi_nonneg F hm (ha.code (by omega) h0)
      omega
    · rw [List.filter_cons_of_neg (by simpa using h), List.filter_cons_of_neg (fun z => h (hi.mp (by simpa using z))), ih]
end FS
set_option Elab.async false
set_option linter.all false
set_option maxRecDepth 100000
/-! finer weights of codes (plain mathematics) -/
namespace FW
open PySem TV FM DX FB FC MS FD
/-- far turns are few, and fewer where the low digit is great -/
def Wz (κ : Nat) (c : Int) : Prop := ∃ (a : Nat) (R : Int), c = (a : Int) + 2 ^ 200 * R ∧ a < 2 ^ 58 + κ ∧ (tau R ≤ 8 ∧ a < 70 + κ ∨ tau R ≤ 4)
def Wl (i : Nat) (c : Int) : Prop := ∃ (a : Nat) (R : Int), c = (a : Int) + 2 ^ 200 * R ∧ a < 70 + i * 2 ^ 56 ∧ (tau R ≤ 4 * i ∧ a < 70 ∨ tau R + 4 ≤ 4 * i)
theorem Wz.mono {κ κ' : Nat} {c : Int} (h : Wz κ c) (l : κ ≤ κ') : Wz κ' c := by
  obtain ⟨a, R, h1, h2, h3⟩ := h
  exact ⟨a, R, h1, by omega, by omega⟩
theorem Wz.add {κ y Y : Nat} {c : Int} (h : Wz κ c) (hy : y < Y) : Wz (κ + Y) (c + (y : Nat)) := by
  obtain ⟨a, R, h1, h2, h3⟩ := h
  exact ⟨a + y, R, by rw [h1]; omega, by omega, by omega⟩
theorem Wl.start {x : Nat} (h : x < 70) : Wl 0 (x : Nat) := ⟨x, 0, by omega, by omega, .inl ⟨by rw [tau_zero]; exact Nat.zero_le _, h⟩⟩
theorem Wl.near {i y : Nat} {c : Int} (h : Wl i c) (hy : y < 2 ^ 56) : Wl (i + 1) (c + (y : Nat)) := by
  obtain ⟨a, R, h1, h2, h3⟩ := h
  exact ⟨a + y, R, by rw [h1]; omega, by omega, by omega⟩
theorem Wl.far {i y d : Nat} {c : Int} (h : Wl i c) (h0 : 1 ≤ d) (ht : Two y) : Wl (i + 1) (c + (y : Nat) * 2 ^ (200 * d)) := by
  obtain ⟨a, R, rfl, h2, h3⟩ := h
  obtain ⟨e, rfl⟩ : ∃ e, d = e + 1 := ⟨d - 1, by omega⟩
  have ht2 : tau (R + (y : Nat) * 2 ^ (200 * e)) ≤ tau R + 4 := by
    obtain ⟨p, q, s, hs, ey⟩ := ht
    rw [ey, Int.add_mul, ← Int.pow_add, Int.mul_assoc, ← Int.pow_add, ← Int.add_assoc]
    have h6 := tau_add (R + 2 ^ (p + 200 * e)) s (q + 200 * e)
    have h7 := (tau_pow (p + 200 * e) R).1
    omega
  refine ⟨a, R + (y : Nat) * 2 ^ (200 * e), ?_, Nat.lt_of_lt_of_le h2 (Nat.add_le_add_left (Nat.mul_le_mul_right _ (Nat.le_succ i)) _), by omega⟩
  rw [show 200 * (e + 1) = 200 + 200 * e by omega, Int.pow_add, Int.mul_add, Int.mul_left_comm]
  omega
theorem Wl.wz {i : Nat} {c : Int} (h : Wl i c) (hi : i ≤ 2) : Wz 0 c := by
  obtain ⟨a, R, h1, h2, h3⟩ := h
  refine ⟨a, R, h1, ?_, by omega⟩
  have : i * 2 ^ 56 ≤ 2 * 2 ^ 56 := Nat.mul_le_mul_right _ hi
  omega
theorem ones_sum (l : List Nat) : (l.map fun _ => 1).sum = l.length := by
  induction l with
  | nil => rfl
  | cons x y ih => simp only [List.map_cons, List.sum_cons, List.length_cons, ih]; omega
theorem cwt_low {a k : Nat} {R : Int} (h : a < 2 ^ k) (hk : k ≤ 100) : cwt ((a : Int) + 2 ^ 200 * R) ≤ k + 2 + 23 * tau R := by
  have hb : ∀ t ∈ turnsOf (a : Int), t ≤ k := by
    refine (tv_range (turnsOf_asc _)).mpr ?_
    rw [turnsOf_tv]
    have : ((2 ^ k : Nat) : Int) = 2 ^ k := by simp
    omega
  have hl := asc_len (a := 0) (turnsOf_asc (a : Int)) fun t ht => ⟨Nat.zero_le _, hb t ht⟩
  have he : (turnsOf (a : Int)).length % 2 = 0 := even_of_nonneg (turnsOf_asc _) (by rw [turnsOf_tv]; omega)
  unfold FC.cwt
  rw [turns_app (Q := 200) fun t ht => by have := hb t ht; omega, if_pos he, List.map_append, List.sum_append]
  have e1 : (turnsOf (a : Int)).map cw = (turnsOf (a : Int)).map fun _ => 1 := List.map_congr_left fun t ht => by
    unfold cw
    rw [if_pos (by have := hb t ht; omega)]
  have e2 := cw_sum ((turnsOf R).map (· + 200))
  rw [e1, ones_sum]
  rw [List.length_map] at e2
  unfold tau
  omega
theorem Wz.cwt {κ : Nat} {c : Int} (h : Wz κ c) (hk : κ ≤ 50) : FC.cwt c ≤ 193 := by
  obtain ⟨a, R, rfl, h2, h3⟩ := h
  rcases h3 with ⟨h3, h4⟩ | h3
  · have := cwt_low (R := R) (show a < 2 ^ 7 by omega) (by decide)
    omega
  · have := cwt_low (R := R) (show a < 2 ^ 59 by omega) (by decide)
    omega
theorem tau_not (n : Int) : tau (-n - 1) ≤ tau n + 1 := by
  unfold tau
  have hA := turnsOf_asc n
  have hv := turnsOf_tv n
  cases e : turnsOf n with
  | nil =>
    rw [e] at hv
    have : n = 0 := hv.symm
    rw [this, show turnsOf (-0 - 1) = [0] from turnsOf_is (ts := [0]) trivial rfl]
    decide
  | cons t r =>
    rw [e] at hA hv
    by_cases ht : t = 0
    · subst ht
      rw [tv_cons] at hv
      rw [turnsOf_is (ts := r) hA.tail (by rw [← hv]; simp; omega), List.length_cons]
      omega
    · rw [turnsOf_is (ts := 0 :: t :: r) (asc_cons (fun b hb => by rcases List.mem_cons.mp hb with rfl | hb; omega; have := hA.lt b hb; omega) hA) (by rw [tv_cons, hv]; simp; omega)]
      simp
theorem tau_pred (n : Int) : tau (n - 1) ≤ tau n + 2 := by
  have := (tau_s (n - 1)).2
  rw [show n - 1 + 1 = n by omega] at this
  split at this <;> omega
theorem tau_neg (n : Int) : tau (-n) ≤ tau n + 3 := by
  have h1 := tau_not (n - 1)
  rw [show -(n - 1) - 1 = -n by omega] at h1
  have := tau_pred n
  omega
theorem cwt_pred {κ : Nat} {c : Int} (h : Wz κ c) (hk : κ ≤ 50) : FC.cwt (c - 1) ≤ 255 := by
  obtain ⟨a, R, rfl, h2, h3⟩ := h
  by_cases ha : a = 0
  · subst ha
    have e : ((0 : Nat) : Int) + 2 ^ 200 * R - 1 = -1 + 2 ^ 200 * R := by omega
    have t1 : turnsOf (-1) = [0] := turnsOf_is (ts := [0]) trivial rfl
    rw [e]
    unfold FC.cwt
    rw [turns_app (Q := 200) fun t ht => by rw [t1] at ht; simp at ht; omega, t1, if_neg (by decide), List.map_append, List.sum_append]
    have e2 := cw_sum ((turnsOf (-R)).map (· + 200))
    rw [List.length_map] at e2
    have h4 := tau_neg R
    unfold tau at h4 h3
    have : (([0] : List Nat).map cw).sum = 1 := rfl
    omega
  · have e : ((a : Nat) : Int) + 2 ^ 200 * R - 1 = ((a - 1 : Nat) : Int) + 2 ^ 200 * R := by omega
    rw [e]
    have : FC.cwt (((a - 1 : Nat) : Int) + 2 ^ 200 * R) ≤ 193 := Wz.cwt (κ := κ) ⟨a - 1, R, rfl, by omega, by omega⟩ hk
    omega
/-- both words on a code -/
def Dk (m B κ : Nat) (c : Int) : Prop := Dw m B 8 c ∧ Wz κ c
theorem Dk.mono {m B B' κ κ' : Nat} {c : Int} (h : Dk m B κ c) (l : B ≤ B') (l2 : κ ≤ κ') : Dk m B' κ' c := ⟨h.1.mono l (Nat.le_refl _), h.2.mono l2⟩
theorem Dk.add {m B Y κ y : Nat} {c : Int} (h : Dk m B κ c) (hy : y < Y) : Dk m (B + Y) (κ + Y) (c + (y : Nat)) := ⟨h.1.add hy, h.2.add hy⟩
theorem cwts_dk {m B κ : Nat} (hk : κ ≤ 50) : ∀ {cs : List Int}, (∀ c ∈ cs, Dk m B κ c) → (cs.map FC.cwt).sum ≤ 193 * cs.length
  | [], _ => by simp
  | c :: r, h => by
    have h1 := (h c (by simp)).2.cwt hk
    have h2 := cwts_dk hk (cs := r) fun x hx => h x (by simp [hx])
    simp only [List.map_cons, List.sum_cons, List.length_cons]
    omega
end FW
set_option Elab.async false
set_option linter.all false
set_option maxRecDepth 100000
/-! what the program's functions of forms compute (plain mathematics) -/
namespace PM
open PySem TV FM DX FB FC HX L2
/-! ### equality of forms -/
mutual
theorem eqv_fm : ∀ {d e : PyData}, Fm d → Fm e → PyData.eqv d e = true → d = e
  | .int i, .int j, _, _, h => by
    simp only [PyData.eqv, beq_iff_eq] at h
    rw [h]
  | .int i, .tuple es, _, _, h => by simp [PyData.eqv] at h
  | .tuple ds, .int j, _, _, h => by simp [PyData.eqv] at h
  | .tuple ds, .tuple es, f, g, h => by
    rw [fm_tuple] at f g
    simp only [PyData.eqv] at h
    rw [eqvAll_fm f.1 g.1 h]
  | .none, _, f, _, _ => by simp [Fm] at f
  | .bool _, _, f, _, _ => by simp [Fm] at f
  | .str _, _, f, _, _ => by simp [Fm] at f
  | .list _, _, f, _, _ => by simp [Fm] at f
  | .dict _, _, f, _, _ => by simp [Fm] at f
  | .int _, .none, _, g, _ => by simp [Fm] at g
  | .int _, .bool _, _, g, _ => by simp [Fm] at g
  | .int _, .str _, _, g, _ => by simp [Fm] at g
  | .int _, .list _, _, g, _ => by simp [Fm] at g
  | .int _, .dict _, _, g, _ => by simp [Fm] at g
  | .tuple _, .none, _, g, _ => by simp [Fm] at g
  | .tuple _, .bool _, _, g, _ => by simp [Fm] at g
  | .tuple _, .str _, _, g, _ => by simp [Fm] at g
  | .tuple _, .list _, _, g, _ => by simp [Fm] at g
  | .tuple _, .dict _, _, g, _ => by simp [Fm] at g
theorem eqvAll_fm : ∀ {ds es : List PyData}, FmAll ds → FmAll es → PyData.eqvAll ds es = true → ds = es
  | [], [], _, _, _ => rfl
  | [], e :: r, _, _, h => by simp [PyData.eqvAll] at h
  | d :: r, [], _, _, h => by simp [PyData.eqvAll] at h
  | d :: r, e :: q, f, g, h => by
    rw [fmAll_cons] at f g
    simp only [PyData.eqvAll, Bool.and_eq_true] at h
    rw [eqv_fm f.1 g.1 h.1, eqvAll_fm f.2.2 g.2.2 h.2]
end
theorem eqv_val {d e : PyData} (f : Fm d) (g : Fm e) : PyData.eqv d e = decide (val d = val e) := by
  by_cases h : val d = val e
  · rw [decide_eq_true h, fm_inj f g h]
    exact SeqAt.eqv_refl _ (fm_lay g)
  · rw [decide_eq_false h]
    cases q : PyData.eqv d e with
    | false => rfl
    | true => exact absurd (by rw [eqv_fm f g q]) h
theorem eqv_self {d : PyData} (f : Fm d) : PyData.eqv d d = true := by rw [eqv_val f f, decide_eq_true rfl]
/-! ### forms as texts -/
mutual
theorem rp_fm : ∀ {d : PyData}, Fm d → d.showable = true ∧ d.hasDict = false ∧ d.shown.length + 2 ≤ 25 * wt d
  | .int i, f => by
    rw [fm_int] at f
    have h := Rp.int (i := i) (by omega)
    rw [wt_int]
    exact ⟨h.sh, h.nd, by have := h.ln; omega⟩
  | .tuple ds, f => by
    rw [fm_tuple] at f
    obtain ⟨h1, h2, h3⟩ := rpAll_fm f.1
    have h := Rp.tup (n := 25 * wtAll ds) (k := PyData.depthAll ds) ⟨h1, h2, Nat.le_refl _, h3⟩
    rw [wt_tuple]
    exact ⟨h.sh, h.nd, by have := h.ln; omega⟩
  | .none, f => by simp [Fm] at f
  | .bool _, f => by simp [Fm] at f
  | .str _, f => by simp [Fm] at f
  | .list _, f => by simp [Fm] at f
  | .dict _, f => by simp [Fm] at f
theorem rpAll_fm : ∀ {ds : List PyData}, FmAll ds → PyData.showableAll ds = true ∧ PyData.hasDictAll ds = false ∧ piled (PyData.shownAll ds) ≤ 25 * wtAll ds
  | [], _ => ⟨by simp [PyData.showableAll], by simp [PyData.hasDictAll], by simp [PyData.shownAll, piled]⟩
  | d :: r, f => by
    rw [fmAll_cons] at f
    obtain ⟨a1, a2, a3⟩ := rp_fm f.1
    obtain ⟨b1, b2, b3⟩ := rpAll_fm f.2.2
    refine ⟨by simp [PyData.showableAll, a1, b1], by simp [PyData.hasDictAll, a2, b2], ?_⟩
    simp only [PyData.shownAll, piled_cons, wtAll_cons]
    omega
end
theorem rp_form {d : PyData} (f : Fm d) : Rp d (25 * wt d) d.depth := by
  obtain ⟨h1, h2, h3⟩ := rp_fm f
  exact ⟨h1, h2, Nat.le_refl _, by omega⟩
/-! ### order -/
def sg (a b : Int) : Int := if a < b then -1 else if b < a then 1 else 0
theorem sg_lt {a b : Int} (h : a < b) : sg a b = -1 := if_pos h
theorem sg_gt {a b : Int} (h : b < a) : sg a b = 1 := by
  unfold sg
  rw [if_neg (by omega), if_pos h]
theorem sg_eq {a b : Int} (h : a = b) : sg a b = 0 := by
  unfold sg
  rw [if_neg (by omega), if_neg (by omega)]
theorem top_lt {a b : List Nat} {x y : Nat} (ha : Asc (a ++ [x])) (hb : Asc (b ++ [y])) (hp : a.length % 2 = b.length % 2) (h : x < y) :
    (a.length % 2 = 1 → tv (a ++ [x]) < tv (b ++ [y])) ∧ (a.length % 2 = 0 → tv (b ++ [y]) < tv (a ++ [x])) := by
  have h1 := top_out hb h
  have h2 := (tv_range (k := x) ha).mp (fun t ht => by
    rcases List.mem_append.mp ht with ht | ht
    · exact Nat.le_of_lt ((asc_snoc.mp ha).2 t ht)
    · rw [List.mem_singleton.mp ht]
      exact Nat.le_refl _)
  constructor
  · intro e
    have := h1.1 (by omega)
    omega
  · intro e
    have := h1.2 (by omega)
    omega
theorem split_at {A : List Nat} {c x : Nat} (hc : c < A.length) (hx : A[A.length - 1 - c]? = some x) : A = (A.take (A.length - 1 - c) ++ [x]) ++ A.drop (A.length - c) := by
  have e : A.take (A.length - c) = A.take (A.length - 1 - c) ++ [x] := by
    have : A.length - c = (A.length - 1 - c) + 1 := by omega
    rw [this, List.take_add_one, hx]
    rfl
  rw [← e, List.take_append_drop]
theorem asc_app {a b : List Nat} (h : Asc (a ++ b)) : Asc a ∧ Asc b := by
  have := asc_pairwise.mp h
  rw [List.pairwise_append] at this
  exact ⟨asc_pairwise.mpr this.1, asc_pairwise.mpr this.2.1⟩
theorem ord_diff {A B : List Nat} {c x y : Nat} (hA : Asc A) (hB : Asc B) (h1 : c < A.length) (h2 : c < B.length) (hs : A.drop (A.length - c) = B.drop (B.length - c)) (hp : A.length % 2 = B.length % 2)
    (hx : A[A.length - 1 - c]? = some x) (hy : B[B.length - 1 - c]? = some y) (h : x < y) : ((A.length + c) % 2 = 0 → tv A < tv B) ∧ ((A.length + c) % 2 = 1 → tv B < tv A) := by
  have eA := split_at h1 hx
  have eB := split_at h2 hy
  have la : (A.take (A.length - 1 - c)).length = A.length - 1 - c := by rw [List.length_take]; omega
  have lb : (B.take (B.length - 1 - c)).length = B.length - 1 - c := by rw [List.length_take]; omega
  have hA' := hA
  have hB' := hB
  rw [eA] at hA'
  rw [eB] at hB'
  have q := top_lt (asc_app hA').1 (asc_app hB').1 (by omega) h
  have vA : tv A = tv (A.take (A.length - 1 - c) ++ [x]) + (if (A.take (A.length - 1 - c) ++ [x]).length % 2 = 0 then tv (A.drop (A.length - c)) else -tv (A.drop (A.length - c))) := by
    rw [← tv_append, ← eA]
  have vB : tv B = tv (B.take (B.length - 1 - c) ++ [y]) + (if (B.take (B.length - 1 - c) ++ [y]).length % 2 = 0 then tv (B.drop (B.length - c)) else -tv (B.drop (B.length - c))) := by
    rw [← tv_append, ← eB]
  rw [List.length_append, la, List.length_singleton] at vA
  rw [List.length_append, lb, List.length_singleton, ← hs] at vB
  have hpp : (A.length - 1 - c + 1) % 2 = (B.length - 1 - c + 1) % 2 := by omega
  rw [← hpp] at vB
  rw [la] at q
  constructor
  · intro e
    have := q.1 (by omega)
    omega
  · intro e
    have := q.2 (by omega)
    omega
theorem ord_short {A B : List Nat} (hA : Asc A) (hB : Asc B) (h : A.length < B.length) (hs : A = B.drop (B.length - A.length)) (hp : A.length % 2 = B.length % 2) : tv A < tv B := by
  have e : B = B.take (B.length - A.length) ++ A := by
    conv => lhs; rw [← List.take_append_drop (B.length - A.length) B]
    rw [← hs]
  have hl : (B.take (B.length - A.length)).length = B.length - A.length := by rw [List.length_take]; omega
  have v : tv B = tv (B.take (B.length - A.length)) + (if (B.take (B.length - A.length)).length % 2 = 0 then tv A else -tv A) := by
    rw [← tv_append, ← e]
  have hB' := hB
  rw [e] at hB'
  have := even_pos (asc_app hB').1 (by intro z; rw [z] at hl; simp at hl; omega) (by omega)
  rw [hl, if_pos (by omega)] at v
  omega
/-! ### rows: places with two marks -/
abbrev Row := PyData × Bool × Bool
def bi (b : Bool) : Int := if b then 1 else 0
def bn (b : Bool) : Nat := if b then 1 else 0
theorem bi_bn (b : Bool) : bi b = (bn b : Nat) := by cases b <;> rfl
def vl (d : PyData) : Nat := (val d).toNat
def rowD (r : Row) : PyData := .tuple [r.1, .int (bi r.2.1), .int (bi r.2.2)]
def pA (R : List Row) : List PyData := (R.filter (·.2.1)).map (·.1)
def pB (R : List Row) : List PyData := (R.filter (·.2.2)).map (·.1)
def pR (R : List Row) : List PyData := R.map (·.1)
structure Mg (A B : List PyData) (R : List Row) : Prop where
  a : pA R = A
  b : pB R = B
  fm : FmAll (pR R)
  asc : Asc (vals (pR R))
  wt : wtAll (pR R) ≤ wtAll A + wtAll B
  mem : ∀ p ∈ pR R, p ∈ A ∨ p ∈ B
theorem vals_map (ds : List PyData) : vals ds = ds.map vl := by
  induction ds with
  | nil => simp [vals]
  | cons d r ih => rw [vals_cons, ih]; rfl
theorem pR_app (R S : List Row) : pR (R ++ S) = pR R ++ pR S := by simp [pR]
theorem pA_app (R S : List Row) : pA (R ++ S) = pA R ++ pA S := by simp [pA]
theorem pB_app (R S : List Row) : pB (R ++ S) = pB R ++ pB S := by simp [pB]
/-- one more row -/
theorem Mg.snoc {A B : List PyData} {R : List Row} (h : Mg A B R) {p : PyData} {m n : Bool} (hmn : (m || n) = true) (f : Fm p) (h0 : 0 ≤ val p) (hlt : ∀ r ∈ R, vl r.1 < vl p) :
    Mg (if m then A ++ [p] else A) (if n then B ++ [p] else B) (R ++ [(p, m, n)]) := by
  refine ⟨?_, ?_, ?_, ?_, ?_, ?_⟩
  · rw [pA_app, h.a]
    cases m <;> simp [pA]
  · rw [pB_app, h.b]
    cases n <;> simp [pB]
  · rw [pR_app, fmAll_app]
    refine ⟨h.fm, ?_⟩
    show FmAll [p]
    rw [fmAll_cons]
    exact ⟨f, h0, fmAll_nil⟩
  · rw [pR_app, vals_app]
    show Asc (vals (pR R) ++ vals [p])
    rw [vals_cons, vals_nil, asc_snoc]
    refine ⟨h.asc, fun x hx => ?_⟩
    rw [vals_map] at hx
    obtain ⟨d, hd, rfl⟩ := List.mem_map.mp hx
    obtain ⟨r, hr, rfl⟩ := List.mem_map.mp hd
    exact hlt r hr
  · have hw := h.wt
    rw [pR_app, wtAll_app]
    show wtAll (pR R) + wtAll [p] ≤ _
    rw [wtAll_cons, wtAll_nil]
    cases m <;> cases n <;> simp [wtAll_app, wtAll_cons, wtAll_nil] at hmn ⊢ <;> omega
  · intro x hx
    rw [pR_app] at hx
    rcases List.mem_append.mp hx with hx | hx
    · rcases h.mem x hx with z | z
      · left
        cases m <;> simp [z]
      · right
        cases n <;> simp [z]
    · have hx : x = p := List.mem_singleton.mp hx
      subst hx
      cases m <;> cases n <;> simp at hmn ⊢
/-! ### combined -/
def comb (f : Bool → Bool → Bool) : Bool → Bool → Bool → List Row → List PyData
  | _, _, _, [] => []
  | o, t, b, (p, m, n) :: R => if f (o ^^ m) (t ^^ n) = b then comb f (o ^^ m) (t ^^ n) b R else p :: comb f (o ^^ m) (t ^^ n) (f (o ^^ m) (t ^^ n)) R
def par (n : Nat) : Bool := decide (n % 2 = 1)
theorem par_zero : par 0 = false := rfl
theorem par_succ (n : Nat) : par (n + 1) = !par n := by
  unfold par
  by_cases h : n % 2 = 1
  · rw [decide_eq_true h, decide_eq_false (by omega)]
    rfl
  · rw [decide_eq_false h, decide_eq_true (by omega)]
    rfl
theorem cnt_big {ds : List PyData} {q p : Nat} (h : ∀ x ∈ vals ds, p < x) (hq : q ≤ p) : cnt (vals ds) q = 0 := cnt_zero fun t ht => by have := h t ht; omega
theorem comb_sub (f : Bool → Bool → Bool) : ∀ (R : List Row) (o t b : Bool), (comb f o t b R).Sublist (pR R)
  | [], _, _, _ => .slnil
  | (p, m, n) :: R, o, t, b => by
    unfold comb
    split
    · exact .cons _ (comb_sub f R _ _ _)
    · exact .cons_cons _ (comb_sub f R _ _ _)
theorem pA_sub (R : List Row) : (pA R).Sublist (pR R) := (List.filter_sublist (l := R)).map _
theorem pB_sub (R : List Row) : (pB R).Sublist (pR R) := (List.filter_sublist (l := R)).map _
theorem vals_sub {ds es : List PyData} (h : ds.Sublist es) : (vals ds).Sublist (vals es) := by
  rw [vals_map, vals_map]
  exact h.map _
theorem asc_sub {a b : List Nat} (h : a.Sublist b) (hb : Asc b) : Asc a := asc_pairwise.mpr ((asc_pairwise.mp hb).sublist h)
theorem fmAll_sub {ds es : List PyData} (h : ds.Sublist es) (f : FmAll es) : FmAll ds := by
  induction h with
  | slnil => exact fmAll_nil
  | cons a _ ih => exact ih ((fmAll_cons _ _).mp f).2.2
  | cons_cons a _ ih =>
    rw [fmAll_cons] at f ⊢
    exact ⟨f.1, f.2.1, ih f.2.2⟩
theorem comb_par (f : Bool → Bool → Bool) : ∀ (R : List Row) (o t b : Bool), Asc (vals (pR R)) → f o t = b → ∀ q,
    (b ^^ par (cnt (vals (comb f o t b R)) q)) = f (o ^^ par (cnt (vals (pA R)) q)) (t ^^ par (cnt (vals (pB R)) q))
  | [], o, t, b, _, h, q => by
    simp [comb, pA, pB, vals, cnt, par, h]
  | (p, m, n) :: R, o, t, b, hA, h, q => by
    have hA1 : Asc (vl p :: vals (pR R)) := by
      have : vals (pR ((p, m, n) :: R)) = vl p :: vals (pR R) := by show vals (p :: pR R) = _; rw [vals_cons]; rfl
      rw [this] at hA
      exact hA
    have hlt := Asc.lt hA1
    by_cases hq : vl p ≤ q
    · have ea : par (cnt (vals (pA ((p, m, n) :: R))) q) = (m ^^ par (cnt (vals (pA R)) q)) := by
        cases m
        · simp [pA]
        · show par (cnt (vals (p :: pA R)) q) = _
          rw [vals_cons, cnt_cons]
          show par (_ + if vl p ≤ q then 1 else 0) = _
          rw [if_pos hq, par_succ]
          simp
      have eb : par (cnt (vals (pB ((p, m, n) :: R))) q) = (n ^^ par (cnt (vals (pB R)) q)) := by
        cases n
        · simp [pB]
        · show par (cnt (vals (p :: pB R)) q) = _
          rw [vals_cons, cnt_cons]
          show par (_ + if vl p ≤ q then 1 else 0) = _
          rw [if_pos hq, par_succ]
          simp
      rw [ea, eb, ← Bool.xor_assoc, ← Bool.xor_assoc]
      unfold comb
      split
      · rename_i e
        exact comb_par f R _ _ _ hA1.tail e q
      · rename_i e
        rw [← comb_par f R _ _ _ hA1.tail rfl q, vals_cons, cnt_cons]
        show (b ^^ par (_ + if vl p ≤ q then 1 else 0)) = _
        rw [if_pos hq, par_succ]
        generalize f (o ^^ m) (t ^^ n) = z at *
        generalize par _ = y
        revert e
        cases z <;> cases b <;> cases y <;> decide
    · have big : ∀ {ds : List PyData}, ds.Sublist (pR ((p, m, n) :: R)) → par (cnt (vals ds) q) = false := fun {ds} hs => by
        rw [cnt_zero fun x hx => ?_]
        · rfl
        · have hx' := (vals_sub hs).subset hx
          have : vals (pR ((p, m, n) :: R)) = vl p :: vals (pR R) := by show vals (p :: pR R) = _; rw [vals_cons]; rfl
          rw [this] at hx'
          rcases List.mem_cons.mp hx' with rfl | hx'
          · omega
          · have := hlt x hx'
            omega
      rw [big (comb_sub f _ _ _ _), big (pA_sub _), big (pB_sub _)]
      simp [h]
theorem tb_par {ts : List Nat} (h : Asc ts) (p : Nat) : tb (tv ts) p = par (cnt ts p) := tb_tv p h
theorem comb_tb {f : Bool → Bool → Bool} {A B : List PyData} {R : List Row} (M : Mg A B R) (h : f false false = false) (q : Nat) :
    tb (tv (vals (comb f false false false R))) q = f (tb (tv (vals A)) q) (tb (tv (vals B)) q) := by
  have hA : Asc (vals A) := by rw [← M.a]; exact asc_sub (vals_sub (pA_sub R)) M.asc
  have hB : Asc (vals B) := by rw [← M.b]; exact asc_sub (vals_sub (pB_sub R)) M.asc
  rw [tb_par (asc_sub (vals_sub (comb_sub f R _ _ _)) M.asc), tb_par hA, tb_par hB, ← M.a, ← M.b]
  have := comb_par f R false false false M.asc h q
  simpa using this
end PM
set_option Elab.async false
set_option linter.all false
set_option maxRecDepth 100000
/-! sums, neighbours (plain mathematics) -/
namespace PM
open PySem TV FM DX FB FC HX L2
theorem mul_pm (s P : Int) (h : s = 0 ∨ s = 1 ∨ s = -1) : s * P = if s = 0 then 0 else if s = 1 then P else -P := by
  rcases h with rfl | rfl | rfl
  · simp
  · simp
  · rw [if_neg (by decide), if_neg (by decide)]
    omega
/-- a sequence of turns and one more place -/
theorem tv_snoc_d (ds : List PyData) (p : PyData) : tv (vals (ds ++ [p])) = tv (vals ds) + (2 * ((ds.length % 2 : Nat) : Int) - 1) * 2 ^ vl p := by
  rw [vals_app, vals_cons, vals_nil, tv_snoc, vals_len]
  show _ + (if _ then -(2 ^ vl p) else 2 ^ vl p) = _
  by_cases h : ds.length % 2 = 0
  · rw [if_pos h, h]
    simp
  · have h1 : ds.length % 2 = 1 := by omega
    rw [if_neg h, h1]
    simp
theorem fmAll_snoc {ds : List PyData} {p : PyData} (f : FmAll ds) (g : Fm p) (h : 0 ≤ val p) : FmAll (ds ++ [p]) := by
  rw [fmAll_app, fmAll_cons]
  exact ⟨f, g, h, fmAll_nil⟩
theorem asc_snoc_d {ds : List PyData} {p : PyData} (f : Asc (vals ds)) (h : ∀ x ∈ vals ds, x < vl p) : Asc (vals (ds ++ [p])) := by
  rw [vals_app, vals_cons, vals_nil, asc_snoc]
  exact ⟨f, h⟩
/-- the next place, if there is one -/
def nxt (R : List Row) (i : Nat) : Nat := match R[i]? with
  | some r => vl r.1
  | none => 0
/-- the state of a sum ahead of row i -/
structure Ad (R : List Row) (i : Nat) (c0 : Int) (F : List PyData) (o t c b : Nat) : Prop where
  fm : FmAll F
  asc : Asc (vals F)
  lt : ∀ f ∈ vals F, ∀ r, R[i]? = some r → f < vl r.1
  pb : F.length % 2 = b
  po : (pA (R.take i)).length % 2 = o
  pt : (pB (R.take i)).length % 2 = t
  hc : c ≤ 1
  eq : ∃ r : Int, (o : Int) + t = r + c ∧ (r = b ∨ i < R.length) ∧ tv (vals F) = tv (vals (pA (R.take i))) + tv (vals (pB (R.take i))) + c0 + (r - b) * 2 ^ nxt R i
  ln : F.length ≤ 2 * i
theorem Ad.start {R : List Row} {c0 : Nat} (h1 : c0 ≤ 1) (h : c0 = 1 → nxt R 0 = 0 ∧ 0 < R.length) : Ad R 0 c0 [] 0 0 c0 0 := by
  refine ⟨fmAll_nil, by rw [vals_nil]; trivial, by simp [vals], rfl, rfl, rfl, h1, ⟨-(c0 : Int), by omega, ?_, ?_⟩, by simp⟩
  · by_cases e : c0 = 1
    · exact .inr (h e).2
    · exact .inl (by omega)
  · show tv (vals []) = tv (vals []) + tv (vals []) + c0 + (-(c0 : Int) - (0 : Nat)) * 2 ^ nxt R 0
    rw [vals_nil, tv_nil]
    by_cases e : c0 = 1
    · rw [(h e).1, e]
      decide
    · have : c0 = 0 := by omega
      rw [this]
      simp
theorem pA_take {R : List Row} {i : Nat} {p : PyData} {m n : Bool} (h : R[i]? = some (p, m, n)) : pA (R.take (i + 1)) = pA (R.take i) ++ (if m then [p] else []) := by
  rw [List.take_add_one, h, pA_app]
  cases m <;> simp [pA]
theorem pB_take {R : List Row} {i : Nat} {p : PyData} {m n : Bool} (h : R[i]? = some (p, m, n)) : pB (R.take (i + 1)) = pB (R.take i) ++ (if n then [p] else []) := by
  rw [List.take_add_one, h, pB_app]
  cases n <;> simp [pB]
/-- a turn more: the length's bit and the value -/
theorem turn_more (ds : List PyData) (p : PyData) (m : Bool) : (ds ++ (if m then [p] else [])).length % 2 = (ds.length % 2 + bn m) % 2 ∧
    tv (vals (ds ++ (if m then [p] else []))) = tv (vals ds) + (((ds.length % 2 : Nat) : Int) - (((ds.length % 2 + bn m) % 2 : Nat) : Int)) * 2 ^ vl p := by
  cases m
  · simp [bn]
  · refine ⟨by simp [bn], ?_⟩
    show tv (vals (ds ++ [p])) = _
    rw [tv_snoc_d]
    have : ds.length % 2 = 0 ∨ ds.length % 2 = 1 := by omega
    rcases this with e | e <;> rw [e] <;> simp [bn]
theorem nxt_some {R : List Row} {i : Nat} {r : Row} (h : R[i]? = some r) : nxt R i = vl r.1 := by
  unfold nxt
  rw [h]
/-- the numbers of one step -/
theorem add_nums {o t c o' t' h c' r' : Nat} (h1 : o' ≤ 1) (h2 : t' ≤ 1) (h3 : c ≤ 1) (e1 : h = (o' + t' + c) % 2) (e2 : c' = (o' + t' + c) / 2) (e3 : r' = (o' + t' + c') % 2) : (o' : Int) + t' = r' + c' ∧ (h : Int) = r' + c - c' ∧ c' ≤ 1 ∧ h ≤ 1 ∧ r' ≤ 1 := by
  omega
/-- row i is taken: here the bit at its place, rest the one behind it -/
theorem Ad.step {R : List Row} {i : Nat} {c0 : Int} {F : List PyData} {o t c b : Nat} (S : Ad R i c0 F o t c b) (hA : Asc (vals (pR R))) (hF : FmAll (pR R)) {p : PyData} {m n : Bool} (hr : R[i]? = some (p, m, n))
    {o' t' h c' r' : Nat} (eo : o' = (o + bn m) % 2) (et : t' = (t + bn n) % 2) (e1 : h = (o' + t' + c) % 2) (e2 : c' = (o' + t' + c) / 2) (e3 : r' = (o' + t' + c') % 2)
    {F1 : List PyData} (hF1 : F1 = if h = b then F else F ++ [p]) :
    (r' = h → Ad R (i + 1) c0 F1 o' t' c' h) ∧
    (r' ≠ h → ∀ f, Fm f → val f = val p + 1 → (i + 1 = R.length ∨ ∃ s, R[i + 1]? = some s ∧ vl s.1 ≠ vl f) → Ad R (i + 1) c0 (F1 ++ [f]) o' t' c' r') ∧
    (r' ≠ h → (∃ s, R[i + 1]? = some s ∧ vl s.1 = vl p + 1) → Ad R (i + 1) c0 F1 o' t' c' h) := by
  obtain ⟨hc, hcc, hc1, hh1, hr1⟩ := add_nums (o := o) (t := t) (c := c) (o' := o') (t' := t') (h := h) (c' := c') (r' := r') (by omega) (by omega) S.hc e1 e2 e3
  obtain ⟨r, q1, q2, q3⟩ := S.eq
  have hpm : p ∈ pR R := List.mem_map.mpr ⟨_, List.mem_of_getElem? hr, rfl⟩
  obtain ⟨fp, p0⟩ := fmAll_mem hF p hpm
  have ta := turn_more (pA (R.take i)) p m
  have tb' := turn_more (pB (R.take i)) p n
  rw [← pA_take hr, S.po, ← eo] at ta
  rw [← pB_take hr, S.pt, ← et] at tb'
  rw [nxt_some hr] at q3
  have ltp : ∀ x ∈ vals F, x < vl p := fun x hx => S.lt x hx _ hr
  -- F1
  have f1 : FmAll F1 := by
    rw [hF1]
    split
    · exact S.fm
    · exact fmAll_snoc S.fm fp p0
  have a1 : Asc (vals F1) := by
    rw [hF1]
    split
    · exact S.asc
    · exact asc_snoc_d S.asc ltp
  have l1 : ∀ x ∈ vals F1, x ≤ vl p := by
    rw [hF1]
    split
    · exact fun x hx => Nat.le_of_lt (ltp x hx)
    · intro x hx
      rw [vals_app, vals_cons, vals_nil] at hx
      rcases List.mem_append.mp hx with hx | hx
      · exact Nat.le_of_lt (ltp x hx)
      · exact Nat.le_of_eq (List.mem_singleton.mp hx)
  have p1 : F1.length % 2 = h := by
    rw [hF1]
    have := S.pb
    split
    · omega
    · rw [List.length_append, List.length_singleton]
      omega
  have n1 : F1.length ≤ 2 * i + 1 := by
    rw [hF1]
    have := S.ln
    split
    · omega
    · rw [List.length_append, List.length_singleton]
      omega
  have v1 : tv (vals F1) = tv (vals F) + ((b : Int) - h) * 2 ^ vl p := by
    rw [hF1]
    by_cases e : h = b
    · rw [if_pos e, e]
      simp
    · rw [if_neg e, tv_snoc_d, S.pb]
      have : (2 * ((b : Nat) : Int) - 1) = (b : Int) - h := by
        have := S.pb
        omega
      rw [this]
  have hasc : ∀ s, R[i + 1]? = some s → vl p < vl s.1 := fun s hs => by
    have := asc_pairwise.mp hA
    rw [vals_map, pR, List.map_map, List.pairwise_iff_getElem] at this
    obtain ⟨x1, x2⟩ := List.getElem?_eq_some_iff.mp hr
    obtain ⟨y1, y2⟩ := List.getElem?_eq_some_iff.mp hs
    have z := this i (i + 1) (by simpa using x1) (by simpa using y1) (by omega)
    simp only [List.getElem_map, Function.comp, x2, y2] at z
    exact z
  -- the value, with rest times what is open behind
  have main : tv (vals F1) = tv (vals (pA (R.take (i + 1)))) + tv (vals (pB (R.take (i + 1)))) + c0 + ((r' : Int) - h) * 2 ^ (vl p + 1) := by
    rw [v1, q3, ta.2, tb'.2, Int.pow_succ]
    generalize (2 : Int) ^ vl p = P
    generalize tv (vals (pA (R.take i))) = a
    generalize tv (vals (pB (R.take i))) = d
    have e5 : ((r : Int) - b) + (b - h) = ((o : Int) - o') + (t - t') + ((r' : Int) - h) * 2 := by omega
    have e6 : ((r : Int) - b) * P + (b - h) * P = ((o : Int) - o') * P + (t - t') * P + ((r' : Int) - h) * (P * 2) := by
      rw [← Int.add_mul, e5, Int.add_mul, Int.add_mul, Int.mul_assoc, Int.mul_comm 2 P]
    omega
  refine ⟨fun e => ?_, fun e f ff vf hn => ?_, fun e hn => ?_⟩
  · refine ⟨f1, a1, fun x hx s hs => Nat.lt_of_le_of_lt (l1 x hx) (hasc s hs), p1, ta.1, tb'.1, hc1, ⟨(r' : Int), hc, .inl (by rw [e]), ?_⟩, by omega⟩
    rw [main, e]
    simp
  · have vf' : vl f = vl p + 1 := by
      clear hn
      unfold vl
      omega
    have k1 : (F1 ++ [f]).length % 2 = r' := by
      clear hn
      rw [List.length_append, List.length_singleton]
      omega
    have k2 : (F1 ++ [f]).length ≤ 2 * (i + 1) := by
      clear hn
      rw [List.length_append, List.length_singleton]
      omega
    have k3 : 0 ≤ val f := by
      clear hn
      omega
    have k4 : ∀ x ∈ vals F1, x < vl f := fun x hx => by
      clear hn
      have := l1 x hx
      omega
    refine ⟨fmAll_snoc f1 ff k3, asc_snoc_d a1 k4, fun x hx s hs => ?_, k1, ta.1, tb'.1, hc1, ⟨(r' : Int), hc, .inl rfl, ?_⟩, k2⟩
    · have h1 := hasc s hs
      have h2 : vl s.1 ≠ vl f := by
        rcases hn with hn | ⟨s', hs', hne⟩
        · rw [List.getElem?_eq_none (by omega)] at hs
          cases hs
        · rw [hs] at hs'
          cases hs'
          exact hne
      clear hn
      rw [vals_app, vals_cons, vals_nil] at hx
      rcases List.mem_append.mp hx with hx | hx
      · have := l1 x hx
        omega
      · have : x = vl f := List.mem_singleton.mp hx
        omega
    · clear hn
      rw [tv_snoc_d, p1, main, vf']
      have : (2 * ((h : Nat) : Int) - 1) = (h : Int) - r' := by omega
      rw [this]
      generalize (2 : Int) ^ (vl p + 1) = P
      have : ((r' : Int) - h) * P + (h - r') * P = 0 := by
        rw [← Int.add_mul]
        have : ((r' : Int) - h) + (h - r') = 0 := by omega
        rw [this, Int.zero_mul]
      simp
      omega
  · obtain ⟨s, hs, vs⟩ := hn
    refine ⟨f1, a1, fun x hx s' hs' => Nat.lt_of_le_of_lt (l1 x hx) (hasc s' hs'), p1, ta.1, tb'.1, hc1, ⟨(r' : Int), hc, .inr (List.getElem?_eq_some_iff.mp hs).1, ?_⟩, by omega⟩
    rw [main, nxt_some hs, vs]
theorem Ad.done {R : List Row} {c0 : Int} {F : List PyData} {o t c b : Nat} (S : Ad R R.length c0 F o t c b) : tv (vals F) = tv (vals (pA R)) + tv (vals (pB R)) + c0 := by
  obtain ⟨r, _, q2, q3⟩ := S.eq
  rcases q2 with e | e
  · rw [q3, e, List.take_of_length_le (Nat.le_refl _)]
    simp
  · omega
/-! ### one place put in or taken out -/
structure Tog (A : List PyData) (p : PyData) (B : List PyData) : Prop where
  ex : ∃ L S : List PyData, A = L ++ S ∧ (∀ x ∈ L, vl x < vl p) ∧ ((∃ S', S = p :: S' ∧ B = L ++ S') ∨ ((∀ x ∈ S, vl p < vl x) ∧ B = L ++ p :: S))
theorem Tog.row {A B : List PyData} {p : PyData} (h : Tog A p B) (fA : FmAll A) (hA : Asc (vals A)) (f : Fm p) (h0 : 0 ≤ val p) : FmAll B ∧ Asc (vals B) := by
  obtain ⟨L, S, rfl, h1, h2⟩ := h.ex
  rw [fmAll_app] at fA
  rw [vals_app] at hA
  obtain ⟨a1, a2⟩ := asc_app hA
  have a3 := asc_pairwise.mp hA
  rw [List.pairwise_append] at a3
  rcases h2 with ⟨S', rfl, rfl⟩ | ⟨h3, rfl⟩
  · rw [fmAll_app, vals_app]
    rw [fmAll_cons] at fA
    refine ⟨⟨fA.1, fA.2.2.2⟩, asc_pairwise.mpr (List.pairwise_append.mpr ⟨asc_pairwise.mp a1, ?_, fun x hx y hy => a3.2.2 x hx y ?_⟩)⟩
    · rw [vals_cons] at a2
      exact asc_pairwise.mp a2.tail
    · rw [vals_cons]
      exact List.mem_cons_of_mem _ hy
  · rw [fmAll_app, fmAll_cons, vals_app, vals_cons]
    have lv : ∀ x ∈ vals L, x < vl p := fun x hx => by
      rw [vals_map] at hx
      obtain ⟨d, hd, rfl⟩ := List.mem_map.mp hx
      exact h1 d hd
    have sv : ∀ x ∈ vals S, vl p < x := fun x hx => by
      rw [vals_map] at hx
      obtain ⟨d, hd, rfl⟩ := List.mem_map.mp hx
      exact h3 d hd
    refine ⟨⟨fA.1, f, h0, fA.2⟩, asc_pairwise.mpr (List.pairwise_append.mpr ⟨asc_pairwise.mp a1, asc_pairwise.mp (asc_cons sv a2), fun x hx y hy => ?_⟩)⟩
    rcases List.mem_cons.mp hy with rfl | hy
    · exact lv x hx
    · exact a3.2.2 x hx y hy
theorem Tog.len {A B : List PyData} {p : PyData} (h : Tog A p B) : B.length ≤ A.length + 1 := by
  obtain ⟨L, S, rfl, h1, h2⟩ := h.ex
  rcases h2 with ⟨S', rfl, rfl⟩ | ⟨h3, rfl⟩ <;> simp only [List.length_append, List.length_cons] <;> omega
theorem Tog.wt {A B : List PyData} {p : PyData} (h : Tog A p B) : wtAll B ≤ wtAll A + wt p := by
  obtain ⟨L, S, rfl, h1, h2⟩ := h.ex
  rcases h2 with ⟨S', rfl, rfl⟩ | ⟨h3, rfl⟩ <;> simp only [wtAll_app, wtAll_cons] <;> omega
theorem Tog.mem {A B : List PyData} {p : PyData} (h : Tog A p B) : ∀ x ∈ B, x ∈ A ∨ x = p := by
  obtain ⟨L, S, rfl, h1, h2⟩ := h.ex
  rcases h2 with ⟨S', rfl, rfl⟩ | ⟨h3, rfl⟩
  · intro x hx
    simp only [List.mem_append, List.mem_cons] at hx ⊢
    rcases hx with hx | hx
    · exact .inl (.inl hx)
    · exact .inl (.inr (.inr hx))
  · intro x hx
    simp only [List.mem_append, List.mem_cons] at hx ⊢
    rcases hx with hx | hx | hx
    · exact .inl (.inl hx)
    · exact .inr hx
    · exact .inl (.inr hx)
/-- x + 1 where bit 0 is 1: x has the turns 0, a, .. -/
theorem Tog.odd {a p : PyData} {r B : List PyData} (h : Tog (a :: r) p B) (hA : Asc (vals (a :: r))) (hp : vl p = vl a + 1) : tv (vals B) = 2 ^ vl a + tv (vals r) := by
  obtain ⟨L, S, e, h1, h2⟩ := h.ex
  have hlt : ∀ x ∈ r, vl a < vl x := fun x hx => by
    rw [vals_cons] at hA
    refine Asc.lt hA _ ?_
    rw [vals_map]
    exact List.mem_map.mpr ⟨x, hx, rfl⟩
  have hL : L = [a] ∧ S = r := by
    cases L with
    | nil =>
      rcases h2 with ⟨S', rfl, _⟩ | ⟨h3, _⟩
      · injection e with e1 e2
        subst e1
        omega
      · have e' : S = a :: r := e.symm
        have := h3 a (by rw [e']; simp)
        omega
    | cons l L =>
      injection e with e1 e2
      subst e1
      cases L with
      | nil => exact ⟨rfl, e2.symm⟩
      | cons l2 L =>
        have g1 := h1 l2 (by simp)
        have g2 := hlt l2 (by rw [e2]; simp)
        omega
  obtain ⟨rfl, rfl⟩ := hL
  have hv : ∀ d : PyData, ∀ l, tv (vals (d :: l)) = -(2 ^ vl d) - tv (vals l) := fun d l => by
    rw [vals_cons, tv_cons]
    rfl
  rcases h2 with ⟨S', rfl, rfl⟩ | ⟨h3, rfl⟩
  · show tv (vals (a :: S')) = _
    rw [hv, hv, hp, Int.pow_succ]
    omega
  · show tv (vals (a :: p :: S)) = _
    rw [hv, hv, hp, Int.pow_succ]
    omega
/-- x + 1 where bit 0 is 0 -/
theorem Tog.even {p : PyData} {A B : List PyData} (h : Tog A p B) (hp : vl p = 1) (h0 : ∀ x ∈ A, 0 < vl x) : tv (vals B) = -2 - tv (vals A) ∧ ∀ x ∈ B, 0 < vl x := by
  obtain ⟨L, S, rfl, h1, h2⟩ := h.ex
  have hL : L = [] := by
    cases L with
    | nil => rfl
    | cons l L =>
      have g1 := h1 l (by simp)
      have g2 := h0 l (by simp)
      omega
  subst hL
  have hv : ∀ d : PyData, ∀ l, tv (vals (d :: l)) = -(2 ^ vl d) - tv (vals l) := fun d l => by
    rw [vals_cons, tv_cons]
    rfl
  rcases h2 with ⟨S', rfl, rfl⟩ | ⟨h3, rfl⟩
  · simp only [List.nil_append] at *
    rw [hv, hp]
    refine ⟨?_, fun x hx => h0 x (by simp [hx])⟩
    have : (2 : Int) ^ 1 = 2 := by decide
    omega
  · simp only [List.nil_append] at *
    rw [hv, hp]
    refine ⟨?_, fun x hx => ?_⟩
    · have : (2 : Int) ^ 1 = 2 := by decide
      omega
    · rcases List.mem_cons.mp hx with rfl | hx
      · omega
      · exact h0 x hx
theorem tv_zero (l : List PyData) : tv (vals (.int 0 :: l)) = -1 - tv (vals l) := by
  rw [vals_cons, tv_cons, val_int]
  rfl
theorem asc_zero {l : List PyData} (h : Asc (vals l)) (h0 : ∀ x ∈ l, 0 < vl x) : Asc (vals (.int 0 :: l)) := by
  rw [vals_cons, val_int]
  refine asc_cons (fun b hb => ?_) h
  rw [vals_map] at hb
  obtain ⟨d, hd, rfl⟩ := List.mem_map.mp hb
  exact h0 d hd
theorem fmAll_zero {l : List PyData} (h : FmAll l) : FmAll (.int 0 :: l) := by
  rw [fmAll_cons, fm_int, val_int]
  exact ⟨by decide, by decide, h⟩
/-! ### bits -/
theorem tb_not (x : Int) (p : Nat) : tb (-x - 1) p = !tb x p := by
  unfold tb
  have hp : (0 : Int) < 2 ^ p := Int.pow_pos (by decide)
  have e : (-x - 1) / 2 ^ p = -(x / 2 ^ p) - 1 := by
    have h1 := Int.emod_nonneg x (Int.ne_of_gt hp)
    have h2 := Int.emod_lt_of_pos x hp
    have h3 := Int.mul_ediv_add_emod x (2 ^ p)
    generalize x / 2 ^ p = q at *
    generalize x % 2 ^ p = s at *
    have e1 : -x - 1 = (2 ^ p - 1 - s) + 2 ^ p * (-q - 1) := by
      rw [← h3, Int.mul_sub, Int.mul_neg]
      omega
    rw [e1, Int.add_mul_ediv_left _ _ (Int.ne_of_gt hp), Int.ediv_eq_zero_of_lt (by omega) (by omega)]
    omega
  rw [e]
  generalize x / 2 ^ p = q
  by_cases h : q % 2 = 1
  · rw [decide_eq_true h, decide_eq_false (by omega)]
    rfl
  · rw [decide_eq_false h, decide_eq_true (by omega)]
    rfl
end PM
namespace PM
open PySem TV FM DX FB FC HX L2
theorem tb_or (x y : Int) (p : Nat) : tb (Builtin.bitOr x y) p = (tb x p || tb y p) := by
  unfold Builtin.bitOr Builtin.bitNot
  rw [tb_not, tb_and, tb_not, tb_not]
  cases tb x p <;> cases tb y p <;> rfl
/-! ### forms: small facts -/
theorem fm_plain {d : PyData} (h : Fm d) (h1 : -(2 ^ 64) ≤ val d) (h2 : val d < 2 ^ 64) : d = .int (val d) := by
  cases d with
  | int i => rw [val_int]
  | tuple ds => exact absurd ⟨h1, h2⟩ (tuple_far h)
  | none => simp [Fm] at h
  | bool _ => simp [Fm] at h
  | str _ => simp [Fm] at h
  | list _ => simp [Fm] at h
  | dict _ => simp [Fm] at h
theorem fm_cases {d : PyData} (h : Fm d) : (∃ i, d = .int i) ∨ ∃ ds, d = .tuple ds := by
  cases d with
  | int i => exact .inl ⟨i, rfl⟩
  | tuple ds => exact .inr ⟨ds, rfl⟩
  | none => simp [Fm] at h
  | bool _ => simp [Fm] at h
  | str _ => simp [Fm] at h
  | list _ => simp [Fm] at h
  | dict _ => simp [Fm] at h
theorem ds_small : ∀ {ds : List PyData}, FmAll ds → (∀ t ∈ vals ds, t ≤ 64) → ds = iD (vals ds)
  | [], _, _ => by simp [vals, iD]
  | d :: r, f, h => by
    rw [fmAll_cons] at f
    rw [vals_cons] at h ⊢
    have h1 := h (val d).toNat (by simp)
    have h0 := f.2.1
    have e := fm_plain f.1 (by omega) (by omega)
    show d :: r = .int ((val d).toNat : Nat) :: iD (vals r)
    rw [← ds_small f.2.2 fun t ht => h t (by simp [ht])]
    congr 1
    rw [show (((val d).toNat : Nat) : Int) = val d by omega]
    exact e
theorem nv_of {K : PySem.W.Frag} {H : Hp} : ∀ {ts : List Nat} {vs : List V}, DpAll K H vs (iD ts) → vs = nv ts
  | [], _, h => by
    cases h
    rfl
  | t :: r, _, h => by
    cases h with
    | cons h1 h2 =>
      cases h1
      show _ = .int (t : Nat) :: nv r
      rw [nv_of h2]
theorem last_is {α : Type} {l : List α} (h : l ≠ []) : ∃ a r, l = r ++ [a] := ⟨l.getLast h, l.dropLast, (List.dropLast_concat_getLast h).symm⟩
theorem fm_ne {ds : List PyData} (h : Fm (.tuple ds)) : ds ≠ [] := by
  rintro rfl
  obtain ⟨t, ht, _⟩ := ((fm_tuple _).mp h).2.2
  rw [vals_nil] at ht
  simp at ht
theorem wt_pos (d : PyData) : 1 ≤ wt d := by
  cases d <;> simp [wt]
theorem len_wt : ∀ ds : List PyData, ds.length ≤ wtAll ds
  | [] => by simp [wtAll]
  | d :: r => by
    have := len_wt r
    have := wt_pos d
    rw [wtAll_cons, List.length_cons]
    omega
theorem wt_mem : ∀ {ds : List PyData} {e : PyData}, e ∈ ds → wt e ≤ wtAll ds
  | d :: r, e, h => by
    rw [wtAll_cons]
    rcases List.mem_cons.mp h with rfl | h
    · omega
    · have := wt_mem h
      omega
theorem dep_mem {ds : List PyData} {e : PyData} (h : e ∈ ds) : e.depth ≤ PyData.depthAll ds := depthAll_le.mp (Nat.le_refl _) e h
theorem val_neg {ds : List PyData} (h : Fm (.tuple ds)) : val (.tuple ds) < 0 ↔ ds.length % 2 = 1 := by
  obtain ⟨a, r, e⟩ := last_is (fm_ne h)
  have hA := ((fm_tuple _).mp h).2.1
  rw [val_tuple]
  have : vals ds = vals r ++ [vl a] := by rw [e, vals_app, vals_cons, vals_nil]; rfl
  rw [this] at hA ⊢
  rw [(tv_sign hA).1, vals_len, e]
  simp
  omega
theorem fm_last {ds : List PyData} {a : PyData} (h : Fm (.tuple (ds ++ [a]))) : 64 < vl a := by
  obtain ⟨f, hA, t, ht, h64⟩ := (fm_tuple _).mp h
  rw [vals_app, vals_cons, vals_nil] at hA ht
  have := (asc_snoc.mp hA).2
  rcases List.mem_append.mp ht with ht | ht
  · have := this t ht
    show 64 < (val a).toNat
    omega
  · rw [List.mem_singleton.mp ht] at h64
    exact h64
theorem dpAll_at {K : PySem.W.Frag} {H : Hp} {ds : List PyData} {us : List V} {i : Nat} {d : PyData} (h : DpAll K H us ds) (e : ds[i]? = some d) : ∃ v, us[i]? = some v ∧ Dp K H v d := by
  have hl := dpAll_len h
  have hi := (List.getElem?_eq_some_iff.mp e).1
  have h1 : us[i]? = some (us[i]'(by omega)) := by simp [show i < us.length by omega]
  obtain ⟨d', e', h2⟩ := dpAll_get h h1
  rw [e] at e'
  cases e'
  exact ⟨_, h1, h2⟩
theorem intBits_le {n : Int} {k : Nat} (h1 : -(2 ^ k) ≤ n) (h2 : n ≤ 2 ^ k) : Builtin.Int.intBits n ≤ k + 1 := by
  unfold Builtin.Int.intBits
  split
  · omega
  · rename_i hn
    have h0 : n.natAbs ≠ 0 := fun z => hn (by simpa using z)
    have h3 : ((2 ^ k : Nat) : Int) = (2 : Int) ^ k := by simp
    have : n.natAbs.log2 < k + 1 := by
      rw [Nat.log2_lt h0, Nat.pow_succ]
      have : 0 < 2 ^ k := Nat.pow_pos (by decide)
      omega
    omega
end PM
namespace PM
open PySem TV FM DX FB FC HX L2
def isI : PyData → Bool
  | .int _ => true
  | _ => false
def isT : PyData → Bool
  | .tuple _ => true
  | _ => false
theorem isI_int (i : Int) : isI (.int i) = true := rfl
theorem isI_tup (ds : List PyData) : isI (.tuple ds) = false := rfl
def tyOf (d : PyData) : String := if isI d then "int" else "tuple"
theorem ty_f {K : PySem.W.Frag} {H : Hp} {v : V} {d : PyData} (hD : Dp K H v d) (f : Fm d) : TyX K H v (.type (tyOf d)) := by
  rcases fm_cases f with ⟨i, rfl⟩ | ⟨ds, rfl⟩
  · cases hD
    exact tyI i
  · cases hD with
    | tup h1 h2 => exact tyT h1
theorem kit_fi {d : PyData} (f : Fm d) : kitB (tyOf d) "int" = some (isI d) := by
  rcases fm_cases f with ⟨i, rfl⟩ | ⟨ds, rfl⟩
  · exact k_ii
  · exact k_ti
theorem kit_ft {d : PyData} (f : Fm d) : kitB (tyOf d) "tuple" = some (!isI d) := by
  rcases fm_cases f with ⟨i, rfl⟩ | ⟨ds, rfl⟩
  · exact k_it
  · exact k_tt
theorem ifB {b : Bool} {A X Y : Prop} (hY : Y) (h : b = true → Y → A) : if b = true then A else (if false = true then X else Y) := by
  cases b
  · exact iteF (iteF hY)
  · exact iteT (h rfl hY)
theorem ifBD {b : Bool} {A B : Prop} (h1 : b = true → A) (h2 : b = false → B) : if b = true then A else B := by
  cases b
  · exact iteF (h2 rfl)
  · exact iteT (h1 rfl)
theorem fm_isI {d : PyData} (f : Fm d) (h : isI d = true) : ∃ i, d = .int i := by
  rcases fm_cases f with ⟨i, rfl⟩ | ⟨ds, rfl⟩
  · exact ⟨i, rfl⟩
  · cases h
theorem fm_isT {d : PyData} (f : Fm d) (h : isI d = false) : ∃ ds, d = .tuple ds := by
  rcases fm_cases f with ⟨i, rfl⟩ | ⟨ds, rfl⟩
  · cases h
  · exact ⟨ds, rfl⟩
theorem neg_len {ts : List Nat} (h : Asc ts) : tv ts < 0 ↔ ts.length % 2 = 1 := by
  by_cases hn : ts = []
  · subst hn
    simp [tv_nil]
  · obtain ⟨a, r, rfl⟩ := last_is hn
    rw [(tv_sign h).1]
    simp
    omega
theorem atI_at {xs : List V} {n : Nat} {i : Int} {v : V} (h : xs[n]? = some v) (e : i = (n : Nat)) : atI xs i = some v := by
  subst e
  exact atI_nat h
theorem drop_more {α : Type} {A : List α} {c : Nat} {a : α} (hc : c < A.length) (h : A[A.length - 1 - c]? = some a) : A.drop (A.length - (c + 1)) = a :: A.drop (A.length - c) := by
  obtain ⟨h1, h2⟩ := List.getElem?_eq_some_iff.mp h
  have e : A.length - (c + 1) = A.length - 1 - c := by omega
  rw [e, List.drop_eq_getElem_cons h1, h2]
  congr 2
  omega
theorem vals_drop (ds : List PyData) (n : Nat) : (vals ds).drop n = vals (ds.drop n) := by
  rw [vals_map, vals_map, List.map_drop]
theorem vals_at {ds : List PyData} {n : Nat} {d : PyData} (h : ds[n]? = some d) : (vals ds)[n]? = some (vl d) := by
  rw [vals_map, List.getElem?_map, h]
  rfl
end PM
set_option Elab.async false
set_option linter.all false
set_option maxRecDepth 100000
/-! data without lists; merging two rows -/
namespace PM
open PySem TV FM DX FB FC HX L2
mutual
def Im : PyData → Prop
  | .tuple ds => ImAll ds
  | .list _ => False
  | .dict _ => False
  | _ => True
def ImAll : List PyData → Prop
  | [] => True
  | d :: r => Im d ∧ ImAll r
end
theorem im_int (i : Int) : Im (.int i) := by simp [Im]
theorem im_bool (i : Bool) : Im (.bool i) := by simp [Im]
theorem im_str (i : Str) : Im (.str i) := by simp [Im]
theorem im_none : Im .none := by simp [Im]
theorem im_tuple (ds : List PyData) : Im (.tuple ds) ↔ ImAll ds := by simp [Im]
theorem imAll_nil : ImAll [] := by simp [ImAll]
theorem imAll_cons (d : PyData) (r : List PyData) : ImAll (d :: r) ↔ Im d ∧ ImAll r := by simp [ImAll]
mutual
theorem im_fm : ∀ {d : PyData}, Fm d → Im d
  | .int i, _ => im_int i
  | .tuple ds, f => by
    rw [fm_tuple] at f
    rw [im_tuple]
    exact imAll_fm f.1
  | .none, f => by simp [Fm] at f
  | .bool _, f => by simp [Fm] at f
  | .str _, f => by simp [Fm] at f
  | .list _, f => by simp [Fm] at f
  | .dict _, f => by simp [Fm] at f
theorem imAll_fm : ∀ {ds : List PyData}, FmAll ds → ImAll ds
  | [], _ => imAll_nil
  | d :: r, f => by
    rw [fmAll_cons] at f
    rw [imAll_cons]
    exact ⟨im_fm f.1, imAll_fm f.2.2⟩
end
mutual
theorem dp_im {K : PySem.W.Frag} {H H' : Hp} (e : Tk H H') : ∀ {d : PyData} {v : V}, Im d → Dp K H v d → Dp K H' v d
  | .int i, _, _, h => by
    cases h
    exact .int i
  | .tuple ds, _, f, h => by
    rw [im_tuple] at f
    cases h with
    | tup h1 h2 => exact .tup (tk_tup e h1) (dpAll_im e f h2)
  | .none, _, _, h => by
    cases h
    exact .non
  | .bool b, _, _, h => by
    cases h
    exact .bl b
  | .str x, _, _, h => by
    cases h
    exact .str x
  | .list _, _, f, _ => by simp [Im] at f
  | .dict _, _, f, _ => by simp [Im] at f
theorem dpAll_im {K : PySem.W.Frag} {H H' : Hp} (e : Tk H H') : ∀ {ds : List PyData} {vs : List V}, ImAll ds → DpAll K H vs ds → DpAll K H' vs ds
  | [], _, _, h => by
    cases h
    exact .nil
  | d :: r, _, f, h => by
    rw [imAll_cons] at f
    cases h with
    | cons h1 h2 => exact .cons (dp_im e f.1 h1) (dpAll_im e f.2 h2)
end
theorem im_row {r : Row} (f : Fm r.1) : Im (rowD r) := by
  unfold rowD
  rw [im_tuple, imAll_cons, imAll_cons, imAll_cons]
  exact ⟨im_fm f, im_int _, im_int _, imAll_nil⟩
theorem im_rows : ∀ {R : List Row}, FmAll (pR R) → ImAll (R.map rowD)
  | [], _ => imAll_nil
  | r :: R, f => by
    have f' : FmAll (r.1 :: pR R) := f
    rw [fmAll_cons] at f'
    rw [List.map_cons, imAll_cons]
    exact ⟨im_row f'.1, im_rows f'.2.2⟩
structure MgI (A B : List PyData) (R : List Row) (i j : Nat) : Prop where
  mg : Mg (A.take i) (B.take j) R
  la : ∀ r ∈ R, ∀ x ∈ A.drop i, vl r.1 < vl x
  lb : ∀ r ∈ R, ∀ x ∈ B.drop j, vl r.1 < vl x
  hi : i ≤ A.length
  hj : j ≤ B.length
  ln : R.length ≤ i + j
theorem MgI.start (A B : List PyData) : MgI A B [] 0 0 := ⟨⟨rfl, rfl, fmAll_nil, by show Asc (vals []); rw [vals_nil]; trivial, by show wtAll [] ≤ _; rw [wtAll_nil]; exact Nat.zero_le _, by simp [pR]⟩, by simp, by simp, Nat.zero_le _, Nat.zero_le _, by simp⟩
theorem take_one {A : List PyData} {i : Nat} {a : PyData} (h : A[i]? = some a) : A.take (i + 1) = A.take i ++ [a] := by
  rw [List.take_add_one, h]
  rfl
theorem drop_one {A : List PyData} {i : Nat} {a : PyData} (h : A[i]? = some a) : A.drop i = a :: A.drop (i + 1) := by
  obtain ⟨hi, e⟩ := List.getElem?_eq_some_iff.mp h
  rw [List.drop_eq_getElem_cons hi, e]
theorem asc_tail {A : List PyData} {i : Nat} {a : PyData} (hA : Asc (vals A)) (h : A[i]? = some a) : ∀ x ∈ A.drop (i + 1), vl a < vl x := fun x hx => by
  have h1 : Asc (vals (A.drop i)) := by
    rw [← vals_drop]
    exact asc_sub (List.drop_sublist _ _) hA
  rw [drop_one h, vals_cons] at h1
  refine Asc.lt h1 _ ?_
  rw [vals_map]
  exact List.mem_map.mpr ⟨x, hx, rfl⟩
theorem MgI.left {A B : List PyData} {R : List Row} {i j : Nat} (S : MgI A B R i j) {a : PyData} (fA : FmAll A) (hA : Asc (vals A)) (h : A[i]? = some a) (hB : ∀ x ∈ B.drop j, vl a < vl x) : MgI A B (R ++ [(a, true, false)]) (i + 1) j := by
  have hm := fmAll_mem fA a (List.mem_of_getElem? h)
  have hi := (List.getElem?_eq_some_iff.mp h).1
  have ha : a ∈ A.drop i := by rw [drop_one h]; simp
  refine ⟨?_, fun r hr x hx => ?_, fun r hr x hx => ?_, hi, S.hj, by rw [List.length_append, List.length_singleton]; have := S.ln; omega⟩
  · rw [take_one h]
    exact S.mg.snoc (m := true) (n := false) rfl hm.1 hm.2 (fun r hr => S.la r hr a ha)
  · rcases List.mem_append.mp hr with hr | hr
    · exact S.la r hr x (by rw [drop_one h]; simp [hx])
    · rw [List.mem_singleton.mp hr]
      exact asc_tail hA h x hx
  · rcases List.mem_append.mp hr with hr | hr
    · exact S.lb r hr x hx
    · rw [List.mem_singleton.mp hr]
      exact hB x hx
theorem MgI.right {A B : List PyData} {R : List Row} {i j : Nat} (S : MgI A B R i j) {b : PyData} (fB : FmAll B) (hB : Asc (vals B)) (h : B[j]? = some b) (hA : ∀ x ∈ A.drop i, vl b < vl x) : MgI A B (R ++ [(b, false, true)]) i (j + 1) := by
  have hm := fmAll_mem fB b (List.mem_of_getElem? h)
  have hj := (List.getElem?_eq_some_iff.mp h).1
  have hb : b ∈ B.drop j := by rw [drop_one h]; simp
  refine ⟨?_, fun r hr x hx => ?_, fun r hr x hx => ?_, S.hi, hj, by rw [List.length_append, List.length_singleton]; have := S.ln; omega⟩
  · rw [take_one h]
    exact S.mg.snoc (m := false) (n := true) rfl hm.1 hm.2 (fun r hr => S.lb r hr b hb)
  · rcases List.mem_append.mp hr with hr | hr
    · exact S.la r hr x hx
    · rw [List.mem_singleton.mp hr]
      exact hA x hx
  · rcases List.mem_append.mp hr with hr | hr
    · exact S.lb r hr x (by rw [drop_one h]; simp [hx])
    · rw [List.mem_singleton.mp hr]
      exact asc_tail hB h x hx
theorem MgI.both {A B : List PyData} {R : List Row} {i j : Nat} (S : MgI A B R i j) {a : PyData} (fA : FmAll A) (hA : Asc (vals A)) (hB : Asc (vals B)) (h : A[i]? = some a) (h2 : B[j]? = some a) : MgI A B (R ++ [(a, true, true)]) (i + 1) (j + 1) := by
  have hm := fmAll_mem fA a (List.mem_of_getElem? h)
  have hi := (List.getElem?_eq_some_iff.mp h).1
  have hj := (List.getElem?_eq_some_iff.mp h2).1
  have ha : a ∈ A.drop i := by rw [drop_one h]; simp
  refine ⟨?_, fun r hr x hx => ?_, fun r hr x hx => ?_, hi, hj, by rw [List.length_append, List.length_singleton]; have := S.ln; omega⟩
  · rw [take_one h, take_one h2]
    exact S.mg.snoc (m := true) (n := true) rfl hm.1 hm.2 (fun r hr => S.la r hr a ha)
  · rcases List.mem_append.mp hr with hr | hr
    · exact S.la r hr x (by rw [drop_one h]; simp [hx])
    · rw [List.mem_singleton.mp hr]
      exact asc_tail hA h x hx
  · rcases List.mem_append.mp hr with hr | hr
    · exact S.lb r hr x (by rw [drop_one h2]; simp [hx])
    · rw [List.mem_singleton.mp hr]
      exact asc_tail hB h2 x hx
theorem MgI.done {A B : List PyData} {R : List Row} {i j : Nat} (S : MgI A B R i j) (h1 : A.length ≤ i) (h2 : B.length ≤ j) : Mg A B R := by
  have := S.mg
  rw [List.take_of_length_le h1, List.take_of_length_le h2] at this
  exact this
/-- p or q as a test: the body once -/
theorem ifOrQ (q : Prop) {p A X Y : Prop} [Decidable p] (hX : p ∨ q → X) (h : ¬ p → (p ∨ q → X) → A) : if decide p = true then (if true = true then X else Y) else A :=
  ifD (fun hp => iteT (hX (.inl hp))) (fun hp => h hp hX)
/-- the three ways of an order of two places -/
theorem sg_ways {a b : PyData} (fa : Fm a) (fb : Fm b) (ha : 0 ≤ val a) (hb : 0 ≤ val b) : (sg (val a) (val b) < 0 → vl a < vl b) ∧ (0 < sg (val a) (val b) → vl b < vl a) ∧ (sg (val a) (val b) = 0 → a = b) := by
  unfold sg vl
  split
  · exact ⟨fun _ => by omega, fun z => by omega, fun z => by omega⟩
  · split
    · exact ⟨fun z => by omega, fun _ => by omega, fun z => by omega⟩
    · exact ⟨fun z => by omega, fun z => by omega, fun _ => fm_inj fa fb (by omega)⟩
end PM
namespace PM
open PySem TV FM DX FB FC HX L2
/-- the rows of a sum: those of two numbers, ahead of them perhaps the place 0 -/
structure Rs (A B : List PyData) (R : List Row) (c : Nat) : Prop where
  a : pA R = A
  b : pB R = B
  fm : FmAll (pR R)
  asc : Asc (vals (pR R))
  wt : wtAll (pR R) ≤ wtAll A + wtAll B + 1
  mem : ∀ p ∈ pR R, p ∈ A ∨ p ∈ B ∨ p = .int 0
  ln : R.length ≤ A.length + B.length + 1
  st : c = 1 → nxt R 0 = 0 ∧ 0 < R.length
theorem Mg.rs {A B : List PyData} {R : List Row} {c : Nat} (M : Mg A B R) (hl : R.length ≤ A.length + B.length) (h : c = 1 → nxt R 0 = 0 ∧ 0 < R.length) : Rs A B R c :=
  ⟨M.a, M.b, M.fm, M.asc, by have := M.wt; omega, fun p hp => (M.mem p hp).elim .inl (fun z => .inr (.inl z)), by omega, h⟩
theorem Mg.rs0 {A B : List PyData} {R : List Row} {c : Nat} (M : Mg A B R) (hl : R.length ≤ A.length + B.length) {r : Row} (h : R[0]? = some r) (h0 : val r.1 ≠ 0) : Rs A B ((.int 0, false, false) :: R) c := by
  have hr0 : ∀ x ∈ pR R, 0 < vl x := fun x hx => by
    cases R with
    | nil => cases h
    | cons s S =>
      simp at h
      subst h
      have hs : 0 ≤ val s.1 := (fmAll_mem M.fm s.1 (by simp [pR])).2
      have ha := M.asc
      have e : pR (s :: S) = s.1 :: pR S := rfl
      rw [e, vals_cons] at ha
      have p0 : 0 < vl s.1 := by unfold vl; omega
      rw [e] at hx
      rcases List.mem_cons.mp hx with rfl | hx
      · exact p0
      · have := Asc.lt ha (vl x) (by rw [vals_map]; exact List.mem_map.mpr ⟨x, hx, rfl⟩)
        unfold vl at *
        omega
  have e : pR ((.int 0, false, false) :: R) = .int 0 :: pR R := rfl
  refine ⟨?_, ?_, ?_, ?_, ?_, ?_, by rw [List.length_cons]; omega, fun _ => ⟨?_, by simp⟩⟩
  · rw [← M.a]
    simp [pA]
  · rw [← M.b]
    simp [pB]
  · rw [e]
    exact fmAll_zero M.fm
  · rw [e]
    exact asc_zero M.asc hr0
  · rw [e, wtAll_cons, wt_int]
    have := M.wt
    omega
  · intro p hp
    rw [e] at hp
    rcases List.mem_cons.mp hp with rfl | hp
    · exact .inr (.inr rfl)
    · exact (M.mem p hp).elim .inl (fun z => .inr (.inl z))
  · show vl (.int 0) = 0
    unfold vl
    rw [val_int]
    rfl
theorem Rs.sum {A B : List PyData} {R : List Row} {c : Nat} (S : Rs A B R c) {F : List PyData} {o t k b : Nat} (h : Ad R R.length c F o t k b) : tv (vals F) = tv (vals A) + tv (vals B) + c := by
  rw [h.done, S.a, S.b]
/-- the numbers 0 and 1 -/
theorem xor_n {o : Nat} (h : o ≤ 1) (m : Bool) : Builtin.bitXor ((o : Nat) : Int) (bi m) = (((o + bn m) % 2 : Nat) : Int) := by
  have : o = 0 ∨ o = 1 := by omega
  rcases this with rfl | rfl <;> cases m <;> decide
theorem and_n (n : Nat) : Builtin.bitAnd ((n : Nat) : Int) 1 = ((n % 2 : Nat) : Int) := by
  rw [PyProof.Rows.bitAnd_m1]
  omega
end PM
namespace PM
open PySem TV FM DX FB FC HX L2
theorem range_div {n : Int} {k : Nat} : (-(2 ^ k) ≤ n ∧ n < 2 ^ k) ↔ ∀ p, k ≤ p → tb n p = tb n k := by
  obtain ⟨ts, hA, rfl⟩ := turns_ex n
  rw [← tv_range hA]
  constructor
  · intro h p hp
    rw [tb_par hA, tb_par hA, cnt_all fun t ht => Nat.le_trans (h t ht) hp, cnt_all h]
  · intro h t ht
    apply Nat.le_of_not_lt
    intro hlt
    refine (mem_tb hA t).mp ht ?_
    rw [if_neg (by omega), h t (by omega), h (t - 1) (by omega)]
theorem range_f {a b r : Int} {k : Nat} {f : Bool → Bool → Bool} (ha : -(2 ^ k) ≤ a ∧ a < 2 ^ k) (hb : -(2 ^ k) ≤ b ∧ b < 2 ^ k) (h : ∀ p, tb r p = f (tb a p) (tb b p)) : -(2 ^ k) ≤ r ∧ r < 2 ^ k := by
  rw [range_div] at *
  intro p hp
  rw [h, h, ha p hp, hb p hp]
theorem range_and {a b : Int} {k : Nat} (ha : -(2 ^ k) ≤ a ∧ a < 2 ^ k) (hb : -(2 ^ k) ≤ b ∧ b < 2 ^ k) : -(2 ^ k) ≤ Builtin.bitAnd a b ∧ Builtin.bitAnd a b < 2 ^ k := range_f (f := fun x y => x && y) ha hb fun p => tb_and a b p
theorem range_or {a b : Int} {k : Nat} (ha : -(2 ^ k) ≤ a ∧ a < 2 ^ k) (hb : -(2 ^ k) ≤ b ∧ b < 2 ^ k) : -(2 ^ k) ≤ Builtin.bitOr a b ∧ Builtin.bitOr a b < 2 ^ k := range_f (f := fun x y => x || y) ha hb fun p => tb_or a b p
theorem range_xor {a b : Int} {k : Nat} (ha : -(2 ^ k) ≤ a ∧ a < 2 ^ k) (hb : -(2 ^ k) ≤ b ∧ b < 2 ^ k) : -(2 ^ k) ≤ Builtin.bitXor a b ∧ Builtin.bitXor a b < 2 ^ k := range_f (f := fun x y => x ^^ y) ha hb fun p => tb_xor a b p
/-- the form of an int whose turns are plain -/
theorem form_ex {m : Int} {k : Nat} (hk : k ≤ 900000) (h1 : -(2 ^ k) ≤ m) (h2 : m < 2 ^ k) : ∃ d, Fm d ∧ val d = m ∧ wt d ≤ k + 3 ∧ d.depth ≤ 1 := by
  by_cases hp : -(2 ^ 64) ≤ m ∧ m < 2 ^ 64
  · exact ⟨.int m, (fm_int m).mpr hp, val_int m, by rw [wt_int]; omega, by rw [depth_int]; omega⟩
  · obtain ⟨ts, hA, e⟩ := turns_ex m
    subst e
    have hb := (tv_range hA).mpr ⟨h1, h2⟩
    have h64 : ∃ t ∈ ts, 64 < t := by
      apply Classical.byContradiction
      intro hc
      apply hp
      rw [← tv_range hA]
      intro t ht
      apply Nat.le_of_not_lt
      intro hlt
      exact hc ⟨t, ht, hlt⟩
    obtain ⟨f1, f2⟩ := fm_small hA (fun t ht => by have := hb t ht; omega) h64
    have hl := asc_len (a := 0) hA fun t ht => ⟨Nat.zero_le _, hb t ht⟩
    exact ⟨_, f1, f2, by rw [wt_tuple, wtAll_iD]; omega, by rw [depth_tuple, depthAll_iD]; omega⟩
theorem form_lim {r : PyData} {m : Int} {k : Nat} (hk : k ≤ 900000) (h1 : -(2 ^ k) ≤ m) (h2 : m < 2 ^ k) (f : Fm r) (e : val r = m) : wt r ≤ k + 3 ∧ r.depth ≤ 1 := by
  obtain ⟨d, f', e', w, dp⟩ := form_ex hk h1 h2
  rw [fm_inj f f' (e.trans e'.symm)]
  exact ⟨w, dp⟩
end PM
set_option Elab.async false
set_option linter.all false
set_option maxRecDepth 100000
/-! shifts of rows of turns (plain mathematics) -/
namespace PM
open PySem TV FM DX FC MS
theorem mul_ge {a b : Nat} (h : 1 ≤ a) : a + b ≤ a * (b + 1) := by
  obtain ⟨c, rfl⟩ : ∃ c, a = c + 1 := ⟨a - 1, by omega⟩
  have : (c + 1) * (b + 1) = c * (b + 1) + (b + 1) := Nat.succ_mul c (b + 1)
  have h2 : c * 1 ≤ c * (b + 1) := Nat.mul_le_mul_left _ (by omega)
  omega
theorem row_wt {n W w e F r : Nat} (h1 : F ≤ (n + 6) * (W * (e + 141))) (h2 : r ≤ (n + 6) * (w + e + 140)) (hw : 1 ≤ w) : F + r ≤ (n + 6) * ((W + w) * (e + 141)) := by
  have h3 : w + (e + 140) ≤ w * (e + 141) := mul_ge hw
  have h4 : (n + 6) * (w + e + 140) ≤ (n + 6) * (w * (e + 141)) := Nat.mul_le_mul_left _ (by omega)
  have h5 : (n + 6) * ((W + w) * (e + 141)) = (n + 6) * (W * (e + 141)) + (n + 6) * (w * (e + 141)) := by rw [Nat.add_mul W w, Nat.mul_add (n + 6)]
  omega
def lowZ (b : Bool) : List Nat := if b then [0] else []
theorem cnt_app (a b : List Nat) (p : Nat) : cnt (a ++ b) p = cnt a p + cnt b p := by
  unfold cnt
  rw [List.countP_append]
theorem cnt_keep {A : Nat} : ∀ (ts : List Nat) (p : Nat), cnt ts (A + p) = (ts.length - (ts.filter fun t => decide (A < t)).length) + cnt ((ts.filter fun t => decide (A < t)).map (· - A)) p
  | [], p => rfl
  | t :: r, p => by
    have ih := cnt_keep (A := A) r p
    have hl := List.length_filter_le (fun t => decide (A < t)) r
    rw [cnt_cons]
    by_cases h : A < t
    · rw [List.filter_cons_of_pos (by simpa using h), List.map_cons, cnt_cons, List.length_cons, List.length_cons, ih]
      by_cases h2 : t ≤ A + p
      · rw [if_pos h2, if_pos (show t - A ≤ p by omega)]
        omega
      · rw [if_neg h2, if_neg (show ¬ t - A ≤ p by omega)]
        omega
    · rw [List.filter_cons_of_neg (by simpa using h), if_pos (show t ≤ A + p by omega), List.length_cons, ih]
      omega
theorem asc_filter {ts : List Nat} {p : Nat → Bool} (h : Asc ts) : Asc (ts.filter p) := asc_pairwise.mpr ((asc_pairwise.mp h).sublist List.filter_sublist)
theorem drop_asc {ts : List Nat} {A : Nat} (h : Asc ts) : Asc ((ts.filter fun t => decide (A < t)).map (· - A)) := by
  refine asc_map (asc_filter h) fun x hx y hy hxy => ?_
  have h1 := (List.mem_filter.mp hx).2
  have h2 := (List.mem_filter.mp hy).2
  simp at h1 h2
  omega
theorem drop_low {ts : List Nat} {A : Nat} (h : Asc ts) (b : Bool) : Asc (lowZ b ++ (ts.filter fun t => decide (A < t)).map (· - A)) := by
  unfold lowZ
  split
  · refine asc_cons (fun x hx => ?_) (drop_asc h)
    obtain ⟨t, ht, rfl⟩ := List.mem_map.mp hx
    have := (List.mem_filter.mp ht).2
    simp at this
    omega
  · exact drop_asc h
theorem tv_drop {ts : List Nat} {A : Nat} (h : Asc ts) : tv (lowZ (decide ((ts.length - (ts.filter fun t => decide (A < t)).length) % 2 = 1)) ++ (ts.filter fun t => decide (A < t)).map (· - A)) = tv ts / 2 ^ A := by
  refine tb_ext fun p => ?_
  rw [tb_tv p (drop_low h _), tb_shift, tb_tv _ h, cnt_keep, cnt_app]
  unfold lowZ
  by_cases hb : (ts.length - (ts.filter fun t => decide (A < t)).length) % 2 = 1
  · rw [if_pos (decide_eq_true hb)]
    have : cnt [0] p = 1 := by simp [cnt]
    rw [this]
    congr 1
    exact propext (by omega)
  · rw [if_neg (by simpa using hb)]
    have : cnt [] p = 0 := rfl
    rw [this]
    congr 1
    exact propext (by omega)
theorem take_snoc {α : Type} {l : List α} {i : Nat} {a : α} (h : l[i]? = some a) : l.take (i + 1) = l.take i ++ [a] := by
  rw [List.take_add_one, h]
  rfl
end PM
set_option Elab.async false
set_option linter.all false
set_option maxRecDepth 100000
/-! weights of sums of powers (plain mathematics) -/
namespace PM
open PySem TV FM DX FC MS
/-- a sum of signed powers, by their places -/
def Sp2 (T : List (Nat × Int)) : Int := Sm T fun i => i
theorem turn_near {T : List (Nat × Int)} (hb : Ab T ≤ 2 ^ 10) {t : Nat} (ht : t ∈ turnsOf (Sp2 T)) : ∃ q ∈ T, q.1 ≤ t ∧ t ≤ q.1 + 11 := by
  apply Classical.byContradiction
  intro hn
  have far : ∀ q ∈ T, q.1 ≤ t → q.1 + 12 ≤ t := fun q hq h => by
    apply Classical.byContradiction
    intro hc
    exact hn ⟨q, hq, h, by omega⟩
  have e1 : Sp2 T = Sm (T.filter fun q => decide (q.1 < t + 1)) (fun i => i) + 2 ^ (t + 1) * Sm (T.filter fun q => !decide (q.1 < t + 1)) fun i => i - (t + 1) := by
    unfold Sp2
    rw [Sm_split (t + 1) T, Sm_lift (Q := t + 1) (T := T.filter fun q => !decide (q.1 < t + 1)) fun q hq => by
      have := (List.mem_filter.mp hq).2
      simp at this
      omega]
  have low : ∀ q ∈ T.filter (fun q => decide (q.1 < t + 1)), q.1 + 12 ≤ t := fun q hq => by
    obtain ⟨h1, h2⟩ := List.mem_filter.mp hq
    simp at h2
    exact far q h1 (by omega)
  have hL : ∀ u ∈ turnsOf (Sm (T.filter fun q => decide (q.1 < t + 1)) fun i => i), u < t := by
    by_cases h12 : 12 ≤ t
    · have h3 := Sm_abs (π := fun i => i) (b := t - 12) (T := T.filter fun q => decide (q.1 < t + 1)) fun q hq => by
        have := low q hq
        show q.1 ≤ t - 12
        omega
      have h4 := Ab_filter (fun q => decide (q.1 < t + 1)) T
      intro u hu
      have h5 : Ab (T.filter fun q => decide (q.1 < t + 1)) * 2 ^ (t - 12) ≤ 2 ^ 10 * 2 ^ (t - 12) := Nat.mul_le_mul_right _ (Nat.le_trans h4 hb)
      have := turns_lt (Nat.le_trans h3 h5) u hu
      omega
    · have : T.filter (fun q => decide (q.1 < t + 1)) = [] := by
        apply List.eq_nil_iff_forall_not_mem.mpr
        intro q hq
        have := low q hq
        omega
      rw [this]
      intro u hu
      rw [show Sm [] (fun i => i) = 0 from rfl, show turnsOf 0 = [] from turnsOf_is (ts := []) trivial rfl] at hu
      cases hu
  rw [e1, turns_app (Q := t + 1) fun u hu => by have := hL u hu; omega] at ht
  rcases List.mem_append.mp ht with ht | ht
  · have := hL t ht
    omega
  · obtain ⟨u, _, hu⟩ := List.mem_map.mp ht
    omega
/-- what the forms near the places of T weigh at most -/
def Wt (T : List (Nat × Int)) (W D : Nat) : Prop := ∀ q ∈ T, ∀ j, j ≤ 11 → ∀ d, Fm d → val d = ((q.1 + j : Nat) : Int) → wt d ≤ W ∧ d.depth ≤ D
theorem wtAll_le {W : Nat} : ∀ {ds : List PyData}, (∀ d ∈ ds, wt d ≤ W) → wtAll ds ≤ ds.length * W
  | [], _ => by rw [wtAll_nil]; exact Nat.zero_le _
  | d :: r, h => by
    have h1 := h d (by simp)
    have h2 := wtAll_le (ds := r) fun x hx => h x (by simp [hx])
    rw [wtAll_cons, List.length_cons, Nat.succ_mul]
    omega
theorem sum_wt {T : List (Nat × Int)} {W D : Nat} (hb : Ab T ≤ 2 ^ 10) (h : Wt T W D) {r : PyData} (f : Fm r) (e : val r = Sp2 T) : wt r ≤ 1 + 2 * Ab T * W ∧ r.depth ≤ D + 1 := by
  rcases fm_cases f with ⟨i, rfl⟩ | ⟨ds, rfl⟩
  · rw [wt_int, depth_int]
    omega
  · obtain ⟨fA, hA, _⟩ := (fm_tuple ds).mp f
    have et : turnsOf (Sp2 T) = vals ds := turnsOf_is hA (by rw [← e, val_tuple])
    have each : ∀ d ∈ ds, wt d ≤ W ∧ d.depth ≤ D := fun d hd => by
      obtain ⟨fd, h0⟩ := fmAll_mem fA d hd
      have hm : (val d).toNat ∈ turnsOf (Sp2 T) := by rw [et]; exact mem_vals.mpr ⟨d, hd, rfl⟩
      obtain ⟨q, hq, h1, h2⟩ := turn_near hb hm
      exact h q hq ((val d).toNat - q.1) (by omega) d fd (by omega)
    have hl : ds.length ≤ 2 * Ab T := by
      have := tau_Sm (π := fun i => i) T
      unfold tau at this
      rw [show turnsOf (Sm T fun i => i) = vals ds from et, vals_len] at this
      exact this
    have hw := wtAll_le fun d hd => (each d hd).1
    have hw2 : ds.length * W ≤ 2 * Ab T * W := Nat.mul_le_mul_right _ hl
    rw [wt_tuple, depth_tuple]
    refine ⟨by omega, ?_⟩
    have := depthAll_le.mpr fun d hd => (each d hd).2
    omega
end PM
set_option Elab.async false
set_option linter.all false
set_option maxRecDepth 100000
/-! the terms of a product, and what its form weighs (plain mathematics) -/
namespace PM
open PySem TV FM DX FC MS
def al : Int → List Nat → List (Nat × Int)
  | _, [] => []
  | s, t :: r => (t, s) :: al (-s) r
theorem Sp2_cons (t : Nat) (s : Int) (T : List (Nat × Int)) : Sp2 ((t, s) :: T) = s * 2 ^ t + Sp2 T := by
  unfold Sp2 Sm
  rw [List.map_cons, List.sum_cons]
theorem Sp2_nil : Sp2 [] = 0 := rfl
theorem Sp2_app : ∀ T U : List (Nat × Int), Sp2 (T ++ U) = Sp2 T + Sp2 U
  | [], U => by rw [List.nil_append, Sp2_nil]; omega
  | (t, s) :: T, U => by
    rw [List.cons_append, Sp2_cons, Sp2_cons, Sp2_app T U]
    omega
theorem Ab_cons (t : Nat) (s : Int) (T : List (Nat × Int)) : Ab ((t, s) :: T) = s.natAbs + Ab T := by
  unfold Ab
  rw [List.map_cons, List.sum_cons]
theorem Ab_append (T U : List (Nat × Int)) : Ab (T ++ U) = Ab T + Ab U := by
  unfold Ab
  rw [List.map_append, List.sum_append]
theorem Sp2_al : ∀ (ts : List Nat) (s : Int), Sp2 (al s ts) = tvs s ts
  | [], _ => rfl
  | t :: r, s => by
    show Sp2 ((t, s) :: al (-s) r) = s * 2 ^ t + tvs (-s) r
    rw [Sp2_cons, Sp2_al r]
theorem Ab_al : ∀ (ts : List Nat) (s : Int), s.natAbs = 1 → Ab (al s ts) = ts.length
  | [], _, _ => rfl
  | t :: r, s, h => by
    show Ab ((t, s) :: al (-s) r) = r.length + 1
    rw [Ab_cons, Ab_al r (-s) (by omega)]
    omega
theorem mem_al : ∀ {ts : List Nat} {s : Int} {q : Nat × Int}, q ∈ al s ts → q.1 ∈ ts
  | t :: r, s, q, h => by
    rcases List.mem_cons.mp h with rfl | h
    · simp
    · exact List.mem_cons_of_mem _ (mem_al h)
def shT (t : Nat) (u : Int) (T : List (Nat × Int)) : List (Nat × Int) := T.map fun q => (q.1 + t, q.2 * u)
theorem Sp2_shT (t : Nat) (u : Int) : ∀ T : List (Nat × Int), Sp2 (shT t u T) = Sp2 T * (u * 2 ^ t)
  | [] => by
    show (0 : Int) = 0 * _
    rw [Int.zero_mul]
  | (p, s) :: T => by
    show Sp2 ((p + t, s * u) :: shT t u T) = _
    rw [Sp2_cons, Sp2_cons, Sp2_shT t u T, Int.add_mul, Int.pow_add]
    have : s * u * (2 ^ p * 2 ^ t) = s * 2 ^ p * (u * 2 ^ t) := by
      rw [Int.mul_assoc, Int.mul_assoc, ← Int.mul_assoc u, Int.mul_comm u, Int.mul_assoc (2 ^ p)]
    rw [this]
theorem Ab_shT (t : Nat) (u : Int) : ∀ T : List (Nat × Int), Ab (shT t u T) = Ab T * u.natAbs
  | [] => by
    show 0 = 0 * _
    rw [Nat.zero_mul]
  | (p, s) :: T => by
    show Ab ((p + t, s * u) :: shT t u T) = _
    rw [Ab_cons, Ab_cons, Ab_shT t u T, Int.natAbs_mul, Nat.add_mul]
def mulT (X : List (Nat × Int)) : List (Nat × Int) → List (Nat × Int)
  | [] => []
  | (t, u) :: r => shT t u X ++ mulT X r
theorem Sp2_mulT (X : List (Nat × Int)) : ∀ Y : List (Nat × Int), Sp2 (mulT X Y) = Sp2 X * Sp2 Y
  | [] => by
    show (0 : Int) = _ * 0
    rw [Int.mul_zero]
  | (t, u) :: r => by
    show Sp2 (shT t u X ++ mulT X r) = _
    rw [Sp2_app, Sp2_shT, Sp2_mulT X r, Sp2_cons, Int.mul_add]
theorem Ab_mulT (X : List (Nat × Int)) : ∀ Y : List (Nat × Int), Ab (mulT X Y) = Ab X * Ab Y
  | [] => by
    show 0 = _ * 0
    rw [Nat.mul_zero]
  | (t, u) :: r => by
    show Ab (shT t u X ++ mulT X r) = _
    rw [Ab_append, Ab_shT, Ab_mulT X r, Ab_cons, Nat.mul_add]
theorem mem_mulT {X : List (Nat × Int)} : ∀ {Y : List (Nat × Int)} {q : Nat × Int}, q ∈ mulT X Y → ∃ p ∈ X, ∃ t ∈ Y, q.1 = p.1 + t.1
  | (t, u) :: r, q, h => by
    rcases List.mem_append.mp h with h | h
    · obtain ⟨p, hp, rfl⟩ := List.mem_map.mp h
      exact ⟨p, hp, (t, u), by simp, rfl⟩
    · obtain ⟨p, hp, t', ht, e⟩ := mem_mulT h
      exact ⟨p, hp, t', List.mem_cons_of_mem _ ht, e⟩
/-- what the forms near the sums of places weigh at most -/
def PlB (xs ys : List Nat) (W D : Nat) : Prop := ∀ p ∈ xs, ∀ t ∈ ys, ∀ j, j ≤ 11 → ∀ d, Fm d → val d = ((p + t + j : Nat) : Int) → wt d ≤ W ∧ d.depth ≤ D
theorem PlB.symm {xs ys : List Nat} {W D : Nat} (h : PlB xs ys W D) : PlB ys xs W D := fun p hp t ht j hj d f e => h t ht p hp j hj d f (by rw [e, Nat.add_comm t p])
theorem PlB.sub {xs ys zs : List Nat} {W D : Nat} (h : PlB xs ys W D) (hs : ∀ t ∈ zs, t ∈ ys) : PlB xs zs W D := fun p hp t ht => h p hp t (hs t ht)
theorem prod_wt {xs ys : List Nat} {W D : Nat} (h : PlB xs ys W D) (hl : xs.length * ys.length ≤ 1024) {r : PyData} (f : Fm r) (e : val r = tv xs * tv ys) : wt r ≤ 1 + 2 * (xs.length * ys.length) * W ∧ r.depth ≤ D + 1 := by
  have e1 : Sp2 (mulT (al (-1) xs) (al (-1) ys)) = tv xs * tv ys := by
    rw [Sp2_mulT, Sp2_al, Sp2_al]
    rfl
  have e2 : Ab (mulT (al (-1) xs) (al (-1) ys)) = xs.length * ys.length := by rw [Ab_mulT, Ab_al _ _ (by decide), Ab_al _ _ (by decide)]
  have := sum_wt (T := mulT (al (-1) xs) (al (-1) ys)) (W := W) (D := D) (by rw [e2]; exact hl) (fun q hq j hj d fd ed => by
    obtain ⟨p, hp, t, ht, eq⟩ := mem_mulT hq
    exact h p.1 (mem_al hp) t.1 (mem_al ht) j hj d fd (by rw [ed, eq])) f (by rw [e1, e])
  rwa [e2] at this
/-- .. and of one shift -/
theorem shift_wt {xs ys : List Nat} {W D t : Nat} (h : PlB xs ys W D) (ht : t ∈ ys) (hl : xs.length ≤ 1024) {r : PyData} (f : Fm r) (e : val r = tv xs * 2 ^ t) : wt r ≤ 1 + 2 * xs.length * W ∧ r.depth ≤ D + 1 := by
  have e1 : Sp2 (shT t 1 (al (-1) xs)) = tv xs * 2 ^ t := by
    rw [Sp2_shT, Sp2_al, Int.one_mul]
    rfl
  have e2 : Ab (shT t 1 (al (-1) xs)) = xs.length := by rw [Ab_shT, Ab_al _ _ (by decide)]; exact Nat.mul_one _
  have := sum_wt (T := shT t 1 (al (-1) xs)) (W := W) (D := D) (by rw [e2]; exact hl) (fun q hq j hj d fd ed => by
    obtain ⟨p, hp, rfl⟩ := List.mem_map.mp hq
    exact h p.1 (mem_al hp) t ht j hj d fd ed) f (by rw [e1, e])
  rwa [e2] at this
end PM
set_option Elab.async false
set_option linter.all false
set_option maxRecDepth 100000
/-! sums of two codes -/
namespace FD
open PySem PySem.Spec TV FM FB FC MS FW
theorem tau_tvs : ∀ (ts : List Nat) (s n : Int), s.natAbs = 1 → tau (n + tvs s ts) ≤ tau n + 2 * ts.length
  | [], s, n, _ => by
    show tau (n + 0) ≤ _
    rw [Int.add_zero]
    exact Nat.le_add_right _ _
  | t :: r, s, n, h => by
    have h1 := tau_add n s t
    have h2 := tau_tvs r (-s) (n + s * 2 ^ t) (by omega)
    show tau (n + (s * 2 ^ t + tvs (-s) r)) ≤ tau n + 2 * (r.length + 1)
    rw [← Int.add_assoc]
    omega
theorem tau_sum (n m : Int) : tau (n + m) ≤ tau n + 2 * tau m := by
  have := tau_tvs (turnsOf m) (-1) n (by decide)
  rw [show tvs (-1) (turnsOf m) = m from turnsOf_tv m] at this
  exact this
theorem num_zip : ∀ (ps qs : List Nat), ps.length = qs.length → num (List.zipWith (· + ·) ps qs) = num ps + num qs
  | [], [], _ => rfl
  | a :: p, b :: q, h => by
    have := num_zip p q (by simpa using h)
    show ((a + b : Nat) : Int) + 2 ^ 200 * num (List.zipWith (· + ·) p q) = ((a : Int) + 2 ^ 200 * num p) + ((b : Int) + 2 ^ 200 * num q)
    rw [this, Int.mul_add]
    omega
theorem zipN_bound {B C : Nat} : ∀ {ps qs : List Nat}, (∀ a ∈ ps, a < B) → (∀ a ∈ qs, a < C) → ∀ a ∈ List.zipWith (· + ·) ps qs, a < B + C
  | [], _, _, _, a, h => by simp at h
  | _ :: _, [], _, _, a, h => by simp at h
  | x :: p, y :: q, h1, h2, a, h => by
    rcases List.mem_cons.mp h with e | h
    · have e' : a = x + y := e
      have := h1 x (by simp)
      have := h2 y (by simp)
      omega
    · exact zipN_bound (fun z hz => h1 z (by simp [hz])) (fun z hz => h2 z (by simp [hz])) a h
theorem Dw.sum {m B C w v : Nat} {c d : Int} (h : Dw m B w c) (g : Dw m C v d) : Dw m (B + C) (w + 2 * v) (c + d) := by
  obtain ⟨a, r, h1, h2, h3, rfl, h5⟩ := h
  obtain ⟨b, q, g1, g2, g3, rfl, g5⟩ := g
  refine ⟨a + b, List.zipWith (· + ·) r q, ?_, by omega, zipN_bound h3 g3, ?_, ?_⟩
  · rw [List.length_zipWith]
    omega
  · rw [num_zip r q (by omega), Int.mul_add]
    omega
  · rw [num_zip r q (by omega)]
    have := tau_sum (num r) (num q)
    omega
/-- what a code of w far turns weighs -/
theorem Dw.wz {m B w : Nat} {c : Int} (h : Dw m B w c) {k : Nat} (hB : B ≤ 2 ^ k) (hk : k ≤ 100) : FC.cwt c ≤ k + 2 + 23 * w := by
  obtain ⟨a, r, h1, h2, h3, rfl, h5⟩ := h
  have := cwt_low (a := a) (k := k) (R := num r) (by omega) hk
  have : 23 * tau (num r) ≤ 23 * w := Nat.mul_le_mul_left _ h5
  omega
end FD
set_option Elab.async false
set_option linter.all false
set_option maxRecDepth 100000
/-! the form of an int, and how many bits an int has -/
namespace FI
open PySem PySem.Spec PyProof.Rows L2 HX TV FM FC PM DX
theorem forms_ex : ∀ {ts : List Nat}, (∀ t ∈ ts, ∃ d, Fm d ∧ val d = ((t : Nat) : Int)) → ∃ ds, FmAll ds ∧ vals ds = ts
  | [], _ => ⟨[], fmAll_nil, vals_nil⟩
  | t :: r, h => by
    obtain ⟨d, f, e⟩ := h t (by simp)
    obtain ⟨ds, F, e2⟩ := forms_ex (ts := r) fun x hx => h x (by simp [hx])
    refine ⟨d :: ds, (fmAll_cons d ds).mpr ⟨f, by omega, F⟩, ?_⟩
    rw [vals_cons, e2, e, Int.toNat_natCast]
theorem turns_small {n : Int} {k : Nat} (h1 : -(2 ^ k) ≤ n) (h2 : n < 2 ^ k) : ∀ t ∈ turnsOf n, t ≤ k :=
  (tv_range (turnsOf_asc n)).mpr (by rw [turnsOf_tv]; exact ⟨h1, h2⟩)
theorem abs_pow {n : Int} {N : Nat} (h : n.natAbs ≤ N + 1) (h3 : 3 ≤ N + 1) : -(2 ^ N) ≤ n ∧ n < 2 ^ N := by
  have h4 : N + 1 < 2 ^ N := by
    obtain ⟨M, rfl⟩ : ∃ M, N = M + 2 := ⟨N - 2, by omega⟩
    clear h h3
    induction M with
    | zero => decide
    | succ M ih =>
      rw [show M + 1 + 2 = (M + 2) + 1 from rfl, Nat.pow_succ]
      omega
  have e : ((2 ^ N : Nat) : Int) = 2 ^ N := by norm_cast
  rw [← e]
  revert h4
  generalize 2 ^ N = B
  intro h4
  omega
theorem fo_ex : ∀ (N : Nat) (n : Int), n.natAbs ≤ N → ∃ d, Fm d ∧ val d = n := by
  intro N
  induction N with
  | zero => intro n h; exact ⟨.int n, (fm_int n).mpr (by omega), val_int n⟩
  | succ N ih =>
    intro n h
    by_cases hp : -(2 ^ 64) ≤ n ∧ n < 2 ^ 64
    · exact ⟨.int n, (fm_int n).mpr hp, val_int n⟩
    · have hN : 3 ≤ N + 1 := by omega
      obtain ⟨b1, b2⟩ := abs_pow h hN
      have hb := turns_small b1 b2
      obtain ⟨ds, F, e⟩ := forms_ex (ts := turnsOf n) fun t ht => ih _ (by have := hb t ht; omega)
      refine ⟨.tuple ds, (fm_tuple ds).mpr ⟨F, by rw [e]; exact turnsOf_asc n, ?_⟩, by rw [val_tuple, e, turnsOf_tv]⟩
      rw [e]
      apply Classical.byContradiction
      intro hc
      apply hp
      rw [← turnsOf_tv n, ← tv_range (turnsOf_asc n)]
      intro t ht
      apply Nat.le_of_not_lt
      intro hlt
      exact hc ⟨t, ht, hlt⟩
noncomputable def fo (n : Int) : PyData := Classical.choose (fo_ex n.natAbs n (Nat.le_refl _))
theorem fo_fm (n : Int) : Fm (fo n) := (Classical.choose_spec (fo_ex n.natAbs n (Nat.le_refl _))).1
theorem val_fo (n : Int) : val (fo n) = n := (Classical.choose_spec (fo_ex n.natAbs n (Nat.le_refl _))).2
theorem fo_is {d : PyData} {n : Int} (f : Fm d) (e : val d = n) : d = fo n := fm_inj f (fo_fm n) (e.trans (val_fo n).symm)
theorem fo_val {d : PyData} (f : Fm d) : fo (val d) = d := (fo_is f rfl).symm
theorem vl_fo (p : Nat) : vl (fo (p : Nat)) = p := by
  show (val (fo (p : Nat))).toNat = p
  rw [val_fo, Int.toNat_natCast]
theorem fo_int {i : Int} (h : -(2 ^ 64) ≤ i ∧ i < 2 ^ 64) : fo i = .int i := (fo_is ((fm_int i).mpr h) (val_int i)).symm
/-- v is the form of the int n -/
abbrev DI (K : PySem.W.Frag) (H : Hp) (v : V) (n : Int) : Prop := Dp K H v (fo n)
section
variable {K : PySem.W.Frag} {H H' : Hp} {v : V} {n m : Int}
theorem DI.of {d : PyData} (f : Fm d) (e : val d = n) (h : Dp K H v d) : DI K H v n := by
  have := fo_is f e
  subst this
  exact h
theorem DI.same (h : DI K H v n) (e : Same H H') : DI K H' v n := dp_tk (tk_same e) (fo_fm n) h
theorem DI.eq (h : DI K H v n) (e : n = m) : DI K H v m := e ▸ h
theorem di_int {i : Int} (h : -(2 ^ 64) ≤ i ∧ i < 2 ^ 64) : DI K H (.int i) i := by
  show Dp K H _ (fo i)
  rw [fo_int h]
  exact .int i
theorem di_nat {i : Nat} (h : i < 2 ^ 64) : DI K H (.int (i : Nat)) (i : Nat) := di_int (by omega)
theorem DI.int {i : Int} (h : DI K H v i) (hb : -(2 ^ 64) ≤ i ∧ i < 2 ^ 64) : v = .int i := by
  have h2 : Dp K H v (fo i) := h
  rw [fo_int hb] at h2
  cases h2
  rfl
theorem DI.not_none (h : DI K H v n) : v ≠ .non := fun z => by
  subst z
  have h2 : Dp K H .non (fo n) := h
  have f := fo_fm n
  revert h2 f
  generalize fo n = d
  intro h2 f
  cases h2
  simp [Fm] at f
end
/-- n has at most k bits and a sign -/
def Bw (k : Nat) (n : Int) : Prop := -(2 ^ k) ≤ n ∧ n < 2 ^ k
theorem bw_iff {k : Nat} {n : Int} : Bw k n ↔ -((2 ^ k : Nat) : Int) ≤ n ∧ n < ((2 ^ k : Nat) : Int) := by
  unfold Bw
  have e : ((2 ^ k : Nat) : Int) = 2 ^ k := by norm_cast
  rw [e]
theorem Bw.mono {j k : Nat} {n : Int} (h : Bw j n) (l : j ≤ k) : Bw k n := by
  rw [bw_iff] at *
  have := Nat.pow_le_pow_right (n := 2) (by decide) l
  omega
theorem bw_of_abs {k : Nat} {n : Int} (h : n.natAbs < 2 ^ k) : Bw k n := by
  rw [bw_iff]
  omega
theorem Bw.abs {k : Nat} {n : Int} (h : Bw k n) : n.natAbs ≤ 2 ^ k := by
  rw [bw_iff] at h
  omega
theorem bw_nat {k n : Nat} (h : n < 2 ^ k) : Bw k (n : Nat) := bw_of_abs (by omega)
theorem bw64 {n : Int} (h : Bw 64 n) : -(2 ^ 64) ≤ n ∧ n < 2 ^ 64 := h
theorem Bw.add {k : Nat} {n m : Int} (h1 : Bw k n) (h2 : Bw k m) {c : Nat} (hc : c ≤ 1) : Bw (k + 1) (n + m + c) := by
  rw [bw_iff] at *
  rw [Nat.pow_succ]
  omega
theorem Bw.add0 {k : Nat} {n m : Int} (h1 : Bw k n) (h2 : Bw k m) : Bw (k + 1) (n + m) := by
  have := h1.add h2 (c := 0) (by decide)
  simpa using this
theorem Bw.sub {k : Nat} {n m : Int} (h1 : Bw k n) (h2 : Bw k m) : Bw (k + 1) (n - m) := by
  rw [bw_iff] at *
  rw [Nat.pow_succ]
  omega
theorem Bw.not {k : Nat} {n : Int} (h : Bw k n) : Bw k (-n - 1) := by
  rw [bw_iff] at *
  omega
theorem Bw.neg {k : Nat} {n : Int} (h : Bw k n) : Bw (k + 1) (-n) := by
  rw [bw_iff] at *
  rw [Nat.pow_succ]
  omega
theorem Bw.inc {k : Nat} {n : Int} (h : Bw k n) : Bw (k + 1) (n + 1) := by
  rw [bw_iff] at *
  have := Nat.two_pow_pos k
  rw [Nat.pow_succ]
  omega
theorem Bw.and {k : Nat} {n m : Int} (h1 : Bw k n) (h2 : Bw k m) : Bw k (Builtin.bitAnd n m) := range_and h1 h2
theorem Bw.or {k : Nat} {n m : Int} (h1 : Bw k n) (h2 : Bw k m) : Bw k (Builtin.bitOr n m) := range_or h1 h2
theorem Bw.xor {k : Nat} {n m : Int} (h1 : Bw k n) (h2 : Bw k m) : Bw k (Builtin.bitXor n m) := range_xor h1 h2
theorem Bw.shl {k : Nat} {n : Int} (h : Bw k n) (s : Nat) : Bw (k + s) (n * 2 ^ s) := by
  obtain ⟨h1, h2⟩ := h
  have hp : (0 : Int) < 2 ^ s := Int.pow_pos (by decide)
  unfold Bw
  rw [Int.pow_add, ← Int.neg_mul]
  exact ⟨Int.mul_le_mul_of_nonneg_right h1 (Int.le_of_lt hp), Int.mul_lt_mul_of_pos_right h2 hp⟩
theorem Bw.shr {k : Nat} {n : Int} (h : Bw k n) (s : Nat) : Bw k (n / 2 ^ s) := by
  obtain ⟨h1, h2⟩ := h
  have hp : (0 : Int) < 2 ^ s := Int.pow_pos (by decide)
  have hk : (0 : Int) < 2 ^ k := Int.pow_pos (by decide)
  refine ⟨?_, ?_⟩
  · rw [Int.le_ediv_iff_mul_le hp]
    have : (2 : Int) ^ k ≤ 2 ^ k * 2 ^ s := by
      have := Int.mul_le_mul_of_nonneg_left (show (1 : Int) ≤ 2 ^ s by omega) (Int.le_of_lt hk)
      omega
    rw [Int.neg_mul]
    omega
  · rw [Int.ediv_lt_iff_lt_mul hp]
    have : (2 : Int) ^ k ≤ 2 ^ k * 2 ^ s := by
      have := Int.mul_le_mul_of_nonneg_left (show (1 : Int) ≤ 2 ^ s by omega) (Int.le_of_lt hk)
      omega
    omega
theorem Bw.mul {j k : Nat} {n m : Int} (h1 : Bw j n) (h2 : Bw k m) : Bw (j + k + 1) (n * m) := by
  have := Nat.mul_le_mul h1.abs h2.abs
  rw [← Int.natAbs_mul, ← Nat.pow_add] at this
  refine bw_of_abs (Nat.lt_of_le_of_lt this ?_)
  exact Nat.pow_lt_pow_right (by decide) (by omega)
theorem bw_pow (p : Nat) : Bw (p + 1) (2 ^ p) := by
  have e : ((2 ^ p : Nat) : Int) = 2 ^ p := by norm_cast
  rw [← e]
  exact bw_nat (Nat.pow_lt_pow_right (by decide) (by omega))
theorem Bw.turns {k : Nat} {n : Int} (h : Bw k n) : ∀ t ∈ turnsOf n, t ≤ k := turns_small h.1 h.2
theorem bw_turns {k : Nat} {n : Int} (h : ∀ t ∈ turnsOf n, t ≤ k) : Bw k n := by
  have := (tv_range (turnsOf_asc n)).mp h
  rw [turnsOf_tv] at this
  exact this
theorem Bw.len {k : Nat} {n : Int} (h : Bw k n) : (turnsOf n).length ≤ k + 1 := by
  have := asc_len (a := 0) (turnsOf_asc n) fun t ht => ⟨Nat.zero_le _, h.turns t ht⟩
  omega
theorem fo_lim {k : Nat} {n : Int} (hk : k ≤ 900000) (h : Bw k n) : wt (fo n) ≤ k + 3 ∧ (fo n).depth ≤ 1 := form_lim hk h.1 h.2 (fo_fm n) (val_fo n)
theorem plain_nv {K : PySem.W.Frag} {H : Hp} : ∀ {ds : List PyData} {us : List V}, DpAll K H us ds → FmAll ds → (∀ t ∈ vals ds, t < 2 ^ 64) → us = nv (vals ds)
  | [], us, h, _, _ => by
    cases h
    rw [vals_nil]
    rfl
  | d :: r, us, h, f, hb => by
    rw [fmAll_cons] at f
    rw [vals_cons] at hb ⊢
    have h0 := hb (val d).toNat (by simp)
    have e : d = .int (val d) := fm_inj f.1 ((fm_int _).mpr (by omega)) (by rw [val_int])
    cases h with
    | cons h1 h2 =>
      rw [plain_nv h2 f.2.2 fun t ht => hb t (by simp [ht])]
      rw [e] at h1
      cases h1
      show _ = V.int ((val d).toNat : Nat) :: nv (vals r)
      rw [Int.toNat_of_nonneg f.2.1]
end FI
set_option Elab.async false
set_option linter.all false
set_option maxRecDepth 100000
/-! the package's error classes: __init__ begins with super().__init__(..) -/
namespace HX
open PySem PySem.Spec PyProof.Rows L2 NdefX
/-- what the written part says of such a class at C and of its __init__ at fI: the cell cc of __class__, the code object at cda -/
structure SupC (P : Program) (K : PySem.W.Frag) (mg : Str → Option Value) (C fI cc : Addr) (F : NF) : Prop where
  oex : OexC K C
  fn : ∃ oc od doc pm ctv osl, K.lookup fI = some ⟨oc, od, .func (F.fd doc pm ctv), osl⟩
  cd : PySem.W.codeIn K (.ref F.c) F.qual = true
  file : ∃ ccl cdd vs ccs file tf, K.lookup F.c = some ⟨ccl, cdd, .fields vs, ccs⟩ ∧ vs[2]? = some (.str file tf) ∧ ((P.main.file : Str) == file) = true
  cl : F.cl = [(("__class__" : Str), cc)]
  cell : ∃ cl cld csl, K.lookup cc = some ⟨cl, cld, .cell (some (.ref C)), csl⟩
  sub : PySem.W.mroIn K C (.ref C) = some true
  ve : PySem.W.subIn K (.ref C) (.type "ValueError") = some true
  any : PySem.W.nsIn K cStatics "thirdparty.any" = some none
  sup : PySem.W.ks_superIn K C C "__init__" = some (some (.builtin "ValueError.__init__"))
  ms : mg "super" = none
  top : (P.main.scope.names.lookup ("super" : Str)).isSome = false
section
variable {P : Program} {w : World} {K : PySem.W.Frag} {mg : Str → Option Value} {base : Heap} {C fI cc : Addr} {F : NF}
theorem fn_super {k : Nat} {N ps : List Str} {sp : Sp} {e : Expr} {es : List Expr} {rest : List Stmt} {p0 p1 p2 p3 p4 : Pos} {ar : Arg} {doc0 pm0 ctv0 : Value} {oc0 : Value} {od0 : Option Addr} {osl0 : Array (Option Value)} (T : SupC P K mg C fI cc F)
    (lk : K.lookup fI = some ⟨oc0, od0, .func (F.fd doc0 pm0 ctv0), osl0⟩) (S : NScope N ps ["__class__"] F.scope)
    (hb : F.body = .Expr (.Call (.Attribute (.Call (.Name "super" p0) [] [] p1) "__init__" p2) (e :: es) [] p3) p4 :: rest) (hp : (F.params.posonlyargs ++ F.params.args).head? = some ar) (har : ps[0]? = some ar.arg)
    (hks : F.scope.names.lookup ("super" : Str) = some .globalImplicit) (len : ∀ vs H Q E, sp vs H Q E → vs.length = ps.length)
    (hbody : ∀ (A : Around) (outer : List Env) (s : Shared) (H : Hp) (vs : List V) (Q : VK) (E : XK), Room k (A.deeper (envF F fI s.heap.objs.size)) → sp vs H Q E →
      ∃ (a : Addr) (ys : List V) (ta : TA) (t : TS), vs = .ref a :: ys ∧ H a = some (exo a C none) ∧ PA (ncx CX0 P w K mg base N F fI A outer s H E) (e :: es) ta ∧ PSs (ncx CX0 P w K mg base N F fI A outer s H E) rest t ∧
        ta (startF N vs [none]) H (fun us H1 => H1 = H ∧ us.length ≤ 1000) ∧ t { nx := fun _ H' => Q .non H', rt := Q } (startF N vs [none]) H)
    {pl : Addr → Sem Bool} (he : ∀ L : Addr, eval (.Call (.Attribute (.Call (.Name "super" p0) [] [] p1) "__init__" p2) (e :: es) [] p3) (envF F fI L) = (do
      let ov ← attributeBase (.Call (.Name "super" p0) [] [] p1) "__init__" (envF F fI L) (eval (.Call (.Name "super" p0) [] [] p1) (envF F fI L))
      standAt p2.atName
      let (f, first) ← holding [ov] (getMethod ov "__init__" (pl L))
      callWith p3 f first (backTo p3 (starEach (e :: es) (envF F fI L))) []))
    (hs : ∀ L : Addr, swapsWith (.Call (.Attribute (.Call (.Name "super" p0) [] [] p1) "__init__" p2) (e :: es) [] p3) none p4.line (envF F fI L) = pure false) (hi : ∀ L : Addr, interactive (envF F fI L) = false)
    (hst : ∀ L : Addr, starEach (e :: es) (envF F fI L) = (false, eval e (envF F fI L)) :: starEach es (envF F fI L)) (hpl : ∀ L : Addr, (backTo p3 (starEach es (envF F fI L))).any (·.1) = false) :
    FnOk P w K mg base CX0 (k + 1) fI (F.fd doc0 pm0 ctv0) ps sp := by
  refine ⟨len, fun A outer s H args us vs Q E hr e0 hbd r hsp => ?_⟩
  have hl := len _ _ _ _ hsp
  have KX : K.In s.heap := e0.mod.kin.keeps (fun b o z => (e0.bs b o z).1)
  have nl : s.heap.NoLimit := e0.mod.nolimit.keeps (fun b o z => (e0.bs b o z).1)
  obtain ⟨cl, cld, csl, hcell⟩ := T.cell
  obtain ⟨ccl, cdd, fvs, ccs, file, tf, hcode, hvs, hfile⟩ := T.file
  have cells : CellsAt F.cl ["__class__"] [none] s.heap H := by
    rw [T.cl]
    refine ⟨rfl, fun y c hy => ?_, fun x y c hx hy => ?_, fun i y hi => ?_⟩
    · have e1 : c = cc := by
        by_cases hyc : y = ("__class__" : Str)
        · subst hyc
          simpa [List.lookup] using hy.symm
        · have : (y == ("__class__" : Str)) = false := by simpa using hyc
          simp [List.lookup, this] at hy
      subst e1
      exact ⟨(e0.bs _ _ (e0.mod.kin _ _ hcell)).2, _, ⟨_, KX _ _ hcell, rfl⟩⟩
    · have key : ∀ {z : Str} {c : Addr}, List.lookup z [(("__class__" : Str), cc)] = some c → z = "__class__" := fun {z c} h => by
        by_cases hz : z = ("__class__" : Str)
        · exact hz
        · have : (z == ("__class__" : Str)) = false := by simpa using hz
          simp [List.lookup, this] at h
      rw [key hx, key hy]
    · have : y = "__class__" ∧ i = 0 := by
        cases i with
        | zero => exact ⟨by simpa using hi.symm, rfl⟩
        | succ i => simp at hi
      obtain ⟨rfl, rfl⟩ := this
      refine ⟨cc, by simp [List.lookup], fun v hv => ?_⟩
      simp at hv
  obtain ⟨a, ys, ta, t, rfl, ea, pa, prest, ha, hq⟩ := hbody A outer s H vs Q E (hr.deeper _) hsp
  refine PySem.ks_codeAny_call_defAt (fd := F.fd doc0 pm0 ctv0) (body := F.body) (binds := ps.zip us) hr.depth (KX _ _ lk) rfl nl (PySem.W.codeRec_of KX T.cd) rfl hbd S.nocell (fun ⟨n, _⟩ hy => S.par n (List.of_mem_zip hy).1) (fun h1 hns kp => ?_) S.co S.gen S.kind
  have I : Inv (ncx CX0 P w K mg base N F fI A outer s H E) [] (startF N (.ref a :: ys) [none]) H { s with heap := h1, toks := s.toks + (ps.zip us).length } := inv_startN S hr.hd e0 hl r cells hns kp
  show PySem.wpAt (model P w) (A.deeper (envF F fI s.heap.objs.size)) (.func F.body (envF F fI s.heap.objs.size)) (execs F.body (envF F fI s.heap.objs.size)) _ _ _
  rw [hb]
  refine PySem.ks_wpAt_execs_cons (PySem.ks_wpAt_Expr_any (PySem.ks_wpAt_MethodCall (PySem.ks_wpAt_super_base hks (S.frk _ (by simp)) (by decide) rfl (kp _ _ (KX _ _ lk)) rfl hp rfl (kp _ _ (KX _ _ hcode)) rfl hvs hfile T.top ?_) (he _)) (hi _) (hs _))
  have K1 : K.In h1 := I.kIn
  have G1 : h1.Ns mainGlobals mg := I.mod.glob.keeps I.bk
  obtain ⟨mb, B1, B2⟩ := I.mod.blt
  refine PySem.W.ks_loadName_global S.kind hks (Calls.loadGlobal_builtin (env := envF F fI s.heap.objs.size) G1 T.ms (B1.keeps I.bk) ((B2 _ (by decide +kernel)).trans (by decide +kernel)) ⟨rfl, ?_⟩)
  refine wpAny_loadName_free S.kind (S.frk _ (by simp)) (by show List.lookup _ F.cl = some cc; rw [T.cl]; rfl) ⟨_, K1 _ _ hcell, rfl⟩ ?_
  obtain ⟨t1, ho⟩ := exo_at I.hok ea
  have hz : us[0]? = some (.ref a) := by
    cases r with
    | cons r1 r2 =>
      cases r1
      rfl
  have ndP : ps.Nodup := by
    have q := S.nd.sublist (List.take_sublist (ps.length + 1) N)
    rw [show N.take (ps.length + 1) = ps ++ [("__class__" : Str)] from S.pre] at q
    exact (List.nodup_append.mp q).1
  refine wpAny_loadName_local S.kind (S.par _ (List.mem_of_getElem? har)) hns (zip_look ndP har hz) ?_
  obtain ⟨nm, q, Nn, bs, bm, sn, sub, ab, col, dd, k0, k1, k2, k3, k5, hC, hbm⟩ := T.oex.cls
  have ia : PySem.W.InstAt h1 a { cls := .ref C, dict := none, data := .fields #[.ref t1, .none, .none, .none, .bool false, .none] } C none := ⟨ho, rfl, rfl, trivial⟩
  refine ks_wpAny_isType_cls (K1 _ _ hC) rfl ⟨rfl, ?_⟩
  refine ks_wpAny_call_super (K1 _ _ hC) rfl ho rfl (fun c z => nomatch z) (PySem.W.looks_mroIn K1 T.sub) (fun h2 eso k2' => ?_)
  have hcl : PySem.W.clsIn K C = some { name := nm, bases := bs, mro := .ref C :: bm, ns := Nn, qualname := q, hasDict := true, slotNames := sn, subclasses := sub, abstract := ab, collection := col, hasDel := false } := by
    unfold PySem.W.clsIn
    rw [hC]
    all_goals rfl
  have K2 : K.In h2 := fun b o z => k2' b o (K1 b o z)
  have ia2 : PySem.W.InstAt h2 a { cls := .ref C, dict := none, data := .fields #[.ref t1, .none, .none, .none, .bool false, .none] } C none := ⟨k2' _ _ ho, rfl, rfl, trivial⟩
  have hsup := T.sup
  unfold PySem.W.ks_superIn at hsup
  rw [hcl] at hsup
  have lt12 : h1.objs.size < h2.objs.size := Heap.lt_size eso
  refine PySem.W.kxs_getMethod PySem.W.kxs_ValueError eso (PySem.W.looks_opaque K2 T.any) (l₀ := .ref C :: bm) ((PySem.W.looks_clsIn K2 hcl).andThen .now) rfl K2 hsup (ia2.type.andThen (PySem.W.looks_subIn K2 T.ve)) (PySem.W.ks_ne K2 ia2 hcl) (by decide) ?_
  have k3' : ∀ b o, h1.get? b = some o → (h2.push (PySem.W.kxs_mw "ValueError.__init__" a)).get? b = some o := fun b o z => Heap.get?_push_of_some _ (k2' b o z)
  have I3 := I.kept (h' := h2.push (PySem.W.kxs_mw "ValueError.__init__" a)) (t' := s.toks + (ps.zip us).length + 1) k3'
  have hu3 : (h2.push (PySem.W.kxs_mw "ValueError.__init__" a)).get? h2.objs.size = some (PySem.W.kxs_mw "ValueError.__init__" a) := Heap.get?_push_size _ rfl
  have I4 : Inv (ncx CX0 P w K mg base N F fI A outer s H E) [(h2.objs.size, PySem.W.kxs_mw "ValueError.__init__" a)] (startF N (.ref a :: ys) [none]) H { s with heap := h2.push (PySem.W.kxs_mw "ValueError.__init__" a), toks := s.toks + (ps.zip us).length + 1 } :=
    I3.pins_of fun p hp' => by
      have e' : p = (h2.objs.size, PySem.W.kxs_mw "ValueError.__init__" a) := by simpa using hp'
      subst e'
      exact ⟨hu3, I.hok.fresh (Nat.le_of_lt lt12), Nat.ne_of_gt (Nat.lt_trans I.lt lt12), I.nofs (Nat.le_of_lt lt12), fun v z => nomatch z⟩
  show wpAny _ _ (callWith p3 (.ref h2.objs.size) [] (backTo p3 (starEach (e :: es) (envF F fI s.heap.objs.size))) []) _ _ _
  have hall : (backTo p3 (starEach (e :: es) (envF F fI s.heap.objs.size))).any (·.1) = false := by
    rw [hst]
    show (false || (backTo p3 (starEach es (envF F fI s.heap.objs.size))).any (·.1)) = false
    rw [hpl]
    rfl
  refine PySem.W.kxs_callWith (i := "ValueError.__init__") (x := a) hall ?_
  have hsp2 : wpAny (model P w) (A.deeper (envF F fI s.heap.objs.size)) (spliced (backTo p3 (starEach (e :: es) (envF F fI s.heap.objs.size)))) (fun vs' s1 => ∃ zs : List V, Inv (ncx CX0 P w K mg base N F fI A outer s H E) [(h2.objs.size, PySem.W.kxs_mw "ValueError.__init__" a)] (startF N (.ref a :: ys) [none]) H s1 ∧ Vals zs vs' ∧ zs.length ≤ 1000)
      (ncx CX0 P w K mg base N F fI A outer s H E).xe { s with heap := h2.push (PySem.W.kxs_mw "ValueError.__init__" a), toks := s.toks + (ps.zip us).length + 1 } :=
    thn (pa.run p3 _ _ _ H _ I4 ha) fun us' s1 ⟨zs, H1, J, rz, eH, hz'⟩ => by
      subst eH
      exact ⟨zs, J, rz, hz'⟩
  rw [hst] at hsp2 ⊢
  refine Calls.evalArgs_plain (wpAny_mono hsp2 (fun us' s1 h => ?_) fun _ _ z => z)
  obtain ⟨zs, J, rz, hz'⟩ := h
  have hu5 := (J.pin (h2.objs.size, PySem.W.kxs_mw "ValueError.__init__" a) (by simp)).1
  refine ⟨hu5, ?_⟩
  obtain ⟨t5, ho5⟩ := exo_at J.hok ea
  have K5 : K.In s1.heap := J.kIn
  have hlz : us'.length ≤ sizeLine := by
    rw [← rz.length, sizeLine_eq]
    omega
  -- behind super().__init__(..) the rest is as it was
  have fin : ∀ s6, Inv (ncx CX0 P w K mg base N F fI A outer s H E) [(h2.objs.size, PySem.W.kxs_mw "ValueError.__init__" a)] (startF N (.ref a :: ys) [none]) H s6 →
      wpAny (model P w) (A.deeper (envF F fI s.heap.objs.size)) (execs rest (envF F fI s.heap.objs.size)) (fun f s' => CR CX0 outer P w H s Q E (.ok (.ret (match f with | .ret v => v | _ => .none))) s') (ncx CX0 P w K mg base N F fI A outer s H E).xe s6 := fun s6 J6 => by
    refine wpAny_mono (prest.run _ s6 _ H _ J6 hq) (fun fl s' hs' => ?_) (fun _ _ z => z)
    match fl, hs' with
    | .ret u, ⟨v, σ', H', J, rv, q'⟩ => exact ⟨v, H', J.os, J.bare, J.base, J.hok, rv, q'⟩
    | .next, ⟨σ', H', J, q'⟩ => exact ⟨V.non, H', J.os, J.bare, J.base, J.hok, rfl, q'⟩
    | .brk, ⟨_, _, _, q'⟩ => exact False.elim q'
    | .cont, ⟨_, _, _, q'⟩ => exact False.elim q'
  have fin2 : ∀ h', (∀ b o, b ≠ a → s1.heap.get? b = some o → h'.get? b = some o) → h'.get? a = some ({ cls := .ref C, dict := none, data := .fields #[.ref s1.heap.objs.size, .none, .none, .none, .bool false, .none] } : Obj) →
      Inv (ncx CX0 P w K mg base N F fI A outer s H E) [(h2.objs.size, PySem.W.kxs_mw "ValueError.__init__" a)] (startF N (.ref a :: ys) [none]) H { s1 with heap := h' } := fun h' kk hx => by
    have J7 := J.write (t' := s1.toks) (x := a) (e := a) (o := exo a C none) (by rw [ea]; exact True.intro) (.inl rfl) kk ⟨_, hx⟩ (exo_ok hx)
    have eu : upd H a (exo a C none) = H := by
      funext b
      by_cases hb' : b = a
      · rw [hb', upd_same, ea]
      · rw [upd_ne hb']
    rw [eu] at J7
    exact J7
  obtain ⟨hh, g, d, tk, os⟩ := s1
  show wpAny _ _ (call (.ref h2.objs.size) us') _ _ _
  refine wpAny_call (codeAny_of_tree ?_)
  show wpAny _ (A.deeper (envF F fI s.heap.objs.size)).in1 (callAny (.ref h2.objs.size) ⟨us', []⟩) _ _ _
  simp only [callAny]
  refine wpAny_bind (wpAny_load hu5 ?_)
  simp only [PySem.W.kxs_mw, show (Value.type "method-wrapper" == Value.type "method" || Value.type "method-wrapper" == Value.type "builtin_function_or_method" || Value.type "method-wrapper" == Value.type "method-wrapper") = true by decide, if_true]
  refine PySem.W.KFB.if_so (by decide) ?_
  refine wpAny_bind (PySem.W.check_bound_init PySem.F.excBase_ValueError.toExcCallFacts (K5 _ _ hC) ho5 rfl ?_)
  refine wpAny_bind (wpAny_pure (wpAny_pure ?_))
  refine ⟨plainId_quiet PySem.F.excBase_ValueError.init.plain _, codeAny_builtin PySem.F.excBase_ValueError.initEntry ?_⟩
  refine PySem.W.exc_init_tree (cls := .ref C) (t0 := t5) (dv := none) (c2 := .none) (c3 := .none) (b4 := .bool false) ho5 hlz (fun h' kk hx _ => ?_)
  exact PySem.wpAt_of_wpAny (fin _ (fin2 h' kk hx))
end
end HX
set_option Elab.async false
set_option linter.all false
set_option maxRecDepth 100000
/-! errors with fields: isinstance(e, C) in an except suite; __init__ of one and of two fields; raise -/
namespace HX
open PySem PySem.Spec PySem.Calls PyProof.Rows L2 NdefX
section
open PySem.W
variable {prog : Program} {w : World} {A : Around} {E : Value → Shared → Prop} {s : Shared} {K : Frag} {x D : Addr} {ox : Obj} {od : Option Obj}
theorem findObj_any {C : Addr} {name : Str} {a g : Value} (hc : (clsIn K C).isSome = true) (ha : findIn K (.ref C) name = some (some a)) (hg : specialIn K a "__get__" = some (some g)) (ht : takesIn K a = some true) : findObj K C od name = some (.bind g a) := by
  obtain ⟨cd, hcd⟩ := Option.isSome_iff_exists.mp hc
  unfold findObj
  rw [hcd, Option.bind_some, ha, Option.bind_some]
  simp [hg, ht]
theorem kin_classF {Q : Option Value → Shared → Prop} (C : ExcC K D) (X : K.In s.heap) (I : InstAt s.heap x ox D od) (h : Q (some (.ref D)) { s with toks := s.toks + 1 }) : wpAny (model prog w) A (getAttr? (.ref x) "__class__") Q E s := by
  have hf : findObj K D od "__class__" = some (.bind (.builtin "getset_descriptor.__get__") (.builtin "object.__class__")) := findObj_any (by obtain ⟨cd, hc, _⟩ := any_some C.hd; rw [hc]; rfl) C.ha C.hn C.ht
  obtain ⟨hp, g, d, t, os⟩ := s
  have L0 := I.type (M := model prog w)
  have L3 := looks_find (M := model prog w) X I hf
  have sub : Looks (model prog w) hp (isInstance (.ref x) (.type "BaseException")) true := L0.andThen (looks_subIn X C.hs)
  have hx2 : (Value.builtin "BaseException.__getattribute__" == Value.builtin "object.__getattribute__") = false := by decide +kernel
  unfold getAttr? getAttrBy? getAttrBy
  refine wpAny_bind (wpAny_mkText (wpAny_bind (wpAny_attempt (wpAny_holding (wpAny_bind (L0.at (wpAny_bind ((looks_findIn (M := model prog w) X C.hg).at ?_))))))))
  show wpAny _ _ (if (onTheHeap (Value.ref D) && Value.builtin "BaseException.__getattribute__" == Value.builtin "object.__getattribute__") = true then _ else _) _ _ _
  rw [show (onTheHeap (Value.ref D) && Value.builtin "BaseException.__getattribute__" == Value.builtin "object.__getattribute__") = false by rw [hx2]; rfl, if_neg Bool.false_ne_true]
  unfold getAttrByItsOwn hookBefore
  refine wpAny_bind ?_
  rw [if_pos (show onTheHeap (Value.ref D) = true from rfl)]
  refine (looks_findIn (M := model prog w) X C.hk).at (wpAny_bind (wpAny_attempt (wpAny_holding ?_)))
  unfold callGetattribute
  rw [show (false && onTheHeap (Value.builtin "BaseException.__getattribute__")) = false from rfl, if_neg Bool.false_ne_true]
  unfold boundAndCalled
  rw [PySem.F.excAttr_ValueError.ga.bind (.ref x)]
  refine wpAny_bind (wpAny_pure ?_)
  show wpAny _ _ (call (.builtin "BaseException.__getattribute__") [.ref x, .str "__class__" t]) _ _ _
  refine wpAny_call (codeAny_call_builtin PySem.F.excAttr_ValueError.ga.plain PySem.F.entry_bexc_ga (@check_slot (model prog w) _ _ ⟨hp, g, d, t + 1, os⟩ "BaseException.__getattribute__" "BaseException" "__getattribute__" (.ref x) [.str "__class__" t] [] _ (by decide +kernel) (by decide +kernel) sub (PySem.F.args_bexc_ga (.ref x) (.str "__class__" t)) ?_))
  unfold Builtin.«object.__getattribute__»
  refine wpAny_bind (wpAny_of_eq (a := ((Value.ref x : Value), [Value.str "__class__" t])) (by first | rfl | (simp only [slotArgs]; rfl)) ?_)
  refine wpAny_bind (wpAny_pure (wpAny_bind (L0.at (wpAny_bind (L3.at ?_)))))
  show wpAny _ _ (holding [Value.builtin "object.__class__"] (call (.builtin "getset_descriptor.__get__") [.builtin "object.__class__", .ref x, .ref D]) >>= ret) _ _ _
  refine wpAny_bind (wpAny_holding (wpAny_call (class_get (s := ⟨hp, g, d, t + 1, os⟩) (ox := ox) (od := od) X I C.hm (wpAny_pure ?_))))
  show wpAny _ _ (handedOut (.ref D)) _ _ _
  rw [handedOut_of (v := .ref D) rfl]
  first
    | exact wpAny_pure (wpAny_pure h)
    | exact wpAny_pure h
    | exact wpAny_pure (wpAny_bind (wpAny_pure (wpAny_pure h)))
theorem kitx_excF (C : ExcC K D) : KitX K (.ref x) (.ref D) (fun h => ∃ od, InstAt h x ox D od) where
  ty := fun _ _ _ ⟨_, I⟩ => I.type
  it := fun _ _ X _ => by
    obtain ⟨cdD, hcD, _⟩ := any_some C.hd
    unfold clsIn at hcD
    split at hcD
    · rename_i c' d' cd' sl' ho
      exact fun A' Q' E' s' k q => by
        unfold isType loadHead
        exact wpAny_bind (wpAny_loadPart (k _ _ (X _ _ ho)) (wpAny_pure q))
    · cases hcD
  ne := fun h tp dd its n sl X htp => Bool.eq_false_iff.mpr fun q => by
    obtain ⟨cdD, hcD, _⟩ := any_some C.hd
    have e : D = tp := Value.ref.inj (beq_iff_eq.mp q)
    subst e
    unfold clsIn at hcD
    split at hcD
    · rename_i c' d' cd' sl' ho
      cases (X _ _ ho).symm.trans htp
    · cases hcD
  ca := fun X ⟨_, I⟩ k => kin_classF C X I k
end
/-- isinstance(e, c), e the error with fields that the suite holds -/
def rIsF (K : PySem.W.Frag) (a : Addr) (cls : Value) (d : Option Addr) : List V → Hp → VK → Prop := fun xs H Q => ∃ (D dd : Addr) (c : V) (cv : Value) (b : Bool) (fs : List (Str × V)), cls = .ref D ∧ d = some dd ∧ ExcC K D ∧ xs = [.ref a, c] ∧ (∀ u, L2.RelV c u → u = cv) ∧ PySem.W.kitOne K (.ref D) cv = some b ∧ H dd = some (.xd fs) ∧ Q (.bl b) H
theorem call_isF {X : Cx} {a : Addr} {cls : Value} {d : Option Addr} {oe : Obj} {pn : List (Addr × Obj)} (hz : Zc cls d oe) (hf : ∃ vs, oe.data = .fields vs) : CallR (X.suite a ((a, oe) :: pn)) (.builtin "isinstance") (rIsF X.K a cls d) := by
  intro pins s σ H xs us Q I r h
  obtain ⟨D, dd, c, cv, b, fs, rfl, rfl, C, rfl, hcv, e, ed, q⟩ := h
  obtain ⟨u1, u2, rfl, rx, rt⟩ := vals2 r
  cases rx
  have ec := hcv _ rt
  subst ec
  obtain ⟨hget, _⟩ := I.pin (a, oe) (List.mem_append.mpr (.inl List.mem_cons_self))
  obtain ⟨vs, hv⟩ := hf
  have hx : ObjOk X.prog X.w H s.heap dd (.xd fs) := I.hok dd _ ed
  obtain ⟨mA, hns, _⟩ := hx
  obtain ⟨oD, es, ep, hoD, _⟩ := hns
  have J : ∃ od, PySem.W.InstAt s.heap a oe D od := by
    obtain ⟨oc, odd, oda, osl⟩ := oe
    obtain ⟨h1, h2⟩ := hz
    dsimp only at h1 h2 hv
    subst h1 h2 hv
    exact ⟨some oD, hget, rfl, rfl, hoD⟩
  exact PySem.W.kia_one (kitx_excF C) I.kIn J e (fun z => nomatch z) fun tk => ⟨.bl b, H, I.kept (t' := tk) fun _ _ z => z, rfl, q⟩
/-- what the written part says of an error class at C under the name x, of its __init__ at fI -/
structure Err (K : PySem.W.Frag) (mg : Str → Option Value) (x : Str) (fields : List Str) (C fI cc : Addr) (F : NF) : Prop where
  g : mg x = some (.ref C)
  oex : OexC K C
  iC : PySem.W.findIn K (.ref C) "__init__" = some (some (.ref fI))
  tI : PySem.W.typeIn K (.ref fI) = some (.type "function")
  noF : ∀ f ∈ fields, PySem.W.findIn K (.ref C) f = some none
  fn : ∃ oc od doc pm ctv osl, K.lookup fI = some ⟨oc, od, .func (F.fd doc pm ctv), osl⟩
  cd : PySem.W.codeIn K (.ref F.c) F.qual = true
  file : ∃ ccl cdd vs ccs tf, K.lookup F.c = some ⟨ccl, cdd, .fields vs, ccs⟩ ∧ vs[2]? = some (.str "/claim/cut.py" tf)
  cl : F.cl = [(("__class__" : Str), cc)]
  cell : ∃ cl cld csl, K.lookup cc = some ⟨cl, cld, .cell (some (.ref C)), csl⟩
  sub : PySem.W.mroIn K C (.ref C) = some true
  ve : PySem.W.subIn K (.ref C) (.type "ValueError") = some true
  any : PySem.W.nsIn K cStatics "thirdparty.any" = some none
  sup : PySem.W.ks_superIn K C C "__init__" = some (some (.builtin "ValueError.__init__"))
  ms : mg "super" = none
  xf : XfC K C
  ex : ExcC K C
  te : PySem.W.exmOne K (.ref C) (.ref C) = some true
  kv : PySem.W.kitOne K (.ref C) (.type "ValueError") = some true
/-- what the program must say, so that super() finds its frame -/
structure PF (P : Program) : Prop where
  file : ((P.main.file : Str) == "/claim/cut.py") = true
  top : (P.main.scope.names.lookup ("super" : Str)).isSome = false
theorem Err.sup' {P : Program} {K : PySem.W.Frag} {mg : Str → Option Value} {x : Str} {fs : List Str} {C fI cc : Addr} {F : NF} (T : Err K mg x fs C fI cc F) (hP : PF P) : SupC P K mg C fI cc F := by
  obtain ⟨ccl, cdd, vs, ccs, tf, h1, h2⟩ := T.file
  exact ⟨T.oex, T.fn, T.cd, ⟨ccl, cdd, vs, ccs, _, tf, h1, h2, hP.file⟩, T.cl, T.cell, T.sub, T.ve, T.any, T.sup, T.ms, hP.top⟩
/-- __init__ of one field, of two fields -/
def spE1 (C : Addr) (f : Str) : Sp := fun vs H Q _ => ∃ (a : Addr) (y : V), vs = [.ref a, y] ∧ H a = some (exo a C none) ∧ ∀ dx, H dx = none → dx ≠ a → Q .non (upd (upd H dx (exd dx [(f, y)])) a (exo a C (some dx)))
def spE2 (C : Addr) (f g : Str) : Sp := fun vs H Q _ => ∃ (a : Addr) (y z : V), vs = [.ref a, y, z] ∧ H a = some (exo a C none) ∧ ∀ dx, H dx = none → dx ≠ a → Q .non (upd (upd (upd H dx (exd dx [(f, y)])) a (exo a C (some dx))) dx (exd dx [(g, z), (f, y)]))
theorem made_eq {H1 H2 : Hp} {a d : Addr} {o : HO} (ha : H1 a = none) (h : ∀ b, b ≠ a → b ≠ d → H2 b = H1 b) (hne : d ≠ a) : upd (del H2 a) d o = upd H1 d o := by
  funext b
  by_cases hd : b = d
  · rw [hd, upd_same, upd_same]
  · rw [upd_ne hd, upd_ne hd]
    by_cases hb : b = a
    · rw [hb, del_same, ha]
    · rw [del_ne hb, h b hb hd]
theorem raise1 {C : Addr} {f : Str} {H1 : Hp} {y : V} {Q : XK} (h : ∀ d, H1 d = none → Q (.ref C) (some d) (upd H1 d (.xd [(f, y)]))) :
    [y].length ≤ 1000 ∧ ∀ a, H1 a = none → spE1 C f (.ref a :: ([y] ++ [])) (upd H1 a (exo a C none))
      (fun v H2 => v = .non ∧ ∃ (d : Addr) (fs : List (Str × V)), H2 a = some (exo a C (some d)) ∧ H2 d = some (exd d fs) ∧ H1 d = none ∧ Q (.ref C) (some d) (upd (del H2 a) d (.xd fs))) (fun _ _ _ => False) := by
  refine ⟨by show 1 ≤ 1000; decide, fun a na => ⟨a, y, rfl, upd_same, fun dx ndx ne => ?_⟩⟩
  rw [upd_ne ne] at ndx
  refine ⟨rfl, dx, _, upd_same, (upd_ne ne).trans upd_same, ndx, ?_⟩
  rw [made_eq na (fun b hb hd => by rw [upd_ne hb, upd_ne hd, upd_ne hb]) ne]
  exact h dx ndx
theorem raise2 {C : Addr} {f g : Str} {H1 : Hp} {y z : V} {Q : XK} (h : ∀ d, H1 d = none → Q (.ref C) (some d) (upd H1 d (.xd [(g, z), (f, y)]))) :
    [y, z].length ≤ 1000 ∧ ∀ a, H1 a = none → spE2 C f g (.ref a :: ([y, z] ++ [])) (upd H1 a (exo a C none))
      (fun v H2 => v = .non ∧ ∃ (d : Addr) (fs : List (Str × V)), H2 a = some (exo a C (some d)) ∧ H2 d = some (exd d fs) ∧ H1 d = none ∧ Q (.ref C) (some d) (upd (del H2 a) d (.xd fs))) (fun _ _ _ => False) := by
  refine ⟨by show 2 ≤ 1000; decide, fun a na => ⟨a, y, z, rfl, upd_same, fun dx ndx ne => ?_⟩⟩
  rw [upd_ne ne] at ndx
  refine ⟨rfl, dx, _, (upd_ne (Ne.symm ne)).trans upd_same, upd_same, ndx, ?_⟩
  rw [made_eq na (fun b hb hd => by rw [upd_ne hd, upd_ne hb, upd_ne hd, upd_ne hb]) ne]
  exact h dx ndx
theorem pass00 {X : Cx} {E : XK} : Passes CX0 X E := fun _ _ _ _ _ _ _ h => h.elim
end HX
set_option Elab.async false
set_option linter.all false
set_option maxRecDepth 100000
/-! the law's own call: tables of code objects (lambdas in its body), and nothing is being shown around it -/
namespace HX
open PySem PySem.Spec PyProof.Rows L2
def empT : Obj := { cls := .none, data := .fields #[] }
theorem law_callTG {P : Program} {w : World} {K : PySem.W.Frag} {mg mb : Str → Option Value} {k : Nat} {fa a : Addr} {cs : List (Addr × Addr)} {fd : FuncData} {x : Str} {sp : Sp} {st : Shared} {vs : List Value} {ns : List Int}
    (KX : K.In st.heap) (hns : st.heap.Ns mainGlobals mg) (hb : st.heap.Ns builtinsNs mb) (hbb : ∀ x : Str, x ≠ "__name__" → mb x = bootBuiltins x) (nl : st.heap.NoLimit) (hg : st.gens = #[])
    (hT : ∀ p ∈ cs, st.heap.get? p.2 = some empT) (nT : ∀ p ∈ cs, K.lookup p.2 = none) (C : ∀ p ∈ cs, PySem.W.CodeHd st.heap p.1 p.2)
    (hbm : ∃ (bm : Addr) (ob : Obj), mg "__builtins__" = some (.ref bm) ∧ bm ≠ builtinsNs ∧ st.heap.get? bm = some ob ∧ ob.cls = .type "module" ∧ ob.dict = some builtinsNs ∧ ob.data = .plain)
    (ha : st.heap.get? a = some { cls := .type "list", data := .seq vs.toArray }) (hi : IntsAre vs ns) (hl : ns.length ≤ sizeLine) (hr : Room k callerA)
    (F : ∀ base : Heap, K.In base → base.Ns mainGlobals mg → (∀ p ∈ cs, LamX.TabB base mg p.1 p.2) → FnG P w K mg base k fa fd [x] sp) (hbd : ∀ (s : Shared) (u : Value), BindsTo s fd ⟨[u], []⟩ [(x, u)])
    (hsp : ∀ H : Hp, (∀ p ∈ cs, H p.2 = some (.tbl #[])) → SqL K H a (ns.map V.int) → sp [.ref a] H (fun v _ => v = .bl true) fun _ _ _ => False) :
    codeAny (model P w) callerA (.call (.ref fa) ⟨[.ref a], []⟩) (fun r s' => r = .ok (.ret (.bool true)) ∧ OldK st.heap s'.heap ∧ s'.os = st.os ∧ AllBare s'.gens) st := by
  have rv := vals_ints hi
  have lv := hi.length
  let Tb : Addr → Prop := fun b => ∃ p ∈ cs, p.2 = b
  have tbE : ∀ {b : Addr}, Tb b → st.heap.get? b = some empT := fun {b} ⟨p, hp, e⟩ => e ▸ hT p hp
  have aT : ¬ Tb a := fun z => by
    have := (tbE z).symm.trans ha
    exact nomatch congrArg Obj.data (Option.some.inj this)
  have main : ∀ H : Hp, (∀ b, Tb b → H b = some (.tbl #[])) → (∀ b, H b = none ∨ Tb b ∨ (b = a ∧ ∃ ob ys, H b = some (.frz ob (.lst ys)))) → SqL K H a (ns.map V.int) → HOk P w H st.heap → (H a ≠ none → K.lookup a = none) →
      codeAny (model P w) callerA (.call (.ref fa) ⟨[.ref a], []⟩) (fun r s' => r = .ok (.ret (.bool true)) ∧ OldK st.heap s'.heap ∧ s'.os = st.os ∧ AllBare s'.gens) st := by
    intro H hH hO hS hok hK
    -- what is neither a list nor an empty row of fields is not followed
    have free : ∀ {b : Addr} {o : Obj}, st.heap.get? b = some o → o.data ≠ (Data.seq vs.toArray : Data) → o.data ≠ .fields #[] → H b = none := fun {b o} e h1 h2 => by
      rcases hO b with z | z | ⟨z, _⟩
      · exact z
      · rw [tbE z] at e
        cases e
        exact absurd rfl h2
      · rw [z, ha] at e
        cases e
        exact absurd rfl h1
    have nsK : ∀ {b : Addr} {m : Str → Option Value}, st.heap.Ns b m → (hidT st.heap H).Ns b m := fun {b m} ⟨o, es, ep, e, d, r⟩ =>
      ⟨o, es, ep, hidT_get e (free e (fun z => nomatch d.symm.trans z) (fun z => nomatch d.symm.trans z)), d, r⟩
    have hKb : K.In (hidT st.heap H) := fun b o e => hidT_get (KX b o e) (by
      rcases hO b with z | ⟨p, hp, z⟩ | ⟨z, ob, ys, z2⟩
      · exact z
      · rw [← z, nT p hp] at e
        cases e
      · subst z
        rw [hK (by rw [z2]; exact Option.some_ne_none _)] at e
        cases e)
    obtain ⟨mc, c1, c2⟩ := nl
    have TB : ∀ p ∈ cs, LamX.TabB (hidT st.heap H) mg p.1 p.2 := fun p hp => by
      refine ⟨?_, ?_, fun z => ?_⟩
      · obtain ⟨o, us, file, tf, flags, tg, inF, text, tt, e1, r1, r2, r3, rest⟩ := C p hp
        refine ⟨o, us, file, tf, flags, tg, inF, text, tt, hidT_get e1 (free e1 (fun z => nomatch r2.symm.trans z) fun z => ?_), r1, r2, r3, rest⟩
        have := Data.fields.inj (r2.symm.trans z)
        rw [this] at r3
        simp at r3
      · obtain ⟨bm, ob, b1, b2, b3, b4, b5, b6⟩ := hbm
        refine ⟨bm, ob, b1, b2, fun q => ?_, fun q => ?_, hidT_get b3 (free b3 (fun z => nomatch b6.symm.trans z) (fun z => nomatch b6.symm.trans z)), b4, b5, b6⟩
        · obtain ⟨o, es, ep, e, hd, _⟩ := hns
          rw [q, e] at b3
          cases b3
          exact nomatch hd.symm.trans b6
        · rw [q, hT p hp] at b3
          cases b3
          cases b6
      · obtain ⟨o, es, ep, e, hd, _⟩ := hns
        rw [z, hT p hp] at e
        cases e
        cases hd
    have e0 : Env0 P w K mg (hidT st.heap H) callerA [] st H := ⟨rfl, ⟨hKb, nsK hns, ⟨mb, nsK hb, hbb⟩, ⟨mc, nsK c1, c2⟩⟩, fun b o e => of_hidT e, Nat.le_of_eq (hidT_size _ _), trivial, (fun b hb => absurd (show b ∈ ([] : List Addr) from hb) List.not_mem_nil), hok, .of_eq hg⟩
    refine codeAny_mono ((F _ hKb (nsK hns) TB).go callerA [] st H ⟨[.ref a], []⟩ [.ref a] [.ref a] _ _ rfl hr e0 (hbd st (.ref a)) (.cons rfl .nil) (hsp H (fun p hp => hH p.2 ⟨p, hp, rfl⟩) hS)) fun r s' h => ?_
    match r, h with
    | .error e, h => exact (h : False).elim
    | .ok .next, h => exact (h : False).elim
    | .ok .brk, h => exact (h : False).elim
    | .ok .cont, h => exact (h : False).elim
    | .ok (.ret u), ⟨v, H', os, bare, un, hok', r', q⟩ =>
      obtain rfl : v = .bl true := q
      obtain rfl : u = Value.bool true := r'
      have keep : ∀ b o, ¬ Tb b → st.heap.get? b = some o → s'.heap.get? b = some o := fun b o nb e => by
        rcases hO b with z | z | ⟨_, ob, ys, z⟩
        · exact un.keep b o e z (fun y => absurd (show b ∈ ([] : List Addr) from y) List.not_mem_nil) List.not_mem_nil
        · exact absurd z nb
        · have e1 := (hok b _ z).1
          rw [e] at e1
          cases e1
          exact (hok' b _ (un.frzs b _ _ z)).1
      have grown : ∀ b, Tb b → ∃ more : Array Value, s'.heap.get? b = some { cls := .none, data := .fields more } := fun b hb => by
        obtain ⟨more, z⟩ := un.tbls b #[] (hH b hb)
        exact ⟨_, hok' b _ z⟩
      refine ⟨rfl, ⟨fun b o e => ?_, fun b o e => ?_⟩, os, bare⟩
      · by_cases hb : Tb b
        · obtain ⟨more, hm⟩ := grown b hb
          obtain ⟨p, hp, ep⟩ := hb
          subst ep
          rw [hT p hp] at e
          cases e
          exact .inr (.inl ⟨((C p hp).tab (hT p hp)).isCodeTable, rfl, #[], more, rfl, by rw [Array.empty_append]; exact hm⟩)
        · exact .inl (keep b o hb e)
      · by_cases hb : Tb b
        · obtain ⟨more, hm⟩ := grown b hb
          exact ⟨_, hm⟩
        · exact ⟨o, keep b o hb e⟩
  have dec : ∀ b, Decidable (Tb b) := fun b => Classical.propDecidable _
  match hk : K.lookup a with
  | some o =>
    have e := KX a o hk
    rw [ha] at e
    cases e
    refine main (fun b => @ite _ (Tb b) (dec b) (some (.tbl #[])) none) (fun b hb => if_pos hb) (fun b => ?_) (.inr ⟨_, vs.toArray, _, hk, rfl, rfl, rfl, by rw [List.size_toArray, lv]; exact hl, by simpa using rv⟩) (fun b u z => ?_) fun z => absurd (if_neg aT) z
    · by_cases hb : Tb b
      · exact .inr (.inl hb)
      · exact .inl (if_neg hb)
    · by_cases hb : Tb b
      · cases (if_pos hb).symm.trans z
        exact tbE hb
      · cases (if_neg hb).symm.trans z
  | none =>
    refine main (fun b => if b = a then some (.frz { cls := .type "list", data := .seq vs.toArray } (.lst (ns.map V.int))) else @ite _ (Tb b) (dec b) (some (.tbl #[])) none) (fun b hb => ?_) (fun b => ?_) (.inl (.inr ⟨{ cls := .type "list", data := .seq vs.toArray }, if_pos rfl⟩)) (fun b u z => ?_) fun _ => hk
    · exact (if_neg (show ¬ b = a from fun e => aT (e ▸ hb))).trans (if_pos hb)
    · by_cases hc : b = a
      · exact .inr (.inr ⟨hc, _, _, if_pos hc⟩)
      · by_cases hb : Tb b
        · exact .inr (.inl hb)
        · exact .inl ((if_neg hc).trans (if_neg hb))
    · by_cases hc : b = a
      · cases (if_pos hc).symm.trans z
        subst hc
        exact ⟨ha, by rw [List.length_map]; exact hl, vs, _, rv, ha⟩
      · have z1 := (if_neg hc).symm.trans z
        by_cases hb : Tb b
        · cases (if_pos hb).symm.trans z1
          exact tbE hb
        · cases (if_neg hb).symm.trans z1
/-- what is known of the law's promise at the head's heap -/
structure LawG (l : PySem.W.OpenLaw) (w : World) (K : PySem.W.Frag) (k n : Nat) (x : Str) (mg : Str → Option Value) (fa : Addr) (h : Heap) (fd : FuncData) (cs : List (Addr × Addr)) (sp : Sp) : Prop where
  tab : ∀ p ∈ cs, h.get? p.2 = some empT
  out : ∀ p ∈ cs, K.lookup p.2 = none
  hd : ∀ p ∈ cs, PySem.W.CodeHd h p.1 p.2
  bnd : ∀ (s : Shared) (u : Value), BindsTo s fd ⟨[u], []⟩ [(x, u)]
  say : ∀ (H : Hp) (a : Addr) (ns : List Int), ns.length ≤ n → (∀ p ∈ cs, H p.2 = some (.tbl #[])) → SqL K H a (ns.map V.int) → sp [.ref a] H (fun v _ => v = .bl true) fun _ _ _ => False
  fn : ∀ base : Heap, K.In base → base.Ns mainGlobals mg → (∀ p ∈ cs, LamX.TabB base mg p.1 p.2) → FnG l.prog w K mg base k fa fd [x] sp
theorem walk_ofTG {l : PySem.W.OpenLaw} {n k : Nat} {q : Program} {loose : List Str} {XP : (Str → Option Value) → Heap → Prop} {YP : World → Heap → Prop} {d : DefRec} {K : Params → PySem.W.Frag} {x : Str}
    (hn : l.most = some n) (hn2 : n ≤ sizeLine) (hdf : d.params.defaults = []) (hr : Room k callerA) (hY : ∀ (w : World) (h : Heap), YP w h → (K w.params).In h)
    (F : ∀ (w : World) (mg : Str → Option Value) (fa : Addr) (h : Heap), YP w h → (K w.params).In h → h.Ns mainGlobals mg → mg d.name = some (.ref fa) →
      (∀ (y : Str) (c P : Addr), ((recsOf q).any fun e => e.name == y) = true → PySem.W.tabIn (K w.params) y = some (c, P) → PySem.W.CodeHd h c P ∧ h.get? P = some empT) → ∃ fd cs sp, LawG l w (K w.params) k n x mg fa h fd cs sp) :
    PySem.W.WalkO q loose XP YP l.row.toRowW d [] (fun f vs => PySem.call f vs) :=
  Att.attach_call hn hdf fun w s0 s1 mg mb fa o pm cd doc a vs ns G Y ho hd hcd hmg hobj hints hlen hg => by
    obtain ⟨fd, cs, sp, L⟩ := F w mg fa _ Y (hY w _ Y) G.T.g hmg fun y c P hy ht => by
      obtain ⟨e, he⟩ : ∃ e, (recsOf q).find? (fun e => e.name == y) = some e := by
        rw [← Option.isSome_iff_exists, List.find?_isSome]
        simpa [List.any_eq_true] using hy
      exact PySem.W.tab_of G.T (hY w _ Y) he ht
    exact law_callTG (hY w _ Y) G.T.g G.T.b G.T.builtins G.T.nolimit hg L.tab L.out L.hd G.T.bmain hobj hints (Nat.le_trans hlen hn2) hr L.fn L.bnd fun H hH hS => L.say H a ns hlen hH hS
end HX
set_option Elab.async false
set_option linter.all false
set_option maxRecDepth 100000
/-! a lambda without parameters handed to a def: it lives on in every later state -/
namespace HX
open PySem PySem.Spec PyProof.Rows L2 LamX
/-- what the closure at f tells where it is called later; it was made at s, H, over the frames fs -/
def Clo (P : Program) (w : World) (K : PySem.W.Frag) (mg : Str → Option Value) (base : Heap) (fs : List Addr) (k : Nat) (s : Shared) (H : Hp) (f c' : Addr) (q : Str) (tl : XK → Hp → VK → Prop) : Prop :=
  ∀ (A : Around) (outer : List Env) (s1 : Shared) (H1 : Hp) (Q : VK) (E : XK), Room (k + 1) A → Env0 P w K mg base A outer s1 H1 → Un fs [] H H1 s.heap s1.heap → H1 c' = some (CodeO c' q) → tl E H1 Q →
    PySem.W.FnAt f s1.heap ∧ codeAny (model P w) A (.call (.ref f) ⟨[], []⟩) (CR (L2.CX P w) outer P w H1 s1 Q E) s1
section
variable {P : Program} {w : World} {K : PySem.W.Frag} {mg : Str → Option Value} {base : Heap} {fs : List Addr} {k : Nat} {s s' : Shared} {H H' : Hp} {f c' : Addr} {q : Str} {tl : XK → Hp → VK → Prop}
theorem Clo.later (C : Clo P w K mg base fs k s H f c' q tl) (un : Un fs [] H H' s.heap s'.heap) : Clo P w K mg base fs k s' H' f c' q tl := fun A outer s1 H1 Q E hr e0 u hc h => C A outer s1 H1 Q E hr e0 (un.trans u) hc h
end
/-- what is told, for whoever wants less -/
def upc (tl : XK → Hp → VK → Prop) : XK → Hp → VK → Prop := fun E H Q => ∃ (E0 : XK) (Q0 : VK), (∀ cls d H', E0 cls d H' → E cls d H') ∧ (∀ v H', Q0 v H' → Q v H') ∧ tl E0 H Q0
theorem Clo.up {P : Program} {w : World} {K : PySem.W.Frag} {mg : Str → Option Value} {base : Heap} {fs : List Addr} {k : Nat} {s : Shared} {H : Hp} {f c' : Addr} {q : Str} {tl : XK → Hp → VK → Prop} (C : Clo P w K mg base fs k s H f c' q tl) : Clo P w K mg base fs k s H f c' q (upc tl) := fun A outer s1 H1 Q E hr e0 u hc ⟨E0, Q0, hE, hQ, h⟩ => by
  obtain ⟨fa, rc⟩ := C A outer s1 H1 Q0 E0 hr e0 u hc h
  refine ⟨fa, codeAny_mono rc fun r s' hq => ?_⟩
  match r, hq with
  | .error e, ⟨a, B, H', cls, d, h1, h2, h3, h4, h5, h6, h7, h8⟩ => exact ⟨a, B, H', cls, d, h1, h2, h3, h4, h5, h6, h7, hE _ _ _ h8⟩
  | .ok (.ret u), ⟨v, H', h1, h2, h3, h4, h5, h6⟩ => exact ⟨v, H', h1, h2, h3, h4, h5, hQ _ _ h6⟩
  | .ok .next, hq => exact False.elim hq
  | .ok .brk, hq => exact False.elim hq
  | .ok .cont, hq => exact False.elim hq
theorem clo_of {X : Cx} {pins : List (Addr × Obj)} {σ : L2.St} {H : Hp} {s : Shared} {f c' : Addr} {pm ctv : Value} {params : Arguments} {body : Expr} {scope : Scope} {k : Nat} {t : XK → TE} (I : Inv X pins σ H s) (L : LamS X.env.scope scope)
    (hf : s.heap.get? f = some (PySem.W.kla_obj "<lambda>" (X.env.qual ++ "<lambda>") params body scope (cloFrom X.env.cells scope.names []) pm c' ctv)) (hfn : H f = none) (hfr : f ∉ frs X.stack)
    (hbind : bindArgs (PySem.W.kla_fn "<lambda>" (X.env.qual ++ "<lambda>") params body scope (cloFrom X.env.cells scope.names []) pm (.ref c') ctv) ⟨[], []⟩ = pure [])
    (hbody : ∀ (A : Around) (outer : List Env) (s1 : Shared) (H1 : Hp) (E : XK), Room k (A.deeper (lamEnv X scope s1.heap.objs.size f c')) → PE (lamCx X A outer s1 H1 E scope f c') body (t E)) :
    Clo X.prog X.w X.K X.mg X.base (frs X.stack) k s H f c' (X.env.qual ++ "<lambda>") (fun E H' Q => t E σ H' Q) := by
  intro A outer s1 HZ Q E hr e0 un hc ht
  have of1 := un.keep f _ hf hfn hfr (by simp)
  refine ⟨⟨_, _, _, _, of1⟩, ?_⟩
  obtain ⟨⟨oc, vs, t', hoc, hdc, hvc⟩, _, _⟩ := e0.hok c' _ hc
  have nl : s1.heap.NoLimit := e0.mod.nolimit.keeps (fun b o z => (e0.bs b o z).1)
  refine PySem.W.kla_callFunE hr.depth of1 rfl L.co L.gen rfl ⟨c', oc, vs, t', rfl, hoc, hdc, hvc⟩ ?_
  rw [hbind]
  refine wpAny_pure (wpAny_newFunctionEnv (fun y hy => (L.own y hy).2) (fun y hy => absurd hy (by simp)) (fun h₁ hns hsb => ⟨nl.fresh _ hsb, ?_⟩) L.kind)
  show codeAny _ _ (.expr body (lamEnv X scope s1.heap.objs.size f c')) _ _
  have kp : ∀ b o, s1.heap.get? b = some o → h₁.get? b = some o := fun b o e => hsb.extBut b o (Nat.ne_of_lt (Heap.lt_size e)) (Heap.get?_push_of_some _ e)
  have J : Inv (lamCx X A outer s1 HZ E scope f c') [] σ HZ { s1 with heap := h₁, toks := s1.toks + ([] : List (Str × Value)).length } := lam_start2 I L e0 hr.hd un hns kp
  refine PySem.W.kla_codeExpr (wpAny_mono ((hbody _ _ s1 HZ E (hr.deeper _)).run [] _ _ HZ Q J ht) (fun v s' hq => ?_) fun e s' hq => hq)
  obtain ⟨w', H', J', rv, q⟩ := hq
  exact ⟨w', H', J'.os, J'.bare, J'.base, J'.hok, rv, q⟩
/-- what a def that gets a callable makes of what that tells -/
abbrev TTC := (XK → Hp → VK → Prop) → Hp → VK → XK → Prop
/-- a def with one parameter, a callable; kc the callable's room -/
structure FnC (P : Program) (w : World) (K : PySem.W.Frag) (mg : Str → Option Value) (base : Heap) (k kc : Nat) (g : Addr) (fd : FuncData) (a : Str) (TT : TTC) : Prop where
  run : ∀ (A : Around) (outer : List Env) (s : Shared) (H : Hp) (f c' : Addr) (q : Str) (tl : XK → Hp → VK → Prop) (Q : VK) (E : XK), Room k A → Env0 P w K mg base A outer s H → BindsTo s fd ⟨[.ref f], []⟩ [(a, .ref f)] →
    Clo P w K mg base (frs outer) kc s H f c' q tl → H c' = some (CodeO c' q) → TT tl H Q E → codeAny (model P w) A (.call (.ref g) ⟨[.ref f], []⟩) (CR (L2.CX P w) outer P w H s Q E) s
theorem funC {P : Program} {w : World} {K : PySem.W.Frag} {mg : Str → Option Value} {base : Heap} {x qual a : Str} {st : Stmt} {g : Addr} {fd : FuncData} {N : List Str} {k kc : Nat} {TT : TTC} (F : Fun K x qual st g fd) (S : FnScope N [a] (defScope st))
    (hb : ∀ (cdv : Value) (A : Around) (outer : List Env) (s : Shared) (H : Hp) (f c' : Addr) (q : Str) (tl : XK → Hp → VK → Prop) (Q : VK) (E : XK), Room k (A.deeper (envOfC qual (defScope st) s.heap.objs.size g cdv)) →
      Clo P w K mg base (frs outer) kc s H f c' q tl → H c' = some (CodeO c' q) → TT tl H Q E →
      ∃ t, PSs (cxOf (L2.CX P w) P w K mg base N qual (defScope st) g cdv A outer s H E) (defBody st) t ∧ t { nx := fun _ H' => Q .non H', rt := Q } (start N [.ref f]) H) : FnC P w K mg base (k + 1) kc g fd a TT := by
  obtain ⟨oc, od, kV, doc, pm, an, cdv, ct, osl, rfl, lk, hcd⟩ := F.ex
  refine ⟨fun A outer s H f c' q tl Q E hr e0 hbd C hc h => ?_⟩
  exact run_ofS (N := N) (ps := [a]) (us := [.ref f]) (vs := [.ref f]) lk hcd S hr e0 hbd (.cons rfl .nil) rfl fun hr' => hb cdv A outer s H f c' q tl Q E hr' C hc h
theorem passF {X : Cx} (σ : L2.St) : PassesAt (L2.CX X.prog X.w) X σ (fun _ _ _ => False) := fun _ _ _ _ _ _ h => by
  obtain ⟨_, _, _, _, _, _, _, _, _, _, _, _, z⟩ := h
  exact z.elim
/-- x(), in a def that got the callable -/
def tClo (i : Nat) (f c' : Addr) (q : Str) (tl : XK → Hp → VK → Prop) (E : L2.St → XK) : TE := fun σ H Q => σ[i]? = some (some (.ref f)) ∧ H c' = some (CodeO c' q) ∧ tl (E σ) H Q
theorem pe_clo {Y : Cx} {kc i : Nat} {f c' : Addr} {q a : Str} {tl : XK → Hp → VK → Prop} {E : L2.St → XK} {p1 p2 : Pos} (C : Clo Y.prog Y.w Y.K Y.mg Y.base Y.fs kc Y.s_0 Y.H_0 f c' q tl) (hex : Y.ex = []) (hr : Room (kc + 1) Y.A) (hx : ∀ σ, PassesAt (L2.CX Y.prog Y.w) Y σ (E σ))
    (hN : Y.N[i]? = some a) (hv : Vis Y.env.scope a) (hd : (a == ("__debug__" : Str)) = false := by decide) (hcd : (a == ("__classdict__" : Str)) = false := by decide) :
    PE Y (.Call (.Name a p1) [] [] p2) (tClo i f c' q tl E) := by
  refine ⟨fun pins s σ H Q I h => ?_⟩
  obtain ⟨hs, hc, ht⟩ := h
  refine wpAny_Call_Name_kw (thn ((pe_var (pos := p1) (i := i) hN hv hd hcd).run pins s σ H (fun v H1 => v = .ref f ∧ H1 = H) I ⟨.ref f, hs, rfl, rfl⟩) fun u s1 ⟨v, H1, I1, r1, q1⟩ => ?_)
  obtain ⟨ev, eH⟩ := q1
  subst ev
  rw [eH] at I1
  obtain rfl : u = Value.ref f := r1
  have un : Un Y.fs [] Y.H_0 H Y.s_0.heap s1.heap := hex ▸ I1.base
  obtain ⟨fa, rc⟩ := C Y.A Y.stack s1 H Q (E σ) hr I1.env0 un hc ht
  refine PySem.W.callWith_F0 fa (wpAny_call (codeAny_mono rc fun r s' hq => ?_))
  match r, hq with
  | .error e, hq => exact hx σ pins H s1 e s' I1 hq
  | .ok (.ret u), hq => exact I1.after hq
  | .ok .next, hq => exact False.elim hq
  | .ok .brk, hq => exact False.elim hq
  | .ok .cont, hq => exact False.elim hq
/-- x(lambda: body) -/
def tLam1 (T : List (Addr × Str)) (TT : TTC) (E : L2.St → XK) (t : XK → TE) : TE := fun σ H Q => Tabs T H ∧ ∀ H1, ExtN H H1 → Tabs T H1 → TT (fun E H' Q' => t E σ H' Q') H1 Q (E σ)
theorem pe_lam1 {X : Cx} {T : List (Addr × Str)} {TT : TTC} {x a : Str} {g c Pt : Addr} {fd : FuncData} {k kc : Nat} {params : Arguments} {body : Expr} {scope : Scope} {t : XK → TE} {E : L2.St → XK} {p lpos pos : Pos} (F : FnC X.prog X.w X.K X.mg X.base k kc g fd a TT) (hr : Room k X.A)
    (hg : Gl X x) (hm : X.mg x = some (.ref g)) (hk : PySem.W.keepIn X.K (.ref g) = true) (hb : L2.Binds X.K fd [a] []) (hx : ∀ σ, PassesAt (L2.CX X.prog X.w) X σ (E σ))
    (TB : TabB X.base X.mg c Pt) (hcode : X.env.code = .ref c) (hmT : (Pt, X.env.qual ++ "<lambda>") ∈ T) (hu : ∀ p ∈ T, p.1 = Pt → p.2 = X.env.qual ++ "<lambda>") (L : LamS X.env.scope scope) (hdef : defaultsOf params X.env = ([], []))
    (hbind : ∀ (q : Str) (cl : List (Str × Addr)) (pm cv ctv : Value), bindArgs (PySem.W.kla_fn "<lambda>" q params body scope cl pm cv ctv) ⟨[], []⟩ = pure [])
    (hbody : ∀ (A : Around) (outer : List Env) (s : Shared) (H : Hp) (E : XK) (f c' : Addr), Room kc (A.deeper (lamEnv X scope s.heap.objs.size f c')) → PE (lamCx X A outer s H E scope f c') body (t E))
    (hdb : (x == ("__debug__" : Str)) = false := by decide) :
    PE X (.Call (.Name x p) [.Lambda params body scope lpos] [] pos) (tLam1 T TT E t) := by
  refine ⟨fun pins s σ H Q I h => ?_⟩
  obtain ⟨hT, h⟩ := h
  refine wpAny_Call_Name_kw (ld_glob I hg hm ?_ hdb)
  refine PySem.W.callWith_K (h₀ := X.base) I.ok.mod.kin hk ?_ (by rfl) (by rfl)
  show wpAny _ _ (spliced ((false, eval (.Lambda params body scope lpos) X.env) :: backTo pos (starEach [] X.env))) _ _ s
  refine Calls.spliced_cons (lam_make2 I TB hcode hmT hu hT hdef (L.has I.ok) fun f c' pm' ctv H1 s' I1 eN T1 hf hfn hfr hco => ?_)
  refine Calls.spliced_nil ⟨I1.kIn, ?_⟩
  have C := clo_of (k := kc) (t := t) I1 L hf hfn hfr (hbind _ _ _ _ _) fun A outer s1 H1 E hr2 => hbody A outer s1 H1 E f c' hr2
  have b := hb s' [.ref f] I1.kIn rfl
  refine wpAny_call (codeAny_mono (F.run X.A X.stack s' H1 f c' _ _ Q (E σ) hr I1.env0 b C hco (h H1 eN T1)) fun r s2 hq => ?_)
  match r, hq with
  | .error e, hq => exact hx σ pins H1 s' e s2 I1 hq
  | .ok (.ret u), hq => exact I1.after hq
  | .ok .next, hq => exact False.elim hq
  | .ok .brk, hq => exact False.elim hq
  | .ok .cont, hq => exact False.elim hq
/-- a def where no repr is under way, its code object known -/
theorem funGC {P : Program} {w : World} {K : PySem.W.Frag} {mg : Str → Option Value} {base : Heap} {x qual : Str} {st : Stmt} {f c : Addr} {fd : FuncData} {N ps : List Str} {k : Nat} {sp : Sp} (F : Fun K x qual st f fd) (hc : fd.code = .ref c) (S : FnScope N ps (defScope st))
    (ln : ∀ vs H Q E, sp vs H Q E → vs.length = ps.length)
    (hb : ∀ (A : Around) (outer : List Env) (s : Shared) (H : Hp) (vs : List V) (Q : VK) (E : XK), A.guards = some [] → Room k (A.deeper (envOfC qual (defScope st) s.heap.objs.size f (.ref c))) → sp vs H Q E →
      ∃ t, PSs (cxOf CX0 P w K mg base N qual (defScope st) f (.ref c) A outer s H E).nox (defBody st) t ∧ t { nx := fun _ H' => Q .non H', rt := Q } (start N vs) H) : FnG P w K mg base (k + 1) f fd ps sp := by
  obtain ⟨oc, od, kV, doc, pm, an, cdv, ct, osl, rfl, lk, hcd⟩ := F.ex
  have e : cdv = .ref c := hc
  subst e
  refine ⟨ln, fun A outer s H args us vs Q E hg hr e0 hbd r hsp => ?_⟩
  refine run_ofS (N := N) (ps := ps) (CX := CX0) lk hcd S hr e0 hbd r (ln _ _ _ _ hsp) fun hr' => ?_
  obtain ⟨t, h1, h2⟩ := hb A outer s H vs Q E hg hr' hsp
  exact ⟨t, h1.nox, h2⟩
/-- the same with what may be raised, and no word of repr -/
theorem funXC {P : Program} {w : World} {K : PySem.W.Frag} {mg : Str → Option Value} {base : Heap} {x qual : Str} {st : Stmt} {f c : Addr} {fd : FuncData} {N ps : List Str} {k : Nat} {sp : Sp} (F : Fun K x qual st f fd) (hc : fd.code = .ref c) (S : FnScope N ps (defScope st))
    (ln : ∀ vs H Q E, sp vs H Q E → vs.length = ps.length)
    (hb : ∀ (A : Around) (outer : List Env) (s : Shared) (H : Hp) (vs : List V) (Q : VK) (E : XK), Room k (A.deeper (envOfC qual (defScope st) s.heap.objs.size f (.ref c))) → sp vs H Q E →
      ∃ t, PSs (cxOf (L2.CX P w) P w K mg base N qual (defScope st) f (.ref c) A outer s H E) (defBody st) t ∧ t { nx := fun _ H' => Q .non H', rt := Q } (start N vs) H) : FnOk P w K mg base (L2.CX P w) (k + 1) f fd ps sp := by
  obtain ⟨oc, od, kV, doc, pm, an, cdv, ct, osl, rfl, lk, hcd⟩ := F.ex
  have e : cdv = .ref c := hc
  subst e
  refine ⟨ln, fun A outer s H args us vs Q E hr e0 hbd r hsp => ?_⟩
  exact run_ofS (N := N) (ps := ps) (CX := L2.CX P w) lk hcd S hr e0 hbd r (ln _ _ _ _ hsp) fun hr' => hb A outer s H vs Q E hr' hsp
/-- the name of a def's lambdas -/
abbrev lamQ (x : Str) : Str := x ++ ".<locals>." ++ "<lambda>"
/-! ### the tables, while all else goes on -/
theorem tabs_same {T : List (Addr × Str)} {H H' : Hp} (t : Tabs T H) (e : Same H H') : Tabs T H' := t.ext fun b o h => e b o h
theorem tabs_but {T : List (Addr × Str)} {p : Addr} {H H' : Hp} {kvs : List (Key × V)} (t : Tabs T H) (hp : H p = some (.dK kvs)) (e : But p H H') : Tabs T H' := fun x hx => by
  obtain ⟨ps, h1, h2, h3⟩ := t x hx
  refine ⟨ps, e _ _ (ne_of h1 hp (by intro z; cases z)) h1, h2, fun pos cv hc => ?_⟩
  obtain ⟨c, e1, e2⟩ := h3 pos cv hc
  exact ⟨c, e1, e _ _ (ne_of e2 hp (by unfold CodeO; intro z; cases z)) e2⟩
theorem extN_same {H H' : Hp} (e : Same H H') : ExtN H H' := ExtN.of fun b o h => e b o h
end HX
set_option Elab.async false
set_option linter.all false
set_option maxRecDepth 100000
/-! a closure that a def got, handed on to another def -/
namespace HX
open PySem PySem.Spec PyProof.Rows L2 LamX
theorem un_join {Y : Cx} {pins : List (Addr × Obj)} {σ : L2.St} {H H2 : Hp} {s s2 : Shared} (I : Inv Y pins σ H s) (hex : Y.ex = []) (u : Un (frs Y.stack) [] H H2 s.heap s2.heap) : Un Y.fs [] Y.H_0 H2 Y.s_0.heap s2.heap := by
  have b0 : Un Y.fs [] Y.H_0 H Y.s_0.heap s.heap := hex ▸ I.base
  have own : ∀ (b : Addr) (o : Obj), Y.s_0.heap.get? b = some o → b ≠ Y.env.locals := fun b o e z => by
    have h1 := Heap.lt_size e
    have h2 := I.ok.above
    rw [z] at h1
    exact absurd h1 (Nat.not_lt.mpr h2)
  have out : ∀ (b : Addr) (o : Obj), Y.s_0.heap.get? b = some o → (b ∈ frs Y.stack ↔ b ∈ Y.fs) := fun b o e => by
    rcases I.ok.stk with h | ⟨h, hf⟩
    · rw [h]
    · rw [h]
      show b ∈ List.filterMap (·.frame) (Y.env :: Y.outer) ↔ b ∈ List.filterMap (·.frame) Y.outer
      rw [List.filterMap_cons, hf]
      refine ⟨fun z => ?_, List.mem_cons_of_mem _⟩
      rcases List.mem_cons.mp z with z | z
      · exact absurd z (own b o e)
      · exact z
  refine ⟨fun b o e n hb _ => ?_, fun b o e n hb _ => ?_, fun b o e n _ => ?_, fun b o e _ => ?_, fun b xs e => u.tups _ _ (b0.tups _ _ e), fun b o w e => u.frzs _ _ _ (b0.frzs _ _ _ e), fun b ps e => ?_⟩
  · exact u.keep b o (b0.keep b o e n hb (by simp)) (b0.free b o e n (by simp)) (fun z => hb ((out b o e).mp z)) (by simp)
  · obtain ⟨sl, h1⟩ := b0.slot b o e n hb (by simp)
    obtain ⟨sl2, h2⟩ := u.slot b _ h1 (b0.free b o e n (by simp)) ((out b o e).mpr hb) (by simp)
    exact ⟨sl2, h2⟩
  · obtain ⟨sl, h1⟩ := b0.any e n (by simp)
    exact u.free b _ h1 (b0.free b o e n (by simp)) (by simp)
  · obtain ⟨o', h1⟩ := b0.there b o e (by simp)
    exact u.there b o' h1 (by simp)
  · obtain ⟨m1, h1⟩ := b0.tbls b ps e
    obtain ⟨m2, h2⟩ := u.tbls b _ h1
    exact ⟨m1 ++ m2, by rw [h2, Array.append_assoc]⟩
theorem Clo.now {Y : Cx} {pins : List (Addr × Obj)} {σ : L2.St} {H : Hp} {s : Shared} {kc : Nat} {f c' : Addr} {q : Str} {tl : XK → Hp → VK → Prop} (C : Clo Y.prog Y.w Y.K Y.mg Y.base Y.fs kc Y.s_0 Y.H_0 f c' q tl) (hex : Y.ex = []) (I : Inv Y pins σ H s) :
    Clo Y.prog Y.w Y.K Y.mg Y.base (frs Y.stack) kc s H f c' q tl := fun A outer s1 H1 Q E hr e0 u hc h => C A outer s1 H1 Q E hr e0 (un_join I hex u) hc h
/-- x(y), y the callable that this def got -/
def tCloTo (i : Nat) (f c' : Addr) (q : Str) (tl : XK → Hp → VK → Prop) (TT : TTC) (E : L2.St → XK) : TE := fun σ H Q => σ[i]? = some (some (.ref f)) ∧ H c' = some (CodeO c' q) ∧ TT tl H Q (E σ)
theorem pe_cloTo {Y : Cx} {k kc i : Nat} {f c' g : Addr} {fd : FuncData} {q a b x : Str} {tl : XK → Hp → VK → Prop} {TT : TTC} {E : L2.St → XK} {p p1 p2 : Pos} (C : Clo Y.prog Y.w Y.K Y.mg Y.base Y.fs kc Y.s_0 Y.H_0 f c' q tl) (hex : Y.ex = []) (F : FnC Y.prog Y.w Y.K Y.mg Y.base k kc g fd b TT)
    (hr : Room k Y.A) (hg : Gl Y x) (hm : Y.mg x = some (.ref g)) (hk : PySem.W.keepIn Y.K (.ref g) = true) (hb : L2.Binds Y.K fd [b] []) (hx : ∀ σ, PassesAt (L2.CX Y.prog Y.w) Y σ (E σ))
    (hN : Y.N[i]? = some a) (hv : Vis Y.env.scope a) (hd : (a == ("__debug__" : Str)) = false := by decide) (hcd : (a == ("__classdict__" : Str)) = false := by decide) (hdb : (x == ("__debug__" : Str)) = false := by decide) :
    PE Y (.Call (.Name x p) [.Name a p1] [] p2) (tCloTo i f c' q tl TT E) := by
  refine ⟨fun pins s σ H Q I h => ?_⟩
  obtain ⟨hs, hc, ht⟩ := h
  refine wpAny_Call_Name_kw (ld_glob I hg hm ?_ hdb)
  refine PySem.W.callWith_K (h₀ := Y.base) I.ok.mod.kin hk ?_ (by rfl) (by rfl)
  show wpAny _ _ (spliced ((false, eval (.Name a p1) Y.env) :: backTo p2 (starEach [] Y.env))) _ _ s
  refine Calls.spliced_cons (thn ((pe_var (pos := p1) (i := i) hN hv hd hcd).run pins s σ H (fun v H1 => v = .ref f ∧ H1 = H) I ⟨.ref f, hs, rfl, rfl⟩) fun u s1 ⟨v, H1, I1, r1, q1⟩ => ?_)
  obtain ⟨ev, eH⟩ := q1
  subst ev
  rw [eH] at I1
  obtain rfl : u = Value.ref f := r1
  refine Calls.spliced_nil ⟨I1.kIn, ?_⟩
  have bnd := hb s1 [.ref f] I1.kIn rfl
  refine wpAny_call (codeAny_mono (F.run Y.A Y.stack s1 H f c' q tl Q (E σ) hr I1.env0 bnd (C.now hex I1) hc ht) fun r s2 hq => ?_)
  match r, hq with
  | .error e, hq => exact hx σ pins H s1 e s2 I1 hq
  | .ok (.ret u), hq => exact I1.after hq
  | .ok .next, hq => exact False.elim hq
  | .ok .brk, hq => exact False.elim hq
  | .ok .cont, hq => exact False.elim hq
end HX
set_option Elab.async false
set_option linter.all false
set_option maxRecDepth 100000
/-! a call of what an expression gives: one of the defs of the top -/
namespace HX
open PySem PySem.Spec PyProof.Rows L2
/-- the def at f keeps the promise sp, and there is room for its call -/
def CallsAs (X : Cx) (CX : CXT) (f : Addr) (sp : Sp) : Prop := ∃ (k : Nat) (fd : FuncData) (ps : List Str), FnOk X.prog X.w X.K X.mg X.base CX k f fd ps sp ∧ Room k X.A ∧ PySem.W.keepIn X.K (.ref f) = true ∧ Binds X.K fd ps []
def tCallE (X : Cx) (CX : CXT) (E : XK) (tf : TE) (ta : TA) : TE := fun σ H Q => tf σ H fun v H1 => ∃ (f : Addr) (sp : Sp), v = .ref f ∧ CallsAs X CX f sp ∧ ta σ H1 fun vs H2 => sp vs H2 Q E
theorem pe_callE {X : Cx} {CX : CXT} {E : XK} {fe e : Expr} {es : List Expr} {tf : TE} {ta : TA} {pos : Pos} (hx : Passes CX X E) (hf : PE X fe tf) (ha : PA X (e :: es) ta)
    (ht : eval (.Call fe (e :: es) [] pos) X.env = (do callWith pos (← eval fe X.env) [] (backTo pos (starEach (e :: es) X.env)) (backToKw pos (keywordEach [] X.env))) := by rfl)
    (he : starEach (e :: es) X.env = (false, eval e X.env) :: starEach es X.env := by rfl) (hpl : (backTo pos (starEach es X.env)).any (·.1) = false := by rfl) :
    PE X (.Call fe (e :: es) [] pos) (tCallE X CX E tf ta) := by
  refine ⟨fun pins s σ H Q I h => ?_⟩
  rw [ht]
  refine wpAny_bind (thn (hf.run pins s σ H _ I h) fun u s1 ⟨v, H1, I1, r1, f, sp, ev, C, q1⟩ => ?_)
  subst ev
  obtain rfl : u = Value.ref f := r1
  obtain ⟨k, fd, ps, F, hr, hk, hb⟩ := C
  refine PySem.W.callWith_K (h₀ := X.base) I1.ok.mod.kin hk (thn (ha.run pos pins s1 σ H1 _ I1 q1) fun us s2 ⟨vs, H2, I2, r, q⟩ => ⟨I2.kIn, ?_⟩) he hpl
  exact run_fn (dvs := []) (ds := []) F hr hb .nil hx I2 r (by rw [List.append_nil]; exact q)
end HX
set_option Elab.async false
set_option linter.all false
set_option maxRecDepth 100000
/-! several except clauses, with names or without: except A as x: .. except B as y: .. -/
namespace HX
open PySem PySem.Spec PyProof.Rows L2
/-- the ends of a clause: its name goes -/
def endsN (i : Option Nat) (D : Ends) : Ends := match i with
  | none => D
  | some i => { nx := fun σ' H' => D.nx (σ'.set i none) H', rt := D.rt, bk := fun σ' H' => D.bk (σ'.set i none) H', ct := fun σ' H' => D.ct (σ'.set i none) H' }
def setN (i : Option Nat) (a : Addr) (σ : L2.St) : L2.St := match i with
  | none => σ
  | some i => σ.set i (some (.ref a))
/-- what the clauses wish of an exception of the body, one after the other -/
def wNamed (K : PySem.W.Frag) (Wout : WX) (D : Ends) : List (Value × Option Nat × (Addr → Value → Option Addr → TS)) → WX
  | [] => Wout
  | (c, i, ts) :: r => fun cls d σ H => ∃ b, PySem.W.exmOne K cls c = some b ∧ (b = true → ∀ a, H a = none → ts a cls d (endsN i D) (setN i a σ) H) ∧ (b = false → wNamed K Wout D r cls d σ H)
inductive HdsN (X : Cx) : List ExceptHandler → List (Value × Option Nat × (Addr → Value → Option Addr → TS)) → Prop
  | nil : HdsN X [] []
  | cons {x : Str} {c : Value} {ts : Addr → Value → Option Addr → TS} {b₀ : Stmt} {suite : List Stmt} {np pos' : Pos} {hds : List ExceptHandler} {l : List (Value × Option Nat × (Addr → Value → Option Addr → TS))} (hc : Names X x c)
      (hsu : ∀ (a : Addr) (oe : Obj) (cls : Value) (d : Option Addr) (pn : List (Addr × Obj)), Zc cls d oe → (∃ vs, oe.data = .fields vs) → PSs (X.suite a ((a, oe) :: pn)) (b₀ :: suite) (ts a cls d)) (r : HdsN X hds l) :
      HdsN X (.ExceptHandler (some (.Name x np)) none (b₀ :: suite) pos' :: hds) ((c, none, ts) :: l)
  | named {x n : Str} {i : Nat} {c : Value} {ts : Addr → Value → Option Addr → TS} {b₀ : Stmt} {suite : List Stmt} {np pos' : Pos} {hds : List ExceptHandler} {l : List (Value × Option Nat × (Addr → Value → Option Addr → TS))} (hi : X.N[i]? = some n) (hln : X.env.kindOf n = some .local) (hc : Names X x c)
      (hsu : ∀ (a : Addr) (oe : Obj) (cls : Value) (d : Option Addr) (pn : List (Addr × Obj)), Zc cls d oe → (∃ vs, oe.data = .fields vs) → PSs (X.suite a ((a, oe) :: pn)) (b₀ :: suite) (ts a cls d)) (r : HdsN X hds l) :
      HdsN X (.ExceptHandler (some (.Name x np)) (some n) (b₀ :: suite) pos' :: hds) ((c, some i, ts) :: l)
section
variable {X : Cx} {body : List Stmt} {h₀ : ExceptHandler} {hds : List ExceptHandler} {l : List (Value × Option Nat × (Addr → Value → Option Addr → TS))} {pos : Pos} {tb : WX → TS} {Wout : WX}
theorem ps_try_named (hs : X.stack = X.env :: X.outer) (hf : X.env.frame = some X.env.locals) (hN : X.N.Nodup) (tk : Takes X Wout)
    (hb : ∀ (W : WX) (pn : List (Addr × Obj)) (xe : Value → Shared → Prop), Takes (X.tr pn xe) W → PassesOwn (model X.prog X.w) X.A X.env xe → PSs (X.tr pn xe) body (tb W))
    (hh : HdsN X (h₀ :: hds) l) : PS X (.Try body (h₀ :: hds) [] [] pos) (fun D σ H => tb (wNamed X.K Wout D l) D σ H) := by
  refine ⟨fun pins s σ H D I h => ?_⟩
  have ok := I.ok
  have hfr : X.A.frames = some (X.env :: X.outer) := by rw [ok.frames, hs]
  refine wpAny_Try_except ?_
  refine wpAny_mono ((hb (wNamed X.K Wout D l) (X.pn ++ pins) (fun e s₁ => wpAny (model X.prog X.w) X.A (noteFrame e X.env) (fun _ s₂ => wpAny (model X.prog X.w) X.A (setFlight e none) (fun _ s₃ =>
    wpAny (model X.prog X.w) X.A (handleBy e X.env (h₀ :: hds)) (SP X pins D) X.xe s₃) X.xe s₂) X.xe s₁) (fun u s' xx => ?_) PassesOwn.looking).run [] s σ H D (I.toTry _) h) (fun f s1 hsp => ?_) (fun e s1 he => he)
  · -- the catch
    obtain ⟨a, B, sI, pins', σ', H', cls, d, rfl, J', nb, up, sky, na, os, ag, w⟩ := xx
    have J : Inv X pins σ' H' sI := J'.ofTry ok
    have sky' : Sky B (X.env :: X.outer) a (Zc cls d) X.env.locals s'.heap := by rw [← hs]; exact sky
    show wpAny (model X.prog X.w) X.A (noteFrame (.ref a) X.env) _ _ _
    refine Sky.land Zc.steady hfr hf sky' fun h3 fl3 up3 => ?_
    have J3 : Inv X pins σ' H' { s' with heap := h3 } := J.landed nb fl3.1 (up.trans up3) os ag
    obtain ⟨oe3, vs3, he3, hz3, hd3⟩ := fl3.there
    have notFr : ∀ {h : Heap} {o : Obj} {vs : Array Value}, h.FunFrames B (X.env :: X.outer) → h.get? a = some o → o.data = .fields vs → a ∉ frs (X.env :: X.outer) := fun {h o vs} ff e dd hm => by
      obtain ⟨_, o', e', hnf⟩ := ff.mem hm
      rw [e] at e'; cases e'
      exact hnf _ dd
    have nfr := notFr fl3.2.2.1 he3 hd3
    have nL : a ≠ X.env.locals := fun z => nfr (List.mem_filterMap.mpr ⟨X.env, List.mem_cons_self, by rw [hf, z]⟩)
    have nF : a ∉ X.fs := fun hm => by
      obtain ⟨e, he, q⟩ := List.mem_filterMap.mp hm
      exact nfr (List.mem_filterMap.mpr ⟨e, List.mem_cons_of_mem _ he, q⟩)
    have S3 := J3.suite he3 hd3 na nL nF
    have test : ∀ {x : Str} {c : Value} {np : Pos} {Q : Value → Shared → Prop} {E : Value → Shared → Prop}, Names X x c → Q c { s' with heap := h3 } → wpAny (model X.prog X.w) (X.A.mark (some (.ref a))) (eval (.Name x np) X.env) Q E { s' with heap := h3 } := fun {x c np Q E} hc q => by
      obtain ⟨hg, hdbg, hm | ⟨hm, hv, hnn⟩⟩ := hc
      · exact ld_glob (X := X.suite a ((a, oe3) :: (X.pn ++ pins))) S3 hg hm q hdbg
      · exact ld_blt (X := X.suite a ((a, oe3) :: (X.pn ++ pins))) S3 hg hm hv q hnn hdbg
    have go : ∀ {hds' : List ExceptHandler} {l' : List (Value × Option Nat × (Addr → Value → Option Addr → TS))}, HdsN X hds' l' → wNamed X.K Wout D l' cls d σ' H' →
        wpAny (model X.prog X.w) X.A (handleBy (.ref a) X.env hds') (SP X pins D) X.xe { s' with heap := h3 } := by
      intro hds' l' hk
      induction hk with
      | nil =>
        intro w
        refine wpAny_handleBy_nil ?_
        obtain ⟨k1, k2, k3, oe, vs, T, oT, ts', he, hz, hd, h1, hr⟩ := id fl3
        unfold PySem.passOn
        refine wpAny_bind (wpAny_field he hd h1 ?_)
        rw [if_neg (show ¬ ((Value.ref T == Value.none) = true) from by simp)]
        have fin : wpAny (model X.prog X.w) X.A (setFlight (.ref a) X.env.frame) (fun _ s4 => wpAny (model X.prog X.w) X.A (throw (.ref a) : Sem Flow) (SP X pins D) X.xe s4) X.xe { s' with heap := h3 } := by
          rw [hf]
          refine HandSPX.setFlight_upZ fl3 fun h4 hh4 up4 => wpAny_throw (tk _ _ ?_)
          exact ⟨a, B, sI, pins, σ', H', cls, d, rfl, J, nb, (up.trans up3).trans up4, .inr (.inr (by rw [hs]; exact hh4)), na, os, ag, w⟩
        first
          | exact wpAny_bind (wpAny_pure (wpAny_bind fin))
          | exact wpAny_bind fin
      | @cons x c ts b₀ suite np pos' hds2 l2 hc hsu r ih =>
        intro w
        obtain ⟨b, hb1, hyes, hno⟩ := w
        refine wpAny_handleBy_cons (codeAny_handlers_test ?_) (by intro q; cases q)
        have LT : PySem.W.Looks (model X.prog X.w) h3 (typeOf (.ref a)) cls := fun A Q E s k q => wpAny_typeOf_ref (k _ _ he3) (by rw [hz3.1]; exact q)
        have LM := PySem.W.exm_one (M := model X.prog X.w) (J3.kIn) LT hb1
        refine test hc (LM.here ?_)
        cases b with
        | true =>
          refine codeAny_handlers_suite ?_
          refine HandSPX.lands_againZ fl3 fun h4 fl4 up4 => ?_
          have J4 : Inv X pins σ' H' { s' with heap := h4 } := J.landed nb fl4.1 ((up.trans up3).trans up4) os ag
          obtain ⟨oe4, vs4, he4, hz4, hd4⟩ := fl4.there
          have S4 := J4.suite he4 hd4 na nL nF
          refine wpAny_mono ((hsu a oe4 cls d (X.pn ++ pins) hz4 ⟨_, hd4⟩).run [] _ _ H' _ S4 (hyes rfl a na)) (fun f s6 hsp => ?_) (fun _ _ z => False.elim z)
          cases f with
          | next =>
            obtain ⟨σ6, H6, S6, q6⟩ := hsp
            exact ⟨_, _, S6.unsuite ok, q6⟩
          | brk =>
            obtain ⟨σ6, H6, S6, q6⟩ := hsp
            exact ⟨_, _, S6.unsuite ok, q6⟩
          | cont =>
            obtain ⟨σ6, H6, S6, q6⟩ := hsp
            exact ⟨_, _, S6.unsuite ok, q6⟩
          | ret u =>
            obtain ⟨v6, σ6, H6, S6, r6, q6⟩ := hsp
            exact ⟨_, _, _, S6.unsuite ok, r6, q6⟩
        | false =>
          show wpAny _ X.A (handleBy (.ref a) X.env hds2) _ _ _
          exact ih (hno rfl)
      | @named x n i c ts b₀ suite np pos' hds2 l2 hi hln hc hsu r ih =>
        intro w
        have hloc : Loc X.env.scope n := .inl hln
        obtain ⟨b, hb1, hyes, hno⟩ := w
        refine wpAny_handleBy_cons (codeAny_handlers_test ?_) (by intro q; cases q)
        have LT : PySem.W.Looks (model X.prog X.w) h3 (typeOf (.ref a)) cls := fun A Q E s k q => wpAny_typeOf_ref (k _ _ he3) (by rw [hz3.1]; exact q)
        have LM := PySem.W.exm_one (M := model X.prog X.w) (J3.kIn) LT hb1
        refine test hc (LM.here ?_)
        cases b with
        | true =>
          refine codeAny_handlers_suite_as ?_
          refine HandSPX.lands_againZ fl3 fun h4 fl4 up4 => ?_
          have J4 : Inv X pins σ' H' { s' with heap := h4 } := J.landed nb fl4.1 ((up.trans up3).trans up4) os ag
          obtain ⟨oe4, vs4, he4, hz4, hd4⟩ := fl4.there
          have S4 := J4.suite he4 hd4 na nL nF
          refine store_ok (X := X.suite a ((a, oe4) :: (X.pn ++ pins))) (v := .ref a) S4 hN hi hloc rfl (fun s5 S5 => ?_) (.inr hln)
          refine wpAny_mono ((hsu a oe4 cls d (X.pn ++ pins) hz4 ⟨_, hd4⟩).run [] s5 _ H' _ S5 (hyes rfl a na)) (fun f s6 hsp => ?_) (fun _ _ z => False.elim z)
          have end_ : ∀ {σ6 : L2.St} {H6 : Hp} {Q : Shared → Prop}, Inv (X.suite a ((a, oe4) :: (X.pn ++ pins))) [] σ6 H6 s6 → (∀ s7, Inv X pins (σ6.set i none) H6 s7 → Q s7) →
              wpAny (model X.prog X.w) X.A (do bindName X.env n .none; unbindBehindTheSuite X.env n pos') (fun _ s7 => Q s7) X.xe s6 := fun {σ6 H6 Q} S6 hq => gone_ok (S6.unsuite ok) hN hi hln hq
          cases f with
          | next =>
            obtain ⟨σ6, H6, S6, q6⟩ := hsp
            exact end_ S6 fun s7 J7 => ⟨_, _, J7, q6⟩
          | brk =>
            obtain ⟨σ6, H6, S6, q6⟩ := hsp
            exact end_ S6 fun s7 J7 => ⟨_, _, J7, q6⟩
          | cont =>
            obtain ⟨σ6, H6, S6, q6⟩ := hsp
            exact end_ S6 fun s7 J7 => ⟨_, _, J7, q6⟩
          | ret u =>
            obtain ⟨v6, σ6, H6, S6, r6, q6⟩ := hsp
            exact end_ S6 fun s7 J7 => ⟨_, _, _, J7, r6, q6⟩
        | false =>
          show wpAny _ X.A (handleBy (.ref a) X.env hds2) _ _ _
          exact ih (hno rfl)
    exact go hh w
  · cases f with
    | next =>
      obtain ⟨σ', H', J', q⟩ := hsp
      exact wpAny_execs_nil ⟨σ', H', J'.ofTry ok, q⟩
    | brk =>
      obtain ⟨σ', H', J', q⟩ := hsp
      exact ⟨σ', H', J'.ofTry ok, q⟩
    | cont =>
      obtain ⟨σ', H', J', q⟩ := hsp
      exact ⟨σ', H', J'.ofTry ok, q⟩
    | ret u =>
      obtain ⟨v, σ', H', J', r, q⟩ := hsp
      exact ⟨v, σ', H', J'.ofTry ok, r, q⟩
end
end HX
set_option Elab.async false
set_option linter.all false
set_option maxRecDepth 100000
namespace K13
open PySem PySem.Spec PyProof.Rows L2
def topS (i : Nat) : Stmt := PySem.Challenge.pw_farbits_k13_powers.main.body.getD i (.Pass ⟨0, 0, 0, 0⟩)
abbrev s_turns_of_int : Stmt := topS 14
theorem sc_turns_of_int : FnScope ["number", "marks", "found", "lowest"] ["number"] (defScope s_turns_of_int) := ⟨rfl, rfl, rfl, by decide +kernel, rfl, by decide +kernel, by decide +kernel⟩
abbrev s_turns : Stmt := topS 15
theorem sc_turns : FnScope ["x"] ["x"] (defScope s_turns) := ⟨rfl, rfl, rfl, by decide +kernel, rfl, by decide +kernel, by decide +kernel⟩
abbrev s_made : Stmt := topS 16
theorem sc_made : FnScope ["found", "last", "number", "at", "place"] ["found"] (defScope s_made) := ⟨rfl, rfl, rfl, by decide +kernel, rfl, by decide +kernel, by decide +kernel⟩
abbrev s_of_int : Stmt := topS 17
theorem sc_of_int : FnScope ["number"] ["number"] (defScope s_of_int) := ⟨rfl, rfl, rfl, by decide +kernel, rfl, by decide +kernel, by decide +kernel⟩
abbrev s_negative : Stmt := topS 18
theorem sc_negative : FnScope ["x"] ["x"] (defScope s_negative) := ⟨rfl, rfl, rfl, by decide +kernel, rfl, by decide +kernel, by decide +kernel⟩
abbrev s_order : Stmt := topS 19
theorem sc_order : FnScope ["x", "y", "ours", "theirs", "common", "most", "side"] ["x", "y"] (defScope s_order) := ⟨rfl, rfl, rfl, by decide +kernel, rfl, by decide +kernel, by decide +kernel⟩
abbrev s_merged : Stmt := topS 20
theorem sc_merged : FnScope ["ours", "theirs", "rows", "i", "j", "side"] ["ours", "theirs"] (defScope s_merged) := ⟨rfl, rfl, rfl, by decide +kernel, rfl, by decide +kernel, by decide +kernel⟩
abbrev s_toggled : Stmt := topS 21
theorem sc_toggled : FnScope ["found", "place", "at"] ["found", "place"] (defScope s_toggled) := ⟨rfl, rfl, rfl, by decide +kernel, rfl, by decide +kernel, by decide +kernel⟩
abbrev s_plus_one : Stmt := topS 22
theorem sc_plus_one : FnScope ["x"] ["x"] (defScope s_plus_one) := ⟨rfl, rfl, rfl, by decide +kernel, rfl, by decide +kernel, by decide +kernel⟩
abbrev s_inverted : Stmt := topS 23
theorem sc_inverted : FnScope ["x"] ["x"] (defScope s_inverted) := ⟨rfl, rfl, rfl, by decide +kernel, rfl, by decide +kernel, by decide +kernel⟩
abbrev s_total : Stmt := topS 24
theorem sc_total : FnScope ["x", "y", "carry", "rows", "found", "ours", "theirs", "before", "at", "place", "mine", "other", "here", "rest", "following"] ["x", "y", "carry"] (defScope s_total) := ⟨rfl, rfl, rfl, by decide +kernel, rfl, by decide +kernel, by decide +kernel⟩
abbrev s_minus : Stmt := topS 25
theorem sc_minus : FnScope ["x", "y"] ["x", "y"] (defScope s_minus) := ⟨rfl, rfl, rfl, by decide +kernel, rfl, by decide +kernel, by decide +kernel⟩
abbrev s_shifted : Stmt := topS 26
theorem sc_shifted : FnScope ["x", "amount", "turn"] ["x", "amount"] (defScope s_shifted) := ⟨rfl, rfl, rfl, by decide +kernel, rfl, by decide +kernel, by decide +kernel⟩
abbrev s_product : Stmt := topS 27
theorem sc_product : FnScope ["x", "y", "found", "at", "turn"] ["x", "y"] (defScope s_product) := ⟨rfl, rfl, rfl, by decide +kernel, rfl, by decide +kernel, by decide +kernel⟩
abbrev s_size : Stmt := topS 28
theorem sc_size : FnScope ["x", "turn"] ["x"] (defScope s_size) := ⟨rfl, rfl, rfl, by decide +kernel, rfl, by decide +kernel, by decide +kernel⟩
abbrev s_height : Stmt := topS 29
theorem sc_height : FnScope ["x", "greatest", "turn"] ["x"] (defScope s_height) := ⟨rfl, rfl, rfl, by decide +kernel, rfl, by decide +kernel, by decide +kernel⟩
abbrev s_kept : Stmt := topS 30
theorem sc_kept : FnScope ["x", "parts", "levels"] ["x"] (defScope s_kept) := ⟨rfl, rfl, rfl, by decide +kernel, rfl, by decide +kernel, by decide +kernel⟩
abbrev s_shift_left : Stmt := topS 32
theorem sc_shift_left : FnScope ["x", "s"] ["x", "s"] (defScope s_shift_left) := ⟨rfl, rfl, rfl, by decide +kernel, rfl, by decide +kernel, by decide +kernel⟩
abbrev s_multiply : Stmt := topS 33
theorem sc_multiply : FnScope ["x", "y", "terms"] ["x", "y"] (defScope s_multiply) := ⟨rfl, rfl, rfl, by decide +kernel, rfl, by decide +kernel, by decide +kernel⟩
abbrev s_is_exponent : Stmt := topS 34
theorem sc_is_exponent : FnScope ["x", "n"] ["x", "n"] (defScope s_is_exponent) := ⟨rfl, rfl, rfl, by decide +kernel, rfl, by decide +kernel, by decide +kernel⟩
abbrev s_power : Stmt := topS 35
theorem sc_power : FnScope ["x", "n", "found", "step"] ["x", "n"] (defScope s_power) := ⟨rfl, rfl, rfl, by decide +kernel, rfl, by decide +kernel, by decide +kernel⟩
abbrev s__law_begin : Stmt := topS 37
theorem sc__law_begin : FnScope ["_law_script"] ["_law_script"] (defScope s__law_begin) := ⟨rfl, rfl, rfl, by decide +kernel, rfl, by decide +kernel, by decide +kernel⟩
abbrev s__law_draw : Stmt := topS 38
theorem sc__law_draw : FnScope ["_law_tape", "_law_limit", "_law_at", "_law_span", "_law_cell", "_law_mixed", "_law_found"] ["_law_tape", "_law_limit"] (defScope s__law_draw) := ⟨rfl, rfl, rfl, by decide +kernel, rfl, by decide +kernel, by decide +kernel⟩
abbrev s__law_pick : Stmt := topS 39
theorem sc__law_pick : FnScope ["_law_tape", "_law_some"] ["_law_tape", "_law_some"] (defScope s__law_pick) := ⟨rfl, rfl, rfl, by decide +kernel, rfl, by decide +kernel, by decide +kernel⟩
abbrev s__law_turns : Stmt := topS 40
theorem sc__law_turns : FnScope ["_law_number_here", "_law_marks", "_law_found", "_law_low"] ["_law_number_here"] (defScope s__law_turns) := ⟨rfl, rfl, rfl, by decide +kernel, rfl, by decide +kernel, by decide +kernel⟩
abbrev s__law_int : Stmt := topS 41
theorem sc__law_int : FnScope ["_law_places", "_law_total", "_law_sign", "_law_turn"] ["_law_places"] (defScope s__law_int) := ⟨rfl, rfl, rfl, by decide +kernel, rfl, by decide +kernel, by decide +kernel⟩
abbrev s__law_form : Stmt := topS 42
theorem sc__law_form : FnScope ["_law_number_here"] ["_law_number_here"] (defScope s__law_form) := ⟨rfl, rfl, rfl, by decide +kernel, rfl, by decide +kernel, by decide +kernel⟩
abbrev s__law_row_form : Stmt := topS 43
theorem sc__law_row_form : FnScope ["_law_places"] ["_law_places"] (defScope s__law_row_form) := ⟨rfl, rfl, rfl, by decide +kernel, rfl, by decide +kernel, by decide +kernel⟩
abbrev s__law_size : Stmt := topS 44
theorem sc__law_size : FnScope ["_law_form_here", "_law_one"] ["_law_form_here"] (defScope s__law_size) := ⟨rfl, rfl, rfl, by decide +kernel, rfl, by decide +kernel, by decide +kernel⟩
abbrev s__law_height : Stmt := topS 45
theorem sc__law_height : FnScope ["_law_form_here", "_law_one"] ["_law_form_here"] (defScope s__law_height) := ⟨rfl, rfl, rfl, by decide +kernel, rfl, by decide +kernel, by decide +kernel⟩
abbrev s__law_judged : Stmt := topS 46
theorem sc__law_judged : FnScope ["_law_form_here", "_law_size_here", "_law_height_here"] ["_law_form_here"] (defScope s__law_judged) := ⟨rfl, rfl, rfl, by decide +kernel, rfl, by decide +kernel, by decide +kernel⟩
abbrev s__law_fields : Stmt := topS 47
theorem sc__law_fields : FnScope ["_law_tape", "_law_many", "_law_first", "_law_found", "_law_low", "_law_top", "_law_gap"] ["_law_tape", "_law_many"] (defScope s__law_fields) := ⟨rfl, rfl, rfl, by decide +kernel, rfl, by decide +kernel, by decide +kernel⟩
abbrev s__law_moved : Stmt := topS 48
theorem sc__law_moved : FnScope ["_law_code_here", "_law_fields_here", "_law_places", "_law_turn", "_law_field", "_law_step"] ["_law_code_here", "_law_fields_here"] (defScope s__law_moved) := ⟨rfl, rfl, rfl, by decide +kernel, rfl, by decide +kernel, by decide +kernel⟩
abbrev s__law_form_of_codes : Stmt := topS 49
theorem sc__law_form_of_codes : FnScope ["_law_codes_here", "_law_fields_here", "_law_code_here"] ["_law_codes_here", "_law_fields_here"] (defScope s__law_form_of_codes) := ⟨rfl, rfl, rfl, by decide +kernel, rfl, by decide +kernel, by decide +kernel⟩
abbrev s__law_summed : Stmt := topS 50
theorem sc__law_summed : FnScope ["_law_terms_here", "_law_codes_here", "_law_spots", "_law_places", "_law_code_here", "_law_times", "_law_at", "_law_gap", "_law_total", "_law_found", "_law_turn"] ["_law_terms_here"] (defScope s__law_summed) := ⟨rfl, rfl, rfl, by decide +kernel, rfl, by decide +kernel, by decide +kernel⟩
abbrev s__law_terms : Stmt := topS 51
theorem sc__law_terms : FnScope ["_law_codes_here", "_law_times", "_law_k"] ["_law_codes_here", "_law_times"] (defScope s__law_terms) := ⟨rfl, rfl, rfl, by decide +kernel, rfl, by decide +kernel, by decide +kernel⟩
abbrev s__law_code : Stmt := topS 52
theorem sc__law_code : FnScope ["_law_tape", "_law_many", "_law_known", "_law_found", "_law_k", "_law_piece"] ["_law_tape", "_law_many", "_law_known"] (defScope s__law_code) := ⟨rfl, rfl, rfl, by decide +kernel, rfl, by decide +kernel, by decide +kernel⟩
abbrev s__law_codes : Stmt := topS 53
theorem sc__law_codes : FnScope ["_law_tape", "_law_many", "_law_count", "_law_known", "_law_found", "_law_k", "_law_code_here"] ["_law_tape", "_law_many", "_law_count", "_law_known"] (defScope s__law_codes) := ⟨rfl, rfl, rfl, by decide +kernel, rfl, by decide +kernel, by decide +kernel⟩
abbrev s__law_few : Stmt := topS 54
theorem sc__law_few : FnScope ["_law_tape", "_law_most", "_law_found", "_law_count", "_law_k", "_law_near", "_law_last", "_law_turn"] ["_law_tape", "_law_most"] (defScope s__law_few) := ⟨rfl, rfl, rfl, by decide +kernel, rfl, by decide +kernel, by decide +kernel⟩
abbrev s__law_told : Stmt := topS 55
theorem sc__law_told : FnScope ["_law_call", "_law_found", "e"] ["_law_call"] (defScope s__law_told) := ⟨rfl, rfl, rfl, by decide +kernel, rfl, by decide +kernel, by decide +kernel⟩
abbrev s__law_number : Stmt := topS 56
theorem sc__law_number : FnScope ["_law_tape", "_law_fields_here", "_law_count", "_law_known", "_law_many", "_law_codes_here", "_law_code_here"] ["_law_tape", "_law_fields_here", "_law_count", "_law_known"] (defScope s__law_number) := ⟨rfl, rfl, rfl, by decide +kernel, rfl, by decide +kernel, by decide +kernel⟩
abbrev s__law_raised : Stmt := topS 57
theorem sc__law_raised : FnScope ["_law_x", "_law_n", "_law_found", "e"] ["_law_x", "_law_n"] (defScope s__law_raised) := ⟨rfl, rfl, rfl, by decide +kernel, rfl, by decide +kernel, by decide +kernel⟩
abbrev s__law_due_power : Stmt := topS 58
theorem sc__law_due_power : FnScope ["_law_codes_here", "_law_n", "_law_fields_here", "_law_found", "_law_form_here", "_law_plain", "_law_step", "_law_pairs", "_law_code_here", "_law_times", "_law_more", "_law_many"] ["_law_codes_here", "_law_n", "_law_fields_here"] (defScope s__law_due_power) := ⟨rfl, rfl, rfl, by decide +kernel, rfl, by decide +kernel, by decide +kernel⟩
abbrev s_law : Stmt := topS 59
theorem sc_law : FnScope ["_law_script", "_law_tape", "_law_fields_here", "_law_lap", "_law_number_here", "_law_n", "_law_due", "_law_codes_here", "_law_turn", "_law_far", "_law_x", "_law_odd"] ["_law_script"] (defScope s_law) := ⟨rfl, rfl, rfl, by decide +kernel, rfl, by decide +kernel, by decide +kernel⟩
abbrev si_TooLarge : Stmt := inClass (topS 2) 0
def nf_TooLarge (cc cda : Addr) : NdefX.NF := ⟨"__init__", "TooLarge.__init__", defArgs si_TooLarge, defBody si_TooLarge, defScope si_TooLarge, [(("__class__" : Str), cc)], cda⟩
abbrev si_TooManyTerms : Stmt := inClass (topS 3) 0
def nf_TooManyTerms (cc cda : Addr) : NdefX.NF := ⟨"__init__", "TooManyTerms.__init__", defArgs si_TooManyTerms, defBody si_TooManyTerms, defScope si_TooManyTerms, [(("__class__" : Str), cc)], cda⟩
abbrev si_InvalidPower : Stmt := inClass (topS 4) 0
def nf_InvalidPower (cc cda : Addr) : NdefX.NF := ⟨"__init__", "InvalidPower.__init__", defArgs si_InvalidPower, defBody si_InvalidPower, defScope si_InvalidPower, [(("__class__" : Str), cc)], cda⟩
abbrev si_NegativeShift : Stmt := inClass (topS 5) 0
def nf_NegativeShift (cc cda : Addr) : NdefX.NF := ⟨"__init__", "NegativeShift.__init__", defArgs si_NegativeShift, defBody si_NegativeShift, defScope si_NegativeShift, [(("__class__" : Str), cc)], cda⟩
set_option maxHeartbeats 8000000 in
structure Top (K : PySem.W.Frag) (mg : Str → Option Value) where
  f_turns_of_int : Addr
  fd_turns_of_int : FuncData
  F_turns_of_int : Fun K "turns_of_int" "turns_of_int" s_turns_of_int f_turns_of_int fd_turns_of_int
  g_turns_of_int : mg "turns_of_int" = some (.ref f_turns_of_int)
  b_turns_of_int : Binds K fd_turns_of_int ["number"] []
  f_turns : Addr
  fd_turns : FuncData
  F_turns : Fun K "turns" "turns" s_turns f_turns fd_turns
  g_turns : mg "turns" = some (.ref f_turns)
  b_turns : Binds K fd_turns ["x"] []
  f_made : Addr
  fd_made : FuncData
  F_made : Fun K "made" "made" s_made f_made fd_made
  g_made : mg "made" = some (.ref f_made)
  b_made : Binds K fd_made ["found"] []
  f_of_int : Addr
  fd_of_int : FuncData
  F_of_int : Fun K "of_int" "of_int" s_of_int f_of_int fd_of_int
  g_of_int : mg "of_int" = some (.ref f_of_int)
  b_of_int : Binds K fd_of_int ["number"] []
  f_negative : Addr
  fd_negative : FuncData
  F_negative : Fun K "negative" "negative" s_negative f_negative fd_negative
  g_negative : mg "negative" = some (.ref f_negative)
  b_negative : Binds K fd_negative ["x"] []
  f_order : Addr
  fd_order : FuncData
  F_order : Fun K "order" "order" s_order f_order fd_order
  g_order : mg "order" = some (.ref f_order)
  b_order : Binds K fd_order ["x", "y"] []
  f_merged : Addr
  fd_merged : FuncData
  F_merged : Fun K "merged" "merged" s_merged f_merged fd_merged
  g_merged : mg "merged" = some (.ref f_merged)
  b_merged : Binds K fd_merged ["ours", "theirs"] []
  f_toggled : Addr
  fd_toggled : FuncData
  F_toggled : Fun K "toggled" "toggled" s_toggled f_toggled fd_toggled
  g_toggled : mg "toggled" = some (.ref f_toggled)
  b_toggled : Binds K fd_toggled ["found", "place"] []
  f_plus_one : Addr
  fd_plus_one : FuncData
  F_plus_one : Fun K "plus_one" "plus_one" s_plus_one f_plus_one fd_plus_one
  g_plus_one : mg "plus_one" = some (.ref f_plus_one)
  b_plus_one : Binds K fd_plus_one ["x"] []
  f_inverted : Addr
  fd_inverted : FuncData
  F_inverted : Fun K "inverted" "inverted" s_inverted f_inverted fd_inverted
  g_inverted : mg "inverted" = some (.ref f_inverted)
  b_inverted : Binds K fd_inverted ["x"] []
  f_total : Addr
  fd_total : FuncData
  F_total : Fun K "total" "total" s_total f_total fd_total
  g_total : mg "total" = some (.ref f_total)
  b_total : Binds K fd_total ["x", "y", "carry"] []
  f_minus : Addr
  fd_minus : FuncData
  F_minus : Fun K "minus" "minus" s_minus f_minus fd_minus
  g_minus : mg "minus" = some (.ref f_minus)
  b_minus : Binds K fd_minus ["x", "y"] []
  f_shifted : Addr
  fd_shifted : FuncData
  F_shifted : Fun K "shifted" "shifted" s_shifted f_shifted fd_shifted
  g_shifted : mg "shifted" = some (.ref f_shifted)
  b_shifted : Binds K fd_shifted ["x", "amount"] []
  f_product : Addr
  fd_product : FuncData
  F_product : Fun K "product" "product" s_product f_product fd_product
  g_product : mg "product" = some (.ref f_product)
  b_product : Binds K fd_product ["x", "y"] []
  f_size : Addr
  fd_size : FuncData
  F_size : Fun K "size" "size" s_size f_size fd_size
  g_size : mg "size" = some (.ref f_size)
  b_size : Binds K fd_size ["x"] []
  f_height : Addr
  fd_height : FuncData
  F_height : Fun K "height" "height" s_height f_height fd_height
  g_height : mg "height" = some (.ref f_height)
  b_height : Binds K fd_height ["x"] []
  f_kept : Addr
  fd_kept : FuncData
  F_kept : Fun K "kept" "kept" s_kept f_kept fd_kept
  g_kept : mg "kept" = some (.ref f_kept)
  b_kept : Binds K fd_kept ["x"] []
  f_shift_left : Addr
  fd_shift_left : FuncData
  F_shift_left : Fun K "shift_left" "shift_left" s_shift_left f_shift_left fd_shift_left
  g_shift_left : mg "shift_left" = some (.ref f_shift_left)
  b_shift_left : Binds K fd_shift_left ["x", "s"] []
  f_multiply : Addr
  fd_multiply : FuncData
  F_multiply : Fun K "multiply" "multiply" s_multiply f_multiply fd_multiply
  g_multiply : mg "multiply" = some (.ref f_multiply)
  b_multiply : Binds K fd_multiply ["x", "y"] []
  f_is_exponent : Addr
  fd_is_exponent : FuncData
  F_is_exponent : Fun K "is_exponent" "is_exponent" s_is_exponent f_is_exponent fd_is_exponent
  g_is_exponent : mg "is_exponent" = some (.ref f_is_exponent)
  b_is_exponent : Binds K fd_is_exponent ["x", "n"] []
  f_power : Addr
  fd_power : FuncData
  F_power : Fun K "power" "power" s_power f_power fd_power
  g_power : mg "power" = some (.ref f_power)
  b_power : Binds K fd_power ["x", "n"] []
  f__law_begin : Addr
  fd__law_begin : FuncData
  F__law_begin : Fun K "_law_begin" "_law_begin" s__law_begin f__law_begin fd__law_begin
  g__law_begin : mg "_law_begin" = some (.ref f__law_begin)
  b__law_begin : Binds K fd__law_begin ["_law_script"] []
  f__law_draw : Addr
  fd__law_draw : FuncData
  F__law_draw : Fun K "_law_draw" "_law_draw" s__law_draw f__law_draw fd__law_draw
  g__law_draw : mg "_law_draw" = some (.ref f__law_draw)
  b__law_draw : Binds K fd__law_draw ["_law_tape", "_law_limit"] []
  f__law_pick : Addr
  fd__law_pick : FuncData
  F__law_pick : Fun K "_law_pick" "_law_pick" s__law_pick f__law_pick fd__law_pick
  g__law_pick : mg "_law_pick" = some (.ref f__law_pick)
  b__law_pick : Binds K fd__law_pick ["_law_tape", "_law_some"] []
  f__law_turns : Addr
  fd__law_turns : FuncData
  F__law_turns : Fun K "_law_turns" "_law_turns" s__law_turns f__law_turns fd__law_turns
  g__law_turns : mg "_law_turns" = some (.ref f__law_turns)
  b__law_turns : Binds K fd__law_turns ["_law_number_here"] []
  f__law_int : Addr
  fd__law_int : FuncData
  F__law_int : Fun K "_law_int" "_law_int" s__law_int f__law_int fd__law_int
  g__law_int : mg "_law_int" = some (.ref f__law_int)
  b__law_int : Binds K fd__law_int ["_law_places"] []
  f__law_form : Addr
  fd__law_form : FuncData
  F__law_form : Fun K "_law_form" "_law_form" s__law_form f__law_form fd__law_form
  g__law_form : mg "_law_form" = some (.ref f__law_form)
  b__law_form : Binds K fd__law_form ["_law_number_here"] []
  f__law_row_form : Addr
  fd__law_row_form : FuncData
  F__law_row_form : Fun K "_law_row_form" "_law_row_form" s__law_row_form f__law_row_form fd__law_row_form
  g__law_row_form : mg "_law_row_form" = some (.ref f__law_row_form)
  b__law_row_form : Binds K fd__law_row_form ["_law_places"] []
  f__law_size : Addr
  fd__law_size : FuncData
  F__law_size : Fun K "_law_size" "_law_size" s__law_size f__law_size fd__law_size
  g__law_size : mg "_law_size" = some (.ref f__law_size)
  b__law_size : Binds K fd__law_size ["_law_form_here"] []
  f__law_height : Addr
  fd__law_height : FuncData
  F__law_height : Fun K "_law_height" "_law_height" s__law_height f__law_height fd__law_height
  g__law_height : mg "_law_height" = some (.ref f__law_height)
  b__law_height : Binds K fd__law_height ["_law_form_here"] []
  f__law_judged : Addr
  fd__law_judged : FuncData
  F__law_judged : Fun K "_law_judged" "_law_judged" s__law_judged f__law_judged fd__law_judged
  g__law_judged : mg "_law_judged" = some (.ref f__law_judged)
  b__law_judged : Binds K fd__law_judged ["_law_form_here"] []
  f__law_fields : Addr
  fd__law_fields : FuncData
  F__law_fields : Fun K "_law_fields" "_law_fields" s__law_fields f__law_fields fd__law_fields
  g__law_fields : mg "_law_fields" = some (.ref f__law_fields)
  b__law_fields : Binds K fd__law_fields ["_law_tape", "_law_many"] []
  f__law_moved : Addr
  fd__law_moved : FuncData
  F__law_moved : Fun K "_law_moved" "_law_moved" s__law_moved f__law_moved fd__law_moved
  g__law_moved : mg "_law_moved" = some (.ref f__law_moved)
  b__law_moved : Binds K fd__law_moved ["_law_code_here", "_law_fields_here"] []
  f__law_form_of_codes : Addr
  fd__law_form_of_codes : FuncData
  F__law_form_of_codes : Fun K "_law_form_of_codes" "_law_form_of_codes" s__law_form_of_codes f__law_form_of_codes fd__law_form_of_codes
  g__law_form_of_codes : mg "_law_form_of_codes" = some (.ref f__law_form_of_codes)
  b__law_form_of_codes : Binds K fd__law_form_of_codes ["_law_codes_here", "_law_fields_here"] []
  f__law_summed : Addr
  fd__law_summed : FuncData
  F__law_summed : Fun K "_law_summed" "_law_summed" s__law_summed f__law_summed fd__law_summed
  g__law_summed : mg "_law_summed" = some (.ref f__law_summed)
  b__law_summed : Binds K fd__law_summed ["_law_terms_here"] []
  f__law_terms : Addr
  fd__law_terms : FuncData
  F__law_terms : FunD K "_law_terms" "_law_terms" (defArgs s__law_terms) (defBody s__law_terms) (defScope s__law_terms) [.int (1)] [] f__law_terms fd__law_terms
  ds__law_terms : List Value
  dv__law_terms : Vals [.int (1)] ds__law_terms
  bd__law_terms : Binds K fd__law_terms ["_law_codes_here", "_law_times"] ds__law_terms
  g__law_terms : mg "_law_terms" = some (.ref f__law_terms)
  b__law_terms : Binds K fd__law_terms ["_law_codes_here", "_law_times"] []
  f__law_code : Addr
  fd__law_code : FuncData
  F__law_code : Fun K "_law_code" "_law_code" s__law_code f__law_code fd__law_code
  g__law_code : mg "_law_code" = some (.ref f__law_code)
  b__law_code : Binds K fd__law_code ["_law_tape", "_law_many", "_law_known"] []
  f__law_codes : Addr
  fd__law_codes : FuncData
  F__law_codes : FunD K "_law_codes" "_law_codes" (defArgs s__law_codes) (defBody s__law_codes) (defScope s__law_codes) [.non] [] f__law_codes fd__law_codes
  ds__law_codes : List Value
  dv__law_codes : Vals [.non] ds__law_codes
  bd__law_codes : Binds K fd__law_codes ["_law_tape", "_law_many", "_law_count", "_law_known"] ds__law_codes
  g__law_codes : mg "_law_codes" = some (.ref f__law_codes)
  b__law_codes : Binds K fd__law_codes ["_law_tape", "_law_many", "_law_count", "_law_known"] []
  f__law_few : Addr
  fd__law_few : FuncData
  F__law_few : Fun K "_law_few" "_law_few" s__law_few f__law_few fd__law_few
  g__law_few : mg "_law_few" = some (.ref f__law_few)
  b__law_few : Binds K fd__law_few ["_law_tape", "_law_most"] []
  f__law_told : Addr
  fd__law_told : FuncData
  F__law_told : Fun K "_law_told" "_law_told" s__law_told f__law_told fd__law_told
  g__law_told : mg "_law_told" = some (.ref f__law_told)
  b__law_told : Binds K fd__law_told ["_law_call"] []
  f__law_number : Addr
  fd__law_number : FuncData
  F__law_number : FunD K "_law_number" "_law_number" (defArgs s__law_number) (defBody s__law_number) (defScope s__law_number) [.non] [] f__law_number fd__law_number
  ds__law_number : List Value
  dv__law_number : Vals [.non] ds__law_number
  bd__law_number : Binds K fd__law_number ["_law_tape", "_law_fields_here", "_law_count", "_law_known"] ds__law_number
  g__law_number : mg "_law_number" = some (.ref f__law_number)
  b__law_number : Binds K fd__law_number ["_law_tape", "_law_fields_here", "_law_count", "_law_known"] []
  f__law_raised : Addr
  fd__law_raised : FuncData
  F__law_raised : Fun K "_law_raised" "_law_raised" s__law_raised f__law_raised fd__law_raised
  c__law_raised : Addr
  P__law_raised : Addr
  cod__law_raised : fd__law_raised.code = .ref c__law_raised
  g__law_raised : mg "_law_raised" = some (.ref f__law_raised)
  b__law_raised : Binds K fd__law_raised ["_law_x", "_law_n"] []
  f__law_due_power : Addr
  fd__law_due_power : FuncData
  F__law_due_power : Fun K "_law_due_power" "_law_due_power" s__law_due_power f__law_due_power fd__law_due_power
  g__law_due_power : mg "_law_due_power" = some (.ref f__law_due_power)
  b__law_due_power : Binds K fd__law_due_power ["_law_codes_here", "_law_n", "_law_fields_here"] []
  f_law : Addr
  fd_law : FuncData
  F_law : Fun K "law" "law" s_law f_law fd_law
  g_law : mg "law" = some (.ref f_law)
  b_law : Binds K fd_law ["_law_script"] []
  t_LAST_PLAIN_TURN : Tok
  c_LAST_PLAIN_TURN : mg "LAST_PLAIN_TURN" = some (.int (64) t_LAST_PLAIN_TURN)
  t_PLAIN_LEAST : Tok
  c_PLAIN_LEAST : mg "PLAIN_LEAST" = some (.int (-18446744073709551616) t_PLAIN_LEAST)
  t_PLAIN_MOST : Tok
  c_PLAIN_MOST : mg "PLAIN_MOST" = some (.int (18446744073709551615) t_PLAIN_MOST)
  t_MOST_HEIGHT : Tok
  c_MOST_HEIGHT : mg "MOST_HEIGHT" = some (.int (6) t_MOST_HEIGHT)
  t_MOST_SIZE : Tok
  c_MOST_SIZE : mg "MOST_SIZE" = some (.int (2000) t_MOST_SIZE)
  t_MOST_TERMS : Tok
  c_MOST_TERMS : mg "MOST_TERMS" = some (.int (600) t_MOST_TERMS)
  t_MOST_POWER : Tok
  c_MOST_POWER : mg "MOST_POWER" = some (.int (64) t_MOST_POWER)
  C_FarError : Addr
  g_FarError : mg "FarError" = some (.ref C_FarError)
  C_TooLarge : Addr
  fI_TooLarge : Addr
  cc_TooLarge : Addr
  cda_TooLarge : Addr
  E_TooLarge : HX.Err K mg "TooLarge" ["parts", "levels"] C_TooLarge fI_TooLarge cc_TooLarge (nf_TooLarge cc_TooLarge cda_TooLarge)
  kf_TooLarge : PySem.W.kitOne K (.ref C_TooLarge) (.ref C_FarError) = some true
  C_TooManyTerms : Addr
  fI_TooManyTerms : Addr
  cc_TooManyTerms : Addr
  cda_TooManyTerms : Addr
  E_TooManyTerms : HX.Err K mg "TooManyTerms" ["terms"] C_TooManyTerms fI_TooManyTerms cc_TooManyTerms (nf_TooManyTerms cc_TooManyTerms cda_TooManyTerms)
  kf_TooManyTerms : PySem.W.kitOne K (.ref C_TooManyTerms) (.ref C_FarError) = some true
  C_InvalidPower : Addr
  fI_InvalidPower : Addr
  cc_InvalidPower : Addr
  cda_InvalidPower : Addr
  E_InvalidPower : HX.Err K mg "InvalidPower" ["exponent"] C_InvalidPower fI_InvalidPower cc_InvalidPower (nf_InvalidPower cc_InvalidPower cda_InvalidPower)
  kf_InvalidPower : PySem.W.kitOne K (.ref C_InvalidPower) (.ref C_FarError) = some true
  C_NegativeShift : Addr
  fI_NegativeShift : Addr
  cc_NegativeShift : Addr
  cda_NegativeShift : Addr
  E_NegativeShift : HX.Err K mg "NegativeShift" ["amount"] C_NegativeShift fI_NegativeShift cc_NegativeShift (nf_NegativeShift cc_NegativeShift cda_NegativeShift)
  kf_NegativeShift : PySem.W.kitOne K (.ref C_NegativeShift) (.ref C_FarError) = some true
  xx_TooLarge_TooManyTerms : PySem.W.exmOne K (.ref C_TooLarge) (.ref C_TooManyTerms) = some false
  xx_TooLarge_InvalidPower : PySem.W.exmOne K (.ref C_TooLarge) (.ref C_InvalidPower) = some false
  xx_TooLarge_NegativeShift : PySem.W.exmOne K (.ref C_TooLarge) (.ref C_NegativeShift) = some false
  xx_TooManyTerms_TooLarge : PySem.W.exmOne K (.ref C_TooManyTerms) (.ref C_TooLarge) = some false
  xx_TooManyTerms_InvalidPower : PySem.W.exmOne K (.ref C_TooManyTerms) (.ref C_InvalidPower) = some false
  xx_TooManyTerms_NegativeShift : PySem.W.exmOne K (.ref C_TooManyTerms) (.ref C_NegativeShift) = some false
  xx_InvalidPower_TooLarge : PySem.W.exmOne K (.ref C_InvalidPower) (.ref C_TooLarge) = some false
  xx_InvalidPower_TooManyTerms : PySem.W.exmOne K (.ref C_InvalidPower) (.ref C_TooManyTerms) = some false
  xx_InvalidPower_NegativeShift : PySem.W.exmOne K (.ref C_InvalidPower) (.ref C_NegativeShift) = some false
  xx_NegativeShift_TooLarge : PySem.W.exmOne K (.ref C_NegativeShift) (.ref C_TooLarge) = some false
  xx_NegativeShift_TooManyTerms : PySem.W.exmOne K (.ref C_NegativeShift) (.ref C_TooManyTerms) = some false
  xx_NegativeShift_InvalidPower : PySem.W.exmOne K (.ref C_NegativeShift) (.ref C_InvalidPower) = some false
  m_ValueError : mg "ValueError" = none
  m_enumerate : mg "enumerate" = none
  m_int : mg "int" = none
  m_isinstance : mg "isinstance" = none
  m_len : mg "len" = none
  m_max : mg "max" = none
  m_min : mg "min" = none
  m_range : mg "range" = none
  m_repr : mg "repr" = none
  m_sorted : mg "sorted" = none
  m_sum : mg "sum" = none
  m_tuple : mg "tuple" = none
/-- the tables of the code objects of lambdas -/
def lamT {K : PySem.W.Frag} {mg : Str → Option Value} (T : Top K mg) : List (Addr × Str) := [(T.P__law_raised, HX.lamQ "_law_raised")]
theorem init_TooLarge {P : Program} {w : World} {K : PySem.W.Frag} {mg : Str → Option Value} {base : Heap} (T : Top K mg) (hP : HX.PF P) : ∃ fd, FnOk P w K mg base CX0 1 T.fI_TooLarge fd ["self", "parts", "levels"] (HX.spE2 T.C_TooLarge "parts" "levels") ∧ Binds K fd ["self", "parts", "levels"] [] := by
  obtain ⟨oc, od, doc, pm, ctv, osl, lk⟩ := T.E_TooLarge.fn
  refine ⟨_, HX.fn_super (N := ["self", "parts", "levels", "__class__"]) (ps := ["self", "parts", "levels"]) (T.E_TooLarge.sup' hP) lk (NdefX.nscope_by (sc := defScope si_TooLarge) (by decide +kernel)) rfl rfl rfl rfl (fun vs H Q E h => ?_) (fun A outer s H vs Q E hr h => ?_) (fun L => rfl) (fun L => rfl) (fun L => rfl) (fun L => rfl) (fun L => rfl), ?_⟩
  · obtain ⟨a, y, z, rfl, _⟩ := h
    rfl
  · obtain ⟨a, y, z, rfl, ea, q⟩ := h
    refine ⟨a, [y, z], _, _, rfl, ea, (pa_cons (pv 1) (pa_cons (pv 2) pa_nil)), (pss_cons (ps_ost (pv 0) (pv 1)) (pss_one (ps_ost (pv 0) (pv 2)))), ⟨y, rfl, z, rfl, rfl, by show 2 ≤ 1000; decide⟩, ?_⟩
    refine ⟨y, rfl, .ref a, rfl, a, T.C_TooLarge, rfl, T.E_TooLarge.oex, T.E_TooLarge.noF _ (by simp), .inl ⟨ea, fun dx n ne => ?_⟩⟩
    exact ⟨z, rfl, .ref a, rfl, a, T.C_TooLarge, rfl, T.E_TooLarge.oex, T.E_TooLarge.noF _ (by simp), .inr ⟨dx, _, upd_same, (upd_ne ne).trans upd_same, by show 1 ≤ 900; decide, q dx n ne⟩⟩
  · exact .all fun us hl => match us, hl with | [_, _, _], _ => rfl
theorem init_TooManyTerms {P : Program} {w : World} {K : PySem.W.Frag} {mg : Str → Option Value} {base : Heap} (T : Top K mg) (hP : HX.PF P) : ∃ fd, FnOk P w K mg base CX0 1 T.fI_TooManyTerms fd ["self", "terms"] (HX.spE1 T.C_TooManyTerms "terms") ∧ Binds K fd ["self", "terms"] [] := by
  obtain ⟨oc, od, doc, pm, ctv, osl, lk⟩ := T.E_TooManyTerms.fn
  refine ⟨_, HX.fn_super (N := ["self", "terms", "__class__"]) (ps := ["self", "terms"]) (T.E_TooManyTerms.sup' hP) lk (NdefX.nscope_by (sc := defScope si_TooManyTerms) (by decide +kernel)) rfl rfl rfl rfl (fun vs H Q E h => ?_) (fun A outer s H vs Q E hr h => ?_) (fun L => rfl) (fun L => rfl) (fun L => rfl) (fun L => rfl) (fun L => rfl), ?_⟩
  · obtain ⟨a, y, rfl, _⟩ := h
    rfl
  · obtain ⟨a, y, rfl, ea, q⟩ := h
    refine ⟨a, [y], _, _, rfl, ea, (pa_cons (pv 1) pa_nil), (pss_one (ps_ost (pv 0) (pv 1))), ⟨y, rfl, rfl, by show 1 ≤ 1000; decide⟩, ?_⟩
    exact ⟨y, rfl, .ref a, rfl, a, T.C_TooManyTerms, rfl, T.E_TooManyTerms.oex, T.E_TooManyTerms.noF _ (by simp), .inl ⟨ea, fun dx n ne => q dx n ne⟩⟩
  · exact .all fun us hl => match us, hl with | [_, _], _ => rfl
theorem init_InvalidPower {P : Program} {w : World} {K : PySem.W.Frag} {mg : Str → Option Value} {base : Heap} (T : Top K mg) (hP : HX.PF P) : ∃ fd, FnOk P w K mg base CX0 1 T.fI_InvalidPower fd ["self", "exponent"] (HX.spE1 T.C_InvalidPower "exponent") ∧ Binds K fd ["self", "exponent"] [] := by
  obtain ⟨oc, od, doc, pm, ctv, osl, lk⟩ := T.E_InvalidPower.fn
  refine ⟨_, HX.fn_super (N := ["self", "exponent", "__class__"]) (ps := ["self", "exponent"]) (T.E_InvalidPower.sup' hP) lk (NdefX.nscope_by (sc := defScope si_InvalidPower) (by decide +kernel)) rfl rfl rfl rfl (fun vs H Q E h => ?_) (fun A outer s H vs Q E hr h => ?_) (fun L => rfl) (fun L => rfl) (fun L => rfl) (fun L => rfl) (fun L => rfl), ?_⟩
  · obtain ⟨a, y, rfl, _⟩ := h
    rfl
  · obtain ⟨a, y, rfl, ea, q⟩ := h
    refine ⟨a, [y], _, _, rfl, ea, (pa_cons (pv 1) pa_nil), (pss_one (ps_ost (pv 0) (pv 1))), ⟨y, rfl, rfl, by show 1 ≤ 1000; decide⟩, ?_⟩
    exact ⟨y, rfl, .ref a, rfl, a, T.C_InvalidPower, rfl, T.E_InvalidPower.oex, T.E_InvalidPower.noF _ (by simp), .inl ⟨ea, fun dx n ne => q dx n ne⟩⟩
  · exact .all fun us hl => match us, hl with | [_, _], _ => rfl
theorem init_NegativeShift {P : Program} {w : World} {K : PySem.W.Frag} {mg : Str → Option Value} {base : Heap} (T : Top K mg) (hP : HX.PF P) : ∃ fd, FnOk P w K mg base CX0 1 T.fI_NegativeShift fd ["self", "amount"] (HX.spE1 T.C_NegativeShift "amount") ∧ Binds K fd ["self", "amount"] [] := by
  obtain ⟨oc, od, doc, pm, ctv, osl, lk⟩ := T.E_NegativeShift.fn
  refine ⟨_, HX.fn_super (N := ["self", "amount", "__class__"]) (ps := ["self", "amount"]) (T.E_NegativeShift.sup' hP) lk (NdefX.nscope_by (sc := defScope si_NegativeShift) (by decide +kernel)) rfl rfl rfl rfl (fun vs H Q E h => ?_) (fun A outer s H vs Q E hr h => ?_) (fun L => rfl) (fun L => rfl) (fun L => rfl) (fun L => rfl) (fun L => rfl), ?_⟩
  · obtain ⟨a, y, rfl, _⟩ := h
    rfl
  · obtain ⟨a, y, rfl, ea, q⟩ := h
    refine ⟨a, [y], _, _, rfl, ea, (pa_cons (pv 1) pa_nil), (pss_one (ps_ost (pv 0) (pv 1))), ⟨y, rfl, rfl, by show 1 ≤ 1000; decide⟩, ?_⟩
    exact ⟨y, rfl, .ref a, rfl, a, T.C_NegativeShift, rfl, T.E_NegativeShift.oex, T.E_NegativeShift.noF _ (by simp), .inl ⟨ea, fun dx n ne => q dx n ne⟩⟩
  · exact .all fun us hl => match us, hl with | [_, _], _ => rfl
end K13
set_option Elab.async false
set_option linter.all false
set_option maxRecDepth 100000
set_option pp.deepTerms false
set_option pp.maxSteps 1500
namespace K13
open PySem PySem.Spec PyProof.Rows L2 HX TV FM DX FB FC PM
local macro_rules | `(tactic| walk_at "r") => `(tactic| (repeat (first | refine Exists.intro _ (And.intro rfl ?_) | refine And.intro rfl ?_ | refine Exists.intro _ (Exists.intro _ (And.intro rfl (And.intro rfl ?_))) | refine And.intro (by omega) ?_ | refine And.intro (Or.inl (And.intro (by omega) (by omega))) ?_ | refine And.intro (Or.inr (And.intro (by omega) (by omega))) ?_ | refine And.intro (And.intro (by omega) (by omega)) ?_ | refine And.intro (And.intro (by decide) (And.intro (by decide) (by decide))) ?_ | refine Or.inl (Exists.intro _ (And.intro rfl ?_)) | (dsimp only [gName]; first | with_reducible refine seqC ?_ | with_reducible refine asgC ?_))))
local macro_rules | `(tactic| walk_at "s") => `(tactic| (repeat (first | refine Exists.intro _ (And.intro rfl ?_) | refine And.intro rfl ?_ | refine Exists.intro _ (Exists.intro _ (And.intro rfl (And.intro rfl ?_))) | refine And.intro (by omega) ?_ | refine And.intro (Or.inl (And.intro (by omega) (by omega))) ?_ | refine And.intro (Or.inr (And.intro (by omega) (by omega))) ?_ | refine And.intro (And.intro (by omega) (by omega)) ?_ | refine And.intro (And.intro (by decide) (And.intro (by decide) (by decide))) ?_ | refine Or.inl (Exists.intro _ (And.intro rfl ?_)) | refine Exists.intro _ (Exists.intro _ (And.intro rfl ?_)) | (dsimp only [gName]; first | with_reducible refine seqC ?_ | with_reducible refine asgC ?_))))
section
variable {P : Program} {w : World} {K : PySem.W.Frag} {mg : Str → Option Value} {base : Heap}
theorem bitsP (t : Nat) : Builtin.Int.intBits ((2 : Int) ^ t) = t + 1 := by
  have e : ((2 : Int) ^ t).natAbs = 2 ^ t := by rw [Int.natAbs_pow]; rfl
  have hp : 2 ^ t ≠ 0 := Nat.pos_iff_ne_zero.mp (Nat.pow_pos (by decide))
  unfold Builtin.Int.intBits
  split
  · rename_i h
    rw [show (2 : Int) ^ t = 0 by simpa using h] at e
    exact absurd e.symm hp
  · rw [e, Nat.log2_two_pow]
theorem turnsIn {n : Int} {k : Nat} (h1 : -(2 ^ k) ≤ n) (h2 : n < 2 ^ k) : ∃ ts, Asc ts ∧ tv ts = n ∧ (∀ t ∈ ts, t ≤ k) ∧ ts.length ≤ k + 1 := by
  obtain ⟨ts, hA, e⟩ := turns_ex n
  subst e
  have hb := (tv_range hA).mpr ⟨h1, h2⟩
  exact ⟨ts, hA, rfl, hb, asc_len (a := 0) hA fun t ht => ⟨Nat.zero_le _, hb t ht⟩⟩
/-- the turns of an int as a tuple -/
def sp_toi (K : PySem.W.Frag) : Sp := fun vs H Q _ => ∃ (n : Int) (k : Nat), vs = [.int n] ∧ k ≤ 900000 ∧ -(2 ^ k) ≤ n ∧ n < 2 ^ k ∧
  ∀ (ts : List Nat) l H', Asc ts → tv ts = n → (∀ t ∈ ts, t ≤ k) → ts.length ≤ k + 1 → Same H H' → H' l = some (.tup (nv ts)) → Q (.ref l) H'
theorem ok_turns_of_int (T : Top K mg) {k : Nat} : FnOk P w K mg base CX0 (k + 1) T.f_turns_of_int T.fd_turns_of_int ["number"]  (sp_toi K) := by
  refine T.F_turns_of_int.ok sc_turns_of_int (fun vs H Q E h => ?_) (fun cdv A outer s H vs Q E hr h => ?_)
  · obtain ⟨n, _, rfl, _⟩ := h
    rfl
  · obtain ⟨n, kb, rfl, hk, hn1, hn2, q⟩ := h
    obtain ⟨ts, hA, hn, hb, hlen⟩ := turnsIn hn1 hn2
    replace q := fun l H' => q ts l H' hA hn hb hlen
    refine ⟨_, (pss_cons (ps_set (i := 1) sc_turns_of_int.nd rfl (Or.inl rfl) (pe_op op_xor (pv 0) (pe_op op_shlN (pv 0) pe_int)))
    (pss_cons (ps_set (i := 2) sc_turns_of_int.nd rfl (Or.inl rfl) (pe_lst pa_nil))
    (pss_cons (ps_while PassesOwn.never (pt_cmpR op_gt (pv 1) pe_int (nomark _))
      (pss_cons (ps_set (i := 3) sc_turns_of_int.nd rfl (Or.inl rfl) (pe_op op_and (pv 1) (pe_un un_neg (pv 1))))
      (pss_cons (ps_expr (pe_bm PySem.F.plainAttrs_list PySem.F.slot_list_append PySem.F.type_list_append mt_append (pv 2) (pa_cons (pe_op op_sub (pe_bits (pe_callTy call_int1 (by rfl) T.m_int (by decide +kernel) (pa_cons (pv 3) pa_nil))) pe_int) pa_nil)))
      (pss_one (ps_set (i := 1) sc_turns_of_int.nd rfl (Or.inl rfl) (pe_op op_xor (pv 1) (pv 3)))))))
    (pss_one (ps_ret (pe_callTy call_tuple_of (by rfl) T.m_tuple (by decide +kernel) (pa_cons (pv 2) pa_nil))))))), ?_⟩
    walk_at "r"
    have hbits := intBits_le hn1 (Int.le_of_lt hn2)
    refine ⟨⟨by decide, by show (Builtin.Int.intBits n : Int) + 1 ≤ 2 ^ 27; omega⟩, ?_⟩
    walk_at "r"
    refine ⟨Nat.zero_le _, fun l nl => ?_⟩
    refine ⟨fun m σ H' => ∃ (pre post : List Nat) (z : Option V), σ = [some (.int n), some (.int (psum post)), some (.ref l), z] ∧ ts = pre ++ post ∧ post.length ≤ m ∧ Same H H' ∧ H' l = some (.lst (nv pre)),
      ⟨ts.length, [], ts, none, ?_, rfl, Nat.le_refl _, sm_upd nl, upd_same⟩, ?_⟩
    · show [some (V.int n), some (V.int (Builtin.bitXor n (n * 2))), some (V.ref l), none] = _
      rw [← hn, marks hA]
    rintro m σ H' ⟨pre, post, z, rfl, ets, hm, sm, el⟩
    walk_at "r"
    refine ifD (fun hc => wb fun D' B => ?_) (fun hc => ?_)
    · cases post with
      | nil => exact absurd hc (by decide)
      | cons t r =>
        have hA2 : Asc (t :: r) := (asc_app (ets ▸ hA)).2
        walk_at "r"
        simp only [low_mark hA2]
        refine ⟨.inl ⟨rfl, _, .inl (.inl el)⟩, ?_⟩
        walk_at "r"
        simp only [bitsP]
        refine ⟨_, _, _, rfl, rfl, el, ?_, ?_⟩
        · rw [nv_len]
          have : ts.length = pre.length + (r.length + 1) := by rw [ets]; simp
          exact len_lt (by omega)
        walk_at "r"
        refine B.nx _ _ ⟨r.length, by simp at hm; omega, pre ++ [t], r, some (.int (2 ^ t)), ?_, ?_, Nat.le_refl _, sm_mut sm nl, ?_⟩
        · show [some (V.int n), some (V.int (Builtin.bitXor (psum (t :: r)) (2 ^ t))), some (V.ref l), some (V.int (2 ^ t))] = _
          rw [off_mark hA2]
        · rw [ets]
          simp
        · rw [upd_same, nv_app]
          have e : ((t + 1 : Nat) : Int) - 1 = ((t : Nat) : Int) := by omega
          rw [← e]
    · cases post with
      | nil =>
        walk_at "r"
        rw [List.append_nil] at ets
        refine ⟨l, _, rfl, .inl ⟨.inl (.inl el), fun r nr => ?_⟩⟩
        refine q r _ (sm.trans (sm_upd nr)) ?_
        rw [upd_same, ets]
      | cons t r => exact absurd psum_pos hc
/-- the turns of a form -/
def sp_trn (K : PySem.W.Frag) : Sp := fun vs H Q _ => ∃ (v : V) (d : PyData), vs = [v] ∧ Dp K H v d ∧ Fm d ∧
  ∀ (a : Addr) (us : List V) (ds : List PyData) H', FmAll ds → Asc (vals ds) → tv (vals ds) = val d → SqT K H' a us → DpAll K H' us ds → PyData.depthAll ds + 1 ≤ max d.depth 1 → wtAll ds ≤ wt d + 65 →
    ((∃ i, d = .int i) → ∀ t ∈ vals ds, t ≤ 64) → Same H H' → Q (.ref a) H'
theorem ok_turns (T : Top K mg) {k : Nat} : FnOk P w K mg base CX0 (k + 2) T.f_turns T.fd_turns ["x"]  (sp_trn K) := by
  have G_turns_of_int : FnOk P w K mg base CX0 (k + 1) T.f_turns_of_int T.fd_turns_of_int ["number"]  (sp_toi K) := ok_turns_of_int T
  refine T.F_turns.ok sc_turns (fun vs H Q E h => ?_) (fun cdv A outer s H vs Q E hr h => ?_)
  · obtain ⟨v, d, rfl, _⟩ := h
    rfl
  · obtain ⟨v, d, rfl, hD, hF, q⟩ := h
    refine ⟨_, (pss_cons (ps_if (pt_val (pe_callB call_isi (by rfl) T.m_isinstance (by decide +kernel) (pa_cons (pv 0) (pa_cons (pe_bltn (v := .ty "tuple") (by rfl) T.m_tuple (by decide +kernel) rfl) pa_nil))) (fun _ => rfl))
      (pss_one (ps_ret (pv 0)))
      pss_nil)
    (pss_one (ps_ret (pe_call G_turns_of_int (hr.mono (by omega)) (by rfl) T.g_turns_of_int T.F_turns_of_int.kp T.b_turns_of_int .nil pass0 (pa_cons (pv 0) pa_nil))))), ?_⟩
    rcases fm_cases hF with ⟨i, rfl⟩ | ⟨ds, rfl⟩
    · cases hD
      refine ⟨_, rfl, _, _, _, _, false, rfl, .ty "tuple", tyI _, k_it, false, rfl, iteF ?_⟩
      rw [fm_int] at hF
      refine ⟨_, rfl, i, 64, rfl, by decide, hF.1, hF.2, fun ts l H' hA hn hb hl sm hl' => ?_⟩
      refine q l _ (iD ts) H' (fmAll_iD fun t ht => by have := hb t ht; omega) (by rw [vals_iD]; exact hA) (by rw [vals_iD, hn, val_int]) (.inl (.inl hl')) (dp_nv ts) (by rw [depthAll_iD]; omega) (by rw [wtAll_iD, wt_int]; omega) (fun _ => by rw [vals_iD]; exact hb) sm
    · have hF' := (fm_tuple _).mp hF
      cases hD with
      | @tup a xs _ h1 h2 =>
        refine ⟨_, rfl, _, _, _, _, true, rfl, .ty "tuple", tyT h1, k_tt, true, rfl, iteT ?_⟩
        walk_at "r"
        exact q a xs ds H hF'.1 hF'.2.1 (val_tuple ds).symm h1 h2 (by rw [depth_tuple]; omega) (by rw [wt_tuple]; omega) (fun ⟨i, e⟩ => nomatch e) (Same.refl _)
def sp_neg (K : PySem.W.Frag) : Sp := fun vs H Q _ => ∃ (v : V) (d : PyData), vs = [v] ∧ Dp K H v d ∧ Fm d ∧ Q (.bl (decide (val d < 0))) H
theorem ok_negative (T : Top K mg) {k : Nat} : FnOk P w K mg base CX0 (k + 1) T.f_negative T.fd_negative ["x"]  (sp_neg K) := by
  refine T.F_negative.ok sc_negative (fun vs H Q E h => ?_) (fun cdv A outer s H vs Q E hr h => ?_)
  · obtain ⟨v, d, rfl, _⟩ := h
    rfl
  · obtain ⟨v, d, rfl, hD, hF, q⟩ := h
    refine ⟨_, (pss_cons (ps_if (pt_val (pe_callB call_isi (by rfl) T.m_isinstance (by decide +kernel) (pa_cons (pv 0) (pa_cons (pe_bltn (v := .ty "int") (by rfl) T.m_int (by decide +kernel) rfl) pa_nil))) (fun _ => rfl))
      (pss_one (ps_ret (pe_cmpR op_lt (pv 0) pe_int (nomark _))))
      pss_nil)
    (pss_one (ps_ret (pe_cmpR op_eq (pe_op op_and (pe_callB call_len_seq (by rfl) T.m_len PySem.boot_len (pa_cons (pv 0) pa_nil)) pe_int) pe_int (nomark _))))), ?_⟩
    rcases fm_cases hF with ⟨i, rfl⟩ | ⟨ds, rfl⟩
    · cases hD
      refine ⟨_, rfl, _, _, _, _, true, rfl, .ty "int", tyI _, k_ii, true, rfl, iteT ?_⟩
      rw [val_int] at q
      walk_at "r"
      exact q
    · cases hD with
      | @tup a xs _ h1 h2 =>
        refine ⟨_, rfl, _, _, _, _, false, rfl, .ty "int", tyT h1, k_ti, false, rfl, iteF ?_⟩
        refine ⟨_, rfl, a, _, rfl, .inr h1, ?_⟩
        walk_at "r"
        have e : decide (val (.tuple ds) < 0) = decide (V.int (Builtin.bitAnd ((xs.length : Nat) : Int) 1) = V.int 1) := by
          rw [bitAnd_m1, dpAll_len h2]
          have := val_neg hF
          by_cases z : ds.length % 2 = 1
          · rw [decide_eq_true (this.mpr z), decide_eq_true (congrArg V.int (by omega))]
          · rw [decide_eq_false (fun y => z (this.mp y)), decide_eq_false (fun y => z (by have := V.int.inj y; omega))]
        rw [e] at q
        exact q
/-- a walk over a row of small turns: the number so far -/
theorem made_step {ts : List Nat} {i t : Nat} (h : ts[i]? = some t) : tv (ts.take (i + 1)) = if i % 2 = 1 then tv (ts.take i) + 2 ^ t else tv (ts.take i) - 2 ^ t := by
  have hi := (List.getElem?_eq_some_iff.mp h).1
  rw [List.take_add_one, h]
  show tv (ts.take i ++ [t]) = _
  rw [tv_snoc, List.length_take, Nat.min_eq_left (Nat.le_of_lt hi)]
  by_cases e : i % 2 = 1
  · rw [if_pos e, if_neg (by omega)]
  · rw [if_neg e, if_pos (by omega)]
    omega
/-- the form with the turns of a row -/
def sp_made (K : PySem.W.Frag) : Sp := fun vs H Q _ => ∃ (a : Addr) (us : List V) (ds : List PyData), vs = [.ref a] ∧ (SqL K H a us ∨ SqT K H a us) ∧ DpAll K H us ds ∧ FmAll ds ∧ Asc (vals ds) ∧
  ∀ (v : V) (d : PyData) H', Fm d → val d = tv (vals ds) → d.depth ≤ PyData.depthAll ds + 1 → wt d ≤ wtAll ds + 1 → Dp K H' v d → Same H H' → Q v H'
theorem ok_made (T : Top K mg) {k : Nat} : FnOk P w K mg base CX0 (k + 1) T.f_made T.fd_made ["found"]  (sp_made K) := by
  refine T.F_made.ok sc_made (fun vs H Q E h => ?_) (fun cdv A outer s H vs Q E hr h => ?_)
  · obtain ⟨a, us, ds, rfl, _⟩ := h
    rfl
  · obtain ⟨a, us, ds, rfl, hS, hD, hF, hA, q⟩ := h
    have hul := dpAll_len hD
    have fin : ds = [] → Q (.int 0) H := fun e => by
      subst e
      refine q _ (.int 0) H ((fm_int 0).mpr (by decide)) ?_ (by rw [depth_int]; exact Nat.zero_le _) (by rw [wt_int]; omega) (.int 0) (Same.refl _)
      rw [val_int, vals_nil, tv_nil]
    have small : (∀ t ∈ vals ds, t ≤ 64) → us = nv (vals ds) ∧ ∀ H', Same H H' → Q (.int (tv (vals ds))) H' := fun h64 => by
      have eds := ds_small hF h64
      refine ⟨nv_of (H := H) (by rw [← eds]; exact hD), fun H' sm => ?_⟩
      exact q _ _ _ ((fm_int _).mpr ((tv_range hA).mp h64)) (val_int _) (by rw [depth_int]; exact Nat.zero_le _) (by rw [wt_int]; omega) (.int _) sm
    have lst : ds ≠ [] → ∃ ul dl dr, ds = dr ++ [dl] ∧ us[us.length - 1]? = some ul ∧ Dp K H ul dl ∧ Fm dl ∧ 0 ≤ val dl ∧ ∀ t ∈ vals ds, t ≤ (val dl).toNat := fun hne => by
      obtain ⟨dl, dr, rfl⟩ := last_is hne
      obtain ⟨ul, h1, h2⟩ := dpAll_at (i := dr.length) (d := dl) hD (by simp)
      refine ⟨ul, dl, dr, rfl, ?_, h2, (fmAll_mem hF dl (by simp)).1, (fmAll_mem hF dl (by simp)).2, fun t ht => ?_⟩
      · rw [← h1, hul]
        simp
      · rw [vals_app, vals_cons, vals_nil] at ht hA
        rcases List.mem_append.mp ht with ht | ht
        · exact Nat.le_of_lt ((asc_snoc.mp hA).2 t ht)
        · exact Nat.le_of_eq (List.mem_singleton.mp ht)
    have big : ∀ {dl dr}, ds = dr ++ [dl] → 64 < val dl → ∀ l H', Same H H' → SqT K H' l us → Q (.ref l) H' := fun {dl dr} e h64 l H' sm hl => by
      refine q _ (.tuple ds) _ ((fm_tuple _).mpr ⟨hF, hA, (val dl).toNat, ?_, by omega⟩) (val_tuple _) (by rw [depth_tuple]; exact Nat.le_refl _) (by rw [wt_tuple]; omega) (.tup hl (dpAll_tk (tk_same sm) hF hD)) sm
      rw [e, vals_app, vals_cons]
      simp
    rcases hS with hS | hS
    · refine ⟨_, (pss_cons (ps_if (pt_cmpR op_eq (pe_callB call_len_seq (by rfl) T.m_len PySem.boot_len (pa_cons (pv 0) pa_nil)) pe_int (nomark _))
      (pss_one (ps_ret pe_int))
      pss_nil)
    (pss_cons (ps_set (i := 1) sc_made.nd rfl (Or.inl rfl) (pe_ix ix_list (pv 0) (pe_un un_neg pe_int) (fun _ _ => rfl)))
    (pss_cons (ps_if (PW.pt (pw_or (pt_not (pt_val (pe_callB call_isi (by rfl) T.m_isinstance (by decide +kernel) (pa_cons (pv 1) (pa_cons (pe_bltn (v := .ty "int") (by rfl) T.m_int (by decide +kernel) rfl) pa_nil))) (fun _ => rfl))) (pw_or1 (pt_cmpR op_gt (pv 1) (pe_glob (v := .int (64)) (by rfl) T.c_LAST_PLAIN_TURN ⟨_, rfl⟩) (nomark _)))))
      (pss_one (ps_ret (pe_callTy call_tuple_of (by rfl) T.m_tuple (by decide +kernel) (pa_cons (pv 0) pa_nil))))
      pss_nil)
    (pss_cons (ps_set (i := 2) sc_made.nd rfl (Or.inl rfl) pe_int)
    (pss_cons (ps_for PassesOwn.never rfl (pi_enum (by rfl) T.m_enumerate (pa_cons (pv 0) pa_nil)) (pg_tup rfl (pgs_cons (pg_name (i := 3) sc_made.nd rfl (Or.inl rfl)) (pgs_cons (pg_name (i := 4) sc_made.nd rfl (Or.inl rfl)) pgs_nil)))
      (pss_one (ps_if (pt_cmpR op_eq (pe_op op_and (pv 3) pe_int) pe_int (nomark _))
        (pss_one (ps_set (i := 2) sc_made.nd rfl (Or.inl rfl) (pe_op op_add (pv 2) (pe_op op_oneShl pe_int (pv 4)))))
        (pss_one (ps_set (i := 2) sc_made.nd rfl (Or.inl rfl) (pe_op op_sub (pv 2) (pe_op op_oneShl pe_int (pv 4))))))))
    (pss_one (ps_ret (pv 2)))))))), ?_⟩
      refine ⟨_, rfl, a, us, rfl, .inl hS, rfl, _, rfl, ?_⟩
      refine ifE (fun e => ?_) (fun e => ?_)
      · exact fin (List.length_eq_zero_iff.mp (by omega))
      obtain ⟨ul, dl, dr, eds, hu, hDl, hFl, h0, hle⟩ := lst (fun z => e (by rw [hul, z]; rfl))
      refine ⟨_, rfl, _, rfl, a, us, -1, ul, rfl, rfl, hS, atI_neg1 hu, ?_⟩
      dsimp only [gName]
      refine ⟨_, rfl, ?_⟩
      rcases fm_cases hFl with ⟨iv, rfl⟩ | ⟨es, rfl⟩
      · cases hDl
        refine ⟨_, _, _, _, true, rfl, .ty "int", tyI _, k_ii, true, rfl, iteF ?_⟩
        rw [val_int] at hle
        walk_at "r"
        refine ifD (fun hc => ?_) (fun hc => ?_)
        · refine ⟨_, rfl, a, us, rfl, .inl ⟨hS, fun l nl => big eds (by rw [val_int]; exact hc) l _ (sm_upd nl) (.inl (.inl upd_same))⟩⟩
        obtain ⟨eus, qs⟩ := small fun t ht => by have := hle t ht; omega
        walk_at "r"
        refine ⟨a, us, rfl, hS, flE (xs := us) (fun i σ H' => ∃ (z4 z5 : Option V), σ = [some (.ref a), some (.int iv), some (.int (tv ((vals ds).take i))), z4, z5] ∧ Same H H') ⟨none, none, rfl, Same.refl _⟩ ?_ ?_ ?_⟩
        · rintro i σ H' _ ⟨_, _, _, sm⟩
          exact sm.seq hS
        · rintro i x σ H' hx ⟨z4, z5, rfl, sm⟩ Tt nT D' B
          rw [eus] at hx
          obtain ⟨t, ht, rfl⟩ := nv_get hx
          have hbt : t ≤ 64 := by
            have := hle t (List.mem_of_getElem? ht)
            omega
          refine ⟨Tt, _, rfl, .inl (.inl upd_same), rfl, _, _, rfl, _, _, rfl, rfl, ?_⟩
          have ms := made_step ht
          have sm' := sm.trans (sm_upd (o := .tup [.int (i : Nat), .int (t : Nat)]) nT)
          walk_at "r"
          refine ifE (fun z => ?_) (fun z => ?_)
          · rw [bitAnd_m1] at z
            rw [if_pos (by omega)] at ms
            walk_at "r"
            refine ⟨t, rfl, rfl, by omega, ?_⟩
            walk_at "r"
            refine B.nx _ _ ⟨some (.int (i : Nat)), some (.int (t : Nat)), ?_, sm'⟩
            rw [ms]
            rfl
          · rw [bitAnd_m1] at z
            rw [if_neg (by omega)] at ms
            walk_at "r"
            refine ⟨t, rfl, rfl, by omega, ?_⟩
            walk_at "r"
            refine B.nx _ _ ⟨some (.int (i : Nat)), some (.int (t : Nat)), ?_, sm'⟩
            rw [ms]
            rfl
        · rintro σ H' ⟨z4, z5, rfl, sm⟩
          walk_at "r"
          rw [eus, nv_len, List.take_length]
          exact qs H' sm
      · have hfar := tuple_far hFl
        cases hDl with
        | tup g1 g2 =>
          refine ⟨_, _, _, _, false, rfl, .ty "int", tyT g1, k_ti, false, rfl, iteT (iteT ?_)⟩
          refine ⟨_, rfl, a, us, rfl, .inl ⟨hS, fun l nl => big eds ?_ l _ (sm_upd nl) (.inl (.inl upd_same))⟩⟩
          apply Int.lt_of_not_ge
          intro hc
          exact hfar ⟨by omega, by omega⟩
    · refine ⟨_, (pss_cons (ps_if (pt_cmpR op_eq (pe_callB call_len_seq (by rfl) T.m_len PySem.boot_len (pa_cons (pv 0) pa_nil)) pe_int (nomark _))
      (pss_one (ps_ret pe_int))
      pss_nil)
    (pss_cons (ps_set (i := 1) sc_made.nd rfl (Or.inl rfl) (pe_ix ix_tup (pv 0) (pe_un un_neg pe_int) (fun _ _ => rfl)))
    (pss_cons (ps_if (PW.pt (pw_or (pt_not (pt_val (pe_callB call_isi (by rfl) T.m_isinstance (by decide +kernel) (pa_cons (pv 1) (pa_cons (pe_bltn (v := .ty "int") (by rfl) T.m_int (by decide +kernel) rfl) pa_nil))) (fun _ => rfl))) (pw_or1 (pt_cmpR op_gt (pv 1) (pe_glob (v := .int (64)) (by rfl) T.c_LAST_PLAIN_TURN ⟨_, rfl⟩) (nomark _)))))
      (pss_one (ps_ret (pe_callTy call_tuple_of (by rfl) T.m_tuple (by decide +kernel) (pa_cons (pv 0) pa_nil))))
      pss_nil)
    (pss_cons (ps_set (i := 2) sc_made.nd rfl (Or.inl rfl) pe_int)
    (pss_cons (ps_for PassesOwn.never rfl (pi_enumT (by rfl) T.m_enumerate (pa_cons (pv 0) pa_nil)) (pg_tup rfl (pgs_cons (pg_name (i := 3) sc_made.nd rfl (Or.inl rfl)) (pgs_cons (pg_name (i := 4) sc_made.nd rfl (Or.inl rfl)) pgs_nil)))
      (pss_one (ps_if (pt_cmpR op_eq (pe_op op_and (pv 3) pe_int) pe_int (nomark _))
        (pss_one (ps_set (i := 2) sc_made.nd rfl (Or.inl rfl) (pe_op op_add (pv 2) (pe_op op_oneShl pe_int (pv 4)))))
        (pss_one (ps_set (i := 2) sc_made.nd rfl (Or.inl rfl) (pe_op op_sub (pv 2) (pe_op op_oneShl pe_int (pv 4))))))))
    (pss_one (ps_ret (pv 2)))))))), ?_⟩
      refine ⟨_, rfl, a, us, rfl, .inr hS, rfl, _, rfl, ?_⟩
      refine ifE (fun e => ?_) (fun e => ?_)
      · exact fin (List.length_eq_zero_iff.mp (by omega))
      obtain ⟨ul, dl, dr, eds, hu, hDl, hFl, h0, hle⟩ := lst (fun z => e (by rw [hul, z]; rfl))
      refine ⟨_, rfl, _, rfl, a, us, -1, ul, rfl, rfl, hS, atI_neg1 hu, ?_⟩
      dsimp only [gName]
      refine ⟨_, rfl, ?_⟩
      rcases fm_cases hFl with ⟨iv, rfl⟩ | ⟨es, rfl⟩
      · cases hDl
        refine ⟨_, _, _, _, true, rfl, .ty "int", tyI _, k_ii, true, rfl, iteF ?_⟩
        rw [val_int] at hle
        walk_at "r"
        refine ifD (fun hc => ?_) (fun hc => ?_)
        · refine ⟨_, rfl, a, us, rfl, .inr ⟨hS, big eds (by rw [val_int]; exact hc) a H (Same.refl _) hS⟩⟩
        obtain ⟨eus, qs⟩ := small fun t ht => by have := hle t ht; omega
        walk_at "r"
        refine ⟨a, us, rfl, hS, flET (xs := us) (fun i σ H' => ∃ (z4 z5 : Option V), σ = [some (.ref a), some (.int iv), some (.int (tv ((vals ds).take i))), z4, z5] ∧ Same H H') ⟨none, none, rfl, Same.refl _⟩ ?_ ?_ ?_⟩
        · rintro i σ H' _ ⟨_, _, _, sm⟩
          exact HX.Same.tup sm hS
        · rintro i x σ H' hx ⟨z4, z5, rfl, sm⟩ Tt nT D' B
          rw [eus] at hx
          obtain ⟨t, ht, rfl⟩ := nv_get hx
          have hbt : t ≤ 64 := by
            have := hle t (List.mem_of_getElem? ht)
            omega
          refine ⟨Tt, _, rfl, .inl (.inl upd_same), rfl, _, _, rfl, _, _, rfl, rfl, ?_⟩
          have ms := made_step ht
          have sm' := sm.trans (sm_upd (o := .tup [.int (i : Nat), .int (t : Nat)]) nT)
          walk_at "r"
          refine ifE (fun z => ?_) (fun z => ?_)
          · rw [bitAnd_m1] at z
            rw [if_pos (by omega)] at ms
            walk_at "r"
            refine ⟨t, rfl, rfl, by omega, ?_⟩
            walk_at "r"
            refine B.nx _ _ ⟨some (.int (i : Nat)), some (.int (t : Nat)), ?_, sm'⟩
            rw [ms]
            rfl
          · rw [bitAnd_m1] at z
            rw [if_neg (by omega)] at ms
            walk_at "r"
            refine ⟨t, rfl, rfl, by omega, ?_⟩
            walk_at "r"
            refine B.nx _ _ ⟨some (.int (i : Nat)), some (.int (t : Nat)), ?_, sm'⟩
            rw [ms]
            rfl
        · rintro σ H' ⟨z4, z5, rfl, sm⟩
          walk_at "r"
          rw [eus, nv_len, List.take_length]
          exact qs H' sm
      · have hfar := tuple_far hFl
        cases hDl with
        | tup g1 g2 =>
          refine ⟨_, _, _, _, false, rfl, .ty "int", tyT g1, k_ti, false, rfl, iteT (iteT ?_)⟩
          refine ⟨_, rfl, a, us, rfl, .inr ⟨hS, big eds ?_ a H (Same.refl _) hS⟩⟩
          apply Int.lt_of_not_ge
          intro hc
          exact hfar ⟨by omega, by omega⟩
/-- the form of an int -/
def sp_ofint (K : PySem.W.Frag) : Sp := fun vs H Q _ => ∃ (n : Int) (k : Nat), vs = [.int n] ∧ k ≤ 900000 ∧ -(2 ^ k) ≤ n ∧ n < 2 ^ k ∧
  ∀ (v : V) (d : PyData) H', Fm d → val d = n → d.depth ≤ 1 → wt d ≤ k + 3 → Dp K H' v d → Same H H' → Q v H'
theorem ok_of_int (T : Top K mg) {k : Nat} : FnOk P w K mg base CX0 (k + 2) T.f_of_int T.fd_of_int ["number"]  (sp_ofint K) := by
  have G_turns_of_int : FnOk P w K mg base CX0 (k + 1) T.f_turns_of_int T.fd_turns_of_int ["number"]  (sp_toi K) := ok_turns_of_int T
  refine T.F_of_int.ok sc_of_int (fun vs H Q E h => ?_) (fun cdv A outer s H vs Q E hr h => ?_)
  · obtain ⟨n, _, rfl, _⟩ := h
    rfl
  · obtain ⟨n, kb, rfl, hk, hn1, hn2, q⟩ := h
    refine ⟨_, (pss_cons (ps_if (pt_chain op_le op_le (pe_glob (v := .int (-18446744073709551616)) (by rfl) T.c_PLAIN_LEAST ⟨_, rfl⟩) (pv 0) (pe_glob (v := .int (18446744073709551615)) (by rfl) T.c_PLAIN_MOST ⟨_, rfl⟩))
      (pss_one (ps_ret (pv 0)))
      pss_nil)
    (pss_one (ps_ret (pe_call G_turns_of_int (hr.mono (by omega)) (by rfl) T.g_turns_of_int T.F_turns_of_int.kp T.b_turns_of_int .nil pass0 (pa_cons (pv 0) pa_nil))))), ?_⟩
    walk_at "r"
    by_cases hpl : -(2 ^ 64) ≤ n ∧ n < 2 ^ 64
    · refine ifD (fun _ => ?_) (fun z => absurd (by omega) z)
      walk_at "r"
      refine ifD (fun _ => ?_) (fun z => absurd (by omega) z)
      walk_at "r"
      exact q _ _ _ ((fm_int n).mpr hpl) (val_int n) (by rw [depth_int]; decide) (by rw [wt_int]; omega) (.int n) (Same.refl _)
    · refine ifChain ?_ (fun h1 hB => ?_)
      · walk_at "r"
        refine ⟨n, kb, rfl, hk, hn1, hn2, fun ts l H' hA hn hb hlen sm hl => ?_⟩
        have h64 : ∃ t ∈ ts, 64 < t := by
          apply Classical.byContradiction
          intro hc
          apply hpl
          rw [← hn, ← tv_range hA]
          intro t ht
          apply Nat.le_of_not_lt
          intro hlt
          exact hc ⟨t, ht, hlt⟩
        obtain ⟨f1, f2⟩ := fm_small hA (fun t ht => by have := hb t ht; omega) h64
        exact q _ _ _ f1 (f2.trans hn) (by rw [depth_tuple, depthAll_iD]; exact Nat.le_refl _) (by rw [wt_tuple, wtAll_iD]; omega) (.tup (.inl (.inl hl)) (dp_nv ts)) sm
      · walk_at "r"
        refine ifD (fun h2 => absurd ⟨by omega, by omega⟩ hpl) (fun _ => hB)
end
end K13
set_option Elab.async false
set_option linter.all false
set_option maxRecDepth 100000
set_option pp.deepTerms false
set_option pp.maxSteps 1500
namespace K13
open PySem PySem.Spec PyProof.Rows L2 HX TV FM DX FB FC PM
local macro_rules | `(tactic| walk_at "r") => `(tactic| (repeat (first | refine Exists.intro _ (And.intro rfl ?_) | refine And.intro rfl ?_ | refine Exists.intro _ (Exists.intro _ (And.intro rfl (And.intro rfl ?_))) | refine And.intro (by omega) ?_ | refine And.intro (Or.inl (And.intro (by omega) (by omega))) ?_ | refine And.intro (Or.inr (And.intro (by omega) (by omega))) ?_ | refine And.intro (And.intro (by omega) (by omega)) ?_ | refine And.intro (And.intro (by decide) (And.intro (by decide) (by decide))) ?_ | refine Or.inl (Exists.intro _ (And.intro rfl ?_)) | (dsimp only [gName]; first | with_reducible refine seqC ?_ | with_reducible refine asgC ?_))))
local macro_rules | `(tactic| walk_at "s") => `(tactic| (repeat (first | refine Exists.intro _ (And.intro rfl ?_) | refine And.intro rfl ?_ | refine Exists.intro _ (Exists.intro _ (And.intro rfl (And.intro rfl ?_))) | refine And.intro (by omega) ?_ | refine And.intro (Or.inl (And.intro (by omega) (by omega))) ?_ | refine And.intro (Or.inr (And.intro (by omega) (by omega))) ?_ | refine And.intro (And.intro (by omega) (by omega)) ?_ | refine And.intro (And.intro (by decide) (And.intro (by decide) (by decide))) ?_ | refine Or.inl (Exists.intro _ (And.intro rfl ?_)) | refine Exists.intro _ (Exists.intro _ (And.intro rfl ?_)) | (dsimp only [gName]; first | with_reducible refine seqC ?_ | with_reducible refine asgC ?_))))
section
variable {P : Program} {w : World} {K : PySem.W.Frag} {mg : Str → Option Value} {base : Heap}
/-- the sign of the difference of two forms of depth at most n -/
def sp_ord (K : PySem.W.Frag) (n : Nat) : Sp := fun vs H Q _ => ∃ (x y : V) (d e : PyData), vs = [x, y] ∧ Dp K H x d ∧ Dp K H y e ∧ Fm d ∧ Fm e ∧ d.depth ≤ n ∧ e.depth ≤ n ∧ n ≤ 60 ∧ ∀ H', Same H H' → Q (.int (sg (val d) (val e))) H'
theorem ok_order (T : Top K mg) : ∀ n, FnOk P w K mg base CX0 (n + 3) T.f_order T.fd_order ["x", "y"]  (sp_ord K n) := by
  have two : ∀ {n : Nat} {σ : L2.St} {H : Hp} {i j : Int} {Q : VK}, Q (.int (sg i j)) H → Q (.int (b2i (decide (j < i)) - b2i (decide (i < j)))) H := fun {n σ H i j Q} q => by
    have e : b2i (decide (j < i)) - b2i (decide (i < j)) = sg i j := by
      unfold sg
      by_cases h1 : i < j
      · rw [if_pos h1, decide_eq_true h1, decide_eq_false (by omega)]
        rfl
      · by_cases h2 : j < i
        · rw [if_neg h1, if_pos h2, decide_eq_true h2, decide_eq_false h1]
          rfl
        · rw [if_neg h1, if_neg h2, decide_eq_false h2, decide_eq_false h1]
          rfl
    rw [e]
    exact q
  intro n
  induction n with
  | zero =>
    have G_turns : FnOk P w K mg base CX0 (2) T.f_turns T.fd_turns ["x"]  (sp_trn K) := ok_turns T
    have G_negative : FnOk P w K mg base CX0 (1) T.f_negative T.fd_negative ["x"]  (sp_neg K) := ok_negative T
    refine T.F_order.ok sc_order (fun vs H Q E h => ?_) (fun cdv A outer s H vs Q E hr h => ?_)
    · obtain ⟨x, y, d, e, rfl, _⟩ := h
      rfl
    · obtain ⟨x, y, d, e, rfl, hx, hy, hd, he, hdd, hde, _, q⟩ := h
      refine ⟨_, (pss_cons (ps_if (PW.pt (pw_and (pt_val (pe_callB call_isi (by rfl) T.m_isinstance (by decide +kernel) (pa_cons (pv 0) (pa_cons (pe_bltn (v := .ty "int") (by rfl) T.m_int (by decide +kernel) rfl) pa_nil))) (fun _ => rfl)) (pw_and1 (pt_val (pe_callB call_isi (by rfl) T.m_isinstance (by decide +kernel) (pa_cons (pv 1) (pa_cons (pe_bltn (v := .ty "int") (by rfl) T.m_int (by decide +kernel) rfl) pa_nil))) (fun _ => rfl)))))
      (pss_one (ps_ret (pe_op op_sub (pe_callTy call_int1 (by rfl) T.m_int (by decide +kernel) (pa_cons (pe_cmpR op_gt (pv 0) (pv 1) (nomark _)) pa_nil)) (pe_callTy call_int1 (by rfl) T.m_int (by decide +kernel) (pa_cons (pe_cmpR op_lt (pv 0) (pv 1) (nomark _)) pa_nil)))))
      pss_nil)
    (pss_cons (ps_if (pt_cmpR (op_eqD hr.units) (pv 0) (pv 1) (nomark _))
      (pss_one (ps_ret pe_int))
      pss_nil)
    (pss_cons (ps_set (i := 2) sc_order.nd rfl (Or.inl rfl) (pe_call G_turns (hr.mono (by omega)) (by rfl) T.g_turns T.F_turns.kp T.b_turns .nil pass0 (pa_cons (pv 0) pa_nil)))
    (pss_cons (ps_set (i := 3) sc_order.nd rfl (Or.inl rfl) (pe_call G_turns (hr.mono (by omega)) (by rfl) T.g_turns T.F_turns.kp T.b_turns .nil pass0 (pa_cons (pv 1) pa_nil)))
    (pss_cons (ps_if (pt_cmpR op_ne (pe_call G_negative (hr.mono (by omega)) (by rfl) T.g_negative T.F_negative.kp T.b_negative .nil pass0 (pa_cons (pv 0) pa_nil)) (pe_call G_negative (hr.mono (by omega)) (by rfl) T.g_negative T.F_negative.kp T.b_negative .nil pass0 (pa_cons (pv 1) pa_nil)) (nomark _))
      (pss_one (ps_ret (pe_ifExp (pt_val (pe_call G_negative (hr.mono (by omega)) (by rfl) T.g_negative T.F_negative.kp T.b_negative .nil pass0 (pa_cons (pv 0) pa_nil)) (fun _ => rfl)) (pe_un un_neg pe_int) pe_int)))
      pss_nil)
    (pss_cons (ps_set (i := 4) sc_order.nd rfl (Or.inl rfl) pe_int)
    (pss_cons (ps_set (i := 5) sc_order.nd rfl (Or.inl rfl) (pe_callB (call_min2 rfl) (by rfl) T.m_min (by decide +kernel) (pa_cons (pe_callB call_len_seq (by rfl) T.m_len PySem.boot_len (pa_cons (pv 2) pa_nil)) (pa_cons (pe_callB call_len_seq (by rfl) T.m_len PySem.boot_len (pa_cons (pv 3) pa_nil)) pa_nil))))
    (pss_cons (ps_while PassesOwn.never (PW.pt (pw_and (pt_cmpR op_lt (pv 4) (pv 5) (nomark _)) (pw_and1 (pt_cmpR (op_eqD hr.units) (pe_ix ix_tup (pv 2) (pe_op op_sub (pe_op op_sub (pe_callB call_len_seq (by rfl) T.m_len PySem.boot_len (pa_cons (pv 2) pa_nil)) pe_int) (pv 4)) (fun _ _ => rfl)) (pe_ix ix_tup (pv 3) (pe_op op_sub (pe_op op_sub (pe_callB call_len_seq (by rfl) T.m_len PySem.boot_len (pa_cons (pv 3) pa_nil)) pe_int) (pv 4)) (fun _ _ => rfl)) (nomark _)))))
      (pss_one (ps_aug (i := 4) sc_order.nd rfl (Or.inl rfl) pe_int ip_add)))
    (pss_cons (ps_if (pt_cmpR op_eq (pv 4) (pe_callB call_len_seq (by rfl) T.m_len PySem.boot_len (pa_cons (pv 2) pa_nil)) (nomark _))
      (pss_one (ps_set (i := 6) sc_order.nd rfl (Or.inl rfl) (pe_un un_neg pe_int)))
      (pss_one (ps_if (pt_cmpR op_eq (pv 4) (pe_callB call_len_seq (by rfl) T.m_len PySem.boot_len (pa_cons (pv 3) pa_nil)) (nomark _))
        (pss_one (ps_set (i := 6) sc_order.nd rfl (Or.inl rfl) pe_int))
        (pss_one ps_never))))
    (pss_cons (ps_if (pt_cmpR op_eq (pe_op op_and (pe_op op_add (pe_callB call_len_seq (by rfl) T.m_len PySem.boot_len (pa_cons (pv 2) pa_nil)) (pv 4)) pe_int) pe_int (nomark _))
      (pss_one (ps_ret (pe_un un_neg (pv 6))))
      pss_nil)
    (pss_one (ps_ret (pv 6))))))))))))), ?_⟩
      rcases fm_cases hd with ⟨i, rfl⟩ | ⟨ds, rfl⟩
      · rcases fm_cases he with ⟨j, rfl⟩ | ⟨ds, rfl⟩
        · cases hx
          cases hy
          refine ⟨_, rfl, _, _, _, _, true, rfl, .ty "int", tyI _, k_ii, true, rfl, iteT ?_⟩
          refine ⟨_, rfl, _, _, _, _, true, rfl, .ty "int", tyI _, k_ii, true, rfl, iteT ?_⟩
          walk_at "r"
          refine .inr ⟨_, rfl, ?_⟩
          walk_at "r"
          refine .inr ⟨_, rfl, ?_⟩
          walk_at "r"
          rw [val_int, val_int] at q
          exact two (n := 0) (σ := []) (q H (Same.refl _))
        · rw [depth_tuple] at hde
          omega
      · rw [depth_tuple] at hdd
        omega
  | succ n ih =>
    have G_turns : FnOk P w K mg base CX0 (2) T.f_turns T.fd_turns ["x"]  (sp_trn K) := ok_turns T
    have G_negative : FnOk P w K mg base CX0 (1) T.f_negative T.fd_negative ["x"]  (sp_neg K) := ok_negative T
    have G_order : FnOk P w K mg base CX0 (n + 3) T.f_order T.fd_order ["x", "y"]  (sp_ord K n) := ih
    refine T.F_order.ok sc_order (fun vs H Q E h => ?_) (fun cdv A outer s H vs Q E hr h => ?_)
    · obtain ⟨x, y, d, e, rfl, _⟩ := h
      rfl
    · obtain ⟨x, y, d, e, rfl, hx, hy, hd, he, hdd, hde, hn, q⟩ := h
      refine ⟨_, (pss_cons (ps_if (PW.pt (pw_and (pt_val (pe_callB call_isi (by rfl) T.m_isinstance (by decide +kernel) (pa_cons (pv 0) (pa_cons (pe_bltn (v := .ty "int") (by rfl) T.m_int (by decide +kernel) rfl) pa_nil))) (fun _ => rfl)) (pw_and1 (pt_val (pe_callB call_isi (by rfl) T.m_isinstance (by decide +kernel) (pa_cons (pv 1) (pa_cons (pe_bltn (v := .ty "int") (by rfl) T.m_int (by decide +kernel) rfl) pa_nil))) (fun _ => rfl)))))
      (pss_one (ps_ret (pe_op op_sub (pe_callTy call_int1 (by rfl) T.m_int (by decide +kernel) (pa_cons (pe_cmpR op_gt (pv 0) (pv 1) (nomark _)) pa_nil)) (pe_callTy call_int1 (by rfl) T.m_int (by decide +kernel) (pa_cons (pe_cmpR op_lt (pv 0) (pv 1) (nomark _)) pa_nil)))))
      pss_nil)
    (pss_cons (ps_if (pt_cmpR (op_eqD hr.units) (pv 0) (pv 1) (nomark _))
      (pss_one (ps_ret pe_int))
      pss_nil)
    (pss_cons (ps_set (i := 2) sc_order.nd rfl (Or.inl rfl) (pe_call G_turns (hr.mono (by omega)) (by rfl) T.g_turns T.F_turns.kp T.b_turns .nil pass0 (pa_cons (pv 0) pa_nil)))
    (pss_cons (ps_set (i := 3) sc_order.nd rfl (Or.inl rfl) (pe_call G_turns (hr.mono (by omega)) (by rfl) T.g_turns T.F_turns.kp T.b_turns .nil pass0 (pa_cons (pv 1) pa_nil)))
    (pss_cons (ps_if (pt_cmpR op_ne (pe_call G_negative (hr.mono (by omega)) (by rfl) T.g_negative T.F_negative.kp T.b_negative .nil pass0 (pa_cons (pv 0) pa_nil)) (pe_call G_negative (hr.mono (by omega)) (by rfl) T.g_negative T.F_negative.kp T.b_negative .nil pass0 (pa_cons (pv 1) pa_nil)) (nomark _))
      (pss_one (ps_ret (pe_ifExp (pt_val (pe_call G_negative (hr.mono (by omega)) (by rfl) T.g_negative T.F_negative.kp T.b_negative .nil pass0 (pa_cons (pv 0) pa_nil)) (fun _ => rfl)) (pe_un un_neg pe_int) pe_int)))
      pss_nil)
    (pss_cons (ps_set (i := 4) sc_order.nd rfl (Or.inl rfl) pe_int)
    (pss_cons (ps_set (i := 5) sc_order.nd rfl (Or.inl rfl) (pe_callB (call_min2 rfl) (by rfl) T.m_min (by decide +kernel) (pa_cons (pe_callB call_len_seq (by rfl) T.m_len PySem.boot_len (pa_cons (pv 2) pa_nil)) (pa_cons (pe_callB call_len_seq (by rfl) T.m_len PySem.boot_len (pa_cons (pv 3) pa_nil)) pa_nil))))
    (pss_cons (ps_while PassesOwn.never (PW.pt (pw_and (pt_cmpR op_lt (pv 4) (pv 5) (nomark _)) (pw_and1 (pt_cmpR (op_eqD hr.units) (pe_ix ix_tup (pv 2) (pe_op op_sub (pe_op op_sub (pe_callB call_len_seq (by rfl) T.m_len PySem.boot_len (pa_cons (pv 2) pa_nil)) pe_int) (pv 4)) (fun _ _ => rfl)) (pe_ix ix_tup (pv 3) (pe_op op_sub (pe_op op_sub (pe_callB call_len_seq (by rfl) T.m_len PySem.boot_len (pa_cons (pv 3) pa_nil)) pe_int) (pv 4)) (fun _ _ => rfl)) (nomark _)))))
      (pss_one (ps_aug (i := 4) sc_order.nd rfl (Or.inl rfl) pe_int ip_add)))
    (pss_cons (ps_if (pt_cmpR op_eq (pv 4) (pe_callB call_len_seq (by rfl) T.m_len PySem.boot_len (pa_cons (pv 2) pa_nil)) (nomark _))
      (pss_one (ps_set (i := 6) sc_order.nd rfl (Or.inl rfl) (pe_un un_neg pe_int)))
      (pss_one (ps_if (pt_cmpR op_eq (pv 4) (pe_callB call_len_seq (by rfl) T.m_len PySem.boot_len (pa_cons (pv 3) pa_nil)) (nomark _))
        (pss_one (ps_set (i := 6) sc_order.nd rfl (Or.inl rfl) pe_int))
        (pss_one (ps_set (i := 6) sc_order.nd rfl (Or.inl rfl) (pe_call G_order (hr.mono (by omega)) (by rfl) T.g_order T.F_order.kp T.b_order .nil pass0 (pa_cons (pe_ix ix_tup (pv 2) (pe_op op_sub (pe_op op_sub (pe_callB call_len_seq (by rfl) T.m_len PySem.boot_len (pa_cons (pv 2) pa_nil)) pe_int) (pv 4)) (fun _ _ => rfl)) (pa_cons (pe_ix ix_tup (pv 3) (pe_op op_sub (pe_op op_sub (pe_callB call_len_seq (by rfl) T.m_len PySem.boot_len (pa_cons (pv 3) pa_nil)) pe_int) (pv 4)) (fun _ _ => rfl)) pa_nil))))))))
    (pss_cons (ps_if (pt_cmpR op_eq (pe_op op_and (pe_op op_add (pe_callB call_len_seq (by rfl) T.m_len PySem.boot_len (pa_cons (pv 2) pa_nil)) (pv 4)) pe_int) pe_int (nomark _))
      (pss_one (ps_ret (pe_un un_neg (pv 6))))
      pss_nil)
    (pss_one (ps_ret (pv 6))))))))))))), ?_⟩
      refine ⟨_, rfl, _, _, _, _, isI d, rfl, .ty "int", ty_f hx hd, kit_fi hd, _, rfl, ifB ?_ (fun h1 rest => ?_)⟩
      case refine_2 =>
        refine ⟨_, rfl, _, _, _, _, isI e, rfl, .ty "int", ty_f hy he, kit_fi he, _, rfl, ifBD (fun h2 => ?_) (fun h2 => rest)⟩
        obtain ⟨i, rfl⟩ := fm_isI hd h1
        obtain ⟨j, rfl⟩ := fm_isI he h2
        cases hx
        cases hy
        walk_at "r"
        refine .inr ⟨_, rfl, ?_⟩
        walk_at "r"
        refine .inr ⟨_, rfl, ?_⟩
        walk_at "r"
        rw [val_int, val_int] at q
        exact two (n := 0) (σ := []) (q H (Same.refl _))
      refine ⟨_, rfl, _, rfl, _, _, hx, hy, shaped_fm hd (by omega), shaped_fm he (by omega), _, rfl, ?_⟩
      rw [eqv_val hd he]
      refine ifD (fun hv => ?_) (fun hv => ?_)
      · walk_at "r"
        have := q H (Same.refl _)
        rw [sg_eq hv] at this
        exact this
      refine ⟨_, rfl, x, d, rfl, hx, hd, fun aO uO A H1 fA hA vA sO dO depA wA iA sm1 => ?_⟩
      dsimp only [gName]
      refine ⟨_, rfl, y, e, rfl, dp_tk (tk_same sm1) he hy, he, fun aT uT B H2 fB hB vB sT dT depB wB iB sm2 => ?_⟩
      have sm := sm1.trans sm2
      replace hx := dp_tk (tk_same sm) hd hx
      replace hy := dp_tk (tk_same sm) he hy
      replace sO := HX.Same.tup sm2 sO
      replace dO := dpAll_tk (tk_same sm2) fA dO
      have lO := dpAll_len dO
      have lT := dpAll_len dT
      dsimp only [gName]
      refine ⟨_, rfl, x, d, rfl, hx, hd, _, rfl, y, e, rfl, hy, he, rfl, _, rfl, ?_⟩
      refine ifN (fun hne => ?_) (fun hne => ?_)
      · refine ⟨_, rfl, x, d, rfl, hx, hd, _, rfl, ?_⟩
        refine ifD (fun hz => ?_) (fun hz => ?_)
        · walk_at "r"
          have : ¬ val e < 0 := fun z => hne (by rw [decide_eq_true hz, decide_eq_true z])
          have := q H2 sm
          rw [sg_lt (by omega)] at this
          exact this
        · walk_at "r"
          have : val e < 0 := Classical.byContradiction fun z => hne (by rw [decide_eq_false hz, decide_eq_false z])
          have := q H2 sm
          rw [sg_gt (by omega)] at this
          exact this
      have hpar : A.length % 2 = B.length % 2 := by
        have h1 := neg_len hA
        have h2 := neg_len hB
        rw [vA, vals_len] at h1
        rw [vB, vals_len] at h2
        have h3 : val d < 0 ↔ val e < 0 := by
          have := V.bl.inj hne
          simpa using this
        have : A.length % 2 = 1 ↔ B.length % 2 = 1 := h1.symm.trans (h3.trans h2)
        omega
      walk_at "r"
      refine ⟨aO, uO, rfl, .inr sO, _, rfl, aT, uT, rfl, .inr sT, _, _, rfl, ?_⟩
      dsimp only [gName]
      obtain ⟨mm, hmm, emm⟩ : ∃ mm : Nat, mm = min A.length B.length ∧ (if ((uT.length : Nat) : Int) < ((uO.length : Nat) : Int) then ((uT.length : Nat) : Int) else ((uO.length : Nat) : Int)) = (mm : Nat) := by
        refine ⟨min A.length B.length, rfl, ?_⟩
        rw [lO, lT]
        split <;> omega
      rw [emm]
      have atA : ∀ {c : Nat}, c < A.length → ∃ v a, uO[A.length - 1 - c]? = some v ∧ A[A.length - 1 - c]? = some a ∧ Dp K H2 v a ∧ Fm a ∧ 0 ≤ val a ∧ a.depth ≤ n := fun {c} hc => by
        have h1 : A[A.length - 1 - c]? = some (A[A.length - 1 - c]'(by omega)) := by simp [show A.length - 1 - c < A.length by omega]
        obtain ⟨v, h2, h3⟩ := dpAll_at dO h1
        have hm := List.mem_of_getElem? h1
        have := dep_mem hm
        exact ⟨v, _, h2, h1, h3, (fmAll_mem fA _ hm).1, (fmAll_mem fA _ hm).2, by omega⟩
      have atB : ∀ {c : Nat}, c < B.length → ∃ v a, uT[B.length - 1 - c]? = some v ∧ B[B.length - 1 - c]? = some a ∧ Dp K H2 v a ∧ Fm a ∧ 0 ≤ val a ∧ a.depth ≤ n := fun {c} hc => by
        have h1 : B[B.length - 1 - c]? = some (B[B.length - 1 - c]'(by omega)) := by simp [show B.length - 1 - c < B.length by omega]
        obtain ⟨v, h2, h3⟩ := dpAll_at dT h1
        have hm := List.mem_of_getElem? h1
        have := dep_mem hm
        exact ⟨v, _, h2, h1, h3, (fmAll_mem fB _ hm).1, (fmAll_mem fB _ hm).2, by omega⟩
      have ixA : ∀ {c : Nat}, c < A.length → ((uO.length : Nat) : Int) - 1 - (c : Nat) = ((A.length - 1 - c : Nat) : Int) := fun {c} hc => by rw [lO]; omega
      have ixB : ∀ {c : Nat}, c < B.length → ((uT.length : Nat) : Int) - 1 - (c : Nat) = ((B.length - 1 - c : Nat) : Int) := fun {c} hc => by rw [lT]; omega
      refine cut (fun σ H' => H' = H2 ∧ ∃ c : Nat, σ = [some x, some y, some (.ref aO), some (.ref aT), some (.int (c : Nat)), some (.int (mm : Nat)), none] ∧ c ≤ mm ∧ A.drop (A.length - c) = B.drop (B.length - c) ∧
        (c = mm ∨ ∃ a b, A[A.length - 1 - c]? = some a ∧ B[B.length - 1 - c]? = some b ∧ val a ≠ val b)) (fun D J => ?_) ?_
      · refine ⟨fun m σ H' => H' = H2 ∧ ∃ c : Nat, σ = [some x, some y, some (.ref aO), some (.ref aT), some (.int (c : Nat)), some (.int (mm : Nat)), none] ∧ c + m = mm ∧ A.drop (A.length - c) = B.drop (B.length - c),
          ⟨mm, rfl, 0, rfl, by omega, by simp⟩, ?_⟩
        rintro m σ H' ⟨rfl, c, rfl, hcm, hs⟩
        walk_at "r"
        refine ifBD (fun hc => ?_) (fun hc => ?_)
        · have hc : (c : Int) < (mm : Nat) := of_decide_eq_true hc
          obtain ⟨v, a, h1, h2, h3, h4, h5, h6⟩ := atA (c := c) (by omega)
          obtain ⟨v', b, g1, g2, g3, g4, g5, g6⟩ := atB (c := c) (by omega)
          refine ⟨_, rfl, _, rfl, aO, uO, rfl, .inr sO, _, _, rfl, rfl, _, rfl, _, _, rfl, rfl, aO, uO, _, v, rfl, rfl, sO, atI_at h1 (ixA (by omega)), ?_⟩
          refine ⟨_, rfl, _, rfl, aT, uT, rfl, .inr sT, _, _, rfl, rfl, _, rfl, _, _, rfl, rfl, aT, uT, _, v', rfl, rfl, sT, atI_at g1 (ixB (by omega)), ?_⟩
          refine ⟨_, _, h3, g3, shaped_fm h4 (by omega), shaped_fm g4 (by omega), _, rfl, ?_⟩
          rw [eqv_val h4 g4]
          refine ifD (fun hab => wb fun D' B' => ?_) (fun hab => ?_)
          · walk_at "r"
            refine B'.nx _ _ ⟨m - 1, by omega, rfl, c + 1, rfl, by omega, ?_⟩
            rw [drop_more (by omega) h2, drop_more (by omega) g2, hs, fm_inj h4 g4 hab]
          · exact J.nx _ _ ⟨rfl, c, rfl, by omega, hs, .inr ⟨a, b, h2, g2, hab⟩⟩
        · have hc : ¬ (c : Int) < (mm : Nat) := of_decide_eq_false hc
          refine iteF ?_
          exact J.nx _ _ ⟨rfl, c, rfl, by omega, hs, .inl (by omega)⟩
      · rintro σ H' ⟨eH, c, rfl, hcm, hs, hstop⟩
        subst eH
        have hvs : vals A = vals B → val d = val e := fun z => by rw [← vA, ← vB, z]
        refine cut (fun σ H3 => Same H' H3 ∧ ∃ sd : Int, σ = [some x, some y, some (.ref aO), some (.ref aT), some (.int (c : Nat)), some (.int (mm : Nat)), some (.int sd)] ∧ sg (val d) (val e) = if (A.length + c) % 2 = 1 then -sd else sd) (fun D J => ?_) ?_
        · refine ⟨_, rfl, _, rfl, aO, uO, rfl, .inr sO, rfl, _, rfl, ?_⟩
          refine ifE (fun hc => ?_) (fun hc => ?_)
          · walk_at "r"
            refine J.nx _ _ ⟨Same.refl _, -1, rfl, ?_⟩
            have hcA : c = A.length := by rw [lO] at hc; omega
            subst hcA
            rw [Nat.sub_self, List.drop_zero] at hs
            have hlt : A.length < B.length := by
              apply Nat.lt_of_le_of_ne (by omega)
              intro z
              rw [z, Nat.sub_self, List.drop_zero] at hs
              exact hv (hvs (by rw [hs]))
            rw [if_neg (by omega), sg_lt]
            rw [← vA, ← vB]
            refine ord_short hA hB (by rw [vals_len, vals_len]; exact hlt) ?_ (by rw [vals_len, vals_len]; exact hpar)
            rw [vals_len, vals_len, vals_drop, ← hs]
          · refine ⟨_, rfl, _, rfl, aT, uT, rfl, .inr sT, rfl, _, rfl, ?_⟩
            have hcA : c < A.length := by rw [lO] at hc; omega
            refine ifE (fun hc2 => ?_) (fun hc2 => ?_)
            · walk_at "r"
              refine J.nx _ _ ⟨Same.refl _, 1, rfl, ?_⟩
              have hcB : c = B.length := by rw [lT] at hc2; omega
              subst hcB
              rw [Nat.sub_self, List.drop_zero] at hs
              rw [if_neg (by omega), sg_gt]
              rw [← vA, ← vB]
              refine ord_short hB hA (by rw [vals_len, vals_len]; exact hcA) ?_ (by rw [vals_len, vals_len]; exact hpar.symm)
              rw [vals_len, vals_len, vals_drop, hs]
            · have hcB : c < B.length := by rw [lT] at hc2; omega
              obtain ⟨v, a, h1, h2, h3, h4, h5, h6⟩ := atA (c := c) (by omega)
              obtain ⟨v', b, g1, g2, g3, g4, g5, g6⟩ := atB (c := c) (by omega)
              refine ⟨_, rfl, _, rfl, aO, uO, rfl, .inr sO, _, _, rfl, rfl, _, rfl, _, _, rfl, rfl, aO, uO, _, v, rfl, rfl, sO, atI_at h1 (ixA (by omega)), ?_⟩
              refine ⟨_, rfl, _, rfl, aT, uT, rfl, .inr sT, _, _, rfl, rfl, _, rfl, _, _, rfl, rfl, aT, uT, _, v', rfl, rfl, sT, atI_at g1 (ixB (by omega)), ?_⟩
              refine ⟨v, v', a, b, rfl, h3, g3, h4, g4, h6, g6, by omega, fun H3 sm3 => ?_⟩
              dsimp only [gName]
              refine J.nx _ _ ⟨sm3, sg (val a) (val b), rfl, ?_⟩
              have hab : val a ≠ val b := by
                rcases hstop with z | ⟨a', b', z1, z2, z3⟩
                · omega
                · rw [h2] at z1
                  rw [g2] at z2
                  cases z1
                  cases z2
                  exact z3
              have lvA := vals_len A
              have lvB := vals_len B
              have hs' : (vals A).drop ((vals A).length - c) = (vals B).drop ((vals B).length - c) := by rw [lvA, lvB, vals_drop, vals_drop, hs]
              have xa : (vals A)[(vals A).length - 1 - c]? = some (vl a) := by rw [lvA]; exact vals_at h2
              have xb : (vals B)[(vals B).length - 1 - c]? = some (vl b) := by rw [lvB]; exact vals_at g2
              have hla : ((vl a : Nat) : Int) = val a := by unfold vl; omega
              have hlb : ((vl b : Nat) : Int) = val b := by unfold vl; omega
              rcases Int.lt_or_lt_of_ne hab with hlt | hlt
              · have od := ord_diff hA hB (by omega) (by omega) hs' (by omega) xa xb (by omega)
                rw [lvA, vA, vB] at od
                rw [sg_lt hlt]
                by_cases z : (A.length + c) % 2 = 1
                · rw [if_pos z, sg_gt (od.2 z)]
                  rfl
                · rw [if_neg z, sg_lt (od.1 (by omega))]
              · have od := ord_diff hB hA (by omega) (by omega) hs'.symm (by omega) xb xa (by omega)
                rw [lvB, vA, vB] at od
                rw [sg_gt hlt]
                by_cases z : (A.length + c) % 2 = 1
                · rw [if_pos z, sg_lt (od.2 (by omega))]
                · rw [if_neg z, sg_gt (od.1 (by omega))]
        · rintro σ H3 ⟨sm3, sd, rfl, hsd⟩
          refine ⟨_, rfl, aO, uO, rfl, .inr (HX.Same.tup sm3 sO), ?_⟩
          walk_at "r"
          refine ifE (fun hz => ?_) (fun hz => ?_)
          · rw [bitAnd_m1, lO] at hz
            rw [if_pos (by omega)] at hsd
            walk_at "r"
            show Q (.int (-sd)) H3
            rw [← hsd]
            exact q H3 (sm.trans sm3)
          · rw [bitAnd_m1, lO] at hz
            rw [if_neg (by omega)] at hsd
            walk_at "r"
            show Q (.int sd) H3
            rw [← hsd]
            exact q H3 (sm.trans sm3)
end
end K13
set_option Elab.async false
set_option linter.all false
set_option maxRecDepth 100000
set_option pp.deepTerms false
set_option pp.maxSteps 1500
namespace K13
open PySem PySem.Spec PyProof.Rows L2 HX TV FM DX FB FC PM
local macro_rules | `(tactic| walk_at "r") => `(tactic| (repeat (first | refine Exists.intro _ (And.intro rfl ?_) | refine And.intro rfl ?_ | refine Exists.intro _ (Exists.intro _ (And.intro rfl (And.intro rfl ?_))) | refine And.intro (by omega) ?_ | refine And.intro (Or.inl (And.intro (by omega) (by omega))) ?_ | refine And.intro (Or.inr (And.intro (by omega) (by omega))) ?_ | refine And.intro (And.intro (by omega) (by omega)) ?_ | refine And.intro (And.intro (by decide) (And.intro (by decide) (by decide))) ?_ | refine Or.inl (Exists.intro _ (And.intro rfl ?_)) | (dsimp only [gName]; first | with_reducible refine seqC ?_ | with_reducible refine asgC ?_))))
local macro_rules | `(tactic| walk_at "s") => `(tactic| (repeat (first | refine Exists.intro _ (And.intro rfl ?_) | refine And.intro rfl ?_ | refine Exists.intro _ (Exists.intro _ (And.intro rfl (And.intro rfl ?_))) | refine And.intro (by omega) ?_ | refine And.intro (Or.inl (And.intro (by omega) (by omega))) ?_ | refine And.intro (Or.inr (And.intro (by omega) (by omega))) ?_ | refine And.intro (And.intro (by omega) (by omega)) ?_ | refine And.intro (And.intro (by decide) (And.intro (by decide) (by decide))) ?_ | refine Or.inl (Exists.intro _ (And.intro rfl ?_)) | refine Exists.intro _ (Exists.intro _ (And.intro rfl ?_)) | (dsimp only [gName]; first | with_reducible refine seqC ?_ | with_reducible refine asgC ?_))))
section
variable {P : Program} {w : World} {K : PySem.W.Frag} {mg : Str → Option Value} {base : Heap}
/-- two rows merged -/
def sp_mrg (K : PySem.W.Frag) (n : Nat) : Sp := fun vs H Q _ => ∃ (a b : Addr) (ua ub : List V) (A B : List PyData), vs = [.ref a, .ref b] ∧ SqT K H a ua ∧ SqT K H b ub ∧ DpAll K H ua A ∧ DpAll K H ub B ∧ FmAll A ∧ FmAll B ∧ Asc (vals A) ∧ Asc (vals B) ∧
  PyData.depthAll A ≤ n ∧ PyData.depthAll B ≤ n ∧ n ≤ 60 ∧ A.length + B.length ≤ 14000000 ∧
  ∀ (l : Addr) (us : List V) (R : List PM.Row) H', H l = none → H' l = some (.lst us) → DpAll K H' us (R.map rowD) → Mg A B R → R.length ≤ A.length + B.length → Same H H' → Q (.ref l) H'
theorem ok_merged (T : Top K mg) (n : Nat) : FnOk P w K mg base CX0 (n + 4) T.f_merged T.fd_merged ["ours", "theirs"]  (sp_mrg K n) := by
  have G_order : FnOk P w K mg base CX0 (n + 3) T.f_order T.fd_order ["x", "y"]  (sp_ord K n) := ok_order T n
  refine T.F_merged.ok sc_merged (fun vs H Q E h => ?_) (fun cdv Ar outer s H vs Q E hr h => ?_)
  · obtain ⟨a, b, ua, ub, A, B, rfl, _⟩ := h
    rfl
  · obtain ⟨a, b, ua, ub, A, B, rfl, sA, sB, dA, dB, fA, fB, hA, hB, depA, depB, hn, hlen, q⟩ := h
    have lA := dpAll_len dA
    have lB := dpAll_len dB
    refine ⟨_, (pss_cons (ps_set (i := 2) sc_merged.nd rfl (Or.inl rfl) (pe_lst pa_nil))
    (pss_cons (ps_set (i := 3) sc_merged.nd rfl (Or.inl rfl) pe_int)
    (pss_cons (ps_set (i := 4) sc_merged.nd rfl (Or.inl rfl) pe_int)
    (pss_cons (ps_while PassesOwn.never (PW.pt (pw_or (pt_cmpR op_lt (pv 3) (pe_callB call_len_seq (by rfl) T.m_len PySem.boot_len (pa_cons (pv 0) pa_nil)) (nomark _)) (pw_or1 (pt_cmpR op_lt (pv 4) (pe_callB call_len_seq (by rfl) T.m_len PySem.boot_len (pa_cons (pv 1) pa_nil)) (nomark _)))))
      (pss_cons (ps_if (pt_cmpR op_eq (pv 3) (pe_callB call_len_seq (by rfl) T.m_len PySem.boot_len (pa_cons (pv 0) pa_nil)) (nomark _))
        (pss_one (ps_set (i := 5) sc_merged.nd rfl (Or.inl rfl) pe_int))
        (pss_one (ps_if (pt_cmpR op_eq (pv 4) (pe_callB call_len_seq (by rfl) T.m_len PySem.boot_len (pa_cons (pv 1) pa_nil)) (nomark _))
          (pss_one (ps_set (i := 5) sc_merged.nd rfl (Or.inl rfl) (pe_un un_neg pe_int)))
          (pss_one (ps_set (i := 5) sc_merged.nd rfl (Or.inl rfl) (pe_call G_order (hr.mono (by omega)) (by rfl) T.g_order T.F_order.kp T.b_order .nil pass0 (pa_cons (pe_ix ix_tup (pv 0) (pv 3) (fun _ _ => rfl)) (pa_cons (pe_ix ix_tup (pv 1) (pv 4) (fun _ _ => rfl)) pa_nil))))))))
      (pss_cons (ps_if (pt_cmpR op_lt (pv 5) pe_int (nomark _))
        (pss_one (ps_expr (pe_bm PySem.F.plainAttrs_list PySem.F.slot_list_append PySem.F.type_list_append mt_append (pv 2) (pa_cons (pe_tup (pa_cons (pe_ix ix_tup (pv 0) (pv 3) (fun _ _ => rfl)) (pa_cons pe_int (pa_cons pe_int pa_nil)))) pa_nil))))
        (pss_one (ps_if (pt_cmpR op_gt (pv 5) pe_int (nomark _))
          (pss_one (ps_expr (pe_bm PySem.F.plainAttrs_list PySem.F.slot_list_append PySem.F.type_list_append mt_append (pv 2) (pa_cons (pe_tup (pa_cons (pe_ix ix_tup (pv 1) (pv 4) (fun _ _ => rfl)) (pa_cons pe_int (pa_cons pe_int pa_nil)))) pa_nil))))
          (pss_one (ps_expr (pe_bm PySem.F.plainAttrs_list PySem.F.slot_list_append PySem.F.type_list_append mt_append (pv 2) (pa_cons (pe_tup (pa_cons (pe_ix ix_tup (pv 0) (pv 3) (fun _ _ => rfl)) (pa_cons pe_int (pa_cons pe_int pa_nil)))) pa_nil)))))))
      (pss_cons (ps_if (pt_cmpR op_le (pv 5) pe_int (nomark _))
        (pss_one (ps_aug (i := 3) sc_merged.nd rfl (Or.inl rfl) pe_int ip_add))
        pss_nil)
      (pss_one (ps_if (pt_cmpR op_ge (pv 5) pe_int (nomark _))
        (pss_one (ps_aug (i := 4) sc_merged.nd rfl (Or.inl rfl) pe_int ip_add))
        pss_nil))))))
    (pss_one (ps_ret (pv 2))))))), ?_⟩
    refine ⟨Nat.zero_le _, fun l nl => ?_⟩
    walk_at "r"
    refine ⟨fun m σ H' => ∃ (i j : Nat) (z : Option V) (us : List V) (R : List PM.Row), σ = [some (.ref a), some (.ref b), some (.ref l), some (.int (i : Nat)), some (.int (j : Nat)), z] ∧ MgI A B R i j ∧ (A.length - i) + (B.length - j) ≤ m ∧ H' l = some (.lst us) ∧ DpAll K H' us (R.map rowD) ∧ Same H H',
      ⟨A.length + B.length, 0, 0, none, [], [], rfl, .start A B, by omega, upd_same, .nil, sm_upd nl⟩, ?_⟩
    rintro m σ H' ⟨i, j, z, us, R, rfl, S, hm, hl, hD, sm⟩
    have hi := S.hi
    have hj := S.hj
    refine ⟨_, rfl, _, rfl, a, ua, rfl, .inr (HX.Same.tup sm sA), _, _, rfl, rfl, _, rfl, ?_⟩
    rw [lA]
    refine ifOrQ (j < B.length) (fun hij => wb fun D' B' => ?_) (fun h1 body => ?_)
    case refine_2 =>
      refine ⟨_, rfl, _, rfl, b, ub, rfl, .inr (HX.Same.tup sm sB), _, _, rfl, rfl, _, rfl, ?_⟩
      rw [lB]
      refine ifD (fun h2 => body (.inr (by omega))) (fun h2 => ?_)
      walk_at "r"
      have M := S.done (by omega) (by omega)
      exact q l us R H' nl hl hD M (by have := S.ln; omega) sm
    have sA' := HX.Same.tup sm sA
    have sB' := HX.Same.tup sm sB
    have dA' := dpAll_tk (tk_same sm) fA dA
    have dB' := dpAll_tk (tk_same sm) fB dB
    refine cut (fun σ H2 => Same H' H2 ∧ ∃ sd : Int, σ = [some (.ref a), some (.ref b), some (.ref l), some (.int (i : Nat)), some (.int (j : Nat)), some (.int sd)] ∧
      (sd < 0 → i < A.length ∧ ∀ p, A[i]? = some p → ∀ x ∈ B.drop j, vl p < vl x) ∧ (0 < sd → j < B.length ∧ ∀ p, B[j]? = some p → ∀ x ∈ A.drop i, vl p < vl x) ∧ (sd = 0 → ∃ p, A[i]? = some p ∧ B[j]? = some p)) (fun D J => ?_) ?_
    · refine ⟨_, rfl, _, rfl, a, ua, rfl, .inr sA', rfl, _, rfl, ?_⟩
      rw [lA]
      refine ifE (fun hc => ?_) (fun hc => ?_)
      · walk_at "r"
        refine J.nx _ _ ⟨Same.refl _, 1, rfl, fun z => by omega, fun _ => ⟨by omega, fun p hp x hx => ?_⟩, fun z => by omega⟩
        rw [List.drop_of_length_le (by omega)] at hx
        simp at hx
      · refine ⟨_, rfl, _, rfl, b, ub, rfl, .inr sB', rfl, _, rfl, ?_⟩
        rw [lB]
        refine ifE (fun hc2 => ?_) (fun hc2 => ?_)
        · walk_at "r"
          refine J.nx _ _ ⟨Same.refl _, -1, rfl, fun _ => ⟨by omega, fun p hp x hx => ?_⟩, fun z => by omega, fun z => by omega⟩
          rw [List.drop_of_length_le (by omega)] at hx
          simp at hx
        · obtain ⟨p, hp⟩ : ∃ p, A[i]? = some p := ⟨A[i]'(by omega), by simp [show i < A.length by omega]⟩
          obtain ⟨r, hr'⟩ : ∃ r, B[j]? = some r := ⟨B[j]'(by omega), by simp [show j < B.length by omega]⟩
          obtain ⟨v, hv1, hv2⟩ := dpAll_at dA' hp
          obtain ⟨u, hu1, hu2⟩ := dpAll_at dB' hr'
          have mp := fmAll_mem fA p (List.mem_of_getElem? hp)
          have mr := fmAll_mem fB r (List.mem_of_getElem? hr')
          have dp := dep_mem (List.mem_of_getElem? hp)
          have dr := dep_mem (List.mem_of_getElem? hr')
          refine ⟨_, rfl, _, rfl, a, ua, _, v, rfl, rfl, sA', atI_nat hv1, ?_⟩
          refine ⟨_, rfl, _, rfl, b, ub, _, u, rfl, rfl, sB', atI_nat hu1, ?_⟩
          refine ⟨v, u, p, r, rfl, hv2, hu2, mp.1, mr.1, by omega, by omega, hn, fun H2 sm2 => ?_⟩
          dsimp only [gName]
          have ways := sg_ways mp.1 mr.1 mp.2 mr.2
          refine J.nx _ _ ⟨sm2, _, rfl, fun z => ⟨by omega, fun p' hp' x hx => ?_⟩, fun z => ⟨by omega, fun p' hp' x hx => ?_⟩, fun z => ⟨p, hp, ways.2.2 z ▸ hr'⟩⟩
          · rw [hp] at hp'
            cases hp'
            rw [drop_one hr'] at hx
            have := ways.1 z
            rcases List.mem_cons.mp hx with rfl | hx
            · exact this
            · exact Nat.lt_trans this (asc_tail hB hr' x hx)
          · rw [hr'] at hp'
            cases hp'
            rw [drop_one hp] at hx
            have := ways.2.1 z
            rcases List.mem_cons.mp hx with rfl | hx
            · exact this
            · exact Nat.lt_trans this (asc_tail hA hp x hx)
    · rintro σ H2 ⟨sm2, sd, rfl, w1, w2, w3⟩
      have sA2 := HX.Same.tup sm2 sA'
      have sB2 := HX.Same.tup sm2 sB'
      have dA2 := dpAll_tk (tk_same sm2) fA dA'
      have dB2 := dpAll_tk (tk_same sm2) fB dB'
      have hl2 := sm2 _ _ hl
      have hD2 := dpAll_im (tk_same sm2) (im_rows S.mg.fm) hD
      have lus := dpAll_len hD2
      rw [List.length_map] at lus
      have hlt : us.length < sizeLine := len_lt (by have := S.ln; omega)
      refine cut (fun σ H3 => ∃ (p : PyData) (us' : List V), σ = [some (.ref a), some (.ref b), some (.ref l), some (.int (i : Nat)), some (.int (j : Nat)), some (.int sd)] ∧ (sd ≤ 0 → A[i]? = some p) ∧ (0 ≤ sd → B[j]? = some p) ∧
        Same H H3 ∧ H3 l = some (.lst us') ∧ DpAll K H3 us' ((R ++ [(p, decide (sd ≤ 0), decide (0 ≤ sd))]).map rowD)) (fun D J => ?_) ?_
      · have fin : ∀ (p : PyData) (v : V) (mi ni : Int) (t : Addr), H2 t = none → Dp K H2 v p → Fm p → mi = bi (decide (sd ≤ 0)) → ni = bi (decide (0 ≤ sd)) → (sd ≤ 0 → A[i]? = some p) → (0 ≤ sd → B[j]? = some p) →
            D.nx [some (.ref a), some (.ref b), some (.ref l), some (.int (i : Nat)), some (.int (j : Nat)), some (.int sd)] (upd (upd H2 t (.tup [v, .int mi, .int ni])) l (.lst (us ++ [.ref t]))) := fun p v mi ni t nt hv fp e1 e2 k1 k2 => by
          have s1 := sm_upd (o := .tup [v, .int mi, .int ni]) nt
          have mu : Mut (upd H2 t (.tup [v, .int mi, .int ni]) l) := by
            rw [s1 _ _ hl2]
            trivial
          have tk : Tk H2 (upd (upd H2 t (.tup [v, .int mi, .int ni])) l (.lst (us ++ [.ref t]))) := (tk_same s1).trans (tk_mut mu)
          have tne : t ≠ l := (ne_of_none hl2 nt).symm
          refine J.nx _ _ ⟨p, us ++ [.ref t], rfl, k1, k2, sm_mut ((sm.trans sm2).trans s1) nl, upd_same, ?_⟩
          rw [List.map_append]
          subst e1 e2
          have ht : upd (upd H2 t (.tup [v, .int (bi (decide (sd ≤ 0))), .int (bi (decide (0 ≤ sd)))])) l (.lst (us ++ [.ref t])) t = some (.tup [v, .int (bi (decide (sd ≤ 0))), .int (bi (decide (0 ≤ sd)))]) := by
            rw [upd_ne tne]
            exact upd_same
          exact dpAll_app (dpAll_im tk (im_rows S.mg.fm) hD2) (.cons (.tup (.inl (.inl ht)) (.cons (dp_tk tk fp hv) (.cons (.int _) (.cons (.int _) .nil)))) .nil)
        refine ⟨_, rfl, _, _, rfl, rfl, _, rfl, ?_⟩
        refine ifD (fun hz => ?_) (fun hz => ?_)
        · obtain ⟨hi', _⟩ := w1 hz
          obtain ⟨p, hp⟩ : ∃ p, A[i]? = some p := ⟨A[i]'(by omega), by simp [hi']⟩
          obtain ⟨v, hv1, hv2⟩ := dpAll_at dA2 hp
          refine ⟨_, rfl, .inl ⟨rfl, _, .inl (.inl hl2)⟩, _, rfl, _, rfl, a, ua, _, v, rfl, rfl, sA2, atI_nat hv1, by show 3 ≤ sizeLine; decide, fun t nt => ?_⟩
          refine ⟨l, us, _, rfl, rfl, (sm_upd nt) _ _ hl2, hlt, ?_⟩
          exact fin p v 1 0 t nt hv2 (fmAll_mem fA p (List.mem_of_getElem? hp)).1 (by rw [decide_eq_true (by omega)]; rfl) (by rw [decide_eq_false (by omega)]; rfl) (fun _ => hp) (fun z => by omega)
        refine ⟨_, rfl, _, _, rfl, rfl, _, rfl, ?_⟩
        refine ifD (fun hz2 => ?_) (fun hz2 => ?_)
        · obtain ⟨hj', _⟩ := w2 hz2
          obtain ⟨p, hp⟩ : ∃ p, B[j]? = some p := ⟨B[j]'(by omega), by simp [hj']⟩
          obtain ⟨v, hv1, hv2⟩ := dpAll_at dB2 hp
          refine ⟨_, rfl, .inl ⟨rfl, _, .inl (.inl hl2)⟩, _, rfl, _, rfl, b, ub, _, v, rfl, rfl, sB2, atI_nat hv1, by show 3 ≤ sizeLine; decide, fun t nt => ?_⟩
          refine ⟨l, us, _, rfl, rfl, (sm_upd nt) _ _ hl2, hlt, ?_⟩
          exact fin p v 0 1 t nt hv2 (fmAll_mem fB p (List.mem_of_getElem? hp)).1 (by rw [decide_eq_false (by omega)]; rfl) (by rw [decide_eq_true (by omega)]; rfl) (fun z => by omega) (fun _ => hp)
        · obtain ⟨p, hp, hp2⟩ := w3 (by omega)
          obtain ⟨v, hv1, hv2⟩ := dpAll_at dA2 hp
          refine ⟨_, rfl, .inl ⟨rfl, _, .inl (.inl hl2)⟩, _, rfl, _, rfl, a, ua, _, v, rfl, rfl, sA2, atI_nat hv1, by show 3 ≤ sizeLine; decide, fun t nt => ?_⟩
          refine ⟨l, us, _, rfl, rfl, (sm_upd nt) _ _ hl2, hlt, ?_⟩
          exact fin p v 1 1 t nt hv2 (fmAll_mem fA p (List.mem_of_getElem? hp)).1 (by rw [decide_eq_true (by omega)]; rfl) (by rw [decide_eq_true (by omega)]; rfl) (fun _ => hp) (fun _ => hp2)
      · rintro σ H3 ⟨p, us', rfl, k1, k2, sm3, hl3, hD3⟩
        have st : ∃ i' j' : Nat, i' = i + (if sd ≤ 0 then 1 else 0) ∧ j' = j + (if 0 ≤ sd then 1 else 0) ∧ MgI A B (R ++ [(p, decide (sd ≤ 0), decide (0 ≤ sd))]) i' j' ∧ (A.length - i') + (B.length - j') < m := by
          refine ⟨_, _, rfl, rfl, ?_⟩
          rcases Int.lt_trichotomy sd 0 with z | z | z
          · have := (w1 z).1
            rw [if_pos (by omega), if_neg (by omega), decide_eq_true (by omega), decide_eq_false (by omega)]
            exact ⟨S.left fA hA (k1 (by omega)) ((w1 z).2 p (k1 (by omega))), by omega⟩
          · have h1 := (List.getElem?_eq_some_iff.mp (k1 (by omega))).1
            rw [if_pos (by omega), if_pos (by omega), decide_eq_true (by omega), decide_eq_true (by omega)]
            exact ⟨S.both fA hA hB (k1 (by omega)) (k2 (by omega)), by omega⟩
          · have := (w2 z).1
            rw [if_neg (by omega), if_pos (by omega), decide_eq_false (by omega), decide_eq_true (by omega)]
            exact ⟨S.right fB hB (k2 (by omega)) ((w2 z).2 p (k2 (by omega))), by omega⟩
        obtain ⟨i', j', ei, ej, S', hm'⟩ := st
        refine cut (fun σ H4 => H4 = H3 ∧ σ = [some (.ref a), some (.ref b), some (.ref l), some (.int (i' : Nat)), some (.int (j : Nat)), some (.int sd)]) (fun D J => ?_) ?_
        · refine ⟨_, rfl, _, _, rfl, rfl, _, rfl, ?_⟩
          refine ifD (fun hz => ?_) (fun hz => ?_)
          · walk_at "r"
            rw [if_pos hz] at ei
            subst ei
            exact J.nx _ _ ⟨rfl, rfl⟩
          · rw [if_neg hz] at ei
            subst ei
            exact J.nx _ _ ⟨rfl, rfl⟩
        · rintro σ H4 ⟨rfl, rfl⟩
          refine ⟨_, rfl, _, _, rfl, rfl, _, rfl, ?_⟩
          refine ifD (fun hz => ?_) (fun hz => ?_)
          · walk_at "r"
            rw [if_pos hz] at ej
            subst ej
            exact B'.nx _ _ ⟨_, hm', i', j + 1, _, us', _, rfl, S', Nat.le_refl _, hl3, hD3, sm3⟩
          · rw [if_neg hz] at ej
            subst ej
            exact B'.nx _ _ ⟨_, hm', i', _, _, us', _, rfl, S', Nat.le_refl _, hl3, hD3, sm3⟩
end
end K13
set_option Elab.async false
set_option linter.all false
set_option maxRecDepth 100000
set_option pp.deepTerms false
set_option pp.maxSteps 1500
namespace K13
open PySem PySem.Spec PyProof.Rows L2 HX TV FM DX FB FC PM
local macro_rules | `(tactic| walk_at "r") => `(tactic| (repeat (first | refine Exists.intro _ (And.intro rfl ?_) | refine And.intro rfl ?_ | refine Exists.intro _ (Exists.intro _ (And.intro rfl (And.intro rfl ?_))) | refine And.intro (by omega) ?_ | refine And.intro (Or.inl (And.intro (by omega) (by omega))) ?_ | refine And.intro (Or.inr (And.intro (by omega) (by omega))) ?_ | refine And.intro (And.intro (by omega) (by omega)) ?_ | refine And.intro (And.intro (by decide) (And.intro (by decide) (by decide))) ?_ | refine Or.inl (Exists.intro _ (And.intro rfl ?_)) | (dsimp only [gName]; first | with_reducible refine seqC ?_ | with_reducible refine asgC ?_))))
local macro_rules | `(tactic| walk_at "s") => `(tactic| (repeat (first | refine Exists.intro _ (And.intro rfl ?_) | refine And.intro rfl ?_ | refine Exists.intro _ (Exists.intro _ (And.intro rfl (And.intro rfl ?_))) | refine And.intro (by omega) ?_ | refine And.intro (Or.inl (And.intro (by omega) (by omega))) ?_ | refine And.intro (Or.inr (And.intro (by omega) (by omega))) ?_ | refine And.intro (And.intro (by omega) (by omega)) ?_ | refine And.intro (And.intro (by decide) (And.intro (by decide) (by decide))) ?_ | refine Or.inl (Exists.intro _ (And.intro rfl ?_)) | refine Exists.intro _ (Exists.intro _ (And.intro rfl ?_)) | (dsimp only [gName]; first | with_reducible refine seqC ?_ | with_reducible refine asgC ?_))))
section
variable {P : Program} {w : World} {K : PySem.W.Frag} {mg : Str → Option Value} {base : Heap}
def tabV (f : Bool → Bool → Bool) : List V := [.int (bi (f false false)), .int (bi (f false true)), .int (bi (f true false)), .int (bi (f true true))]
theorem xor_bi (a b : Bool) : Builtin.bitXor (bi a) (bi b) = bi (a ^^ b) := by cases a <;> cases b <;> decide
theorem tab_at (f : Bool → Bool → Bool) (a b : Bool) : atI (tabV f) (2 * bi a + bi b) = some (.int (bi (f a b))) := by cases a <;> cases b <;> rfl
theorem comb_cons (f : Bool → Bool → Bool) (o t b : Bool) (p : PyData) (m n : Bool) (R : List PM.Row) : comb f o t b ((p, m, n) :: R) = if f (o ^^ m) (t ^^ n) = b then comb f (o ^^ m) (t ^^ n) b R else p :: comb f (o ^^ m) (t ^^ n) (f (o ^^ m) (t ^^ n)) R := rfl
theorem bi_inj {a b : Bool} (h : bi a = bi b) : a = b := by revert h; cases a <;> cases b <;> decide
theorem wtAll_sub {ds es : List PyData} (h : ds.Sublist es) : wtAll ds ≤ wtAll es := by
  induction h with
  | slnil => exact Nat.le_refl _
  | cons a _ ih => rw [wtAll_cons]; omega
  | cons_cons a _ ih => rw [wtAll_cons, wtAll_cons]; omega
/-- the form whose bits are f of the bits of two forms -/
def sp_cmb (K : PySem.W.Frag) (n : Nat) : Sp := fun vs H Q _ => ∃ (x y : V) (d e : PyData) (t : Addr) (f : Bool → Bool → Bool), vs = [x, y, .ref t] ∧ Dp K H x d ∧ Dp K H y e ∧ Fm d ∧ Fm e ∧ d.depth ≤ n + 1 ∧ e.depth ≤ n + 1 ∧ n ≤ 60 ∧ wt d + wt e ≤ 1000000 ∧
  (∀ H', SqT K H' t (tabV f)) ∧ f false false = false ∧
  ∀ (v : V) (r : PyData) H', Fm r → (∀ q, tb (val r) q = f (tb (val d) q) (tb (val e) q)) → r.depth ≤ n + 1 → wt r ≤ wt d + wt e + 140 → Dp K H' v r → Same H H' → Q v H'
end
end K13
set_option Elab.async false
set_option linter.all false
set_option maxRecDepth 100000
set_option pp.deepTerms false
set_option pp.maxSteps 1500
namespace K13
open PySem PySem.Spec PyProof.Rows L2 HX TV FM DX FB FC PM
local macro_rules | `(tactic| walk_at "r") => `(tactic| (repeat (first | refine Exists.intro _ (And.intro rfl ?_) | refine And.intro rfl ?_ | refine Exists.intro _ (Exists.intro _ (And.intro rfl (And.intro rfl ?_))) | refine And.intro (by omega) ?_ | refine And.intro (Or.inl (And.intro (by omega) (by omega))) ?_ | refine And.intro (Or.inr (And.intro (by omega) (by omega))) ?_ | refine And.intro (And.intro (by omega) (by omega)) ?_ | refine And.intro (And.intro (by decide) (And.intro (by decide) (by decide))) ?_ | refine Or.inl (Exists.intro _ (And.intro rfl ?_)) | (dsimp only [gName]; first | with_reducible refine seqC ?_ | with_reducible refine asgC ?_))))
local macro_rules | `(tactic| walk_at "s") => `(tactic| (repeat (first | refine Exists.intro _ (And.intro rfl ?_) | refine And.intro rfl ?_ | refine Exists.intro _ (Exists.intro _ (And.intro rfl (And.intro rfl ?_))) | refine And.intro (by omega) ?_ | refine And.intro (Or.inl (And.intro (by omega) (by omega))) ?_ | refine And.intro (Or.inr (And.intro (by omega) (by omega))) ?_ | refine And.intro (And.intro (by omega) (by omega)) ?_ | refine And.intro (And.intro (by decide) (And.intro (by decide) (by decide))) ?_ | refine Or.inl (Exists.intro _ (And.intro rfl ?_)) | refine Exists.intro _ (Exists.intro _ (And.intro rfl ?_)) | (dsimp only [gName]; first | with_reducible refine seqC ?_ | with_reducible refine asgC ?_))))
section
variable {P : Program} {w : World} {K : PySem.W.Frag} {mg : Str → Option Value} {base : Heap}
theorem dpAll_take {H : Hp} {us : List V} {A : List PyData} (h : DpAll K H us A) (i : Nat) : DpAll K H (us.take i) (A.take i) := by
  induction i generalizing us A with
  | zero => simp; exact .nil
  | succ i ih =>
    cases h with
    | nil => simp; exact .nil
    | cons h1 h2 => simp; exact .cons h1 (ih h2)
theorem dpAll_drop {H : Hp} {us : List V} {A : List PyData} (h : DpAll K H us A) (i : Nat) : DpAll K H (us.drop i) (A.drop i) := by
  induction i generalizing us A with
  | zero => simpa using h
  | succ i ih =>
    cases h with
    | nil => simp; exact .nil
    | cons h1 h2 => simp; exact ih h2
/-- a place put into a row, or taken out of it -/
def sp_tog (K : PySem.W.Frag) (n : Nat) : Sp := fun vs H Q _ => ∃ (a : Addr) (p : V) (us : List V) (A : List PyData) (d : PyData), vs = [.ref a, p] ∧ SqT K H a us ∧ DpAll K H us A ∧ FmAll A ∧ Asc (vals A) ∧ Dp K H p d ∧ Fm d ∧ 0 ≤ val d ∧
  PyData.depthAll A ≤ n ∧ d.depth ≤ n ∧ n ≤ 60 ∧ A.length ≤ 14000000 ∧
  ∀ (l : Addr) (us' : List V) (B : List PyData) H', SqT K H' l us' → DpAll K H' us' B → Tog A d B → Same H H' → Q (.ref l) H'
theorem ok_toggled (T : Top K mg) (n : Nat) : FnOk P w K mg base CX0 (n + 4) T.f_toggled T.fd_toggled ["found", "place"]  (sp_tog K n) := by
  have G_order : FnOk P w K mg base CX0 (n + 3) T.f_order T.fd_order ["x", "y"]  (sp_ord K n) := ok_order T n
  refine T.F_toggled.ok sc_toggled (fun vs H Q E h => ?_) (fun cdv Ar outer s H vs Q E hr h => ?_)
  · obtain ⟨a, p, us, A, d, rfl, _⟩ := h
    rfl
  · obtain ⟨a, p, us, A, d, rfl, sA, dA, fA, hA, hp, fd, d0, depA, depD, hn, hlen, q⟩ := h
    have lA := dpAll_len dA
    refine ⟨_, (pss_cons (ps_set (i := 2) sc_toggled.nd rfl (Or.inl rfl) pe_int)
    (pss_cons (ps_while PassesOwn.never (PW.pt (pw_and (pt_cmpR op_lt (pv 2) (pe_callB call_len_seq (by rfl) T.m_len PySem.boot_len (pa_cons (pv 0) pa_nil)) (nomark _)) (pw_and1 (pt_cmpR op_lt (pe_call G_order (hr.mono (by omega)) (by rfl) T.g_order T.F_order.kp T.b_order .nil pass0 (pa_cons (pe_ix ix_tup (pv 0) (pv 2) (fun _ _ => rfl)) (pa_cons (pv 1) pa_nil))) pe_int (nomark _)))))
      (pss_one (ps_aug (i := 2) sc_toggled.nd rfl (Or.inl rfl) pe_int ip_add)))
    (pss_cons (ps_if (PW.pt (pw_and (pt_cmpR op_lt (pv 2) (pe_callB call_len_seq (by rfl) T.m_len PySem.boot_len (pa_cons (pv 0) pa_nil)) (nomark _)) (pw_and1 (pt_cmpR (op_eqD hr.units) (pe_ix ix_tup (pv 0) (pv 2) (fun _ _ => rfl)) (pv 1) (nomark _)))))
      (pss_one (ps_ret (pe_op op_catB (pe_slice sl_tupB (pv 0) po_none (po_some (pv 2))) (pe_slice sl_tupB (pv 0) (po_some (pe_op op_add (pv 2) pe_int)) po_none))))
      pss_nil)
    (pss_one (ps_ret (pe_op op_catB (pe_op op_catB (pe_slice sl_tupB (pv 0) po_none (po_some (pv 2))) (pe_tup (pa_cons (pv 1) pa_nil))) (pe_slice sl_tupB (pv 0) (po_some (pv 2)) po_none))))))), ?_⟩
    walk_at "r"
    refine cut (fun σ H' => ∃ i : Nat, σ = [some (.ref a), some p, some (.int (i : Nat))] ∧ i ≤ A.length ∧ (∀ x ∈ A.take i, vl x < vl d) ∧ (∀ e, A[i]? = some e → vl d ≤ vl e) ∧ Same H H') (fun D J => ?_) ?_
    · refine ⟨fun m σ H' => ∃ i : Nat, σ = [some (.ref a), some p, some (.int (i : Nat))] ∧ i + m = A.length ∧ (∀ x ∈ A.take i, vl x < vl d) ∧ Same H H', ⟨A.length, 0, rfl, by omega, by simp, Same.refl _⟩, ?_⟩
      rintro m σ H' ⟨i, rfl, hm, hlt, sm⟩
      refine ⟨_, rfl, _, rfl, a, us, rfl, .inr (HX.Same.tup sm sA), _, _, rfl, rfl, _, rfl, ?_⟩
      rw [lA]
      refine ifD (fun hc => ?_) (fun hc => ?_)
      · obtain ⟨e, he⟩ : ∃ e, A[i]? = some e := ⟨A[i]'(by omega), by simp [show i < A.length by omega]⟩
        obtain ⟨v, hv1, hv2⟩ := dpAll_at (dpAll_tk (tk_same sm) fA dA) he
        have me := fmAll_mem fA e (List.mem_of_getElem? he)
        have de := dep_mem (List.mem_of_getElem? he)
        refine ⟨_, rfl, _, rfl, a, us, _, v, rfl, rfl, HX.Same.tup sm sA, atI_nat hv1, _, rfl, ?_⟩
        refine ⟨v, p, e, d, rfl, hv2, dp_tk (tk_same sm) fd hp, me.1, fd, by omega, depD, hn, fun H2 sm2 => ?_⟩
        have ways := sg_ways me.1 fd me.2 d0
        walk_at "r"
        refine ifD (fun hz => wb fun D' B' => ?_) (fun hz => ?_)
        · walk_at "r"
          refine B'.nx _ _ ⟨m - 1, by omega, i + 1, rfl, by omega, fun x hx => ?_, sm.trans sm2⟩
          rw [take_one he] at hx
          rcases List.mem_append.mp hx with hx | hx
          · exact hlt x hx
          · rw [List.mem_singleton.mp hx]
            exact ways.1 hz
        · refine J.nx _ _ ⟨i, rfl, by omega, hlt, fun e' he' => ?_, sm.trans sm2⟩
          rw [he] at he'
          cases he'
          apply Nat.le_of_not_lt
          intro hlt2
          apply hz
          have : sg (val e) (val d) = -1 := sg_lt (by have := me.2; unfold vl at hlt2; omega)
          rw [this]
          decide
      · refine iteF ?_
        refine J.nx _ _ ⟨i, rfl, by omega, hlt, fun e he => ?_, sm⟩
        have := (List.getElem?_eq_some_iff.mp he).1
        omega
    · rintro σ H' ⟨i, rfl, hi, hlt, hge, sm⟩
      have sA' := HX.Same.tup sm sA
      have dA' := dpAll_tk (tk_same sm) fA dA
      have hp' := dp_tk (tk_same sm) fd hp
      refine ⟨_, rfl, _, rfl, a, us, rfl, .inr sA', _, _, rfl, rfl, _, rfl, ?_⟩
      rw [lA]
      by_cases heq : A[i]? = some d
      · have hil := (List.getElem?_eq_some_iff.mp heq).1
        refine ifD (fun _ => ?_) (fun z => absurd (by omega) z)
        have he := heq
        obtain ⟨v, hv1, hv2⟩ := dpAll_at dA' he
        refine ⟨_, rfl, _, rfl, a, us, _, v, rfl, rfl, sA', atI_nat hv1, _, rfl, _, _, hv2, hp', shaped_fm fd (by omega), shaped_fm fd (by omega), _, rfl, ?_⟩
        rw [eqv_self fd]
        refine iteT ?_
        refine ⟨_, rfl, _, rfl, _, rfl, a, us, rfl, sA', fun l1 H1 sm1 sl1 => ?_⟩
        rw [cut_to] at sl1
        refine ⟨_, rfl, _, rfl, _, _, rfl, rfl, _, rfl, a, us, rfl, HX.Same.tup sm1 sA', fun l2 H2 sm2 sl2 => ?_⟩
        rw [show ((i : Nat) : Int) + 1 = ((i + 1 : Nat) : Int) by omega, cut_from] at sl2
        refine ⟨l1, l2, _, _, rfl, rfl, HX.Same.tup sm2 sl1, sl2, len_le (by rw [List.length_take, List.length_drop]; omega), fun l3 H3 sm3 sl3 => ?_⟩
        have smm := (sm1.trans sm2).trans sm3
        have tk := tk_same smm
        refine q l3 _ (A.take i ++ A.drop (i + 1)) H3 sl3 (dpAll_app (dpAll_take (dpAll_tk tk fA dA') i) (dpAll_drop (dpAll_tk tk fA dA') (i + 1))) ⟨A.take i, A.drop i, by simp, hlt, .inl ⟨A.drop (i + 1), drop_one he, rfl⟩⟩ (sm.trans smm)
      refine ifB ?_ (fun hc rest => ?_)
      case refine_2 =>
        have hc : ((i : Nat) : Int) < ((A.length : Nat) : Int) := of_decide_eq_true hc
        obtain ⟨e, he⟩ : ∃ e, A[i]? = some e := ⟨A[i]'(by omega), by simp [show i < A.length by omega]⟩
        obtain ⟨v, hv1, hv2⟩ := dpAll_at dA' he
        have me := fmAll_mem fA e (List.mem_of_getElem? he)
        have de := dep_mem (List.mem_of_getElem? he)
        refine ⟨_, rfl, _, rfl, a, us, _, v, rfl, rfl, sA', atI_nat hv1, _, rfl, _, _, hv2, hp', shaped_fm me.1 (by omega), shaped_fm fd (by omega), _, rfl, ?_⟩
        rw [eqv_val me.1 fd]
        exact ifD (fun hed => absurd (fm_inj me.1 fd hed ▸ he) heq) (fun _ => rest)
      refine ⟨_, rfl, _, rfl, _, rfl, a, us, rfl, sA', fun l1 H1 sm1 sl1 => ?_⟩
      rw [cut_to] at sl1
      refine ⟨_, rfl, by show 1 ≤ sizeLine; decide, fun t nt => ?_⟩
      have st := sm_upd (o := .tup [p]) nt
      refine ⟨l1, t, _, _, rfl, rfl, HX.Same.tup st sl1, .inl (.inl upd_same), len_le (by rw [List.length_take, List.length_singleton]; omega), fun l2 H2 sm2 sl2 => ?_⟩
      have s2 := (sm1.trans st).trans sm2
      refine ⟨_, rfl, _, rfl, _, rfl, a, us, rfl, HX.Same.tup s2 sA', fun l3 H3 sm3 sl3 => ?_⟩
      rw [cut_from] at sl3
      refine ⟨l2, l3, _, _, rfl, rfl, HX.Same.tup sm3 sl2, sl3, len_le (by rw [List.length_append, List.length_take, List.length_drop, List.length_singleton]; omega), fun l4 H4 sm4 sl4 => ?_⟩
      have smm := (s2.trans sm3).trans sm4
      have tk := tk_same smm
      have hgt : ∀ x ∈ A.drop i, vl d < vl x := fun x hx => by
        by_cases hil : i < A.length
        · obtain ⟨e, he⟩ : ∃ e, A[i]? = some e := ⟨A[i]'hil, by simp [hil]⟩
          have me := fmAll_mem fA e (List.mem_of_getElem? he)
          have h1 := hge e he
          have h2 : vl d ≠ vl e := fun z => heq (by
            have : e = d := fm_inj me.1 fd (by have := me.2; unfold vl at z; omega)
            rw [he, this])
          rw [drop_one he] at hx
          rcases List.mem_cons.mp hx with rfl | hx
          · omega
          · have := asc_tail hA he x hx
            omega
        · rw [List.drop_of_length_le (by omega)] at hx
          simp at hx
      refine q l4 _ (A.take i ++ [d] ++ A.drop i) H4 sl4 ?_ ⟨A.take i, A.drop i, by simp, hlt, .inr ⟨hgt, by simp⟩⟩ (sm.trans smm)
      exact dpAll_app (dpAll_app (dpAll_take (dpAll_tk tk fA dA') i) (.cons (dp_tk tk fd hp') .nil)) (dpAll_drop (dpAll_tk tk fA dA') i)
end
end K13
set_option Elab.async false
set_option linter.all false
set_option maxRecDepth 100000
set_option pp.deepTerms false
set_option pp.maxSteps 1500
namespace K13
open PySem PySem.Spec PyProof.Rows L2 HX TV FM DX FB FC PM
local macro_rules | `(tactic| walk_at "r") => `(tactic| (repeat (first | refine Exists.intro _ (And.intro rfl ?_) | refine And.intro rfl ?_ | refine Exists.intro _ (Exists.intro _ (And.intro rfl (And.intro rfl ?_))) | refine And.intro (by omega) ?_ | refine And.intro (Or.inl (And.intro (by omega) (by omega))) ?_ | refine And.intro (Or.inr (And.intro (by omega) (by omega))) ?_ | refine And.intro (And.intro (by omega) (by omega)) ?_ | refine And.intro (And.intro (by decide) (And.intro (by decide) (by decide))) ?_ | refine Or.inl (Exists.intro _ (And.intro rfl ?_)) | (dsimp only [gName]; first | with_reducible refine seqC ?_ | with_reducible refine asgC ?_))))
local macro_rules | `(tactic| walk_at "s") => `(tactic| (repeat (first | refine Exists.intro _ (And.intro rfl ?_) | refine And.intro rfl ?_ | refine Exists.intro _ (Exists.intro _ (And.intro rfl (And.intro rfl ?_))) | refine And.intro (by omega) ?_ | refine And.intro (Or.inl (And.intro (by omega) (by omega))) ?_ | refine And.intro (Or.inr (And.intro (by omega) (by omega))) ?_ | refine And.intro (And.intro (by omega) (by omega)) ?_ | refine And.intro (And.intro (by decide) (And.intro (by decide) (by decide))) ?_ | refine Or.inl (Exists.intro _ (And.intro rfl ?_)) | refine Exists.intro _ (Exists.intro _ (And.intro rfl ?_)) | (dsimp only [gName]; first | with_reducible refine seqC ?_ | with_reducible refine asgC ?_))))
section
variable {P : Program} {w : World} {K : PySem.W.Frag} {mg : Str → Option Value} {base : Heap}
theorem fm6465 : Fm (.tuple [.int 64, .int 65]) ∧ val (.tuple [.int 64, .int 65]) = 18446744073709551616 := by
  have f1 := fm_small (ts := [64, 65]) ⟨by decide, trivial⟩ (by intro t ht; simp at ht; omega) ⟨65, by simp, by decide⟩
  have e1 : tv [64, 65] = 18446744073709551616 := by decide
  rw [e1] at f1
  exact f1
/-- x + 1 of a form of depth at most n -/
def sp_p1 (K : PySem.W.Frag) (n : Nat) : Sp := fun vs H Q _ => ∃ (x : V) (d : PyData), vs = [x] ∧ Dp K H x d ∧ Fm d ∧ d.depth ≤ n ∧ n ≤ 50 ∧ wt d ≤ 13000000 ∧
  ∀ (v : V) (r : PyData) H', Fm r → val r = val d + 1 → r.depth ≤ n + 1 → wt r ≤ (n + 1) * wt d + 4 → Dp K H' v r → Same H H' → Q v H'
theorem p1_int {H : Hp} {i : Int} {n : Nat} {Q : VK} (hF : Fm (.int i)) (q : ∀ (v : V) (r : PyData) H', Fm r → val r = val (.int i) + 1 → r.depth ≤ n + 1 → wt r ≤ (n + 1) * wt (.int i) + 4 → Dp K H' v r → Same H H' → Q v H') :
    (i < 18446744073709551615 → Q (.int (i + 1)) H) ∧ (¬ i < 18446744073709551615 → ∀ t, H t = none → Q (.ref t) (upd H t (.tup [.int 64, .int 65]))) := by
  rw [fm_int] at hF
  rw [val_int, wt_int] at q
  refine ⟨fun h => ?_, fun h t nt => ?_⟩
  · exact q _ (.int (i + 1)) H ((fm_int _).mpr (by omega)) (val_int _) (by rw [depth_int]; omega) (by rw [wt_int]; omega) (.int _) (Same.refl _)
  · refine q _ (.tuple [.int 64, .int 65]) _ fm6465.1 ?_ (by rw [depth_tuple, depthAll_cons, depthAll_cons, depthAll_nil, depth_int, depth_int]; omega) (by rw [wt_tuple, wtAll_cons, wtAll_cons, wtAll_nil, wt_int, wt_int]; omega) (.tup (.inl (.inl upd_same)) (.cons (.int _) (.cons (.int _) .nil))) (sm_upd nt)
    rw [fm6465.2]
    omega
theorem ok_plus_one (T : Top K mg) : ∀ n, FnOk P w K mg base CX0 (n + 5) T.f_plus_one T.fd_plus_one ["x"]  (sp_p1 K n) := by
  have G_made : FnOk P w K mg base CX0 (1) T.f_made T.fd_made ["found"]  (sp_made K) := ok_made T
  intro n
  induction n with
  | zero =>
    refine T.F_plus_one.ok sc_plus_one (fun vs H Q E h => ?_) (fun cdv Ar outer s H vs Q E hr h => ?_)
    · obtain ⟨x, d, rfl, _⟩ := h
      rfl
    · obtain ⟨x, d, rfl, hx, hF, hd, hn, hw, q⟩ := h
      refine ⟨_, (pss_cons (ps_if (pt_val (pe_callB call_isi (by rfl) T.m_isinstance (by decide +kernel) (pa_cons (pv 0) (pa_cons (pe_bltn (v := .ty "int") (by rfl) T.m_int (by decide +kernel) rfl) pa_nil))) (fun _ => rfl))
      (pss_cons (ps_if (pt_cmpR op_lt (pv 0) (pe_glob (v := .int (18446744073709551615)) (by rfl) T.c_PLAIN_MOST ⟨_, rfl⟩) (nomark _))
        (pss_one (ps_ret (pe_op op_add (pv 0) pe_int)))
        pss_nil)
      (pss_one (ps_ret (pe_tup (pa_cons pe_int (pa_cons pe_int pa_nil))))))
      pss_nil)
    (pss_cons (ps_if (pt_cmpR (op_eqD hr.units) (pe_ix ix_tup (pv 0) pe_int (fun _ _ => rfl)) pe_int (nomark _))
      (pss_one ps_never)
      pss_nil)
    (pss_one ps_never))), ?_⟩
      rcases fm_cases hF with ⟨i, rfl⟩ | ⟨ds, rfl⟩
      · cases hx
        obtain ⟨q1, q2⟩ := p1_int (H := H) hF q
        refine ⟨_, rfl, _, _, _, _, true, rfl, .ty "int", tyI _, k_ii, true, rfl, iteT ?_⟩
        walk_at "r"
        refine ifD (fun h => ?_) (fun h => ?_)
        · walk_at "r"
          exact q1 h
        · exact ⟨by show 2 ≤ sizeLine; decide, fun t nt => q2 h t nt⟩
      · rw [depth_tuple] at hd
        omega
  | succ n ih =>
    have G_plus_one : FnOk P w K mg base CX0 (n + 5) T.f_plus_one T.fd_plus_one ["x"]  (sp_p1 K n) := ih
    have G_toggled : FnOk P w K mg base CX0 (n + 5) T.f_toggled T.fd_toggled ["found", "place"]  (sp_tog K (n + 1)) := ok_toggled T (n + 1)
    refine T.F_plus_one.ok sc_plus_one (fun vs H Q E h => ?_) (fun cdv Ar outer s H vs Q E hr h => ?_)
    · obtain ⟨x, d, rfl, _⟩ := h
      rfl
    · obtain ⟨x, d, rfl, hx, hF, hd, hn, hw, q⟩ := h
      refine ⟨_, (pss_cons (ps_if (pt_val (pe_callB call_isi (by rfl) T.m_isinstance (by decide +kernel) (pa_cons (pv 0) (pa_cons (pe_bltn (v := .ty "int") (by rfl) T.m_int (by decide +kernel) rfl) pa_nil))) (fun _ => rfl))
      (pss_cons (ps_if (pt_cmpR op_lt (pv 0) (pe_glob (v := .int (18446744073709551615)) (by rfl) T.c_PLAIN_MOST ⟨_, rfl⟩) (nomark _))
        (pss_one (ps_ret (pe_op op_add (pv 0) pe_int)))
        pss_nil)
      (pss_one (ps_ret (pe_tup (pa_cons pe_int (pa_cons pe_int pa_nil))))))
      pss_nil)
    (pss_cons (ps_if (pt_cmpR (op_eqD hr.units) (pe_ix ix_tup (pv 0) pe_int (fun _ _ => rfl)) pe_int (nomark _))
      (pss_one (ps_ret (pe_call G_made (hr.mono (by omega)) (by rfl) T.g_made T.F_made.kp T.b_made .nil pass0 (pa_cons (pe_call G_toggled (hr.mono (by omega)) (by rfl) T.g_toggled T.F_toggled.kp T.b_toggled .nil pass0 (pa_cons (pe_slice sl_tupB (pv 0) (po_some pe_int) po_none) (pa_cons (pe_call G_plus_one (hr.mono (by omega)) (by rfl) T.g_plus_one T.F_plus_one.kp T.b_plus_one .nil pass0 (pa_cons (pe_ix ix_tup (pv 0) pe_int (fun _ _ => rfl)) pa_nil)) pa_nil))) pa_nil))))
      pss_nil)
    (pss_one (ps_ret (pe_call G_made (hr.mono (by omega)) (by rfl) T.g_made T.F_made.kp T.b_made .nil pass0 (pa_cons (pe_op op_catB (pe_tup (pa_cons pe_int pa_nil)) (pe_call G_toggled (hr.mono (by omega)) (by rfl) T.g_toggled T.F_toggled.kp T.b_toggled .nil pass0 (pa_cons (pv 0) (pa_cons pe_int pa_nil)))) pa_nil)))))), ?_⟩
      rcases fm_cases hF with ⟨i, rfl⟩ | ⟨ds, rfl⟩
      · cases hx
        obtain ⟨q1, q2⟩ := p1_int (H := H) hF q
        refine ⟨_, rfl, _, _, _, _, true, rfl, .ty "int", tyI _, k_ii, true, rfl, iteT ?_⟩
        walk_at "r"
        refine ifD (fun h => ?_) (fun h => ?_)
        · walk_at "r"
          exact q1 h
        · exact ⟨by show 2 ≤ sizeLine; decide, fun t nt => q2 h t nt⟩
      · have hF' := (fm_tuple _).mp hF
        rw [depth_tuple] at hd
        rw [val_tuple] at q
        rw [wt_tuple] at q hw
        have hlw := len_wt ds
        cases hx with
        | @tup a xs _ h1 h2 =>
          refine ⟨_, rfl, _, _, _, _, false, rfl, .ty "int", tyT h1, k_ti, false, rfl, iteF ?_⟩
          cases ds with
          | nil => exact absurd rfl (fm_ne hF)
          | cons e0 er =>
            cases h2 with
            | @cons v0 vr _ _ g1 g2 =>
              have f0 := fmAll_mem hF'.1 e0 (by simp)
              have dep0 := dep_mem (ds := e0 :: er) (e := e0) (by simp)
              refine ⟨_, rfl, a, _, _, v0, rfl, rfl, h1, atI_nat (j := 0) rfl, _, .int 0, g1, .int 0, shaped_fm f0.1 (by omega), shaped_fm ((fm_int 0).mpr (by decide)) (by rw [depth_int]; decide), _, rfl, ?_⟩
              rw [eqv_val f0.1 ((fm_int 0).mpr (by decide)), val_int]
              refine ifD (fun hz => ?_) (fun hz => ?_)
              · have e00 : e0 = .int 0 := fm_inj f0.1 ((fm_int 0).mpr (by decide)) (by rw [val_int]; exact hz)
                subst e00
                cases er with
                | nil =>
                  obtain ⟨t, ht, h64⟩ := hF'.2.2
                  rw [vals_cons, vals_nil, val_int] at ht
                  simp at ht
                  omega
                | cons e1 r =>
                  cases g2 with
                  | @cons v1 vr _ _ g2 g3 =>
                    have f1 := fmAll_mem hF'.1 e1 (by simp)
                    have dep1 := dep_mem (ds := .int 0 :: e1 :: r) (e := e1) (by simp)
                    have fr : FmAll (e1 :: r) := ((fmAll_cons _ _).mp hF'.1).2.2
                    have ar : Asc (vals (e1 :: r)) := by
                      have := hF'.2.1
                      rw [vals_cons] at this
                      exact this.tail
                    have depr : PyData.depthAll (e1 :: r) ≤ n := by
                      rw [depthAll_cons] at hd
                      omega
                    have hwt : wtAll (.int 0 :: e1 :: r) = 1 + wtAll (e1 :: r) := by rw [wtAll_cons, wt_int]
                    have w1 := wt_mem (ds := e1 :: r) (e := e1) (by simp)
                    refine ⟨_, rfl, _, rfl, a, _, rfl, h1, fun l1 H1 sm1 sl1 => ?_⟩
                    rw [show (1 : Int) = ((1 : Nat) : Int) from rfl, cut_from] at sl1
                    refine ⟨_, rfl, a, _, _, v1, rfl, rfl, HX.Same.tup sm1 h1, atI_nat (j := 1) rfl, ?_⟩
                    refine ⟨v1, e1, rfl, dp_tk (tk_same sm1) f1.1 g2, f1.1, by omega, by omega, by omega, fun vp p H2 fp vvp depp wp dpp sm2 => ?_⟩
                    have dr2 : DpAll K H2 (v1 :: vr) (e1 :: r) := dpAll_tk (tk_same (sm1.trans sm2)) fr (.cons g2 g3)
                    refine ⟨l1, vp, _, e1 :: r, p, rfl, HX.Same.tup sm2 sl1, dr2, fr, ar, dpp, fp, by have := f1.2; omega, by omega, by omega, by omega, by rw [List.length_cons] at hlw; omega, fun l us' B H3 sl dB tg sm3 => ?_⟩
                    obtain ⟨fB, aB⟩ := tg.row fr ar fp (by have := f1.2; omega)
                    refine ⟨l, us', B, rfl, .inr sl, dB, fB, aB, fun v' r' H4 k1 k2 k3 k4 k5 sm4 => ?_⟩
                    have hodd := tg.odd ar (by have := f1.2; unfold vl; omega)
                    refine q v' r' H4 k1 ?_ ?_ ?_ k5 (((sm1.trans sm2).trans sm3).trans sm4)
                    · rw [k2, hodd, tv_zero, vals_cons, tv_cons]
                      show (2 : Int) ^ vl e1 + tv (vals r) = -1 - (-(2 ^ vl e1) - tv (vals r)) + 1
                      omega
                    · have : PyData.depthAll B ≤ n + 1 := depthAll_le.mpr fun z hz => by
                        rcases tg.mem z hz with hz | hz
                        · have := dep_mem hz
                          omega
                        · rw [hz]
                          exact depp
                      omega
                    · have h5 := tg.wt
                      have h6 : (n + 1) * wt e1 ≤ (n + 1) * wtAll (e1 :: r) := Nat.mul_le_mul_left _ w1
                      rw [hwt]
                      have h7 : (n + 1 + 1) * (1 + (1 + wtAll (e1 :: r))) = (n + 1) * wtAll (e1 :: r) + wtAll (e1 :: r) + 2 * (n + 2) := by
                        rw [Nat.add_mul, Nat.mul_add, Nat.mul_add]
                        omega
                      omega
              · have pos : ∀ z ∈ e0 :: er, 0 < vl z := fun z hz' => by
                  have h0 := f0.2
                  have : 0 < vl e0 := by unfold vl; omega
                  rcases List.mem_cons.mp hz' with rfl | hz'
                  · exact this
                  · have := hF'.2.1
                    rw [vals_cons] at this
                    have := Asc.lt this (vl z) (by rw [vals_map]; exact List.mem_map.mpr ⟨z, hz', rfl⟩)
                    unfold vl at *
                    omega
                refine ⟨by show 1 ≤ sizeLine; decide, fun t nt => ?_⟩
                have st := sm_upd (o := .tup [.int 0]) nt
                refine ⟨_, rfl, a, .int 1, _, e0 :: er, .int 1, rfl, HX.Same.tup st h1, dpAll_tk (tk_same st) hF'.1 (.cons g1 g2), hF'.1, hF'.2.1, .int 1, (fm_int 1).mpr (by decide), by rw [val_int]; decide, by omega, by rw [depth_int]; omega, by omega, by omega, fun l us' B H3 sl dB tg sm3 => ?_⟩
                obtain ⟨fB, aB⟩ := tg.row hF'.1 hF'.2.1 ((fm_int 1).mpr (by decide)) (by rw [val_int]; decide)
                have hev := tg.even (by unfold vl; rw [val_int]; rfl) pos
                have hlB := tg.len
                have lB := dpAll_len dB
                refine ⟨t, l, _, us', rfl, rfl, .inl (.inl (sm3 _ _ upd_same)), sl, len_le (by rw [List.length_singleton]; omega), fun l4 H4 sm4 sl4 => ?_⟩
                refine ⟨l4, _, .int 0 :: B, rfl, .inr sl4, .cons (.int 0) (dpAll_tk (tk_same sm4) fB dB), fmAll_zero fB, asc_zero aB hev.2, fun v' r' H5 k1 k2 k3 k4 k5 sm5 => ?_⟩
                refine q v' r' H5 k1 ?_ ?_ ?_ k5 (((st.trans sm3).trans sm4).trans sm5)
                · rw [k2, tv_zero, hev.1]
                  omega
                · have : PyData.depthAll (.int 0 :: B) ≤ n + 1 := depthAll_le.mpr fun z hz => by
                    rcases List.mem_cons.mp hz with rfl | hz
                    · rw [depth_int]
                      omega
                    · rcases tg.mem z hz with hz | hz
                      · have := dep_mem hz
                        omega
                      · rw [hz, depth_int]
                        omega
                  omega
                · have h5 := tg.wt
                  rw [wt_int] at h5
                  rw [wtAll_cons, wt_int] at k4
                  have : 1 + wtAll (e0 :: er) ≤ (n + 1 + 1) * (1 + wtAll (e0 :: er)) := Nat.le_mul_of_pos_left _ (by omega)
                  omega
end
end K13
set_option Elab.async false
set_option linter.all false
set_option maxRecDepth 100000
set_option pp.deepTerms false
set_option pp.maxSteps 1500
namespace K13
open PySem PySem.Spec PyProof.Rows L2 HX TV FM DX FB FC PM
local macro_rules | `(tactic| walk_at "r") => `(tactic| (repeat (first | refine Exists.intro _ (And.intro rfl ?_) | refine And.intro rfl ?_ | refine Exists.intro _ (Exists.intro _ (And.intro rfl (And.intro rfl ?_))) | refine And.intro (by omega) ?_ | refine And.intro (Or.inl (And.intro (by omega) (by omega))) ?_ | refine And.intro (Or.inr (And.intro (by omega) (by omega))) ?_ | refine And.intro (And.intro (by omega) (by omega)) ?_ | refine And.intro (And.intro (by decide) (And.intro (by decide) (by decide))) ?_ | refine Or.inl (Exists.intro _ (And.intro rfl ?_)) | (dsimp only [gName]; first | with_reducible refine seqC ?_ | with_reducible refine asgC ?_))))
local macro_rules | `(tactic| walk_at "s") => `(tactic| (repeat (first | refine Exists.intro _ (And.intro rfl ?_) | refine And.intro rfl ?_ | refine Exists.intro _ (Exists.intro _ (And.intro rfl (And.intro rfl ?_))) | refine And.intro (by omega) ?_ | refine And.intro (Or.inl (And.intro (by omega) (by omega))) ?_ | refine And.intro (Or.inr (And.intro (by omega) (by omega))) ?_ | refine And.intro (And.intro (by omega) (by omega)) ?_ | refine And.intro (And.intro (by decide) (And.intro (by decide) (by decide))) ?_ | refine Or.inl (Exists.intro _ (And.intro rfl ?_)) | refine Exists.intro _ (Exists.intro _ (And.intro rfl ?_)) | (dsimp only [gName]; first | with_reducible refine seqC ?_ | with_reducible refine asgC ?_))))
section
variable {P : Program} {w : World} {K : PySem.W.Frag} {mg : Str → Option Value} {base : Heap}
/-- ~x of a form -/
def sp_inv (K : PySem.W.Frag) : Sp := fun vs H Q _ => ∃ (x : V) (d : PyData), vs = [x] ∧ Dp K H x d ∧ Fm d ∧ d.depth ≤ 60 ∧ wt d ≤ 12000000 ∧
  ∀ (v : V) (r : PyData) H', Fm r → val r = -val d - 1 → r.depth ≤ d.depth → wt r ≤ wt d + 1 → Dp K H' v r → Same H H' → Q v H'
theorem ok_inverted (T : Top K mg) {k : Nat} : FnOk P w K mg base CX0 (k + 1) T.f_inverted T.fd_inverted ["x"]  (sp_inv K) := by
  refine T.F_inverted.ok sc_inverted (fun vs H Q E h => ?_) (fun cdv Ar outer s H vs Q E hr h => ?_)
  · obtain ⟨x, d, rfl, _⟩ := h
    rfl
  · obtain ⟨x, d, rfl, hx, hF, hd, hw, q⟩ := h
    refine ⟨_, (pss_cons (ps_if (pt_val (pe_callB call_isi (by rfl) T.m_isinstance (by decide +kernel) (pa_cons (pv 0) (pa_cons (pe_bltn (v := .ty "int") (by rfl) T.m_int (by decide +kernel) rfl) pa_nil))) (fun _ => rfl))
      (pss_one (ps_ret (pe_op op_sub (pe_un un_neg (pv 0)) pe_int)))
      pss_nil)
    (pss_cons (ps_if (pt_cmpR (op_eqD hr.units) (pe_ix ix_tup (pv 0) pe_int (fun _ _ => rfl)) pe_int (nomark _))
      (pss_one (ps_ret (pe_slice sl_tupB (pv 0) (po_some pe_int) po_none)))
      pss_nil)
    (pss_one (ps_ret (pe_op op_catB (pe_tup (pa_cons pe_int pa_nil)) (pv 0)))))), ?_⟩
    rcases fm_cases hF with ⟨i, rfl⟩ | ⟨ds, rfl⟩
    · cases hx
      refine ⟨_, rfl, _, _, _, _, true, rfl, .ty "int", tyI _, k_ii, true, rfl, iteT ?_⟩
      walk_at "r"
      rw [fm_int] at hF
      rw [val_int, wt_int] at q
      exact q _ (.int (-i - 1)) H ((fm_int _).mpr (by omega)) (val_int _) (by rw [depth_int]; omega) (by rw [wt_int]; omega) (.int _) (Same.refl _)
    · have hF' := (fm_tuple _).mp hF
      rw [depth_tuple] at hd q
      rw [val_tuple] at q
      rw [wt_tuple] at q hw
      have hlw := len_wt ds
      cases hx with
      | @tup a xs _ h1 h2 =>
        refine ⟨_, rfl, _, _, _, _, false, rfl, .ty "int", tyT h1, k_ti, false, rfl, iteF ?_⟩
        cases ds with
        | nil => exact absurd rfl (fm_ne hF)
        | cons e0 er =>
          cases h2 with
          | @cons v0 vr _ _ g1 g2 =>
            have f0 := fmAll_mem hF'.1 e0 (by simp)
            have dep0 := dep_mem (ds := e0 :: er) (e := e0) (by simp)
            have lvr := dpAll_len g2
            refine ⟨_, rfl, a, _, _, v0, rfl, rfl, h1, atI_nat (j := 0) rfl, _, .int 0, g1, .int 0, shaped_fm f0.1 (by omega), shaped_fm ((fm_int 0).mpr (by decide)) (by rw [depth_int]; decide), _, rfl, ?_⟩
            rw [eqv_val f0.1 ((fm_int 0).mpr (by decide)), val_int]
            refine ifD (fun hz => ?_) (fun hz => ?_)
            · have e00 : e0 = .int 0 := fm_inj f0.1 ((fm_int 0).mpr (by decide)) (by rw [val_int]; exact hz)
              subst e00
              have fr := ((fmAll_cons _ _).mp hF'.1).2.2
              have ar : Asc (vals er) := by
                have := hF'.2.1
                rw [vals_cons] at this
                exact this.tail
              have fe : Fm (.tuple er) := by
                rw [fm_tuple]
                refine ⟨fr, ar, ?_⟩
                obtain ⟨t, ht, h64⟩ := hF'.2.2
                rw [vals_cons, val_int] at ht
                rcases List.mem_cons.mp ht with z | ht
                · simp at z
                  omega
                · exact ⟨t, ht, h64⟩
              refine ⟨_, rfl, _, rfl, a, _, rfl, h1, fun l1 H1 sm1 sl1 => ?_⟩
              rw [show (1 : Int) = ((1 : Nat) : Int) from rfl, cut_from] at sl1
              refine q _ (.tuple er) H1 fe ?_ ?_ ?_ (.tup sl1 (dpAll_tk (tk_same sm1) fr g2)) sm1
              · rw [val_tuple, tv_zero]
                omega
              · rw [depth_tuple, depthAll_cons, depth_int]
                omega
              · rw [wt_tuple, wtAll_cons, wt_int]
                omega
            · have pos : ∀ z ∈ e0 :: er, 0 < vl z := fun z hz' => by
                have h0 := f0.2
                have : 0 < vl e0 := by unfold vl; omega
                rcases List.mem_cons.mp hz' with rfl | hz'
                · exact this
                · have := hF'.2.1
                  rw [vals_cons] at this
                  have := Asc.lt this (vl z) (by rw [vals_map]; exact List.mem_map.mpr ⟨z, hz', rfl⟩)
                  unfold vl at *
                  omega
              refine ⟨by show 1 ≤ sizeLine; decide, fun t nt => ?_⟩
              have st := sm_upd (o := .tup [.int 0]) nt
              refine ⟨_, rfl, t, a, _, _, rfl, rfl, .inl (.inl upd_same), HX.Same.tup st h1, len_le (by rw [List.length_cons] at hlw; rw [List.length_singleton, List.length_cons]; omega), fun l4 H4 sm4 sl4 => ?_⟩
              refine q _ (.tuple (.int 0 :: e0 :: er)) H4 ?_ ?_ ?_ ?_ (.tup sl4 (.cons (.int 0) (dpAll_tk (tk_same (st.trans sm4)) hF'.1 (.cons g1 g2)))) (st.trans sm4)
              · rw [fm_tuple]
                obtain ⟨t, ht, h64⟩ := hF'.2.2
                exact ⟨fmAll_zero hF'.1, asc_zero hF'.2.1 pos, t, by rw [vals_cons]; simp [ht], h64⟩
              · rw [val_tuple, tv_zero]
                omega
              · rw [depth_tuple, depthAll_cons (.int 0), depth_int]
                omega
              · rw [wt_tuple, wtAll_cons (.int 0), wt_int]
                omega
def sp_ngt (K : PySem.W.Frag) (n : Nat) : Sp := fun vs H Q _ => ∃ (x : V) (d : PyData), vs = [x] ∧ Dp K H x d ∧ Fm d ∧ d.depth ≤ n ∧ n ≤ 50 ∧ wt d ≤ 900000 ∧
  ∀ (v : V) (r : PyData) H', Fm r → val r = -val d → r.depth ≤ n + 1 → wt r ≤ (n + 1) * (wt d + 1) + 4 → Dp K H' v r → Same H H' → Q v H'
end
end K13
set_option Elab.async false
set_option linter.all false
set_option maxRecDepth 100000
set_option pp.deepTerms false
set_option pp.maxSteps 1500
namespace K13
open PySem PySem.Spec PyProof.Rows L2 HX TV FM DX FB FC PM
local macro_rules | `(tactic| walk_at "r") => `(tactic| (repeat (first | refine Exists.intro _ (And.intro rfl ?_) | refine And.intro rfl ?_ | refine Exists.intro _ (Exists.intro _ (And.intro rfl (And.intro rfl ?_))) | refine And.intro (by omega) ?_ | refine And.intro (Or.inl (And.intro (by omega) (by omega))) ?_ | refine And.intro (Or.inr (And.intro (by omega) (by omega))) ?_ | refine And.intro (And.intro (by omega) (by omega)) ?_ | refine And.intro (And.intro (by decide) (And.intro (by decide) (by decide))) ?_ | refine Or.inl (Exists.intro _ (And.intro rfl ?_)) | (dsimp only [gName]; first | with_reducible refine seqC ?_ | with_reducible refine asgC ?_))))
local macro_rules | `(tactic| walk_at "s") => `(tactic| (repeat (first | refine Exists.intro _ (And.intro rfl ?_) | refine And.intro rfl ?_ | refine Exists.intro _ (Exists.intro _ (And.intro rfl (And.intro rfl ?_))) | refine And.intro (by omega) ?_ | refine And.intro (Or.inl (And.intro (by omega) (by omega))) ?_ | refine And.intro (Or.inr (And.intro (by omega) (by omega))) ?_ | refine And.intro (And.intro (by omega) (by omega)) ?_ | refine And.intro (And.intro (by decide) (And.intro (by decide) (by decide))) ?_ | refine Or.inl (Exists.intro _ (And.intro rfl ?_)) | refine Exists.intro _ (Exists.intro _ (And.intro rfl ?_)) | (dsimp only [gName]; first | with_reducible refine seqC ?_ | with_reducible refine asgC ?_))))
section
variable {P : Program} {w : World} {K : PySem.W.Frag} {mg : Str → Option Value} {base : Heap}
/-- x + y + carry -/
def sp_tot (K : PySem.W.Frag) (n : Nat) : Sp := fun vs H Q _ => ∃ (x y : V) (d e : PyData) (c : Nat), vs = [x, y, .int (c : Nat)] ∧ c ≤ 1 ∧ Dp K H x d ∧ Dp K H y e ∧ Fm d ∧ Fm e ∧ d.depth ≤ n + 1 ∧ e.depth ≤ n + 1 ∧ n ≤ 40 ∧ wt d + wt e ≤ 7900000 ∧
  ∀ (v : V) (r : PyData) H', Fm r → val r = val d + val e + c → r.depth ≤ n + 2 → wt r ≤ (n + 6) * (wt d + wt e + 140) → Dp K H' v r → Same H H' → Q v H'
theorem fm_row0 : Fm (.int 0) := (fm_int 0).mpr (by decide)
theorem ok_total (T : Top K mg) (n : Nat) : FnOk P w K mg base CX0 (n + 6) T.f_total T.fd_total ["x", "y", "carry"]  (sp_tot K n) := by
  have G_merged : FnOk P w K mg base CX0 (n + 4) T.f_merged T.fd_merged ["ours", "theirs"]  (sp_mrg K n) := ok_merged T n
  have G_plus_one : FnOk P w K mg base CX0 (n + 5) T.f_plus_one T.fd_plus_one ["x"]  (sp_p1 K n) := ok_plus_one T n
  have G_turns : FnOk P w K mg base CX0 (2) T.f_turns T.fd_turns ["x"]  (sp_trn K) := ok_turns T
  have G_made : FnOk P w K mg base CX0 (1) T.f_made T.fd_made ["found"]  (sp_made K) := ok_made T
  have G_of_int : FnOk P w K mg base CX0 (2) T.f_of_int T.fd_of_int ["number"]  (sp_ofint K) := ok_of_int T
  refine T.F_total.ok sc_total (fun vs H Q E h => ?_) (fun cdv Ar outer s H vs Q E hr h => ?_)
  · obtain ⟨x, y, d, e, c, rfl, _⟩ := h
    rfl
  · obtain ⟨x, y, d, e, c, rfl, hc, hx, hy, hd, he, hdd, hde, hn, hw, q⟩ := h
    refine ⟨_, (pss_cons (ps_if (PW.pt (pw_and (pt_val (pe_callB call_isi (by rfl) T.m_isinstance (by decide +kernel) (pa_cons (pv 0) (pa_cons (pe_bltn (v := .ty "int") (by rfl) T.m_int (by decide +kernel) rfl) pa_nil))) (fun _ => rfl)) (pw_and1 (pt_val (pe_callB call_isi (by rfl) T.m_isinstance (by decide +kernel) (pa_cons (pv 1) (pa_cons (pe_bltn (v := .ty "int") (by rfl) T.m_int (by decide +kernel) rfl) pa_nil))) (fun _ => rfl)))))
      (pss_one (ps_ret (pe_call G_of_int (hr.mono (by omega)) (by rfl) T.g_of_int T.F_of_int.kp T.b_of_int .nil pass0 (pa_cons (pe_op op_add (pe_op op_add (pv 0) (pv 1)) (pv 2)) pa_nil))))
      pss_nil)
    (pss_cons (ps_set (i := 3) sc_total.nd rfl (Or.inl rfl) (pe_call G_merged (hr.mono (by omega)) (by rfl) T.g_merged T.F_merged.kp T.b_merged .nil pass0 (pa_cons (pe_call G_turns (hr.mono (by omega)) (by rfl) T.g_turns T.F_turns.kp T.b_turns .nil pass0 (pa_cons (pv 0) pa_nil)) (pa_cons (pe_call G_turns (hr.mono (by omega)) (by rfl) T.g_turns T.F_turns.kp T.b_turns .nil pass0 (pa_cons (pv 1) pa_nil)) pa_nil))))
    (pss_cons (ps_if (PW.pt (pw_and (pt_cmpR op_eq (pv 2) pe_int (nomark _)) (pw_and1 (pt_cmpR (op_neD hr.units) (pe_ix ix_tup (pe_ix ix_list (pv 3) pe_int (fun _ _ => rfl)) pe_int (fun _ _ => rfl)) pe_int (nomark _)))))
      (pss_one (ps_set (i := 3) sc_total.nd rfl (Or.inl rfl) (pe_op op_cat (pe_lst (pa_cons (pe_tup (pa_cons pe_int (pa_cons pe_int (pa_cons pe_int pa_nil)))) pa_nil)) (pv 3))))
      pss_nil)
    (pss_cons (ps_set (i := 4) sc_total.nd rfl (Or.inl rfl) (pe_lst pa_nil))
    (pss_cons (ps_set (i := 5) sc_total.nd rfl (Or.inl rfl) pe_int)
    (pss_cons (ps_set (i := 6) sc_total.nd rfl (Or.inl rfl) pe_int)
    (pss_cons (ps_set (i := 7) sc_total.nd rfl (Or.inl rfl) pe_int)
    (pss_cons (ps_for PassesOwn.never rfl (pi_enum (by rfl) T.m_enumerate (pa_cons (pv 3) pa_nil)) (pg_tup rfl (pgs_cons (pg_name (i := 8) sc_total.nd rfl (Or.inl rfl)) (pgs_cons (pg_tup rfl (pgs_cons (pg_name (i := 9) sc_total.nd rfl (Or.inl rfl)) (pgs_cons (pg_name (i := 10) sc_total.nd rfl (Or.inl rfl)) (pgs_cons (pg_name (i := 11) sc_total.nd rfl (Or.inl rfl)) pgs_nil)))) pgs_nil)))
      (pss_cons (ps_set (i := 5) sc_total.nd rfl (Or.inl rfl) (pe_op op_xor (pv 5) (pv 10)))
      (pss_cons (ps_set (i := 6) sc_total.nd rfl (Or.inl rfl) (pe_op op_xor (pv 6) (pv 11)))
      (pss_cons (ps_set (i := 12) sc_total.nd rfl (Or.inl rfl) (pe_op op_and (pe_op op_add (pe_op op_add (pv 5) (pv 6)) (pv 2)) pe_int))
      (pss_cons (ps_set (i := 2) sc_total.nd rfl (Or.inl rfl) (pe_op op_shr (pe_op op_add (pe_op op_add (pv 5) (pv 6)) (pv 2)) pe_int))
      (pss_cons (ps_if (pt_cmpR op_ne (pv 12) (pv 7) (nomark _))
        (pss_one (ps_expr (pe_bm PySem.F.plainAttrs_list PySem.F.slot_list_append PySem.F.type_list_append mt_append (pv 4) (pa_cons (pv 9) pa_nil))))
        pss_nil)
      (pss_cons (ps_set (i := 7) sc_total.nd rfl (Or.inl rfl) (pv 12))
      (pss_cons (ps_set (i := 13) sc_total.nd rfl (Or.inl rfl) (pe_op op_and (pe_op op_add (pe_op op_add (pv 5) (pv 6)) (pv 2)) pe_int))
      (pss_one (ps_if (pt_cmpR op_ne (pv 13) (pv 12) (nomark _))
        (pss_cons (ps_set (i := 14) sc_total.nd rfl (Or.inl rfl) (pe_call G_plus_one (hr.mono (by omega)) (by rfl) T.g_plus_one T.F_plus_one.kp T.b_plus_one .nil pass0 (pa_cons (pv 9) pa_nil)))
        (pss_one (ps_if (PW.pt (pw_or (pt_cmpR op_eq (pe_op op_add (pv 8) pe_int) (pe_callB call_len_seq (by rfl) T.m_len PySem.boot_len (pa_cons (pv 3) pa_nil)) (nomark _)) (pw_or1 (pt_cmpR (op_neD hr.units) (pe_ix ix_tup (pe_ix ix_list (pv 3) (pe_op op_add (pv 8) pe_int) (fun _ _ => rfl)) pe_int (fun _ _ => rfl)) (pv 14) (nomark _)))))
          (pss_cons (ps_expr (pe_bm PySem.F.plainAttrs_list PySem.F.slot_list_append PySem.F.type_list_append mt_append (pv 4) (pa_cons (pv 14) pa_nil)))
          (pss_one (ps_set (i := 7) sc_total.nd rfl (Or.inl rfl) (pv 13))))
          pss_nil)))
        pss_nil))))))))))
    (pss_one (ps_ret (pe_call G_made (hr.mono (by omega)) (by rfl) T.g_made T.F_made.kp T.b_made .nil pass0 (pa_cons (pv 4) pa_nil)))))))))))), ?_⟩
    refine ⟨_, rfl, _, _, _, _, isI d, rfl, .ty "int", ty_f hx hd, kit_fi hd, _, rfl, ?_⟩
    by_cases hii : isI d = true ∧ isI e = true
    · obtain ⟨i, rfl⟩ := fm_isI hd hii.1
      obtain ⟨j, rfl⟩ := fm_isI he hii.2
      cases hx
      cases hy
      refine iteT ⟨_, rfl, _, _, _, _, true, rfl, .ty "int", tyI _, k_ii, true, rfl, iteT ?_⟩
      rw [fm_int] at hd he
      rw [val_int, val_int, wt_int, wt_int] at q
      walk_at "r"
      refine ⟨_, 66, rfl, by decide, by omega, by omega, fun v r H' k1 k2 k3 k4 k5 sm => ?_⟩
      exact q v r H' k1 k2 (by omega) (by omega) k5 sm
    refine ifB ?_ (fun h1 rest => ?_)
    case refine_2 =>
      refine ⟨_, rfl, _, _, _, _, isI e, rfl, .ty "int", ty_f hy he, kit_fi he, _, rfl, ifBD (fun h2 => absurd ⟨h1, h2⟩ hii) (fun h2 => rest)⟩
    refine ⟨_, rfl, x, d, rfl, hx, hd, fun aO uO A H1 fA hA vA sO dO depA wA iA sm1 => ?_⟩
    refine ⟨_, rfl, y, e, rfl, dp_tk (tk_same sm1) he hy, he, fun aT uT B H2 fB hB vB sT dT depB wB iB sm2 => ?_⟩
    have lwA := len_wt A
    have lwB := len_wt B
    refine ⟨aO, aT, uO, uT, A, B, rfl, HX.Same.tup sm2 sO, sT, dpAll_tk (tk_same sm2) fA dO, dT, fA, fB, hA, hB, by omega, by omega, by omega, by omega, fun lr us R H3 nlr hlr hD M hR sm3 => ?_⟩
    have sm03 := (sm1.trans sm2).trans sm3
    have Rne : R ≠ [] := fun z => by
      have a0 : A = [] := by rw [← M.a, z]; rfl
      have b0 : B = [] := by rw [← M.b, z]; rfl
      have zero : ∀ {f : PyData}, Fm f → val f = 0 → isI f = true := fun {f} hf hv => by
        rw [fm_plain hf (by omega) (by omega)]
        rfl
      refine hii ⟨zero hd ?_, zero he ?_⟩
      · rw [← vA, a0, vals_nil, tv_nil]
      · rw [← vB, b0, vals_nil, tv_nil]
    obtain ⟨r, Rr, eR⟩ : ∃ r Rr, R = r :: Rr := by
      cases R with
      | nil => exact absurd rfl Rne
      | cons r Rr => exact ⟨r, Rr, rfl⟩
    have hr0 : R[0]? = some r := by rw [eR]; rfl
    have fr := fmAll_mem M.fm r.1 (by rw [eR]; simp [pR])
    have imR := im_rows M.fm
    dsimp only [gName]
    refine cut (fun σ H4 => ∃ (l : Addr) (us' : List V) (R' : List PM.Row), σ = [some x, some y, some (.int (c : Nat)), some (.ref l), none, none, none, none, none, none, none, none, none, none, none] ∧
      H4 l = some (.lst us') ∧ DpAll K H4 us' (R'.map rowD) ∧ Rs A B R' c ∧ Same H H4) (fun D J => ?_) ?_
    · have stay : (c = 1 → val r.1 = 0) → D.nx [some x, some y, some (.int (c : Nat)), some (.ref lr), none, none, none, none, none, none, none, none, none, none, none] H3 := fun h0 =>
        J.nx _ _ ⟨lr, us, R, rfl, hlr, hD, M.rs hR fun z => ⟨by
          rw [nxt_some hr0]
          unfold vl
          rw [h0 z]
          rfl, by rw [eR]; simp⟩, sm03⟩
      refine ⟨_, rfl, rfl, _, rfl, ?_⟩
      refine ifE (fun hc1 => ?_) (fun hc1 => iteF (stay (fun z => absurd (by rw [z]; rfl) hc1)))
      have hc1 : c = 1 := by omega
      obtain ⟨v0, hv0, hv0'⟩ := dpAll_at (d := rowD r) (i := 0) hD (by rw [List.getElem?_map, hr0]; rfl)
      cases hv0' with
      | @tup T0 xs0 _ g1 g2 =>
        cases g2 with
        | @cons vp _ _ _ g2 g3 =>
          refine ⟨_, rfl, lr, us, _, _, rfl, rfl, .inl (.inl hlr), atI_nat (j := 0) hv0, T0, _, _, vp, rfl, rfl, g1, atI_nat (j := 0) rfl, _, .int 0, g2, .int 0, ?_, shaped_fm fm_row0 (by rw [depth_int]; decide), _, rfl, ?_⟩
          · refine shaped_fm fr.1 ?_
            rcases M.mem r.1 (by rw [eR]; simp [pR]) with z | z
            · have := dep_mem z
              omega
            · have := dep_mem z
              omega
          rw [eqv_val fr.1 fm_row0, val_int]
          refine ifN (fun h0 => ?_) (fun h0 => stay fun _ => h0)
          refine ⟨by show 3 ≤ sizeLine; decide, fun t nt => ?_⟩
          have s5 := sm_upd (o := .tup [.int 0, .int 0, .int 0]) nt
          refine ⟨by show 1 ≤ sizeLine; decide, fun l1 nl1 => ?_⟩
          have s6 := sm_upd (o := .lst [.ref t]) nl1
          have s56 := s5.trans s6
          refine ⟨_, rfl, l1, lr, _, _, rfl, rfl, upd_same, s56 _ _ hlr, ?_, fun l2 nl2 => ?_⟩
          · have := dpAll_len hD
            rw [List.length_map] at this
            exact len_le (by rw [List.length_singleton]; omega)
          have s7 := sm_upd (o := .lst ([.ref t] ++ us)) nl2
          have s57 := s56.trans s7
          dsimp only [gName]
          refine J.nx _ _ ⟨l2, [.ref t] ++ us, (.int 0, false, false) :: R, rfl, upd_same, ?_, M.rs0 hR hr0 h0, sm03.trans s57⟩
          refine .cons (.tup (.inl (.inl ((s6.trans s7) _ _ upd_same))) (.cons (.int 0) (.cons (.int 0) (.cons (.int 0) .nil)))) (dpAll_im (tk_same s57) imR hD)
    · rintro σ H4 ⟨l, us', R', rfl, hl, hD', S, sm4⟩
      have imS := im_rows S.fm
      refine ⟨Nat.zero_le _, fun lf nlf => ?_⟩
      walk_at "r"
      have s5 := sm_upd (o := .lst []) nlf
      have hlf := upd_at (o := .lst []) nlf
      have sm5 := sm4.trans s5
      have lne : l ≠ lf := ne_of_none hl nlf
      have nf : H lf = none := by
        cases z : H lf with
        | none => rfl
        | some o => rw [sm4 _ _ z] at nlf; cases nlf
      replace hl := s5 _ _ hl
      replace hD' := dpAll_im (tk_same s5) imS hD'
      revert hlf sm5 hl hD'
      generalize upd H4 lf (.lst []) = H5
      intro hlf sm5 hl hD'
      have mu : Mut (H5 lf) := by
        rw [hlf]
        trivial
      have lus := dpAll_len hD'
      rw [List.length_map] at lus
      refine ⟨l, us', rfl, .inl (.inl hl), flE (xs := us') (fun i σ H' => ∃ (o t k b : Nat) (z8 z9 z10 z11 z12 z13 z14 : Option V) (uf : List V) (F : List PyData), σ = [some x, some y, some (.int (k : Nat)), some (.ref l), some (.ref lf), some (.int (o : Nat)), some (.int (t : Nat)), some (.int (b : Nat)), z8, z9, z10, z11, z12, z13, z14] ∧
        Ad R' i c F o t k b ∧ H' lf = some (.lst uf) ∧ DpAll K H' uf F ∧ But lf H5 H' ∧ wtAll F ≤ (n + 6) * wtAll (pR (R'.take i)) ∧ PyData.depthAll F ≤ n + 1)
        ⟨0, 0, c, 0, none, none, none, none, none, none, none, [], [], rfl, .start hc S.st, hlf, .nil, But.refl _, by rw [wtAll_nil]; exact Nat.zero_le _, by rw [depthAll_nil]; exact Nat.zero_le _⟩ ?_ ?_ ?_⟩
      · rintro i σ H' _ ⟨o, t, k, b, z8, z9, z10, z11, z12, z13, z14, uf, F, _, _, _, _, bt, _⟩
        exact .inl (.inl (bt _ _ lne hl))
      · rintro i v σ H' hv ⟨o, t, k, b, z8, z9, z10, z11, z12, z13, z14, uf, F, rfl, Sd, hlf', hF, bt, hwF, hdF⟩ Tt nT D' B'
        obtain ⟨d', hd', hv'⟩ := dpAll_get hD' hv
        rw [List.getElem?_map] at hd'
        cases er : R'[i]? with
        | none =>
          rw [er] at hd'
          cases hd'
        | some r =>
        rw [er] at hd'
        cases hd'
        obtain ⟨p, m, n'⟩ := r
        have hi := (List.getElem?_eq_some_iff.mp er).1
        have pm : p ∈ pR R' := List.mem_map.mpr ⟨_, List.mem_of_getElem? er, rfl⟩
        have fp := fmAll_mem S.fm p pm
        have wp := wt_mem pm
        have depp : p.depth ≤ n := by
          rcases S.mem p pm with z | z | z
          · have := dep_mem z
            omega
          · have := dep_mem z
            omega
          · rw [z, depth_int]
            exact Nat.zero_le _
        have tk : Tk H5 H' := tk_but bt mu
        have sT := sm_upd (o := .tup [.int (i : Nat), v]) nT
        have hv2 := dp_im (tk.trans (tk_same sT)) (im_row (r := (p, m, n')) fp.1) hv'
        cases hv2 with
        | @tup Tr xr _ h1 h2 =>
        cases h2 with
        | @cons vp _ _ _ gp g2 =>
        cases g2 with
        | cons g2 g3 =>
        cases g2
        cases g3 with
        | cons g3 g4 =>
        cases g3
        cases g4
        refine ⟨Tt, _, rfl, .inl (.inl upd_same), rfl, _, _, rfl, _, _, rfl, Tr, _, rfl, h1, rfl, _, _, rfl, _, _, rfl, _, _, rfl, rfl, rfl, ?_⟩
        replace hlf' := sT _ _ hlf'
        replace hF := dpAll_tk (tk_same sT) Sd.fm hF
        replace bt := bt.trans (But.of sT)
        revert hlf' hF bt gp
        generalize upd H' Tt (.tup [.int (i : Nat), .ref Tr]) = H7
        intro gp hlf' hF bt
        have ho1 : o ≤ 1 := by have := Sd.po; omega
        have ht1 : t ≤ 1 := by have := Sd.pt; omega
        obtain ⟨o', eo⟩ : ∃ o', o' = (o + bn m) % 2 := ⟨_, rfl⟩
        obtain ⟨t', et⟩ : ∃ t', t' = (t + bn n') % 2 := ⟨_, rfl⟩
        obtain ⟨h, e1⟩ : ∃ h, h = (o' + t' + k) % 2 := ⟨_, rfl⟩
        obtain ⟨k', e2⟩ : ∃ k', k' = (o' + t' + k) / 2 := ⟨_, rfl⟩
        obtain ⟨r', e3⟩ : ∃ r', r' = (o' + t' + k') % 2 := ⟨_, rfl⟩
        refine cut (fun σ H2 => H7 = H2 ∧ σ = [some x, some y, some (.int (k : Nat)), some (.ref l), some (.ref lf), some (.int (o' : Nat)), some (.int (t : Nat)), some (.int (b : Nat)), some (.int (i : Nat)), some vp, some (.int (bi m)), some (.int (bi n')), z12, z13, z14]) (fun D J => ?_) ?_
        · walk_at "r"
          refine J.nx _ _ ⟨rfl, ?_⟩
          rw [eo, ← xor_n ho1]
          rfl
        rintro _ _ ⟨rfl, rfl⟩
        refine cut (fun σ H2 => H7 = H2 ∧ σ = [some x, some y, some (.int (k : Nat)), some (.ref l), some (.ref lf), some (.int (o' : Nat)), some (.int (t' : Nat)), some (.int (b : Nat)), some (.int (i : Nat)), some vp, some (.int (bi m)), some (.int (bi n')), z12, z13, z14]) (fun D J => ?_) ?_
        · walk_at "r"
          refine J.nx _ _ ⟨rfl, ?_⟩
          rw [et, ← xor_n ht1]
          rfl
        rintro _ _ ⟨rfl, rfl⟩
        refine cut (fun σ H2 => H7 = H2 ∧ σ = [some x, some y, some (.int (k : Nat)), some (.ref l), some (.ref lf), some (.int (o' : Nat)), some (.int (t' : Nat)), some (.int (b : Nat)), some (.int (i : Nat)), some vp, some (.int (bi m)), some (.int (bi n')), some (.int (h : Nat)), z13, z14]) (fun D J => ?_) ?_
        · walk_at "r"
          refine J.nx _ _ ⟨rfl, ?_⟩
          rw [e1, ← and_n]
          rfl
        rintro _ _ ⟨rfl, rfl⟩
        refine cut (fun σ H2 => H7 = H2 ∧ σ = [some x, some y, some (.int (k' : Nat)), some (.ref l), some (.ref lf), some (.int (o' : Nat)), some (.int (t' : Nat)), some (.int (b : Nat)), some (.int (i : Nat)), some vp, some (.int (bi m)), some (.int (bi n')), some (.int (h : Nat)), z13, z14]) (fun D J => ?_) ?_
        · walk_at "r"
          refine J.nx _ _ ⟨rfl, ?_⟩
          rw [e2]
          rfl
        rintro _ _ ⟨rfl, rfl⟩
        obtain ⟨F1, eF1⟩ : ∃ F1, F1 = if h = b then F else F ++ [p] := ⟨_, rfl⟩
        have St := Sd.step S.asc S.fm er eo et e1 e2 e3 eF1
        have lenF := dpAll_len hF
        have hln := Sd.ln
        have hln2 := S.ln
        have hwR := S.wt
        have fF1 : FmAll F1 := by
          rw [eF1]
          split
          · exact Sd.fm
          · exact fmAll_snoc Sd.fm fp.1 fp.2
        have wF1 : wtAll F1 ≤ (n + 6) * wtAll (pR (R'.take i)) + wt p := by
          rw [eF1]
          split
          · omega
          · rw [wtAll_app, wtAll_cons, wtAll_nil]
            omega
        have dF1 : PyData.depthAll F1 ≤ n + 1 := by
          rw [eF1]
          split
          · exact hdF
          · refine depthAll_le.mpr fun z hz => ?_
            rcases List.mem_append.mp hz with hz | hz
            · have := dep_mem hz
              omega
            · rw [List.mem_singleton.mp hz]
              omega
        have tkw : wtAll (pR (R'.take (i + 1))) = wtAll (pR (R'.take i)) + wt p := by
          rw [List.take_add_one, er, pR_app, wtAll_app]
          show _ + wtAll [p] = _
          rw [wtAll_cons, wtAll_nil]
          omega
        have mulw : (n + 6) * wtAll (pR (R'.take (i + 1))) = (n + 6) * wtAll (pR (R'.take i)) + (n + 6) * wt p := by rw [tkw, Nat.mul_add]
        have wpp := wt_pos p
        have six : (n + 6) * wt p = (n + 1) * wt p + 5 * wt p := by rw [← Nat.add_mul]
        refine cut (fun σ H2 => ∃ uf1 : List V, σ = [some x, some y, some (.int (k' : Nat)), some (.ref l), some (.ref lf), some (.int (o' : Nat)), some (.int (t' : Nat)), some (.int (b : Nat)), some (.int (i : Nat)), some vp, some (.int (bi m)), some (.int (bi n')), some (.int (h : Nat)), z13, z14] ∧ H2 lf = some (.lst uf1) ∧ DpAll K H2 uf1 F1 ∧ But lf H5 H2 ∧ Dp K H2 vp p) (fun D J => ?_) ?_
        · walk_at "r"
          refine ifNE (fun hc => ?_) (fun hc => ?_)
          · have hne : h ≠ b := by omega
            refine ⟨_, rfl, .inl ⟨rfl, _, .inl (.inl hlf')⟩, _, rfl, lf, uf, _, rfl, rfl, hlf', len_lt (by omega), ?_⟩
            have mu' : Mut (H7 lf) := by
              rw [hlf']
              trivial
            have tk2 : Tk H7 (upd H7 lf (.lst (uf ++ [vp]))) := tk_mut mu'
            refine J.nx _ _ ⟨uf ++ [vp], rfl, upd_same, ?_, bt.upd, dp_tk tk2 fp.1 gp⟩
            rw [eF1, if_neg hne]
            exact dpAll_app (dpAll_tk tk2 Sd.fm hF) (.cons (dp_tk tk2 fp.1 gp) .nil)
          · have hne : h = b := by omega
            refine J.nx _ _ ⟨uf, rfl, hlf', ?_, bt, gp⟩
            rw [eF1, if_pos hne]
            exact hF
        rintro σ H8 ⟨uf1, rfl, hlf1, hF1, bt1, gp1⟩
        refine cut (fun σ H2 => H8 = H2 ∧ σ = [some x, some y, some (.int (k' : Nat)), some (.ref l), some (.ref lf), some (.int (o' : Nat)), some (.int (t' : Nat)), some (.int (h : Nat)), some (.int (i : Nat)), some vp, some (.int (bi m)), some (.int (bi n')), some (.int (h : Nat)), z13, z14]) (fun D J => ?_) ?_
        · walk_at "r"
          exact J.nx _ _ ⟨rfl, rfl⟩
        rintro _ _ ⟨rfl, rfl⟩
        refine cut (fun σ H2 => H8 = H2 ∧ σ = [some x, some y, some (.int (k' : Nat)), some (.ref l), some (.ref lf), some (.int (o' : Nat)), some (.int (t' : Nat)), some (.int (h : Nat)), some (.int (i : Nat)), some vp, some (.int (bi m)), some (.int (bi n')), some (.int (h : Nat)), some (.int (r' : Nat)), z14]) (fun D J => ?_) ?_
        · walk_at "r"
          refine J.nx _ _ ⟨rfl, ?_⟩
          rw [e3, ← and_n]
          rfl
        rintro _ _ ⟨rfl, rfl⟩
        walk_at "r"
        refine ifNE (fun hc => ?_) (fun hc => ?_)
        case refine_2 =>
          have hrh : r' = h := by omega
          refine B'.nx _ _ ⟨o', t', k', h, _, _, _, _, _, _, _, uf1, F1, rfl, St.1 hrh, hlf1, hF1, bt1, ?_, dF1⟩
          omega
        have hrh : r' ≠ h := by omega
        refine ⟨_, rfl, vp, p, rfl, gp1, fp.1, depp, by omega, by omega, fun vf f H9 ff vvf depf wf dpf sm9 => ?_⟩
        dsimp only [gName]
        have hlf9 := sm9 _ _ hlf1
        have hF9 := dpAll_tk (tk_same sm9) fF1 hF1
        have bt9 := bt1.trans (But.of sm9)
        have hl9 := bt9 _ _ lne hl
        have vlf : vl f = vl p + 1 := by
          have := fp.2
          unfold vl
          omega
        have lenF1 := dpAll_len hF9
        have add : (i + 1 = R'.length ∨ ∃ s, R'[i + 1]? = some s ∧ vl s.1 ≠ vl f) → ∀ D : Ends, (∀ σ' H'', (∃ (o t k b : Nat) (z8 z9 z10 z11 z12 z13 z14 : Option V) (uf : List V) (F : List PyData), σ' = [some x, some y, some (.int (k : Nat)), some (.ref l), some (.ref lf), some (.int (o : Nat)), some (.int (t : Nat)), some (.int (b : Nat)), z8, z9, z10, z11, z12, z13, z14] ∧
            Ad R' (i + 1) c F o t k b ∧ H'' lf = some (.lst uf) ∧ DpAll K H'' uf F ∧ But lf H5 H'' ∧ wtAll F ≤ (n + 6) * wtAll (pR (R'.take (i + 1))) ∧ PyData.depthAll F ≤ n + 1) → D.nx σ' H'') → ∀ z13 z14,
            D.nx [some x, some y, some (.int (k' : Nat)), some (.ref l), some (.ref lf), some (.int (o' : Nat)), some (.int (t' : Nat)), some (.int (r' : Nat)), some (.int (i : Nat)), some vp, some (.int (bi m)), some (.int (bi n')), some (.int (h : Nat)), z13, z14] (upd H9 lf (.lst (uf1 ++ [vf]))) := fun hn2 D hD z13 z14 => by
          have mu' : Mut (H9 lf) := by
            rw [hlf9]
            trivial
          have tk2 : Tk H9 (upd H9 lf (.lst (uf1 ++ [vf]))) := tk_mut mu'
          refine hD _ _ ⟨o', t', k', r', _, _, _, _, _, _, _, uf1 ++ [vf], F1 ++ [f], rfl, St.2.1 hrh f ff vvf hn2, upd_same, dpAll_app (dpAll_tk tk2 fF1 hF9) (.cons (dp_tk tk2 ff dpf) .nil), bt9.upd, ?_, ?_⟩
          · clear hn2
            rw [wtAll_app, wtAll_cons, wtAll_nil]
            omega
          · refine depthAll_le.mpr fun z hz => ?_
            rcases List.mem_append.mp hz with hz | hz
            · have := dep_mem hz
              omega
            · rw [List.mem_singleton.mp hz]
              exact depf
        have szl : uf1.length < sizeLine := by
          refine len_lt ?_
          have : F1.length ≤ F.length + 1 := by
            rw [eF1]
            split
            · omega
            · rw [List.length_append, List.length_singleton]
              exact Nat.le_refl _
          omega
        refine ⟨_, rfl, _, _, rfl, rfl, _, rfl, l, us', rfl, .inl (.inl (.inl hl9)), rfl, _, rfl, ?_⟩
        rw [lus]
        by_cases hlast : i + 1 = R'.length
        · refine ifE (fun _ => iteT ?_) (fun z => absurd (by omega) z)
          refine ⟨_, rfl, .inl ⟨rfl, _, .inl (.inl hlf9)⟩, _, rfl, lf, uf1, _, rfl, rfl, hlf9, szl, ?_⟩
          walk_at "r"
          exact add (.inl hlast) D' (fun σ' H'' z => B'.nx σ' H'' z) _ _
        · refine ifE (fun z => absurd (by omega) hlast) (fun _ => ?_)
          obtain ⟨s', hs'⟩ : ∃ s', R'[i + 1]? = some s' := ⟨R'[i + 1]'(by omega), by simp [show i + 1 < R'.length by omega]⟩
          have sm' : s'.1 ∈ pR R' := List.mem_map.mpr ⟨_, List.mem_of_getElem? hs', rfl⟩
          have fs' := fmAll_mem S.fm s'.1 sm'
          have deps : s'.1.depth ≤ n := by
            rcases S.mem s'.1 sm' with z | z | z
            · have := dep_mem z
              omega
            · have := dep_mem z
              omega
            · rw [z, depth_int]
              exact Nat.zero_le _
          have tk9 : Tk H5 H9 := tk_but bt9 mu
          obtain ⟨v9, hv9, hv9'⟩ := dpAll_at (d := rowD s') (i := i + 1) (dpAll_im tk9 imS hD') (by rw [List.getElem?_map, hs']; rfl)
          cases hv9' with
          | @tup T9 x9 _ g1 g2 =>
          cases g2 with
          | @cons v10 _ _ _ g2 g3 =>
          refine ⟨_, rfl, _, rfl, _, _, rfl, rfl, l, us', _, _, rfl, rfl, .inl (.inl hl9), atI_at (n := i + 1) hv9 (by omega), T9, _, _, v10, rfl, rfl, g1, atI_nat (j := 0) rfl, _, rfl, _, _, g2, dpf, shaped_fm fs'.1 (by omega), shaped_fm ff (by omega), _, rfl, ?_⟩
          rw [eqv_val fs'.1 ff]
          refine ifN (fun h0 => ?_) (fun h0 => ?_)
          · refine ⟨_, rfl, .inl ⟨rfl, _, .inl (.inl hlf9)⟩, _, rfl, lf, uf1, _, rfl, rfl, hlf9, szl, ?_⟩
            walk_at "r"
            exact add (.inr ⟨s', hs', fun z => h0 (by have := fs'.2; have := fp.2; unfold vl at z; omega)⟩) D' (fun σ' H'' z => B'.nx σ' H'' z) _ _
          · refine B'.nx _ _ ⟨o', t', k', h, _, _, _, _, _, _, _, uf1, F1, rfl, St.2.2 hrh ⟨s', hs', by rw [← vlf]; unfold vl; rw [h0]⟩, hlf9, hF9, bt9, ?_, dF1⟩
            omega
      · rintro σ H' ⟨o, t, k, b, z8, z9, z10, z11, z12, z13, z14, uf, F, rfl, Sd, hlf', hF, bt, hwF, hdF⟩
        walk_at "r"
        rw [lus] at Sd
        have hwR := S.wt
        rw [lus, List.take_length] at hwF
        refine ⟨lf, uf, F, rfl, .inl (.inl (.inl hlf')), hF, Sd.fm, Sd.asc, fun v r H6 k1 k2 k3 k4 k5 sm6 => ?_⟩
        refine q v r H6 k1 ?_ (by omega) ?_ k5 ((But.same sm5 nf bt).trans sm6)
        · rw [k2, S.sum Sd, vA, vB]
        · have h1 : (n + 6) * wtAll (pR R') ≤ (n + 6) * (wt d + wt e + 131) := Nat.mul_le_mul_left _ (by omega)
          have h2 : (n + 6) * (wt d + wt e + 140) = (n + 6) * (wt d + wt e + 131) + (n + 6) * 9 := by
            rw [← Nat.mul_add]
          omega
end
end K13
set_option Elab.async false
set_option linter.all false
set_option maxRecDepth 100000
set_option pp.deepTerms false
set_option pp.maxSteps 1500
namespace K13
open PySem PySem.Spec PyProof.Rows L2 HX TV FM DX FB FC PM
local macro_rules | `(tactic| walk_at "r") => `(tactic| (repeat (first | refine Exists.intro _ (And.intro rfl ?_) | refine And.intro rfl ?_ | refine Exists.intro _ (Exists.intro _ (And.intro rfl (And.intro rfl ?_))) | refine And.intro (by omega) ?_ | refine And.intro (Or.inl (And.intro (by omega) (by omega))) ?_ | refine And.intro (Or.inr (And.intro (by omega) (by omega))) ?_ | refine And.intro (And.intro (by omega) (by omega)) ?_ | refine And.intro (And.intro (by decide) (And.intro (by decide) (by decide))) ?_ | refine Or.inl (Exists.intro _ (And.intro rfl ?_)) | (dsimp only [gName]; first | with_reducible refine seqC ?_ | with_reducible refine asgC ?_))))
local macro_rules | `(tactic| walk_at "s") => `(tactic| (repeat (first | refine Exists.intro _ (And.intro rfl ?_) | refine And.intro rfl ?_ | refine Exists.intro _ (Exists.intro _ (And.intro rfl (And.intro rfl ?_))) | refine And.intro (by omega) ?_ | refine And.intro (Or.inl (And.intro (by omega) (by omega))) ?_ | refine And.intro (Or.inr (And.intro (by omega) (by omega))) ?_ | refine And.intro (And.intro (by omega) (by omega)) ?_ | refine And.intro (And.intro (by decide) (And.intro (by decide) (by decide))) ?_ | refine Or.inl (Exists.intro _ (And.intro rfl ?_)) | refine Exists.intro _ (Exists.intro _ (And.intro rfl ?_)) | (dsimp only [gName]; first | with_reducible refine seqC ?_ | with_reducible refine asgC ?_))))
section
variable {P : Program} {w : World} {K : PySem.W.Frag} {mg : Str → Option Value} {base : Heap}
/-- of a form of depth at most n: its size -/
def sp_size (K : PySem.W.Frag) (n : Nat) : Sp := fun vs H Q _ => ∃ (v : V) (d : PyData), vs = [v] ∧ Dp K H v d ∧ Fm d ∧ d.depth ≤ n ∧ wt d ≤ 12000000 ∧ ∀ H', Same H H' → Q (.int (wt d : Nat)) H'
def sp_height (K : PySem.W.Frag) (n : Nat) : Sp := fun vs H Q _ => ∃ (v : V) (d : PyData), vs = [v] ∧ Dp K H v d ∧ Fm d ∧ d.depth ≤ n ∧ wt d ≤ 12000000 ∧ ∀ H', Same H H' → Q (.int (d.depth : Nat)) H'
theorem sum_nat : ∀ l : List Nat, (l.map fun n => ((n : Nat) : Int)).sum = ((l.sum : Nat) : Int)
  | [] => rfl
  | a :: r => by
    rw [List.map_cons, List.sum_cons, sum_nat r, List.sum_cons]
    omega
theorem wtAll_sum : ∀ ds : List PyData, wtAll ds = (ds.map wt).sum
  | [] => by simp [wtAll]
  | d :: r => by rw [wtAll_cons, wtAll_sum r, List.map_cons, List.sum_cons]
/-- reading a list of sizes -/
theorem nvn (l : List Nat) : nv l = (l.map fun n => ((n : Nat) : Int)).map V.int := by
  unfold nv
  rw [List.map_map]
  rfl
theorem ok_size (T : Top K mg) : ∀ n, FnOk P w K mg base CX0 (n + 1) T.f_size T.fd_size ["x"]  (sp_size K n) := by
  intro n
  induction n with
  | zero =>
    refine T.F_size.ok sc_size (fun vs H Q E h => ?_) (fun cdv A outer s H vs Q E hr h => ?_)
    · obtain ⟨v, d, rfl, _⟩ := h
      rfl
    · obtain ⟨v, d, rfl, hD, hF, hd, hw, q⟩ := h
      refine ⟨_, (pss_cons (ps_if (pt_val (pe_callB call_isi (by rfl) T.m_isinstance (by decide +kernel) (pa_cons (pv 0) (pa_cons (pe_bltn (v := .ty "int") (by rfl) T.m_int (by decide +kernel) rfl) pa_nil))) (fun _ => rfl))
      (pss_one (ps_ret pe_int))
      pss_nil)
    (pss_one ps_never)), ?_⟩
      rcases fm_cases hF with ⟨i, rfl⟩ | ⟨ds, rfl⟩
      · cases hD
        refine ⟨_, rfl, _, _, _, _, true, rfl, .ty "int", tyI _, k_ii, true, rfl, iteT ?_⟩
        have := q H (Same.refl _)
        rw [wt_int] at this
        exact this
      · rw [depth_tuple] at hd
        omega
  | succ n ih =>
    have G_size : FnOk P w K mg base CX0 (n + 1) T.f_size T.fd_size ["x"]  (sp_size K n) := ih
    refine T.F_size.ok sc_size (fun vs H Q E h => ?_) (fun cdv A outer s H vs Q E hr h => ?_)
    · obtain ⟨v, d, rfl, _⟩ := h
      rfl
    · obtain ⟨v, d, rfl, hD, hF, hd, hw, q⟩ := h
      refine ⟨_, (pss_cons (ps_if (pt_val (pe_callB call_isi (by rfl) T.m_isinstance (by decide +kernel) (pa_cons (pv 0) (pa_cons (pe_bltn (v := .ty "int") (by rfl) T.m_int (by decide +kernel) rfl) pa_nil))) (fun _ => rfl))
      (pss_one (ps_ret pe_int))
      pss_nil)
    (pss_one (ps_ret (pe_op op_add pe_int (pe_callB (cr_sum rfl) (by rfl) T.m_sum (by decide +kernel) (pa_cons (pe_lc (own := [("turn", 1)]) (g := gName 1) (by rfl) sc_size.nd (pi_tup (pv 0)) (blkOk_by (own := [("turn", 1)]) (N := ["x", "turn"]) (sc := defScope s_size) (by decide +kernel)) (fun _ _ _ _ _ => (pg_name (i := 1) sc_size.nd rfl (Or.inl rfl))) (fun _ _ _ _ _ => pts_nil) (fun _ _ _ _ _ => (pe_call G_size (hr.mono (by omega)) (by rfl) T.g_size T.F_size.kp T.b_size .nil pass0 (pa_cons (pv 1) pa_nil)))) pa_nil)))))), ?_⟩
      rcases fm_cases hF with ⟨i, rfl⟩ | ⟨ds, rfl⟩
      · cases hD
        refine ⟨_, rfl, _, _, _, _, true, rfl, .ty "int", tyI _, k_ii, true, rfl, iteT ?_⟩
        have := q H (Same.refl _)
        rw [wt_int] at this
        exact this
      · have hFa := ((fm_tuple _).mp hF).1
        rw [depth_tuple] at hd
        cases hD with
        | @tup a xs _ h1 h2 =>
          have hlx := dpAll_len h2
          refine ⟨_, rfl, _, _, _, _, false, rfl, .ty "int", tyT h1, k_ti, false, rfl, iteF ?_⟩
          refine ⟨_, rfl, a, rfl, ⟨_, h1⟩, fun D nD => lc_tup (xs := xs) (fun i H' => Same H H' ∧ H' D = some (.lst (nv ((ds.take i).map wt)))) ⟨sm_upd nD, by rw [upd_same]; rfl⟩ ?_ ?_ ?_⟩
          · rintro i H' _ ⟨sm, _⟩
            exact HX.Same.tup sm h1
          · rintro i x H' hx ⟨sm, eD⟩
            obtain ⟨e, he, hDe⟩ := dpAll_get h2 hx
            have hFe := (fmAll_mem hFa e (List.mem_of_getElem? he)).1
            have hi := (List.getElem?_eq_some_iff.mp hx).1
            refine ⟨rfl, ?_⟩
            have hwe := wt_mem (List.mem_of_getElem? he)
            have hll := len_wt ds
            rw [wt_tuple] at hw
            refine ⟨_, rfl, x, e, rfl, dp_tk (tk_same sm) hFe hDe, hFe, ?_, by omega, fun H2 sm2 => ?_⟩
            · have := depthAll_le.mp (Nat.le_refl _) e (List.mem_of_getElem? he)
              omega
            refine ⟨_, sm2 _ _ eD, ?_, sm_mut (sm.trans sm2) nD, ?_⟩
            · rw [nv_len]
              simp
              exact len_lt (by omega)
            · rw [upd_same, List.take_add_one, he, ← nv_app]
              simp
          · rintro H2 ⟨sm, eD⟩
            rw [hlx, List.take_length, nvn] at eD
            refine ⟨D, _, rfl, .inl (.inl eD), ?_⟩
            walk_at "r"
            rw [sum_nat, ← wtAll_sum]
            have := q H2 sm
            rw [wt_tuple] at this
            show Q (.int ((1 : Int) + ((wtAll ds : Nat) : Int))) H2
            rw [show (1 : Int) + ((wtAll ds : Nat) : Int) = ((1 + wtAll ds : Nat) : Int) by omega]
            exact this
theorem ok_height (T : Top K mg) : ∀ n, FnOk P w K mg base CX0 (n + 1) T.f_height T.fd_height ["x"]  (sp_height K n) := by
  intro n
  induction n with
  | zero =>
    refine T.F_height.ok sc_height (fun vs H Q E h => ?_) (fun cdv A outer s H vs Q E hr h => ?_)
    · obtain ⟨v, d, rfl, _⟩ := h
      rfl
    · obtain ⟨v, d, rfl, hD, hF, hd, hw, q⟩ := h
      refine ⟨_, (pss_cons (ps_if (pt_val (pe_callB call_isi (by rfl) T.m_isinstance (by decide +kernel) (pa_cons (pv 0) (pa_cons (pe_bltn (v := .ty "int") (by rfl) T.m_int (by decide +kernel) rfl) pa_nil))) (fun _ => rfl)) (pss_one (ps_ret pe_int)) pss_nil) pss_never), ?_⟩
      rcases fm_cases hF with ⟨i, rfl⟩ | ⟨ds, rfl⟩
      · cases hD
        refine ⟨_, rfl, _, _, _, _, true, rfl, .ty "int", tyI _, k_ii, true, rfl, iteT ?_⟩
        have := q H (Same.refl _)
        rw [depth_int] at this
        exact this
      · rw [depth_tuple] at hd
        omega
  | succ n ih =>
    have G_height : FnOk P w K mg base CX0 (n + 1) T.f_height T.fd_height ["x"]  (sp_height K n) := ih
    refine T.F_height.ok sc_height (fun vs H Q E h => ?_) (fun cdv A outer s H vs Q E hr h => ?_)
    · obtain ⟨v, d, rfl, _⟩ := h
      rfl
    · obtain ⟨v, d, rfl, hD, hF, hd, hw, q⟩ := h
      refine ⟨_, (pss_cons (ps_if (pt_val (pe_callB call_isi (by rfl) T.m_isinstance (by decide +kernel) (pa_cons (pv 0) (pa_cons (pe_bltn (v := .ty "int") (by rfl) T.m_int (by decide +kernel) rfl) pa_nil))) (fun _ => rfl))
      (pss_one (ps_ret pe_int))
      pss_nil)
    (pss_cons (ps_set (i := 1) sc_height.nd rfl (Or.inl rfl) pe_int)
    (pss_cons (ps_for PassesOwn.never rfl (pi_tup (pv 0)) (pg_name (i := 2) sc_height.nd rfl (Or.inl rfl))
      (pss_one (ps_set (i := 1) sc_height.nd rfl (Or.inl rfl) (pe_callB (call_max2 rfl) (by rfl) T.m_max (by decide +kernel) (pa_cons (pv 1) (pa_cons (pe_callTy call_int1 (by rfl) T.m_int (by decide +kernel) (pa_cons (pe_call G_height (hr.mono (by omega)) (by rfl) T.g_height T.F_height.kp T.b_height .nil pass0 (pa_cons (pv 2) pa_nil)) pa_nil)) pa_nil))))))
    (pss_one (ps_ret (pe_op op_add (pv 1) pe_int)))))), ?_⟩
      rcases fm_cases hF with ⟨i, rfl⟩ | ⟨ds, rfl⟩
      · cases hD
        refine ⟨_, rfl, _, _, _, _, true, rfl, .ty "int", tyI _, k_ii, true, rfl, iteT ?_⟩
        have := q H (Same.refl _)
        rw [depth_int] at this
        exact this
      · have hFa := ((fm_tuple _).mp hF).1
        rw [depth_tuple] at hd
        rw [wt_tuple] at hw
        cases hD with
        | @tup a xs _ h1 h2 =>
          have hlx := dpAll_len h2
          refine ⟨_, rfl, _, _, _, _, false, rfl, .ty "int", tyT h1, k_ti, false, rfl, iteF ?_⟩
          refine ⟨_, rfl, a, rfl, ⟨_, h1⟩, flT (xs := xs) (fun i σ H' => ∃ z, σ = [some (.ref a), some (.int (PyData.depthAll (ds.take i) : Nat)), z] ∧ Same H H') ⟨none, by rw [List.take_zero, depthAll_nil]; rfl, Same.refl _⟩ ?_ ?_ ?_⟩
          · rintro i σ H' _ ⟨z, _, sm⟩
            exact HX.Same.tup sm h1
          · rintro i x σ H' hx ⟨z, rfl, sm⟩ D' B
            obtain ⟨e, he, hDe⟩ := dpAll_get h2 hx
            have hFe := (fmAll_mem hFa e (List.mem_of_getElem? he)).1
            have hwe := wt_mem (List.mem_of_getElem? he)
            walk_at "r"
            refine ⟨x, e, rfl, dp_tk (tk_same sm) hFe hDe, hFe, ?_, by omega, fun H2 sm2 => ?_⟩
            · have := depthAll_le.mp (Nat.le_refl _) e (List.mem_of_getElem? he)
              omega
            walk_at "s"
            refine B.nx _ _ ⟨some x, ?_, sm.trans sm2⟩
            rw [List.take_add_one, he]
            have emax : PyData.depthAll (ds.take i ++ [e]) = max (PyData.depthAll (ds.take i)) e.depth := by
              apply Nat.le_antisymm
              · refine depthAll_le.mpr fun y hy => ?_
                rcases List.mem_append.mp hy with hy | hy
                · have := depthAll_le.mp (Nat.le_refl _) y hy
                  omega
                · simp at hy
                  subst hy
                  omega
              · have h5 := depthAll_le.mp (Nat.le_refl (PyData.depthAll (ds.take i ++ [e])))
                have h6 := depthAll_le.mpr fun y hy => h5 y (List.mem_append_left _ hy)
                have h7 := h5 e (by simp)
                omega
            show [some (V.ref a), some (V.int (if ((e.depth : Nat) : Int) > ((PyData.depthAll (ds.take i) : Nat) : Int) then ((e.depth : Nat) : Int) else ((PyData.depthAll (ds.take i) : Nat) : Int))), some x] = [some (V.ref a), some (V.int ((PyData.depthAll (ds.take i ++ [e]) : Nat) : Int)), some x]
            rw [emax]
            congr 4
            split <;> omega
          · rintro σ H' ⟨z, rfl, sm⟩
            rw [hlx, List.take_length]
            walk_at "r"
            have := q H' sm
            rw [depth_tuple] at this
            exact this
end
end K13
set_option Elab.async false
set_option linter.all false
set_option maxRecDepth 100000
set_option pp.deepTerms false
set_option pp.maxSteps 1500
namespace K13
open PySem PySem.Spec PyProof.Rows L2 HX TV FM DX FB FC PM
local macro_rules | `(tactic| walk_at "r") => `(tactic| (repeat (first | refine Exists.intro _ (And.intro rfl ?_) | refine And.intro rfl ?_ | refine Exists.intro _ (Exists.intro _ (And.intro rfl (And.intro rfl ?_))) | refine And.intro (by omega) ?_ | refine And.intro (Or.inl (And.intro (by omega) (by omega))) ?_ | refine And.intro (Or.inr (And.intro (by omega) (by omega))) ?_ | refine And.intro (And.intro (by omega) (by omega)) ?_ | refine And.intro (And.intro (by decide) (And.intro (by decide) (by decide))) ?_ | refine Or.inl (Exists.intro _ (And.intro rfl ?_)) | (dsimp only [gName]; first | with_reducible refine seqC ?_ | with_reducible refine asgC ?_))))
local macro_rules | `(tactic| walk_at "s") => `(tactic| (repeat (first | refine Exists.intro _ (And.intro rfl ?_) | refine And.intro rfl ?_ | refine Exists.intro _ (Exists.intro _ (And.intro rfl (And.intro rfl ?_))) | refine And.intro (by omega) ?_ | refine And.intro (Or.inl (And.intro (by omega) (by omega))) ?_ | refine And.intro (Or.inr (And.intro (by omega) (by omega))) ?_ | refine And.intro (And.intro (by omega) (by omega)) ?_ | refine And.intro (And.intro (by decide) (And.intro (by decide) (by decide))) ?_ | refine Or.inl (Exists.intro _ (And.intro rfl ?_)) | refine Exists.intro _ (Exists.intro _ (And.intro rfl ?_)) | (dsimp only [gName]; first | with_reducible refine seqC ?_ | with_reducible refine asgC ?_))))
section
variable {P : Program} {w : World} {K : PySem.W.Frag} {mg : Str → Option Value} {base : Heap}
/-- x - y -/
def sp_min (K : PySem.W.Frag) (n : Nat) : Sp := fun vs H Q _ => ∃ (x y : V) (d e : PyData), vs = [x, y] ∧ Dp K H x d ∧ Dp K H y e ∧ Fm d ∧ Fm e ∧ d.depth ≤ n + 1 ∧ e.depth ≤ n + 1 ∧ n ≤ 40 ∧ wt d + wt e ≤ 7850000 ∧
  ∀ (v : V) (r : PyData) H', Fm r → val r = val d - val e → r.depth ≤ n + 2 → wt r ≤ (n + 6) * (wt d + wt e + 141) → Dp K H' v r → Same H H' → Q v H'
theorem ok_minus (T : Top K mg) (n : Nat) : FnOk P w K mg base CX0 (n + 7) T.f_minus T.fd_minus ["x", "y"]  (sp_min K n) := by
  have G_total : FnOk P w K mg base CX0 (n + 6) T.f_total T.fd_total ["x", "y", "carry"]  (sp_tot K n) := ok_total T n
  have G_inverted : FnOk P w K mg base CX0 (1) T.f_inverted T.fd_inverted ["x"]  (sp_inv K) := ok_inverted T
  refine T.F_minus.ok sc_minus (fun vs H Q E h => ?_) (fun cdv Ar outer s H vs Q E hr h => ?_)
  · obtain ⟨x, y, d, e, rfl, _⟩ := h
    rfl
  · obtain ⟨x, y, d, e, rfl, hx, hy, hd, he, hdd, hde, hn, hw, q⟩ := h
    refine ⟨_, (pss_one (ps_ret (pe_call G_total (hr.mono (by omega)) (by rfl) T.g_total T.F_total.kp T.b_total .nil pass0 (pa_cons (pv 0) (pa_cons (pe_call G_inverted (hr.mono (by omega)) (by rfl) T.g_inverted T.F_inverted.kp T.b_inverted .nil pass0 (pa_cons (pv 1) pa_nil)) (pa_cons pe_int pa_nil)))))), ?_⟩
    refine ⟨_, rfl, _, rfl, y, e, rfl, hy, he, by omega, by omega, fun v r H1 k1 k2 k3 k4 k5 sm1 => ?_⟩
    refine ⟨x, v, d, r, 1, rfl, by decide, dp_tk (tk_same sm1) hd hx, k5, hd, k1, hdd, by omega, hn, by omega, fun v2 r2 H2 g1 g2 g3 g4 g5 sm2 => ?_⟩
    have : (n + 6) * (wt d + wt r + 140) ≤ (n + 6) * (wt d + wt e + 141) := Nat.mul_le_mul_left _ (by omega)
    exact q v2 r2 H2 g1 (by rw [g2, k2]; show _ + _ + (1 : Int) = _; omega) g3 (by omega) g5 (sm1.trans sm2)
/-- a form within the limits -/
def sp_kept (K : PySem.W.Frag) : Sp := fun vs H Q _ => ∃ (x : V) (d : PyData), vs = [x] ∧ Dp K H x d ∧ Fm d ∧ wt d ≤ 2000 ∧ d.depth ≤ 6 ∧ ∀ H', Same H H' → Q x H'
theorem ok_kept (T : Top K mg) {k : Nat} : FnOk P w K mg base CX0 (k + 8) T.f_kept T.fd_kept ["x"]  (sp_kept K) := by
  have G_size : FnOk P w K mg base CX0 (7) T.f_size T.fd_size ["x"]  (sp_size K 6) := ok_size T 6
  have G_height : FnOk P w K mg base CX0 (7) T.f_height T.fd_height ["x"]  (sp_height K 6) := ok_height T 6
  refine T.F_kept.ok sc_kept (fun vs H Q E h => ?_) (fun cdv Ar outer s H vs Q E hr h => ?_)
  · obtain ⟨x, d, rfl, _⟩ := h
    rfl
  · obtain ⟨x, d, rfl, hx, hd, hw, hdd, q⟩ := h
    refine ⟨_, (pss_cons (ps_if (pt_val (pe_callB call_isi (by rfl) T.m_isinstance (by decide +kernel) (pa_cons (pv 0) (pa_cons (pe_bltn (v := .ty "tuple") (by rfl) T.m_tuple (by decide +kernel) rfl) pa_nil))) (fun _ => rfl))
      (pss_cons (ps_set (i := 1) sc_kept.nd rfl (Or.inl rfl) (pe_call G_size (hr.mono (by omega)) (by rfl) T.g_size T.F_size.kp T.b_size .nil pass0 (pa_cons (pv 0) pa_nil)))
      (pss_cons (ps_set (i := 2) sc_kept.nd rfl (Or.inl rfl) (pe_call G_height (hr.mono (by omega)) (by rfl) T.g_height T.F_height.kp T.b_height .nil pass0 (pa_cons (pv 0) pa_nil)))
      (pss_one (ps_if (PW.pt (pw_or (pt_cmpR op_gt (pv 1) (pe_glob (v := .int (2000)) (by rfl) T.c_MOST_SIZE ⟨_, rfl⟩) (nomark _)) (pw_or1 (pt_cmpR op_gt (pv 2) (pe_glob (v := .int (6)) (by rfl) T.c_MOST_HEIGHT ⟨_, rfl⟩) (nomark _)))))
        (pss_one ps_never)
        pss_nil))))
      pss_nil)
    (pss_one (ps_ret (pv 0)))), ?_⟩
    refine ⟨_, rfl, _, _, _, _, !isI d, rfl, .ty "tuple", ty_f hx hd, kit_ft hd, _, rfl, ?_⟩
    refine ifBD (fun _ => ?_) (fun _ => ?_)
    · refine ⟨_, rfl, x, d, rfl, hx, hd, hdd, by omega, fun H1 sm1 => ?_⟩
      dsimp only [gName]
      refine ⟨_, rfl, x, d, rfl, dp_tk (tk_same sm1) hd hx, hd, hdd, by omega, fun H2 sm2 => ?_⟩
      walk_at "r"
      refine ifD (fun z => absurd z (by omega)) (fun _ => ?_)
      walk_at "r"
      refine ifD (fun z => absurd z (by omega)) (fun _ => ?_)
      walk_at "r"
      exact q H2 (sm1.trans sm2)
    · walk_at "r"
      exact q H (Same.refl _)
/-- a function of two forms, its result within the limits -/
def sp_f2 (K : PySem.W.Frag) (n : Nat) (f : Int → Int → Int → Prop) : Sp := fun vs H Q _ => ∃ (x y : V) (d e : PyData), vs = [x, y] ∧ Dp K H x d ∧ Dp K H y e ∧ Fm d ∧ Fm e ∧ d.depth ≤ n + 1 ∧ e.depth ≤ n + 1 ∧ n ≤ 30 ∧ wt d + wt e ≤ 90000 ∧
  (∀ r, Fm r → f (val d) (val e) (val r) → wt r ≤ 2000 ∧ r.depth ≤ 6) ∧ ∀ (v : V) (r : PyData) H', Fm r → f (val d) (val e) (val r) → wt r ≤ 2000 → r.depth ≤ 6 → Dp K H' v r → Same H H' → Q v H'
/-- a function of one form, its result within the limits -/
def sp_f1 (K : PySem.W.Frag) (n : Nat) (f : Int → Int) : Sp := fun vs H Q _ => ∃ (x : V) (d : PyData), vs = [x] ∧ Dp K H x d ∧ Fm d ∧ d.depth ≤ n + 1 ∧ n ≤ 30 ∧ wt d ≤ 90000 ∧
  (∀ r, Fm r → val r = f (val d) → wt r ≤ 2000 ∧ r.depth ≤ 6) ∧ ∀ (v : V) (r : PyData) H', Fm r → val r = f (val d) → wt r ≤ 2000 → r.depth ≤ 6 → Dp K H' v r → Same H H' → Q v H'
end
end K13
set_option Elab.async false
set_option linter.all false
set_option maxRecDepth 100000
set_option pp.deepTerms false
set_option pp.maxSteps 1500
namespace K13
open PySem PySem.Spec PyProof.Rows L2 HX TV FM DX FB FC PM
local macro_rules | `(tactic| walk_at "r") => `(tactic| (repeat (first | refine Exists.intro _ (And.intro rfl ?_) | refine And.intro rfl ?_ | refine Exists.intro _ (Exists.intro _ (And.intro rfl (And.intro rfl ?_))) | refine And.intro (by omega) ?_ | refine And.intro (Or.inl (And.intro (by omega) (by omega))) ?_ | refine And.intro (Or.inr (And.intro (by omega) (by omega))) ?_ | refine And.intro (And.intro (by omega) (by omega)) ?_ | refine And.intro (And.intro (by decide) (And.intro (by decide) (by decide))) ?_ | refine Or.inl (Exists.intro _ (And.intro rfl ?_)) | (dsimp only [gName]; first | with_reducible refine seqC ?_ | with_reducible refine asgC ?_))))
local macro_rules | `(tactic| walk_at "s") => `(tactic| (repeat (first | refine Exists.intro _ (And.intro rfl ?_) | refine And.intro rfl ?_ | refine Exists.intro _ (Exists.intro _ (And.intro rfl (And.intro rfl ?_))) | refine And.intro (by omega) ?_ | refine And.intro (Or.inl (And.intro (by omega) (by omega))) ?_ | refine And.intro (Or.inr (And.intro (by omega) (by omega))) ?_ | refine And.intro (And.intro (by omega) (by omega)) ?_ | refine And.intro (And.intro (by decide) (And.intro (by decide) (by decide))) ?_ | refine Or.inl (Exists.intro _ (And.intro rfl ?_)) | refine Exists.intro _ (Exists.intro _ (And.intro rfl ?_)) | (dsimp only [gName]; first | with_reducible refine seqC ?_ | with_reducible refine asgC ?_))))
section
variable {P : Program} {w : World} {K : PySem.W.Frag} {mg : Str → Option Value} {base : Heap}
/-- the fields of a refusal -/
abbrev xdTL (r : PyData) : HO := .xd [("levels", .int (r.depth : Nat)), ("parts", .int (wt r : Nat))]
/-- the form with F, or its refusal -/
def Outs (K : PySem.W.Frag) (C : Addr) (F : PyData → Prop) (H : Hp) (Q : VK) (E : XK) : Prop :=
  (∀ (v : V) (r : PyData) H', Fm r → F r → wt r ≤ 2000 → r.depth ≤ 6 → Dp K H' v r → Same H H' → Q v H') ∧
  ∀ (r : PyData) (dd : Addr) H', Fm r → F r → ¬ (wt r ≤ 2000 ∧ r.depth ≤ 6) → wt r ≤ 12000000 → r.depth ≤ 60 → H dd = none → Same H H' → H' dd = some (xdTL r) → E (.ref C) (some dd) H'
theorem none_of {H H' : Hp} {a : Addr} (e : Same H H') (h : H' a = none) : H a = none := by
  cases q : H a with
  | none => rfl
  | some o => rw [e _ _ q] at h; cases h
theorem Outs.later {C : Addr} {F : PyData → Prop} {H H1 : Hp} {Q : VK} {E : XK} (o : Outs K C F H Q E) (e : Same H H1) : Outs K C F H1 Q E :=
  ⟨fun v r H' a b c d f g => o.1 v r H' a b c d f (e.trans g), fun r dd H' a b c x y d f g => o.2 r dd H' a b c x y (none_of e d) (e.trans f) g⟩
/-- a form, or its refusal -/
def sp_keptX (K : PySem.W.Frag) (C : Addr) (n : Nat) : Sp := fun vs H Q E => ∃ (x : V) (d : PyData), vs = [x] ∧ Dp K H x d ∧ Fm d ∧ wt d ≤ 12000000 ∧ d.depth ≤ n ∧ n ≤ 60 ∧ Outs K C (fun r => r = d) H Q E
theorem ok_keptX (T : Top K mg) (hP : HX.PF P) (n : Nat) : FnOk P w K mg base (L2.CX P w) (n + 3) T.f_kept T.fd_kept ["x"]  (sp_keptX K T.C_TooLarge n) := by
  have G_size : FnOk P w K mg base CX0 (n + 1) T.f_size T.fd_size ["x"]  (sp_size K n) := ok_size T n
  have G_height : FnOk P w K mg base CX0 (n + 1) T.f_height T.fd_height ["x"]  (sp_height K n) := ok_height T n
  obtain ⟨fd_iTooLarge, F_iTooLarge, b_iTooLarge⟩ := init_TooLarge (P := P) (w := w) (base := base) T hP
  refine T.F_kept.okX sc_kept (fun vs H Q E h => ?_) (fun cdv Ar outer s H vs Q E hr h => ?_)
  · obtain ⟨x, d, rfl, _⟩ := h
    rfl
  · obtain ⟨x, d, rfl, hx, hd, hw, hdd, hn60, o⟩ := h
    refine ⟨_, (pss_cons (ps_if (pt_val (pe_callB call_isi (by rfl) T.m_isinstance (by decide +kernel) (pa_cons (pv 0) (pa_cons (pe_bltn (v := .ty "tuple") (by rfl) T.m_tuple (by decide +kernel) rfl) pa_nil))) (fun _ => rfl))
      (pss_cons (ps_set (i := 1) sc_kept.nd rfl (Or.inl rfl) (pe_call G_size (hr.mono (by omega)) (by rfl) T.g_size T.F_size.kp T.b_size .nil pass0 (pa_cons (pv 0) pa_nil)))
      (pss_cons (ps_set (i := 2) sc_kept.nd rfl (Or.inl rfl) (pe_call G_height (hr.mono (by omega)) (by rfl) T.g_height T.F_height.kp T.b_height .nil pass0 (pa_cons (pv 0) pa_nil)))
      (pss_one (ps_if (PW.pt (pw_or (pt_cmpR op_gt (pv 1) (pe_glob (v := .int (2000)) (by rfl) T.c_MOST_SIZE ⟨_, rfl⟩) (nomark _)) (pw_or1 (pt_cmpR op_gt (pv 2) (pe_glob (v := .int (6)) (by rfl) T.c_MOST_HEIGHT ⟨_, rfl⟩) (nomark _)))))
        (pss_one (ps_raise rfl (takes_of rfl rfl rfl rfl) (pmk_oex T.E_TooLarge.oex T.E_TooLarge.iC T.E_TooLarge.tI F_iTooLarge (hr.mono (by omega)) b_iTooLarge .nil pass00 (by rfl) T.E_TooLarge.g (pa_cons (pv 1) (pa_cons (pv 2) pa_nil)))))
        pss_nil))))
      pss_nil)
    (pss_one (ps_ret (pv 0)))), ?_⟩
    refine ⟨_, rfl, _, _, _, _, !isI d, rfl, .ty "tuple", ty_f hx hd, kit_ft hd, _, rfl, ?_⟩
    refine ifBD (fun _ => ?_) (fun hi => ?_)
    · refine ⟨_, rfl, x, d, rfl, hx, hd, hdd, by omega, fun H1 sm1 => ?_⟩
      dsimp only [gName]
      refine ⟨_, rfl, x, d, rfl, dp_tk (tk_same sm1) hd hx, hd, hdd, by omega, fun H2 sm2 => ?_⟩
      have sm12 := sm1.trans sm2
      walk_at "r"
      refine ifOrQ (6 < ((d.depth : Nat) : Int)) (fun hb => ?_) (fun h1 hX => ?_)
      · refine ⟨_, rfl, _, rfl, ?_⟩
        refine raise2 fun dd nd => ?_
        exact o.2 d dd _ hd rfl (by omega) hw (by omega) (none_of sm12 nd) (sm12.trans (sm_upd nd)) upd_same
      · walk_at "r"
        refine ifD (fun h2 => ?_) (fun h2 => ?_)
        · exact hX (.inr h2)
        · walk_at "r"
          exact o.1 x d H2 hd rfl (by omega) (by omega) (dp_tk (tk_same sm12) hd hx) sm12
    · walk_at "r"
      have hi' : d.depth = 0 ∧ wt d = 1 := by
        cases d with
        | int i => exact ⟨depth_int i, wt_int i⟩
        | tuple ds => simp [isI] at hi
        | none => simp [Fm] at hd
        | bool _ => simp [Fm] at hd
        | str _ => simp [Fm] at hd
        | list _ => simp [Fm] at hd
        | dict _ => simp [Fm] at hd
      exact o.1 x d H hd rfl (by omega) (by omega) hx (Same.refl _)
/-- a function of two forms; of one -/
def sp_f2X (K : PySem.W.Frag) (C : Addr) (n : Nat) (f : Int → Int → Int → Prop) : Sp := fun vs H Q E => ∃ (x y : V) (d e : PyData), vs = [x, y] ∧ Dp K H x d ∧ Dp K H y e ∧ Fm d ∧ Fm e ∧ d.depth ≤ n + 1 ∧ e.depth ≤ n + 1 ∧ n ≤ 30 ∧ wt d + wt e ≤ 90000 ∧ Outs K C (fun r => f (val d) (val e) (val r)) H Q E
def sp_f1X (K : PySem.W.Frag) (C : Addr) (n : Nat) (f : Int → Int) : Sp := fun vs H Q E => ∃ (x : V) (d : PyData), vs = [x] ∧ Dp K H x d ∧ Fm d ∧ d.depth ≤ n + 1 ∧ n ≤ 30 ∧ wt d ≤ 90000 ∧ Outs K C (fun r => val r = f (val d)) H Q E
theorem Outs.kept {C : Addr} {F : PyData → Prop} {H H1 : Hp} {Q : VK} {E : XK} {r : PyData} (o : Outs K C F H Q E) (e : Same H H1) (h : F r) : Outs K C (fun x => x = r) H1 Q E :=
  ⟨fun v x H' a b c d f g => o.1 v x H' a (b ▸ h) c d f (e.trans g), fun x dd H' a b c y z d f g => o.2 x dd H' a (b ▸ h) c y z (none_of e d) (e.trans f) g⟩
/-- ~x, with its weight -/
def sp_bnB (K : PySem.W.Frag) (C : Addr) (n : Nat) : Sp := fun vs H Q E => ∃ (x : V) (d : PyData), vs = [x] ∧ Dp K H x d ∧ Fm d ∧ d.depth ≤ n + 1 ∧ n ≤ 30 ∧ wt d ≤ 90000 ∧ Outs K C (fun r => val r = -val d - 1 ∧ wt r ≤ wt d + 1 ∧ r.depth ≤ d.depth) H Q E
end
end K13
set_option Elab.async false
set_option linter.all false
set_option maxRecDepth 100000
set_option pp.deepTerms false
set_option pp.maxSteps 1500
set_option maxHeartbeats 1000000
namespace K13
open PySem PySem.Spec PyProof.Rows L2 HX TV FM DX FB FC PM MS
local macro_rules | `(tactic| walk_at "r") => `(tactic| (repeat (first | refine Exists.intro _ (And.intro rfl ?_) | refine And.intro rfl ?_ | refine Exists.intro _ (Exists.intro _ (And.intro rfl (And.intro rfl ?_))) | refine And.intro (by omega) ?_ | refine And.intro (Or.inl (And.intro (by omega) (by omega))) ?_ | refine And.intro (Or.inr (And.intro (by omega) (by omega))) ?_ | refine And.intro (And.intro (by omega) (by omega)) ?_ | refine And.intro (And.intro (by decide) (And.intro (by decide) (by decide))) ?_ | refine Or.inl (Exists.intro _ (And.intro rfl ?_)) | (dsimp only [gName]; first | with_reducible refine seqC ?_ | with_reducible refine asgC ?_))))
local macro_rules | `(tactic| walk_at "s") => `(tactic| (repeat (first | refine Exists.intro _ (And.intro rfl ?_) | refine And.intro rfl ?_ | refine Exists.intro _ (Exists.intro _ (And.intro rfl (And.intro rfl ?_))) | refine And.intro (by omega) ?_ | refine And.intro (Or.inl (And.intro (by omega) (by omega))) ?_ | refine And.intro (Or.inr (And.intro (by omega) (by omega))) ?_ | refine And.intro (And.intro (by omega) (by omega)) ?_ | refine And.intro (And.intro (by decide) (And.intro (by decide) (by decide))) ?_ | refine Or.inl (Exists.intro _ (And.intro rfl ?_)) | refine Exists.intro _ (Exists.intro _ (And.intro rfl ?_)) | (dsimp only [gName]; first | with_reducible refine seqC ?_ | with_reducible refine asgC ?_))))
section
variable {P : Program} {w : World} {K : PySem.W.Frag} {mg : Str → Option Value} {base : Heap}
def sp_shf (K : PySem.W.Frag) (n : Nat) : Sp := fun vs H Q _ => ∃ (x y : V) (d e : PyData), vs = [x, y] ∧ Dp K H x d ∧ Dp K H y e ∧ Fm d ∧ Fm e ∧ 0 ≤ val e ∧ d.depth ≤ n + 2 ∧ e.depth ≤ n + 1 ∧ n ≤ 40 ∧ wt d + wt e ≤ 80000 ∧
  ∀ (v : V) (r : PyData) H', Fm r → val r = val d * 2 ^ vl e → r.depth ≤ n + 3 → wt r ≤ (n + 6) * ((wt d + 65) * (wt e + 141)) + 1 → Dp K H' v r → Same H H' → Q v H'
theorem ok_shifted (T : Top K mg) (n : Nat) : FnOk P w K mg base CX0 (n + 7) T.f_shifted T.fd_shifted ["x", "amount"]  (sp_shf K n) := by
  have G_turns : FnOk P w K mg base CX0 (2) T.f_turns T.fd_turns ["x"]  (sp_trn K) := ok_turns T
  have G_made : FnOk P w K mg base CX0 (1) T.f_made T.fd_made ["found"]  (sp_made K) := ok_made T
  have G_total : FnOk P w K mg base CX0 (n + 6) T.f_total T.fd_total ["x", "y", "carry"]  (sp_tot K n) := ok_total T n
  refine T.F_shifted.ok sc_shifted (fun vs H Q E h => ?_) (fun cdv A outer s H vs Q E hr h => ?_)
  · obtain ⟨x, y, d, e, rfl, _⟩ := h
    rfl
  · obtain ⟨x, y, d, e, rfl, hx, hy, hd, he, h0, hdd, hde, hn, hw, q⟩ := h
    refine ⟨_, (pss_one (ps_ret (pe_call G_made (hr.mono (by omega)) (by rfl) T.g_made T.F_made.kp T.b_made .nil pass0 (pa_cons (pe_lc (own := [("turn", 2)]) (g := gName 2) (by rfl) sc_shifted.nd (pi_tup (pe_call G_turns (hr.mono (by omega)) (by rfl) T.g_turns T.F_turns.kp T.b_turns .nil pass0 (pa_cons (pv 0) pa_nil))) (blkOk_by (own := [("turn", 2)]) (N := ["x", "amount", "turn"]) (sc := defScope s_shifted) (by decide +kernel)) (fun _ _ _ _ _ => (pg_name (i := 2) sc_shifted.nd rfl (Or.inl rfl))) (fun _ _ _ _ _ => pts_nil) (fun _ _ _ _ _ => (pe_call G_total (hr.mono (by omega)) (by rfl) T.g_total T.F_total.kp T.b_total .nil pass0 (pa_cons (pv 2) (pa_cons (pv 1) (pa_cons pe_int pa_nil)))))) pa_nil)))), ?_⟩
    refine ⟨_, rfl, x, d, rfl, hx, hd, fun a us ds H1 fA hA ev hsq hD hdep hwt _ sm1 => ?_⟩
    have hy1 := dp_tk (tk_same sm1) he hy
    refine ⟨a, rfl, ⟨_, hsq⟩, fun D nD => lc_tup (xs := us) (fun i H' => Same H1 H' ∧ ∃ (vs : List V) (F : List PyData), H' D = some (.lst vs) ∧ DpAll K H' vs F ∧ FmAll F ∧ vals F = ((vals ds).take i).map (· + vl e) ∧ PyData.depthAll F ≤ n + 2 ∧ wtAll F ≤ (n + 6) * (wtAll (ds.take i) * (wt e + 141))) ⟨sm_upd nD, [], [], upd_same, .nil, fmAll_nil, by rw [vals_nil]; rfl, by rw [depthAll_nil]; omega, by rw [wtAll_nil]; exact Nat.zero_le _⟩ ?_ ?_ ?_⟩
    · rintro i H' _ ⟨sm, _⟩
      exact HX.Same.tup sm hsq
    · rintro i v H' hv ⟨sm, vs, F, hDl, dp, fF, hvF, hdF, hwF⟩
      obtain ⟨dt, hdt, hDt⟩ := dpAll_get hD hv
      have hm := List.mem_of_getElem? hdt
      obtain ⟨fdt, h0t⟩ := fmAll_mem fA dt hm
      have h1 := dep_mem hm
      have h2 := wt_mem hm
      have h3 := wt_pos dt
      refine ⟨rfl, ?_⟩
      refine ⟨_, rfl, _, rfl, v, y, dt, e, 0, rfl, by decide, dp_tk (tk_same sm) fdt hDt, dp_tk (tk_same sm) he hy1, fdt, he, by omega, hde, hn, by omega, fun v2 r H2 g1 g2 g3 g4 g5 sm2 => ?_⟩
      have g2' : val r = val dt + val e := by rw [g2]; show _ + (0 : Int) = _; omega
      have mD : Mut (H2 D) := by rw [sm2 _ _ hDl]; trivial
      have hlv := dpAll_len dp
      have hlF : F.length ≤ i := by
        have := congrArg List.length hvF
        rw [vals_len, List.length_map, List.length_take] at this
        omega
      have hil := (List.getElem?_eq_some_iff.mp hdt).1
      have hlw := len_wt ds
      refine ⟨vs, sm2 _ _ hDl, len_lt (by omega), sm_mut (sm.trans sm2) nD, vs ++ [v2], F ++ [r], upd_same, dpAll_app (dpAll_tk ((tk_same sm2).trans (tk_mut mD)) fF dp) (.cons (dp_tk (tk_mut mD) g1 g5) .nil), fmAll_snoc fF g1 (by omega), ?_, ?_, ?_⟩
      · rw [vals_app, hvF, take_snoc (vals_at hdt), List.map_append, vals_cons, vals_nil]
        congr 1
        show [(val r).toNat] = [vl dt + vl e]
        unfold vl
        rw [g2']
        congr 1
        omega
      · refine depthAll_le.mpr fun z hz => ?_
        rcases List.mem_append.mp hz with hz | hz
        · exact depthAll_le.mp hdF z hz
        · have : z = r := by simpa using hz
          rw [this]
          exact g3
      · rw [wtAll_app, take_one hdt, wtAll_app, wtAll_cons, wtAll_nil, wtAll_cons, wtAll_nil]
        exact row_wt hwF g4 h3
    · rintro H2 ⟨sm2, vs, F, hDl, dp, fF, hvF, hdF, hwF⟩
      have hl := dpAll_len hD
      rw [show us.length = (vals ds).length by rw [vals_len]; exact hl, List.take_length] at hvF
      rw [hl, List.take_length] at hwF
      refine ⟨D, vs, F, rfl, .inl (.inl (.inl hDl)), dp, fF, by rw [hvF]; exact asc_map_add _ hA, fun v r H3 k1 k2 k3 k4 k5 sm3 => ?_⟩
      refine q v r H3 k1 ?_ (by omega) ?_ k5 ((sm1.trans sm2).trans sm3)
      · rw [k2, hvF, tv_map_add, ev, Int.mul_comm]
      · have : (n + 6) * (wtAll ds * (wt e + 141)) ≤ (n + 6) * ((wt d + 65) * (wt e + 141)) := Nat.mul_le_mul_left _ (Nat.mul_le_mul_right _ hwt)
        omega
def sp_drp (K : PySem.W.Frag) (n : Nat) : Sp := fun vs H Q _ => ∃ (x y : V) (d e : PyData), vs = [x, y] ∧ Dp K H x d ∧ Dp K H y e ∧ Fm d ∧ Fm e ∧ 0 ≤ val e ∧ d.depth ≤ n + 2 ∧ e.depth ≤ n + 1 ∧ n ≤ 40 ∧ wt d + wt e ≤ 80000 ∧
  ∀ (v : V) (r : PyData) H', Fm r → val r = val d / 2 ^ vl e → r.depth ≤ n + 3 → wt r ≤ (n + 6) * ((wt d + 65) * (wt e + 142)) + 2 → Dp K H' v r → Same H H' → Q v H'
theorem keepD {ds : List PyData} {e : PyData} (fA : FmAll ds) (h0 : 0 ≤ val e) : vals (ds.filter fun z => decide (val e < val z)) = (vals ds).filter fun t => decide (vl e < t) := by
  induction ds with
  | nil => rfl
  | cons d r ih =>
    obtain ⟨_, hd, fr⟩ := (fmAll_cons d r).mp fA
    rw [vals_cons, List.filter_cons, List.filter_cons, ← ih fr]
    by_cases h : val e < val d
    · rw [if_pos (by simpa using h), if_pos (by unfold vl; simp; omega), vals_cons]
    · rw [if_neg (by simpa using h), if_neg (by unfold vl; simp; omega)]
end
end K13
set_option Elab.async false
set_option linter.all false
set_option maxRecDepth 100000
set_option pp.deepTerms false
set_option pp.maxSteps 1500
set_option maxHeartbeats 1000000
namespace K13
open PySem PySem.Spec PyProof.Rows L2 HX TV FM DX FB FC PM MS
local macro_rules | `(tactic| walk_at "r") => `(tactic| (repeat (first | refine Exists.intro _ (And.intro rfl ?_) | refine And.intro rfl ?_ | refine Exists.intro _ (Exists.intro _ (And.intro rfl (And.intro rfl ?_))) | refine And.intro (by omega) ?_ | refine And.intro (Or.inl (And.intro (by omega) (by omega))) ?_ | refine And.intro (Or.inr (And.intro (by omega) (by omega))) ?_ | refine And.intro (And.intro (by omega) (by omega)) ?_ | refine And.intro (And.intro (by decide) (And.intro (by decide) (by decide))) ?_ | refine Or.inl (Exists.intro _ (And.intro rfl ?_)) | (dsimp only [gName]; first | with_reducible refine seqC ?_ | with_reducible refine asgC ?_))))
local macro_rules | `(tactic| walk_at "s") => `(tactic| (repeat (first | refine Exists.intro _ (And.intro rfl ?_) | refine And.intro rfl ?_ | refine Exists.intro _ (Exists.intro _ (And.intro rfl (And.intro rfl ?_))) | refine And.intro (by omega) ?_ | refine And.intro (Or.inl (And.intro (by omega) (by omega))) ?_ | refine And.intro (Or.inr (And.intro (by omega) (by omega))) ?_ | refine And.intro (And.intro (by omega) (by omega)) ?_ | refine And.intro (And.intro (by decide) (And.intro (by decide) (by decide))) ?_ | refine Or.inl (Exists.intro _ (And.intro rfl ?_)) | refine Exists.intro _ (Exists.intro _ (And.intro rfl ?_)) | (dsimp only [gName]; first | with_reducible refine seqC ?_ | with_reducible refine asgC ?_))))
section
variable {P : Program} {w : World} {K : PySem.W.Frag} {mg : Str → Option Value} {base : Heap}
/-- shifts; a shift by less than nought is refused -/
def sp_slX (K : PySem.W.Frag) (C CN : Addr) (n : Nat) (f : Int → Nat → Int) : Sp := fun vs H Q E => ∃ (x y : V) (d e : PyData), vs = [x, y] ∧ Dp K H x d ∧ Dp K H y e ∧ Fm d ∧ Fm e ∧
  (0 ≤ val e → d.depth ≤ n + 2 ∧ e.depth ≤ n + 1 ∧ n ≤ 40 ∧ wt d + wt e ≤ 80000 ∧ (n + 6) * ((wt d + 65) * (wt e + 142)) ≤ 11000000 ∧ Outs K C (fun r => val r = f (val d) (vl e)) H Q E) ∧
  (val e < 0 → ∀ dd H', H dd = none → Same H H' → H' dd = some (.xd [("amount", y)]) → E (.ref CN) (some dd) H')
theorem ok_shift_leftX (T : Top K mg) (hP : HX.PF P) (n : Nat) : FnOk P w K mg base (L2.CX P w) (n + 8) T.f_shift_left T.fd_shift_left ["x", "s"]  (sp_slX K T.C_TooLarge T.C_NegativeShift n fun a b => a * 2 ^ b) := by
  have G_negative : FnOk P w K mg base CX0 (1) T.f_negative T.fd_negative ["x"]  (sp_neg K) := ok_negative T
  have G_shifted : FnOk P w K mg base CX0 (n + 7) T.f_shifted T.fd_shifted ["x", "amount"]  (sp_shf K n) := ok_shifted T n
  have G_kept : FnOk P w K mg base (L2.CX P w) (n + 6) T.f_kept T.fd_kept ["x"]  (sp_keptX K T.C_TooLarge (n + 3)) := ok_keptX T hP (n + 3)
  obtain ⟨fd_iNegativeShift, F_iNegativeShift, b_iNegativeShift⟩ := init_NegativeShift (P := P) (w := w) (base := base) T hP
  refine T.F_shift_left.okX sc_shift_left (fun vs H Q E h => ?_) (fun cdv Ar outer s H vs Q E hr h => ?_)
  · obtain ⟨x, y, d, e, rfl, _⟩ := h
    rfl
  · obtain ⟨x, y, d, e, rfl, hx, hy, hd, he, q, qe⟩ := h
    refine ⟨_, (pss_cons (ps_if (pt_val (pe_call G_negative (hr.mono (by omega)) (by rfl) T.g_negative T.F_negative.kp T.b_negative .nil pass0 (pa_cons (pv 1) pa_nil)) (fun _ => rfl))
      (pss_one (ps_raise rfl (takes_of rfl rfl rfl rfl) (pmk_oex T.E_NegativeShift.oex T.E_NegativeShift.iC T.E_NegativeShift.tI F_iNegativeShift (hr.mono (by omega)) b_iNegativeShift .nil pass00 (by rfl) T.E_NegativeShift.g (pa_cons (pv 1) pa_nil))))
      pss_nil)
    (pss_one (ps_ret (pe_call G_kept (hr.mono (by omega)) (by rfl) T.g_kept T.F_kept.kp T.b_kept .nil (passes_call (takes_of rfl rfl rfl rfl) (fun _ _ _ _ h => h)) (pa_cons (pe_call G_shifted (hr.mono (by omega)) (by rfl) T.g_shifted T.F_shifted.kp T.b_shifted .nil pass0 (pa_cons (pv 0) (pa_cons (pv 1) pa_nil))) pa_nil))))), ?_⟩
    refine ⟨_, rfl, y, e, rfl, hy, he, _, rfl, ?_⟩
    refine ifD (fun h0 => ?_) (fun h0 => ?_)
    · refine ⟨_, rfl, ?_⟩
      refine raise1 fun dd nd => ?_
      exact qe h0 dd _ nd (sm_upd nd) upd_same
    · obtain ⟨h1, h2, h3, h4, h5, o⟩ := q (by omega)
      refine ⟨_, rfl, _, rfl, x, y, d, e, rfl, hx, hy, hd, he, by omega, h1, h2, h3, h4, fun v r H1 k1 k2 k3 k4 k5 sm1 => ?_⟩
      have : (n + 6) * ((wt d + 65) * (wt e + 141)) ≤ (n + 6) * ((wt d + 65) * (wt e + 142)) := Nat.mul_le_mul_left _ (Nat.mul_le_mul_left _ (by omega))
      exact ⟨v, r, rfl, k5, k1, by omega, by omega, by omega, o.kept sm1 k2⟩
end
end K13
set_option Elab.async false
set_option linter.all false
set_option maxRecDepth 100000
set_option pp.deepTerms false
set_option pp.maxSteps 1500
set_option maxHeartbeats 1000000
namespace K13
open PySem PySem.Spec PyProof.Rows L2 HX TV FM DX FB FC PM MS
local macro_rules | `(tactic| walk_at "r") => `(tactic| (repeat (first | refine Exists.intro _ (And.intro rfl ?_) | refine And.intro rfl ?_ | refine Exists.intro _ (Exists.intro _ (And.intro rfl (And.intro rfl ?_))) | refine And.intro (by omega) ?_ | refine And.intro (Or.inl (And.intro (by omega) (by omega))) ?_ | refine And.intro (Or.inr (And.intro (by omega) (by omega))) ?_ | refine And.intro (And.intro (by omega) (by omega)) ?_ | refine And.intro (And.intro (by decide) (And.intro (by decide) (by decide))) ?_ | refine Or.inl (Exists.intro _ (And.intro rfl ?_)) | (dsimp only [gName]; first | with_reducible refine seqC ?_ | with_reducible refine asgC ?_))))
local macro_rules | `(tactic| walk_at "s") => `(tactic| (repeat (first | refine Exists.intro _ (And.intro rfl ?_) | refine And.intro rfl ?_ | refine Exists.intro _ (Exists.intro _ (And.intro rfl (And.intro rfl ?_))) | refine And.intro (by omega) ?_ | refine And.intro (Or.inl (And.intro (by omega) (by omega))) ?_ | refine And.intro (Or.inr (And.intro (by omega) (by omega))) ?_ | refine And.intro (And.intro (by omega) (by omega)) ?_ | refine And.intro (And.intro (by decide) (And.intro (by decide) (by decide))) ?_ | refine Or.inl (Exists.intro _ (And.intro rfl ?_)) | refine Exists.intro _ (Exists.intro _ (And.intro rfl ?_)) | (dsimp only [gName]; first | with_reducible refine seqC ?_ | with_reducible refine asgC ?_))))
section
variable {P : Program} {w : World} {K : PySem.W.Frag} {mg : Str → Option Value} {base : Heap}
/-- what must be known of two factors -/
def PrH (d e : PyData) (W n : Nat) : Prop := ((∃ i, d = .int i) ∧ ∃ j, e = .int j) ∨ (tau (val d) * tau (val e) ≤ 600 ∧ PlB (turnsOf (val d)) (turnsOf (val e)) W n ∧ 2 * (tau (val d) * tau (val e)) * W ≤ 7750000)
theorem PrH.symm {d e : PyData} {W n : Nat} (h : PrH d e W n) : PrH e d W n := by
  rcases h with ⟨a, b⟩ | ⟨h1, h2, h3⟩
  · exact .inl ⟨b, a⟩
  · exact .inr ⟨by rw [Nat.mul_comm]; exact h1, h2.symm, by rw [Nat.mul_comm (tau (val e))]; exact h3⟩
def PrQ (K : PySem.W.Frag) (d e : PyData) (n : Nat) (H : Hp) (Q : VK) : Prop := ∀ (v : V) (r : PyData) H', Fm r → val r = val d * val e → r.depth ≤ n + 1 → wt r ≤ 7750001 → Dp K H' v r → Same H H' → Q v H'
def sp_prd0 (K : PySem.W.Frag) (n : Nat) : Sp := fun vs H Q _ => ∃ (x y : V) (d e : PyData) (W : Nat), vs = [x, y] ∧ Dp K H x d ∧ Dp K H y e ∧ Fm d ∧ Fm e ∧ d.depth ≤ n + 1 ∧ e.depth ≤ n + 1 ∧ n ≤ 30 ∧ wt d + wt e ≤ 40000 ∧ PrH d e W n ∧ (isI d = true ∧ isI e = true ∨ tau (val e) ≤ tau (val d)) ∧ PrQ K d e n H Q
def sp_prd (K : PySem.W.Frag) (n : Nat) : Sp := fun vs H Q _ => ∃ (x y : V) (d e : PyData) (W : Nat), vs = [x, y] ∧ Dp K H x d ∧ Dp K H y e ∧ Fm d ∧ Fm e ∧ d.depth ≤ n + 1 ∧ e.depth ≤ n + 1 ∧ n ≤ 30 ∧ wt d + wt e ≤ 40000 ∧ PrH d e W n ∧ PrQ K d e n H Q
theorem mul_range {i j : Int} (h1 : -(2 ^ 64) ≤ i ∧ i < 2 ^ 64) (h2 : -(2 ^ 64) ≤ j ∧ j < 2 ^ 64) : -(2 ^ 130) ≤ i * j ∧ i * j < 2 ^ 130 := by
  have h3 : (i * j).natAbs ≤ 2 ^ 64 * 2 ^ 64 := by
    rw [Int.natAbs_mul]
    exact Nat.mul_le_mul (by omega) (by omega)
  omega
theorem ok_product0 (T : Top K mg) (n : Nat) : FnOk P w K mg base CX0 (n + 8) T.f_product T.fd_product ["x", "y"]  (sp_prd0 K n) := by
  have G_turns : FnOk P w K mg base CX0 (2) T.f_turns T.fd_turns ["x"]  (sp_trn K) := ok_turns T
  have G_of_int : FnOk P w K mg base CX0 (2) T.f_of_int T.fd_of_int ["number"]  (sp_ofint K) := ok_of_int T
  have G_total : FnOk P w K mg base CX0 (n + 6) T.f_total T.fd_total ["x", "y", "carry"]  (sp_tot K n) := ok_total T n
  have G_minus : FnOk P w K mg base CX0 (n + 7) T.f_minus T.fd_minus ["x", "y"]  (sp_min K n) := ok_minus T n
  have G_shifted : FnOk P w K mg base CX0 (n + 7) T.f_shifted T.fd_shifted ["x", "amount"]  (sp_shf K n) := ok_shifted T n
  refine T.F_product.ok sc_product (fun vs H Q E h => ?_) (fun cdv A outer s H vs Q E hr h => ?_)
  · obtain ⟨x, y, d, e, W, rfl, _⟩ := h
    rfl
  · obtain ⟨x, y, d, e, W, rfl, hx, hy, hd, he, hdd, hde, hn, hw, hPr, htau, q⟩ := h
    refine ⟨_, (pss_cons (ps_if (PW.pt (pw_and (pt_val (pe_callB call_isi (by rfl) T.m_isinstance (by decide +kernel) (pa_cons (pv 0) (pa_cons (pe_bltn (v := .ty "int") (by rfl) T.m_int (by decide +kernel) rfl) pa_nil))) (fun _ => rfl)) (pw_and1 (pt_val (pe_callB call_isi (by rfl) T.m_isinstance (by decide +kernel) (pa_cons (pv 1) (pa_cons (pe_bltn (v := .ty "int") (by rfl) T.m_int (by decide +kernel) rfl) pa_nil))) (fun _ => rfl)))))
      (pss_one (ps_ret (pe_call G_of_int (hr.mono (by omega)) (by rfl) T.g_of_int T.F_of_int.kp T.b_of_int .nil pass0 (pa_cons (pe_op op_mulW (pv 0) (pv 1)) pa_nil))))
      pss_nil)
    (pss_cons (ps_if (pt_cmpR op_lt (pe_callB call_len_seq (by rfl) T.m_len PySem.boot_len (pa_cons (pe_call G_turns (hr.mono (by omega)) (by rfl) T.g_turns T.F_turns.kp T.b_turns .nil pass0 (pa_cons (pv 0) pa_nil)) pa_nil)) (pe_callB call_len_seq (by rfl) T.m_len PySem.boot_len (pa_cons (pe_call G_turns (hr.mono (by omega)) (by rfl) T.g_turns T.F_turns.kp T.b_turns .nil pass0 (pa_cons (pv 1) pa_nil)) pa_nil)) (nomark _))
      (pss_one (ps_ret pe_never))
      pss_nil)
    (pss_cons (ps_set (i := 2) sc_product.nd rfl (Or.inl rfl) pe_int)
    (pss_cons (ps_for PassesOwn.never rfl (pi_enumT (by rfl) T.m_enumerate (pa_cons (pe_call G_turns (hr.mono (by omega)) (by rfl) T.g_turns T.F_turns.kp T.b_turns .nil pass0 (pa_cons (pv 1) pa_nil)) pa_nil)) (pg_tup rfl (pgs_cons (pg_name (i := 3) sc_product.nd rfl (Or.inl rfl)) (pgs_cons (pg_name (i := 4) sc_product.nd rfl (Or.inl rfl)) pgs_nil)))
      (pss_one (ps_if (pt_cmpR op_eq (pe_op op_and (pv 3) pe_int) pe_int (nomark _))
        (pss_one (ps_set (i := 2) sc_product.nd rfl (Or.inl rfl) (pe_call G_total (hr.mono (by omega)) (by rfl) T.g_total T.F_total.kp T.b_total .nil pass0 (pa_cons (pv 2) (pa_cons (pe_call G_shifted (hr.mono (by omega)) (by rfl) T.g_shifted T.F_shifted.kp T.b_shifted .nil pass0 (pa_cons (pv 0) (pa_cons (pv 4) pa_nil))) (pa_cons pe_int pa_nil))))))
        (pss_one (ps_set (i := 2) sc_product.nd rfl (Or.inl rfl) (pe_call G_minus (hr.mono (by omega)) (by rfl) T.g_minus T.F_minus.kp T.b_minus .nil pass0 (pa_cons (pv 2) (pa_cons (pe_call G_shifted (hr.mono (by omega)) (by rfl) T.g_shifted T.F_shifted.kp T.b_shifted .nil pass0 (pa_cons (pv 0) (pa_cons (pv 4) pa_nil))) pa_nil))))))))
    (pss_one (ps_ret (pv 2))))))), ?_⟩
    refine ⟨_, rfl, _, _, _, _, isI d, rfl, .ty "int", ty_f hx hd, kit_fi hd, _, rfl, ?_⟩
    have plain : isI d = true → isI e = true → ∃ i j, d = .int i ∧ e = .int j ∧ x = .int i ∧ y = .int j := fun h1 h2 => by
      obtain ⟨i, rfl⟩ := fm_isI hd h1
      obtain ⟨j, rfl⟩ := fm_isI he h2
      cases hx
      cases hy
      exact ⟨i, j, rfl, rfl, rfl, rfl⟩
    by_cases hpl : isI d = true ∧ isI e = true
    · obtain ⟨i, j, rfl, rfl, rfl, rfl⟩ := plain hpl.1 hpl.2
      have hi := (fm_int i).mp hd
      have hj := (fm_int j).mp he
      refine ifY rfl ?_
      refine ⟨_, rfl, _, _, _, _, true, rfl, .ty "int", tyI _, k_ii, true, rfl, iteT ?_⟩
      have lg : ∀ {k : Int}, -(2 ^ 64) ≤ k ∧ k < 2 ^ 64 → k.natAbs.log2 < 70 := fun {k} h => by
        by_cases hz : k.natAbs = 0
        · rw [hz]
          decide
        · rw [Nat.log2_lt hz]
          omega
      have hm := mul_range hi hj
      have lgi := lg hi
      have lgj := lg hj
      refine ⟨_, rfl, _, rfl, i, j, rfl, rfl, (by unfold CMulW; omega), ?_⟩
      refine ⟨_, 130, rfl, by decide, hm.1, hm.2, fun v r H1 g1 g2 g3 g4 g5 sm1 => ?_⟩
      exact q v r H1 g1 (by rw [g2, val_int, val_int]) (by omega) (by omega) g5 sm1
    obtain ⟨h600, hPl, hW⟩ : tau (val d) * tau (val e) ≤ 600 ∧ PlB (turnsOf (val d)) (turnsOf (val e)) W n ∧ 2 * (tau (val d) * tau (val e)) * W ≤ 7750000 := by
      rcases hPr with ⟨⟨i, rfl⟩, j, rfl⟩ | h
      · exact absurd ⟨rfl, rfl⟩ hpl
      · exact h
    replace htau := htau.resolve_left hpl
    refine ifB ?_ (fun h1 hY => ?_)
    · dsimp only [tNext]
      refine ⟨_, rfl, x, d, rfl, hx, hd, fun a us ds H1 fA hA ev hsq hD hdep hwt _ sm1 => ?_⟩
      refine ⟨a, _, rfl, .inr hsq, ?_⟩
      refine ⟨_, rfl, y, e, rfl, dp_tk (tk_same sm1) he hy, he, fun b ws es H2 fB hB ev2 hsq2 hD2 hdep2 hwt2 _ sm2 => ?_⟩
      refine ⟨b, _, rfl, .inr hsq2, ?_⟩
      have etd : turnsOf (val d) = vals ds := turnsOf_is hA ev
      have ete : turnsOf (val e) = vals es := turnsOf_is hB ev2
      have ld : tau (val d) = us.length := by unfold tau; rw [etd, vals_len, dpAll_len hD]
      have le : tau (val e) = ws.length := by unfold tau; rw [ete, vals_len, dpAll_len hD2]
      have sm12 := sm1.trans sm2
      walk_at "r"
      refine ifD (fun hlt => absurd hlt (by omega)) (fun hge => ?_)
      dsimp only [tNext]
      with_reducible refine seqC ?_
      have hy2 := dp_tk (tk_same sm12) he hy
      have hx2 := dp_tk (tk_same sm12) hd hx
      with_reducible refine cut (fun σ H' => ∃ (z3 z4 : Option V) (vf : V) (r : PyData), σ = [some x, some y, some vf, z3, z4] ∧ Fm r ∧ val r = val d * val e ∧ Dp K H' vf r ∧ Same H H') (fun D0 J0 => ?_) ?_
      · refine ⟨_, rfl, y, e, rfl, hy2, he, fun b ws es H3 fB hB ev2 hsq2 hD2 hdep2 hwt2 _ sm3 => ?_⟩
        have ete : turnsOf (val e) = vals es := turnsOf_is hB ev2
        have lte : (vals es).length = tau (val e) := by unfold tau; rw [ete]
        have ltd : (turnsOf (val d)).length = tau (val d) := rfl
        have etv : tv (turnsOf (val d)) = val d := turnsOf_tv _
        have hx3 := dp_tk (tk_same sm3) hd hx2
        have hlw := dpAll_len hD2
        have sm13 := sm12.trans sm3
        refine ⟨b, ws, rfl, hsq2, flET (xs := ws) (fun i σ H' => ∃ (z3 z4 : Option V) (vf : V) (r : PyData), σ = [some x, some y, some vf, z3, z4] ∧ Fm r ∧ val r = val d * tv ((vals es).take i) ∧ Dp K H' vf r ∧ Same H3 H') ⟨none, none, .int 0, .int 0, rfl, (fm_int 0).mpr (by decide), by rw [val_int]; show (0 : Int) = _ * 0; rw [Int.mul_zero], .int 0, Same.refl _⟩ ?_ ?_ ?_⟩
        · rintro i σ H' _ ⟨_, _, _, _, _, _, _, _, sm⟩
          exact HX.Same.tup sm hsq2
        · rintro i vt σ H' hvt ⟨z3, z4, vf, r, rfl, fr, er, Dr, sm⟩ Tt nT D' B
          obtain ⟨dt, hdt, hDt⟩ := dpAll_get hD2 hvt
          have hm := List.mem_of_getElem? hdt
          obtain ⟨fdt, h0t⟩ := fmAll_mem fB dt hm
          have hil := (List.getElem?_eq_some_iff.mp hdt).1
          have h1 := dep_mem hm
          have h2 := wt_mem hm
          have ms := made_step (vals_at hdt)
          have sT := sm_upd (o := .tup [.int (i : Nat), vt]) nT
          have sm' := sm.trans sT
          refine ⟨Tt, _, rfl, .inl (.inl upd_same), rfl, _, _, rfl, _, _, rfl, rfl, ?_⟩
          have hT1 : 1 ≤ tau (val e) := by
            rw [← lte, vals_len]
            omega
          have hd600 : tau (val d) ≤ 600 := Nat.le_trans (Nat.le_mul_of_pos_right _ hT1) h600
          have bnd : ∀ {r' : PyData} {k : Nat}, k ≤ tau (val e) → Fm r' → val r' = val d * tv ((vals es).take k) → wt r' ≤ 7750001 ∧ r'.depth ≤ n + 1 ∧ wt r' ≤ 1 + 2 * (tau (val d) * k) * W := fun {r' k} hk f' e' => by
            have hsub : PlB (turnsOf (val d)) ((vals es).take k) W n := hPl.sub fun t ht => by rw [ete]; exact List.mem_of_mem_take ht
            have hlen : ((vals es).take k).length ≤ tau (val e) := by rw [List.length_take]; omega
            have hmul : (turnsOf (val d)).length * ((vals es).take k).length ≤ tau (val d) * tau (val e) := Nat.mul_le_mul_left _ hlen
            obtain ⟨w1, w2⟩ := prod_wt hsub (Nat.le_trans hmul (by omega)) f' (by rw [e', etv])
            have w3 : 2 * ((turnsOf (val d)).length * ((vals es).take k).length) * W ≤ 2 * (tau (val d) * tau (val e)) * W := Nat.mul_le_mul_right _ (Nat.mul_le_mul_left _ hmul)
            have hk2 : ((vals es).take k).length ≤ k := by rw [List.length_take]; omega
            have w4 : 2 * ((turnsOf (val d)).length * ((vals es).take k).length) * W ≤ 2 * (tau (val d) * k) * W := Nat.mul_le_mul_right _ (Nat.mul_le_mul_left _ (Nat.mul_le_mul_left _ hk2))
            exact ⟨by omega, w2, by omega⟩
          have sbnd : ∀ {r' : PyData}, Fm r' → val r' = val d * 2 ^ vl dt → wt r' ≤ 7750001 ∧ r'.depth ≤ n + 1 ∧ wt r' ≤ 1 + 2 * tau (val d) * W := fun {r'} f' e' => by
            obtain ⟨w1, w2⟩ := shift_wt hPl (t := vl dt) (by rw [ete]; exact mem_vals.mpr ⟨dt, hm, rfl⟩) (by omega) f' (by rw [e', etv])
            have w3 : 2 * (turnsOf (val d)).length * W ≤ 2 * (tau (val d) * tau (val e)) * W := Nat.mul_le_mul_right _ (Nat.mul_le_mul_left _ (Nat.le_mul_of_pos_right _ hT1))
            exact ⟨by omega, w2, w1⟩
          have hi1 : i + 1 ≤ tau (val e) := by rw [← lte, vals_len]; omega
          have both : ∀ {a b : Nat}, a ≤ 1 + 2 * (tau (val d) * i) * W → b ≤ 1 + 2 * tau (val d) * W → a + b ≤ 7750002 := fun {a b} h1 h2 => by
            have g1 : 2 * (tau (val d) * i) * W + 2 * tau (val d) * W = 2 * (tau (val d) * (i + 1)) * W := by rw [Nat.mul_succ, Nat.mul_add, Nat.add_mul]
            have g2 : 2 * (tau (val d) * (i + 1)) * W ≤ 2 * (tau (val d) * tau (val e)) * W := Nat.mul_le_mul_right _ (Nat.mul_le_mul_left _ (Nat.mul_le_mul_left _ hi1))
            omega
          obtain ⟨wr, dr, wr2⟩ := bnd (k := i) (by rw [← lte, vals_len]; omega) fr er
          have Dx' := dp_tk (tk_same sm') hd hx3
          have Dt' := dp_tk (tk_same sm') fdt hDt
          have Dr' := dp_tk (tk_same sT) fr Dr
          walk_at "r"
          refine ifE (fun z => ?_) (fun z => ?_)
          · rw [bitAnd_m1] at z
            rw [if_pos (by omega)] at ms
            refine ⟨_, rfl, _, rfl, _, rfl, x, vt, d, dt, rfl, Dx', Dt', hd, fdt, h0t, by omega, by omega, by omega, by omega, fun vs rs H5 k1 k2 k3 k4 k5 sm5 => ?_⟩
            obtain ⟨ws', ds', ws2⟩ := sbnd k1 k2
            have hboth := both wr2 ws2
            refine ⟨vf, vs, r, rs, 0, rfl, by decide, dp_tk (tk_same sm5) fr Dr', k5, fr, k1, dr, ds', by omega, by omega, fun v2 r2 H6 m1 m2 m3 m4 m5 sm6 => ?_⟩
            refine B.nx _ _ ⟨_, _, v2, r2, rfl, m1, ?_, m5, (sm'.trans sm5).trans sm6⟩
            rw [m2, er, k2, ms, Int.mul_add]
            show _ + (0 : Int) = _
            omega
          · rw [bitAnd_m1] at z
            rw [if_neg (by omega)] at ms
            refine ⟨_, rfl, _, rfl, _, rfl, x, vt, d, dt, rfl, Dx', Dt', hd, fdt, h0t, by omega, by omega, by omega, by omega, fun vs rs H5 k1 k2 k3 k4 k5 sm5 => ?_⟩
            obtain ⟨ws', ds', ws2⟩ := sbnd k1 k2
            have hboth := both wr2 ws2
            refine ⟨vf, vs, r, rs, rfl, dp_tk (tk_same sm5) fr Dr', k5, fr, k1, dr, ds', by omega, by omega, fun v2 r2 H6 m1 m2 m3 m4 m5 sm6 => ?_⟩
            refine B.nx _ _ ⟨_, _, v2, r2, rfl, m1, ?_, m5, (sm'.trans sm5).trans sm6⟩
            rw [m2, er, k2, ms, Int.mul_sub]
        · rintro σ H' ⟨z3, z4, vf, r, rfl, fr, er, Dr, sm⟩
          rw [show ws.length = (vals es).length by rw [vals_len]; exact hlw, List.take_length, ev2] at er
          exact J0.nx _ _ ⟨z3, z4, vf, r, rfl, fr, er, Dr, sm13.trans sm⟩
      · rintro σ H' ⟨z3, z4, vf, r, rfl, fr, er, Dr, sm⟩
        obtain ⟨w1, w2⟩ := prod_wt hPl (by show tau (val d) * tau (val e) ≤ 1024; omega) fr (by rw [er, turnsOf_tv, turnsOf_tv])
        have w3 : wt r ≤ 7750001 := Nat.le_trans w1 (by show 1 + 2 * (tau (val d) * tau (val e)) * W ≤ 7750001; omega)
        walk_at "r"
        exact q vf r H' fr er w2 w3 Dr sm
    · refine ⟨_, rfl, _, _, _, _, isI e, rfl, .ty "int", ty_f hy he, kit_fi he, _, rfl, ?_⟩
      refine ifBD (fun h2 => absurd ⟨h1, h2⟩ hpl) (fun _ => hY)
theorem fnOr {k : Nat} {f : Addr} {fd : FuncData} {ps : List Str} {sp1 sp2 : Sp} (F : FnOk P w K mg base CX0 k f fd ps sp1) (G : FnOk P w K mg base CX0 k f fd ps sp2) : FnOk P w K mg base CX0 k f fd ps (fun vs H Q E => sp1 vs H Q E ∨ sp2 vs H Q E) :=
  ⟨fun vs H Q E h => h.elim (F.len vs H Q E) (G.len vs H Q E), fun A o s H args us vs Q E hr he hb hv hs => hs.elim (F.run A o s H args us vs Q E hr he hb hv) (G.run A o s H args us vs Q E hr he hb hv)⟩
def sp_prd1 (K : PySem.W.Frag) (n : Nat) : Sp := fun vs H Q _ => ∃ (x y : V) (d e : PyData) (W : Nat), vs = [x, y] ∧ Dp K H x d ∧ Dp K H y e ∧ Fm d ∧ Fm e ∧ d.depth ≤ n + 1 ∧ e.depth ≤ n + 1 ∧ n ≤ 30 ∧ wt d + wt e ≤ 40000 ∧ PrH d e W n ∧ ¬ (isI d = true ∧ isI e = true) ∧ tau (val d) < tau (val e) ∧ PrQ K d e n H Q
theorem ok_product1 (T : Top K mg) (n : Nat) : FnOk P w K mg base CX0 (n + 9) T.f_product T.fd_product ["x", "y"]  (sp_prd1 K n) := by
  have G_turns : FnOk P w K mg base CX0 (2) T.f_turns T.fd_turns ["x"]  (sp_trn K) := ok_turns T
  have G_of_int : FnOk P w K mg base CX0 (2) T.f_of_int T.fd_of_int ["number"]  (sp_ofint K) := ok_of_int T
  have G_total : FnOk P w K mg base CX0 (n + 6) T.f_total T.fd_total ["x", "y", "carry"]  (sp_tot K n) := ok_total T n
  have G_minus : FnOk P w K mg base CX0 (n + 7) T.f_minus T.fd_minus ["x", "y"]  (sp_min K n) := ok_minus T n
  have G_shifted : FnOk P w K mg base CX0 (n + 7) T.f_shifted T.fd_shifted ["x", "amount"]  (sp_shf K n) := ok_shifted T n
  have G_product : FnOk P w K mg base CX0 (n + 8) T.f_product T.fd_product ["x", "y"]  (sp_prd0 K n) := ok_product0 T n
  refine T.F_product.ok sc_product (fun vs H Q E h => ?_) (fun cdv A outer s H vs Q E hr h => ?_)
  · obtain ⟨x, y, d, e, W, rfl, _⟩ := h
    rfl
  · obtain ⟨x, y, d, e, W, rfl, hx, hy, hd, he, hdd, hde, hn, hw, hPr, hpl, htau, q⟩ := h
    refine ⟨_, (pss_cons (ps_if (PW.pt (pw_and (pt_val (pe_callB call_isi (by rfl) T.m_isinstance (by decide +kernel) (pa_cons (pv 0) (pa_cons (pe_bltn (v := .ty "int") (by rfl) T.m_int (by decide +kernel) rfl) pa_nil))) (fun _ => rfl)) (pw_and1 (pt_val (pe_callB call_isi (by rfl) T.m_isinstance (by decide +kernel) (pa_cons (pv 1) (pa_cons (pe_bltn (v := .ty "int") (by rfl) T.m_int (by decide +kernel) rfl) pa_nil))) (fun _ => rfl)))))
      (pss_one (ps_ret (pe_call G_of_int (hr.mono (by omega)) (by rfl) T.g_of_int T.F_of_int.kp T.b_of_int .nil pass0 (pa_cons (pe_op op_mulW (pv 0) (pv 1)) pa_nil))))
      pss_nil)
    (pss_cons (ps_if (pt_cmpR op_lt (pe_callB call_len_seq (by rfl) T.m_len PySem.boot_len (pa_cons (pe_call G_turns (hr.mono (by omega)) (by rfl) T.g_turns T.F_turns.kp T.b_turns .nil pass0 (pa_cons (pv 0) pa_nil)) pa_nil)) (pe_callB call_len_seq (by rfl) T.m_len PySem.boot_len (pa_cons (pe_call G_turns (hr.mono (by omega)) (by rfl) T.g_turns T.F_turns.kp T.b_turns .nil pass0 (pa_cons (pv 1) pa_nil)) pa_nil)) (nomark _))
      (pss_one (ps_ret (pe_call G_product (hr.mono (by omega)) (by rfl) T.g_product T.F_product.kp T.b_product .nil pass0 (pa_cons (pv 1) (pa_cons (pv 0) pa_nil)))))
      pss_nil)
    (pss_cons (ps_set (i := 2) sc_product.nd rfl (Or.inl rfl) pe_int)
    (pss_cons (ps_for PassesOwn.never rfl (pi_enumT (by rfl) T.m_enumerate (pa_cons (pe_call G_turns (hr.mono (by omega)) (by rfl) T.g_turns T.F_turns.kp T.b_turns .nil pass0 (pa_cons (pv 1) pa_nil)) pa_nil)) (pg_tup rfl (pgs_cons (pg_name (i := 3) sc_product.nd rfl (Or.inl rfl)) (pgs_cons (pg_name (i := 4) sc_product.nd rfl (Or.inl rfl)) pgs_nil)))
      (pss_one (ps_if (pt_cmpR op_eq (pe_op op_and (pv 3) pe_int) pe_int (nomark _))
        (pss_one (ps_set (i := 2) sc_product.nd rfl (Or.inl rfl) (pe_call G_total (hr.mono (by omega)) (by rfl) T.g_total T.F_total.kp T.b_total .nil pass0 (pa_cons (pv 2) (pa_cons (pe_call G_shifted (hr.mono (by omega)) (by rfl) T.g_shifted T.F_shifted.kp T.b_shifted .nil pass0 (pa_cons (pv 0) (pa_cons (pv 4) pa_nil))) (pa_cons pe_int pa_nil))))))
        (pss_one (ps_set (i := 2) sc_product.nd rfl (Or.inl rfl) (pe_call G_minus (hr.mono (by omega)) (by rfl) T.g_minus T.F_minus.kp T.b_minus .nil pass0 (pa_cons (pv 2) (pa_cons (pe_call G_shifted (hr.mono (by omega)) (by rfl) T.g_shifted T.F_shifted.kp T.b_shifted .nil pass0 (pa_cons (pv 0) (pa_cons (pv 4) pa_nil))) pa_nil))))))))
    (pss_one (ps_ret (pv 2))))))), ?_⟩
    refine ⟨_, rfl, _, _, _, _, isI d, rfl, .ty "int", ty_f hx hd, kit_fi hd, _, rfl, ?_⟩
    refine ifB ?_ (fun h1 hY => ?_)
    · dsimp only [tNext]
      refine ⟨_, rfl, x, d, rfl, hx, hd, fun a us ds H1 fA hA ev hsq hD hdep hwt _ sm1 => ?_⟩
      refine ⟨a, _, rfl, .inr hsq, ?_⟩
      refine ⟨_, rfl, y, e, rfl, dp_tk (tk_same sm1) he hy, he, fun b ws es H2 fB hB ev2 hsq2 hD2 hdep2 hwt2 _ sm2 => ?_⟩
      refine ⟨b, _, rfl, .inr hsq2, ?_⟩
      have etd : turnsOf (val d) = vals ds := turnsOf_is hA ev
      have ete : turnsOf (val e) = vals es := turnsOf_is hB ev2
      have ld : tau (val d) = us.length := by unfold tau; rw [etd, vals_len, dpAll_len hD]
      have le : tau (val e) = ws.length := by unfold tau; rw [ete, vals_len, dpAll_len hD2]
      have sm12 := sm1.trans sm2
      walk_at "r"
      refine ifD (fun hlt => ?_) (fun hge => absurd hge (by omega))
      refine ⟨_, rfl, _, rfl, y, x, e, d, W, rfl, dp_tk (tk_same sm12) he hy, dp_tk (tk_same sm12) hd hx, he, hd, hde, hdd, hn, by omega, hPr.symm, .inr (by omega), fun v r H3 k1 k2 k3 k4 k5 sm3 => ?_⟩
      exact q v r H3 k1 (by rw [k2, Int.mul_comm]) k3 k4 k5 (sm12.trans sm3)
    · refine ⟨_, rfl, _, _, _, _, isI e, rfl, .ty "int", ty_f hy he, kit_fi he, _, rfl, ?_⟩
      refine ifBD (fun h2 => absurd ⟨h1, h2⟩ hpl) (fun _ => hY)
theorem ok_product (T : Top K mg) (n : Nat) : FnOk P w K mg base CX0 (n + 9) T.f_product T.fd_product ["x", "y"]  (sp_prd K n) :=
  (fnOr ((ok_product0 T n).mono (by omega)) (ok_product1 T n)).imp fun vs H Q E h => by
    obtain ⟨x, y, d, e, W, rfl, hx, hy, hd, he, hdd, hde, hn, hw, hPr, q⟩ := h
    by_cases hpl : isI d = true ∧ isI e = true
    · exact .inl ⟨x, y, d, e, W, rfl, hx, hy, hd, he, hdd, hde, hn, hw, hPr, .inl hpl, q⟩
    by_cases ht : tau (val e) ≤ tau (val d)
    · exact .inl ⟨x, y, d, e, W, rfl, hx, hy, hd, he, hdd, hde, hn, hw, hPr, .inr ht, q⟩
    · exact .inr ⟨x, y, d, e, W, rfl, hx, hy, hd, he, hdd, hde, hn, hw, hPr, hpl, by omega, q⟩
/-- a product; too many terms are refused -/
def sp_mulX (K : PySem.W.Frag) (C CN : Addr) (n : Nat) : Sp := fun vs H Q E => ∃ (x y : V) (d e : PyData), vs = [x, y] ∧ Dp K H x d ∧ Dp K H y e ∧ Fm d ∧ Fm e ∧ d.depth ≤ n + 1 ∧ e.depth ≤ n + 1 ∧ n ≤ 30 ∧ wt d + wt e ≤ 40000 ∧
  ((isI d = true ∧ isI e = true) ∨ tau (val d) * tau (val e) ≤ 600 → (∃ W, PrH d e W n) ∧ Outs K C (fun r => val r = val d * val e) H Q E) ∧
  (¬ (isI d = true ∧ isI e = true) → 600 < tau (val d) * tau (val e) → ∀ dd H', H dd = none → Same H H' → H' dd = some (.xd [("terms", .int ((tau (val d) * tau (val e) : Nat) : Int))]) → E (.ref CN) (some dd) H')
theorem ok_multiplyX (T : Top K mg) (hP : HX.PF P) (n : Nat) : FnOk P w K mg base (L2.CX P w) (n + 10) T.f_multiply T.fd_multiply ["x", "y"]  (sp_mulX K T.C_TooLarge T.C_TooManyTerms n) := by
  have G_turns : FnOk P w K mg base CX0 (2) T.f_turns T.fd_turns ["x"]  (sp_trn K) := ok_turns T
  have G_product : FnOk P w K mg base CX0 (n + 9) T.f_product T.fd_product ["x", "y"]  (sp_prd K n) := ok_product T n
  have G_kept : FnOk P w K mg base (L2.CX P w) (n + 4) T.f_kept T.fd_kept ["x"]  (sp_keptX K T.C_TooLarge (n + 1)) := ok_keptX T hP (n + 1)
  obtain ⟨fd_iTooManyTerms, F_iTooManyTerms, b_iTooManyTerms⟩ := init_TooManyTerms (P := P) (w := w) (base := base) T hP
  refine T.F_multiply.okX sc_multiply (fun vs H Q E h => ?_) (fun cdv Ar outer s H vs Q E hr h => ?_)
  · obtain ⟨x, y, d, e, rfl, _⟩ := h
    rfl
  · obtain ⟨x, y, d, e, rfl, hx, hy, hd, he, hdd, hde, hn, hw, q, qe⟩ := h
    refine ⟨_, (pss_cons (ps_set (i := 2) sc_multiply.nd rfl (Or.inl rfl) (pe_op op_mul (pe_callB call_len_seq (by rfl) T.m_len PySem.boot_len (pa_cons (pe_call G_turns (hr.mono (by omega)) (by rfl) T.g_turns T.F_turns.kp T.b_turns .nil pass0 (pa_cons (pv 0) pa_nil)) pa_nil)) (pe_callB call_len_seq (by rfl) T.m_len PySem.boot_len (pa_cons (pe_call G_turns (hr.mono (by omega)) (by rfl) T.g_turns T.F_turns.kp T.b_turns .nil pass0 (pa_cons (pv 1) pa_nil)) pa_nil))))
    (pss_cons (ps_if (PW.pt (pw_and (pt_cmpR op_gt (pv 2) (pe_glob (v := .int (600)) (by rfl) T.c_MOST_TERMS ⟨_, rfl⟩) (nomark _)) (pw_and1 (pt_not (PW.pt (pw_and (pt_val (pe_callB call_isi (by rfl) T.m_isinstance (by decide +kernel) (pa_cons (pv 0) (pa_cons (pe_bltn (v := .ty "int") (by rfl) T.m_int (by decide +kernel) rfl) pa_nil))) (fun _ => rfl)) (pw_and1 (pt_val (pe_callB call_isi (by rfl) T.m_isinstance (by decide +kernel) (pa_cons (pv 1) (pa_cons (pe_bltn (v := .ty "int") (by rfl) T.m_int (by decide +kernel) rfl) pa_nil))) (fun _ => rfl)))))))))
      (pss_one (ps_raise rfl (takes_of rfl rfl rfl rfl) (pmk_oex T.E_TooManyTerms.oex T.E_TooManyTerms.iC T.E_TooManyTerms.tI F_iTooManyTerms (hr.mono (by omega)) b_iTooManyTerms .nil pass00 (by rfl) T.E_TooManyTerms.g (pa_cons (pv 2) pa_nil))))
      pss_nil)
    (pss_one (ps_ret (pe_call G_kept (hr.mono (by omega)) (by rfl) T.g_kept T.F_kept.kp T.b_kept .nil (passes_call (takes_of rfl rfl rfl rfl) (fun _ _ _ _ h => h)) (pa_cons (pe_call G_product (hr.mono (by omega)) (by rfl) T.g_product T.F_product.kp T.b_product .nil pass0 (pa_cons (pv 0) (pa_cons (pv 1) pa_nil))) pa_nil)))))), ?_⟩
    refine ⟨_, rfl, x, d, rfl, hx, hd, fun a us ds H1 fA hA ev hsq hD hdep hwt _ sm1 => ?_⟩
    refine ⟨a, _, rfl, .inr hsq, ?_⟩
    refine ⟨_, rfl, y, e, rfl, dp_tk (tk_same sm1) he hy, he, fun b ws es H2 fB hB ev2 hsq2 hD2 hdep2 hwt2 _ sm2 => ?_⟩
    refine ⟨b, _, rfl, .inr hsq2, ?_⟩
    have etd : turnsOf (val d) = vals ds := turnsOf_is hA ev
    have ete : turnsOf (val e) = vals es := turnsOf_is hB ev2
    have ld : us.length = tau (val d) := by unfold tau; rw [etd, vals_len, dpAll_len hD]
    have le : ws.length = tau (val e) := by unfold tau; rw [ete, vals_len, dpAll_len hD2]
    have sm12 := sm1.trans sm2
    have l1 := len_wt ds
    have l2 := dpAll_len hD
    rw [ld, le]
    have hb1 : tau (val d) ≤ 50000 := by omega
    refine ⟨_, _, rfl, rfl, .inl ⟨by omega, by omega⟩, ?_⟩
    dsimp only [gName]
    simp only [Int.natCast_mul] at qe
    have hx2 := dp_tk (tk_same sm12) hd hx
    have hy2 := dp_tk (tk_same sm12) he hy
    have ec : ((tau (val d) * tau (val e) : Nat) : Int) = (tau (val d) : Int) * (tau (val e) : Int) := Int.natCast_mul _ _
    with_reducible refine cut (fun σ H' => ∃ z : Option V, σ = [some x, some y, z] ∧ ((isI d = true ∧ isI e = true) ∨ tau (val d) * tau (val e) ≤ 600) ∧ H' = H2) (fun D0 J0 => ?_) ?_
    · walk_at "r"
      refine ifD (fun h6 => ?_) (fun h6 => ?_)
      · have h6' : 600 < tau (val d) * tau (val e) := by omega
        refine ⟨_, rfl, _, _, _, _, isI d, rfl, .ty "int", ty_f hx2 hd, kit_fi hd, _, rfl, ?_⟩
        refine ifBD (fun h1 => ?_) (fun h1 => ?_)
        · refine ⟨_, rfl, _, _, _, _, isI e, rfl, .ty "int", ty_f hy2 he, kit_fi he, _, rfl, ?_⟩
          cases h2 : isI e with
          | true => exact J0.nx _ _ ⟨_, rfl, .inl ⟨h1, h2⟩, rfl⟩
          | false =>
            refine ⟨_, rfl, ?_⟩
            refine raise1 fun dd nd => ?_
            exact qe (fun z => by rw [h2] at z; exact Bool.noConfusion z.2) h6' dd _ (none_of sm12 nd) (sm12.trans (sm_upd nd)) upd_same
        · refine ⟨_, rfl, ?_⟩
          refine raise1 fun dd nd => ?_
          exact qe (fun z => by rw [h1] at z; exact Bool.noConfusion z.1) h6' dd _ (none_of sm12 nd) (sm12.trans (sm_upd nd)) upd_same
      · exact J0.nx _ _ ⟨_, rfl, .inr (by omega), rfl⟩
    · rintro σ H' ⟨z, rfl, hc, rfl⟩
      obtain ⟨⟨W, hPr⟩, o⟩ := q hc
      refine ⟨_, rfl, _, rfl, x, y, d, e, W, rfl, hx2, hy2, hd, he, hdd, hde, hn, hw, hPr, fun v r H3 k1 k2 k3 k4 k5 sm3 => ?_⟩
      exact ⟨v, r, rfl, k5, k1, by omega, k3, by omega, o.kept (sm12.trans sm3) k2⟩
end
end K13
set_option Elab.async false
set_option linter.all false
set_option maxRecDepth 100000
set_option pp.deepTerms false
set_option pp.maxSteps 1500
set_option maxHeartbeats 1000000
/-! powers -/
namespace K13
open PySem PySem.Spec PyProof.Rows L2 HX TV FM DX FB FC PM MS FI
local macro_rules | `(tactic| walk_at "r") => `(tactic| (repeat (first | refine Exists.intro _ (And.intro rfl ?_) | refine And.intro rfl ?_ | refine Exists.intro _ (Exists.intro _ (And.intro rfl (And.intro rfl ?_))) | refine And.intro (by omega) ?_ | refine And.intro (Or.inl (And.intro (by omega) (by omega))) ?_ | refine And.intro (Or.inr (And.intro (by omega) (by omega))) ?_ | refine And.intro (And.intro (by omega) (by omega)) ?_ | refine And.intro (And.intro (by decide) (And.intro (by decide) (by decide))) ?_ | refine Or.inl (Exists.intro _ (And.intro rfl ?_)) | (dsimp only [gName]; first | with_reducible refine seqC ?_ | with_reducible refine asgC ?_))))
local macro_rules | `(tactic| walk_at "s") => `(tactic| (repeat (first | refine Exists.intro _ (And.intro rfl ?_) | refine And.intro rfl ?_ | refine Exists.intro _ (Exists.intro _ (And.intro rfl (And.intro rfl ?_))) | refine And.intro (by omega) ?_ | refine And.intro (Or.inl (And.intro (by omega) (by omega))) ?_ | refine And.intro (Or.inr (And.intro (by omega) (by omega))) ?_ | refine And.intro (And.intro (by omega) (by omega)) ?_ | refine And.intro (And.intro (by decide) (And.intro (by decide) (by decide))) ?_ | refine Or.inl (Exists.intro _ (And.intro rfl ?_)) | refine Exists.intro _ (Exists.intro _ (And.intro rfl ?_)) | (dsimp only [gName]; first | with_reducible refine seqC ?_ | with_reducible refine asgC ?_))))
section
variable {P : Program} {w : World} {K : PySem.W.Frag} {mg : Str → Option Value} {base : Heap}
noncomputable def isX (d e : PyData) : Bool := if val d = 2 then decide (0 ≤ val e) else isI e && decide (0 ≤ val e) && decide (val e ≤ 64)
def sp_isx (K : PySem.W.Frag) : Sp := fun vs H Q _ => ∃ (x y : V) (d e : PyData), vs = [x, y] ∧ Dp K H x d ∧ Dp K H y e ∧ Fm d ∧ Fm e ∧ d.depth ≤ 30 ∧ Q (.bl (isX d e)) H
theorem ok_is_exponent (T : Top K mg) : FnOk P w K mg base CX0 (2) T.f_is_exponent T.fd_is_exponent ["x", "n"]  (sp_isx K) := by
  have G_negative : FnOk P w K mg base CX0 (1) T.f_negative T.fd_negative ["x"]  (sp_neg K) := ok_negative T
  refine T.F_is_exponent.ok sc_is_exponent (fun vs H Q E h => ?_) (fun cdv A outer s H vs Q E hr h => ?_)
  · obtain ⟨x, y, d, e, rfl, _⟩ := h
    rfl
  · obtain ⟨x, y, d, e, rfl, hx, hy, hd, he, hdd, q⟩ := h
    refine ⟨_, (pss_cons (ps_if (pt_cmpR (op_eqD hr.units) (pv 0) pe_int (nomark _))
      (pss_one (ps_ret (pe_not (pe_call G_negative (hr.mono (by omega)) (by rfl) T.g_negative T.F_negative.kp T.b_negative .nil pass0 (pa_cons (pv 1) pa_nil)))))
      pss_nil)
    (pss_one (ps_ret (pe_and (pe_callB call_isi (by rfl) T.m_isinstance (by decide +kernel) (pa_cons (pv 1) (pa_cons (pe_bltn (v := .ty "int") (by rfl) T.m_int (by decide +kernel) rfl) pa_nil))) (pe_one (pe_chain op_le op_le pe_int (pv 1) (pe_glob (v := .int (64)) (by rfl) T.c_MOST_POWER ⟨_, rfl⟩))))))), ?_⟩
    have f2 : Fm (.int 2) := (fm_int 2).mpr (by decide)
    refine ⟨_, rfl, d, .int 2, hx, .int 2, shaped_fm hd (by omega), shaped_fm f2 (by rw [depth_int]; decide), _, rfl, ?_⟩
    rw [eqv_val hd f2, val_int]
    unfold isX at q
    refine ifD (fun h2 => ?_) (fun h2 => ?_)
    · rw [if_pos h2] at q
      refine ⟨_, rfl, y, e, rfl, hy, he, _, rfl, ?_⟩
      have e1 : (!decide (val e < 0)) = decide (0 ≤ val e) := by
        by_cases h : val e < 0
        · rw [decide_eq_true h, decide_eq_false (by omega)]
          rfl
        · rw [decide_eq_false h, decide_eq_true (by omega)]
          rfl
      rw [← e1] at q
      exact q
    · rw [if_neg h2] at q
      dsimp only [tNext]
      refine ⟨_, rfl, _, _, _, _, isI e, rfl, .ty "int", ty_f hy he, kit_fi he, _, rfl, ?_⟩
      refine ite2 (fun h1 => ?_) (fun h1 => ?_)
      · obtain ⟨j, rfl⟩ := fm_isI he h1
        cases hy
        rw [val_int, show isI (.int j) = true from rfl, Bool.true_and] at q
        walk_at "r"
        refine ifD (fun h3 => ?_) (fun h3 => ?_)
        · rw [decide_eq_true h3, Bool.true_and] at q
          walk_at "r"
          exact q
        · rw [decide_eq_false h3, Bool.false_and] at q
          exact q
      · rw [show isI e = false by simpa using h1, Bool.false_and, Bool.false_and] at q
        exact q
/-! what the powers of a number come to -/
def tmT (t : Int) : PyData := .tuple [.str "TooManyTerms", .int t]
def PlI (n : Int) : Prop := -(2 ^ 64) ≤ n ∧ n < 2 ^ 64
def few (x : Int) (i : Nat) : Prop := (PlI (x ^ i) ∧ PlI x) ∨ tau (x ^ i) * tau x ≤ 600
def within (r : PyData) : Prop := wt r ≤ 2000 ∧ r.depth ≤ 6
/-- how the power is refused, within the first i products -/
noncomputable def st (x : Int) : Nat → Option (Int ⊕ PyData)
  | 0 => none
  | i + 1 => match st x i with
    | some r => some r
    | none => @ite _ (few x i) (Classical.propDecidable _) (@ite _ (within (fo (x ^ (i + 1)))) (Classical.propDecidable _) none (some (.inr (fo (x ^ (i + 1)))))) (some (.inl ((tau (x ^ i) * tau x : Nat) : Int)))
theorem st_many {x : Int} {i : Nat} (h : st x i = none) (hf : ¬ few x i) : st x (i + 1) = some (.inl ((tau (x ^ i) * tau x : Nat) : Int)) := by
  show (match st x i with | some r => some r | none => _) = _
  rw [h]
  exact if_neg hf
theorem st_large {x : Int} {i : Nat} (h : st x i = none) (hf : few x i) (hw : ¬ within (fo (x ^ (i + 1)))) : st x (i + 1) = some (.inr (fo (x ^ (i + 1)))) := by
  show (match st x i with | some r => some r | none => _) = _
  rw [h]
  exact (if_pos hf).trans (if_neg hw)
theorem st_fine {x : Int} {i : Nat} (h : st x i = none) (hf : few x i) (hw : within (fo (x ^ (i + 1)))) : st x (i + 1) = none := by
  show (match st x i with | some r => some r | none => _) = _
  rw [h]
  exact (if_pos hf).trans (if_pos hw)
theorem st_keep {x : Int} {r : Int ⊕ PyData} {i : Nat} (h : st x i = some r) : ∀ k, st x (i + k) = some r
  | 0 => h
  | k + 1 => by
    show (match st x (i + k) with | some r => some r | none => _) = _
    rw [st_keep h k]
theorem st_later {x : Int} {r : Int ⊕ PyData} {i j : Nat} (h : st x i = some r) (hij : i ≤ j) : st x j = some r := by
  have := st_keep h (j - i)
  rwa [show i + (j - i) = j by omega] at this
theorem isI_pl {d : PyData} (f : Fm d) : isI d = true ↔ PlI (val d) := by
  constructor
  · intro h
    obtain ⟨i, rfl⟩ := fm_isI f h
    rw [val_int]
    exact (fm_int i).mp f
  · intro h
    rw [← fo_val f, fo_int h]
    rfl
def sp_pow (K : PySem.W.Frag) (CT CN CI : Addr) : Sp := fun vs H Q E => ∃ (x y : V) (d e : PyData), vs = [x, y] ∧ Dp K H x d ∧ Dp K H y e ∧ Fm d ∧ Fm e ∧ d.depth ≤ 5 ∧ wt d ≤ 2000 ∧
  (isX d e = false → ∀ dd H', H dd = none → Same H H' → H' dd = some (.xd [("exponent", y)]) → E (.ref CI) (some dd) H') ∧
  (val d = 2 → 0 ≤ val e → e.depth ≤ 5 ∧ wt e ≤ 2000 ∧ Outs K CT (fun r => val r = 1 * 2 ^ vl e) H Q E) ∧
  (∀ N : Nat, val d ≠ 2 → e = .int (N : Nat) → N ≤ 64 → (∀ i, i < N → st (val d) i = none → few (val d) i → ∃ W, PrH (fo (val d ^ i)) d W 4) ∧ (∀ i, i ≤ N → st (val d) i = none → (fo (val d ^ i)).depth ≤ 5) ∧
    (st (val d) N = none → ∀ v H', Dp K H' v (fo (val d ^ N)) → Same H H' → Q v H') ∧
    (∀ t, st (val d) N = some (.inl t) → ∀ dd H', H dd = none → Same H H' → H' dd = some (.xd [("terms", .int t)]) → E (.ref CN) (some dd) H') ∧
    (∀ r, st (val d) N = some (.inr r) → ∀ dd H', H dd = none → Same H H' → H' dd = some (xdTL r) → E (.ref CT) (some dd) H'))
theorem ok_powerX (T : Top K mg) (hP : HX.PF P) : FnOk P w K mg base (L2.CX P w) (15) T.f_power T.fd_power ["x", "n"]  (sp_pow K T.C_TooLarge T.C_TooManyTerms T.C_InvalidPower) := by
  have G_is_exponent : FnOk P w K mg base CX0 (2) T.f_is_exponent T.fd_is_exponent ["x", "n"]  (sp_isx K) := ok_is_exponent T
  have G_shift_left : FnOk P w K mg base (L2.CX P w) (4 + 8) T.f_shift_left T.fd_shift_left ["x", "s"]  (sp_slX K T.C_TooLarge T.C_NegativeShift 4 fun a b => a * 2 ^ b) := ok_shift_leftX T hP 4
  have G_multiply : FnOk P w K mg base (L2.CX P w) (4 + 10) T.f_multiply T.fd_multiply ["x", "y"]  (sp_mulX K T.C_TooLarge T.C_TooManyTerms 4) := ok_multiplyX T hP 4
  obtain ⟨fd_iInvalidPower, F_iInvalidPower, b_iInvalidPower⟩ := init_InvalidPower (P := P) (w := w) (base := base) T hP
  refine T.F_power.okX sc_power (fun vs H Q E h => ?_) (fun cdv Ar outer s H vs Q E hr h => ?_)
  · obtain ⟨x, y, d, e, rfl, _⟩ := h
    rfl
  · obtain ⟨x, y, d, e, rfl, hx, hy, hd, he, hdd, hwd, qe, q2, qN⟩ := h
    refine ⟨_, (pss_cons (ps_if (pt_not (pt_val (pe_call G_is_exponent (hr.mono (by omega)) (by rfl) T.g_is_exponent T.F_is_exponent.kp T.b_is_exponent .nil pass0 (pa_cons (pv 0) (pa_cons (pv 1) pa_nil))) (fun _ => rfl)))
      (pss_one (ps_raise rfl (takes_of rfl rfl rfl rfl) (pmk_oex T.E_InvalidPower.oex T.E_InvalidPower.iC T.E_InvalidPower.tI F_iInvalidPower (hr.mono (by omega)) b_iInvalidPower .nil pass00 (by rfl) T.E_InvalidPower.g (pa_cons (pv 1) pa_nil))))
      pss_nil)
    (pss_cons (ps_if (pt_cmpR (op_eqD hr.units) (pv 0) pe_int (nomark _))
      (pss_one (ps_ret (pe_call G_shift_left (hr.mono (by omega)) (by rfl) T.g_shift_left T.F_shift_left.kp T.b_shift_left .nil (passes_call (takes_of rfl rfl rfl rfl) (fun _ _ _ _ h => h)) (pa_cons pe_int (pa_cons (pv 1) pa_nil)))))
      pss_nil)
    (pss_cons (ps_set (i := 2) sc_power.nd rfl (Or.inl rfl) pe_int)
    (pss_cons (ps_for (passes_of rfl) rfl (pi_range1 (by rfl) T.m_range (pa_cons (pv 1) pa_nil)) (pg_name (i := 3) sc_power.nd rfl (Or.inl rfl))
      (pss_one (ps_set (i := 2) sc_power.nd rfl (Or.inl rfl) (pe_call G_multiply (hr.mono (by omega)) (by rfl) T.g_multiply T.F_multiply.kp T.b_multiply .nil (passes_call (takes_of rfl rfl rfl rfl) (fun _ _ _ _ h => h)) (pa_cons (pv 2) (pa_cons (pv 0) pa_nil))))))
    (pss_one (ps_ret (pv 2))))))), ?_⟩
    refine ⟨_, rfl, _, rfl, x, y, d, e, rfl, hx, hy, hd, he, by omega, _, rfl, ?_⟩
    refine ite2 (fun hX => ?_) (fun hX => ?_)
    · refine ⟨_, rfl, ?_⟩
      refine raise1 fun dd nd => ?_
      exact qe (by simpa using hX) dd _ nd (sm_upd nd) upd_same
    have hX' : isX d e = true := by simpa using hX
    dsimp only [tNext]
    have f2 : Fm (.int 2) := (fm_int 2).mpr (by decide)
    have f1 : Fm (.int 1) := (fm_int 1).mpr (by decide)
    refine ⟨_, rfl, d, .int 2, hx, .int 2, shaped_fm hd (by omega), shaped_fm f2 (by rw [depth_int]; decide), _, rfl, ?_⟩
    rw [eqv_val hd f2, val_int]
    unfold isX at hX'
    refine ifD (fun h2 => ?_) (fun h2 => ?_)
    · rw [if_pos h2] at hX'
      have h0 : 0 ≤ val e := of_decide_eq_true hX'
      obtain ⟨e5, e20, o⟩ := q2 h2 h0
      refine ⟨_, rfl, .int 1, y, .int 1, e, rfl, .int 1, hy, f1, he, fun _ => ⟨by rw [depth_int]; decide, e5, by decide, by rw [wt_int]; omega, by rw [wt_int]; omega, ?_⟩, fun z => absurd z (by omega)⟩
      rw [val_int]
      exact o
    rw [if_neg h2] at hX'
    simp only [Bool.and_eq_true, decide_eq_true_eq] at hX'
    obtain ⟨⟨x1, x2⟩, x3⟩ := hX'
    obtain ⟨j, rfl⟩ := fm_isI he x1
    rw [val_int] at x2 x3
    obtain ⟨N, rfl⟩ := Int.eq_ofNat_of_zero_le x2
    obtain ⟨hP1, hD, q, qt, ql⟩ := qN N h2 rfl (by omega)
    cases hy
    clear qe q2 qN
    dsimp only [tNext]
    walk_at "r"
    refine flR (fun i σ H' => ∃ (v : V) (z : Option V), σ = [some x, some (.int (N : Nat)), some v, z] ∧ st (val d) i = none ∧ within (fo (val d ^ i)) ∧ Dp K H' v (fo (val d ^ i)) ∧ Same H H') ⟨.int 1, none, rfl, rfl, ?_, ?_, Same.refl _⟩ ?_ ?_
    · rw [Int.pow_zero, fo_int (by decide)]
      exact ⟨by rw [wt_int]; decide, by rw [depth_int]; decide⟩
    · rw [Int.pow_zero, fo_int (by decide)]
      exact .int 1
    · rintro i σ H' hi ⟨v, z, rfl, hst, hwi, Dv, sm⟩ D' B
      have hi' : i < N := by omega
      dsimp only [gName]
      have hfw : ∀ {p : Prop}, ((isI (fo (val d ^ i)) = true ∧ isI d = true) ∨ tau (val (fo (val d ^ i))) * tau (val d) ≤ 600) ↔ few (val d) i := by
        intro p
        rw [val_fo, isI_pl (fo_fm _), isI_pl hd, val_fo]
        exact Iff.rfl
      refine ⟨_, rfl, _, rfl, v, x, fo (val d ^ i), d, rfl, Dv, dp_tk (tk_same sm) hd hx, fo_fm _, hd, hD i (by omega) hst, hdd, by decide, by have := hwi.1; omega, fun hc => ?_, fun hni hbig dd H2 nd sm2 ed => ?_⟩
      · have hf : few (val d) i := (hfw (p := True)).mp hc
        obtain ⟨W, hPr⟩ := hP1 i hi' hst hf
        have er : ∀ {r : PyData}, Fm r → val r = val (fo (val d ^ i)) * val d → fo (val d ^ (i + 1)) = r := fun {r} f e1 => by
          rw [val_fo, ← Int.pow_succ] at e1
          exact (fo_is f e1).symm
        refine ⟨⟨W, hPr⟩, fun v2 r H2 g1 e1 w1 d1 D2 sm2 => ?_, fun r dd H2 g1 e1 nb w1 w2 nd sm2 ed => ?_⟩
        · have e2 := er g1 e1
          subst e2
          exact B.nx _ _ ⟨v2, _, rfl, st_fine hst hf ⟨w1, d1⟩, ⟨w1, d1⟩, D2, sm.trans sm2⟩
        · have e2 := er g1 e1
          subst e2
          exact ql _ (st_later (st_large hst hf nb) (by omega)) dd H2 (none_of sm nd) (sm.trans sm2) ed
      · have hf : ¬ few (val d) i := fun z => by
          rcases (hfw (p := True)).mpr z with z | z
          · exact hni z
          · omega
        rw [val_fo] at ed
        exact qt _ (st_later (st_many hst hf) (by omega)) dd H2 (none_of sm nd) (sm.trans sm2) ed
    · rintro σ H' ⟨v, z, rfl, hst, hwi, Dv, sm⟩
      rw [show ((N : Nat) : Int).toNat = N by omega] at hst Dv
      exact ⟨_, rfl, q hst v H' Dv sm⟩
end
end K13
set_option Elab.async false
set_option linter.all false
set_option maxRecDepth 100000
set_option pp.deepTerms false
set_option pp.maxSteps 1500
namespace K13
open PySem PySem.Spec PyProof.Rows L2 HX TV FM
local macro_rules | `(tactic| walk_at "r") => `(tactic| (repeat (first | refine Exists.intro _ (And.intro rfl ?_) | refine And.intro rfl ?_ | refine Exists.intro _ (Exists.intro _ (And.intro rfl (And.intro rfl ?_))) | refine And.intro (by omega) ?_ | refine And.intro (Or.inl (And.intro (by omega) (by omega))) ?_ | refine And.intro (Or.inr (And.intro (by omega) (by omega))) ?_ | refine And.intro (And.intro (by omega) (by omega)) ?_ | refine And.intro (And.intro (by decide) (And.intro (by decide) (by decide))) ?_ | refine Or.inl (Exists.intro _ (And.intro rfl ?_)) | (dsimp only [gName]; first | with_reducible refine seqC ?_ | with_reducible refine asgC ?_))))
local macro_rules | `(tactic| walk_at "s") => `(tactic| (repeat (first | refine Exists.intro _ (And.intro rfl ?_) | refine And.intro rfl ?_ | refine Exists.intro _ (Exists.intro _ (And.intro rfl (And.intro rfl ?_))) | refine And.intro (by omega) ?_ | refine And.intro (Or.inl (And.intro (by omega) (by omega))) ?_ | refine And.intro (Or.inr (And.intro (by omega) (by omega))) ?_ | refine And.intro (And.intro (by omega) (by omega)) ?_ | refine And.intro (And.intro (by decide) (And.intro (by decide) (by decide))) ?_ | refine Or.inl (Exists.intro _ (And.intro rfl ?_)) | refine Exists.intro _ (Exists.intro _ (And.intro rfl ?_)) | (dsimp only [gName]; first | with_reducible refine seqC ?_ | with_reducible refine asgC ?_))))
section
variable {P : Program} {w : World} {K : PySem.W.Frag} {mg : Str → Option Value} {base : Heap}
/-- the tape: its cells, how many were taken, the rest -/
abbrev tapeV (c : Addr) (i r : Int) : List (Key × V) := tri "cells" "at" "rest" (.ref c) (.int i) (.int r)
theorem dif : Dif "cells" "at" "rest" := ⟨by decide, by decide, by decide⟩
/-- a tape: its place, its cells' place, the cells -/
structure Tp where
  p : Addr
  c : Addr
  ns : List Int
/-- the tape stands, at most n cells were taken -/
def Tape (H : Hp) (τ : Tp) (n : Nat) : Prop := ∃ (i r : Int), H τ.p = some (.dK (tapeV τ.c i r)) ∧ H τ.c = some (.lst (τ.ns.map V.int)) ∧ τ.ns ≠ [] ∧ τ.ns.length ≤ 63 ∧ 0 ≤ i ∧ i ≤ n
theorem Tape.mono {H H' : Hp} {τ : Tp} {n m : Nat} (h : Tape H τ n) (e : Same H H') (l : n ≤ m) : Tape H' τ m := by
  obtain ⟨i, r, h1, h2, h3, h4, h5, h6⟩ := h
  exact ⟨i, r, e _ _ h1, e _ _ h2, h3, h4, h5, by omega⟩
theorem Tape.le {H : Hp} {τ : Tp} {n m : Nat} (h : Tape H τ n) (l : n ≤ m) : Tape H τ m := h.mono (Same.refl _) l
theorem Tape.up {H H' : Hp} {τ : Tp} {n : Nat} (h : Tape H τ n) (e : Same H H') : Tape H' τ n := h.mono e (Nat.le_refl _)
theorem Tape.dict {H : Hp} {τ : Tp} {n : Nat} (h : Tape H τ n) : ∃ kvs, H τ.p = some (.dK kvs) := by
  obtain ⟨i, r, h1, _⟩ := h
  exact ⟨_, h1⟩
theorem Tape.ne {H : Hp} {τ : Tp} {b : Addr} {n : Nat} {xs : List V} (h : Tape H τ n) (e : H b = some (.lst xs)) : b ≠ τ.p := by
  obtain ⟨i, r, h1, _⟩ := h
  exact ne_of e h1 (by intro z; cases z)
theorem Tape.neT {H : Hp} {τ : Tp} {b : Addr} {n : Nat} {xs : List V} (h : Tape H τ n) (e : H b = some (.tup xs)) : b ≠ τ.p := by
  obtain ⟨i, r, h1, _⟩ := h
  exact ne_of e h1 (by intro z; cases z)
theorem Tape.new {H : Hp} {τ : Tp} {b : Addr} {n : Nat} (h : Tape H τ n) (e : H b = none) : b ≠ τ.p ∧ b ≠ τ.c := by
  obtain ⟨i, r, h1, h2, _⟩ := h
  exact ⟨(ne_of_none h1 e).symm, (ne_of_none h2 e).symm⟩
/-- another list changes -/
theorem Tape.set {H : Hp} {τ : Tp} {b : Addr} {n : Nat} {o : HO} (h : Tape H τ n) (e : b ≠ τ.p ∧ b ≠ τ.c) : Tape (upd H b o) τ n := by
  obtain ⟨i, r, h1, h2, h3⟩ := h
  exact ⟨i, r, by rw [upd_ne e.1.symm]; exact h1, by rw [upd_ne e.2.symm]; exact h2, h3⟩
theorem Tape.mut {H : Hp} {τ : Tp} {n : Nat} (h : Tape H τ n) : Mut (H τ.p) := by
  obtain ⟨kvs, e⟩ := h.dict
  rw [e]
  trivial
theorem but_new {p o : Addr} {H H' : Hp} {x : HO} (b : But p H H') (h : H o = none) : But p H (upd H' o x) := fun a u ha e => by
  rw [upd_ne (ne_of_none e h)]
  exact b a u ha e
def sp_begin (K : PySem.W.Frag) : Sp := fun vs H Q _ => ∃ (a : Addr) (ns : List Int), vs = [.ref a] ∧ SqL K H a (ns.map V.int) ∧ ns.length ≤ 63 ∧
  ∀ τ H', Same H H' → H τ.p = none → Tape H' τ 0 → Q (.ref τ.p) H'
theorem cut63 {xs : List V} (h : xs.length ≤ 63) : cutV xs none (some 63) = xs := by
  unfold cutV
  rw [show HT.sIx xs.length xs.length (some 63) = min 63 xs.length from HT.sIx_nat xs.length xs.length 63, HT.sIx_none]
  show List.take (min 63 xs.length - 0) xs = xs
  exact List.take_of_length_le (by omega)
theorem ok__law_begin (T : Top K mg) {k : Nat} : FnOk P w K mg base CX0 (k + 1) T.f__law_begin T.fd__law_begin ["_law_script"]  (sp_begin K) := by
  refine T.F__law_begin.ok sc__law_begin (fun vs H Q E h => ?_) (fun cdv A outer s H vs Q E hr h => ?_)
  · obtain ⟨a, ns, rfl, _⟩ := h
    rfl
  · obtain ⟨a, ns, rfl, hS, hl, q⟩ := h
    refine ⟨_, (pss_one (ps_ret (pe_disp (pps_cons pe_str (pe_orT (pe_slice sl_list (pv 0) po_none (po_some pe_int)) (pe_one (pe_lst (pa_cons pe_int pa_nil)))) (pps_cons pe_str pe_int (pps_cons pe_str pe_int pps_nil))) (by rfl) (by rfl) (fun z => by cases z) (by decide)))), ?_⟩
    intro p np
    have s1 := sm_upd (o := .dK []) np
    refine ⟨_, rfl, 63, rfl, a, _, rfl, s1.seq hS, fun b nb => ?_⟩
    have s2 := sm_upd (o := .lst (cutV (ns.map V.int) none (some 63))) nb
    have hb : (upd (upd H p (.dK [])) b (.lst (cutV (ns.map V.int) none (some 63)))) b = some (.lst (ns.map V.int)) := by
      rw [upd_same, cut63 (by simpa using hl)]
    have hp := s2 _ _ (upd_at (o := .dK []) np)
    have npb : b ≠ p := ne_of hb hp (by intro z; cases z)
    refine ⟨!(ns.map V.int).isEmpty, .inl ⟨_, .inl (.inl hb), rfl⟩, ite2 (fun hc => ?_) (fun hc => ?_)⟩
    · refine ⟨hp, tri "cells" "at" "rest" (.ref b) (.int 0) (.int 0), rfl, by show 3 ≤ 15; decide, ?_⟩
      rw [tri_disp dif]
      refine q ⟨p, b, ns⟩ _ (sm_mut (s1.trans s2) np) np ⟨0, 0, upd_same, ?_, ?_, hl, Int.le_refl _, Int.le_refl _⟩
      · show upd _ p _ b = _
        rw [upd_ne npb]
        exact hb
      · rintro e0
        have e0' : ns = [] := e0
        subst e0'
        simp at hc
    · refine ⟨by show 1 ≤ sizeLine; decide, fun c nc => ?_⟩
      have s3 := sm_upd (o := .lst [.int 0]) nc
      have hp3 := s3 _ _ hp
      have hc3 := upd_at (o := .lst [.int 0]) nc
      have npc : c ≠ p := ne_of hc3 hp3 (by intro z; cases z)
      refine ⟨hp3, tri "cells" "at" "rest" (.ref c) (.int 0) (.int 0), rfl, by show 3 ≤ 15; decide, ?_⟩
      rw [tri_disp dif]
      refine q ⟨p, c, [0]⟩ _ (sm_mut (s1.trans (s2.trans s3)) np) np ⟨0, 0, upd_same, ?_, by simp, by simp, Int.le_refl _, Int.le_refl _⟩
      show upd _ p _ c = _
      rw [upd_ne npc]
      exact hc3
def sp_draw : Sp := fun vs H Q _ => ∃ (τ : Tp) (m : Nat) (n : Int), vs = [.ref τ.p, .int n] ∧ 1 ≤ n ∧ n ≤ 2 ^ 80 ∧ m < 1000000 ∧ Tape H τ m ∧
  ∀ (d : Int) H', 0 ≤ d → d < n → Tape H' τ (m + 1) → But τ.p H H' → Q (.int d) H'
theorem log_80 {n : Int} (h1 : 1 ≤ n) (h2 : n ≤ 2 ^ 80) : n.natAbs.log2 < 9000 := by
  rw [Nat.log2_lt (by omega)]
  have h3 : n.natAbs ≤ 2 ^ 80 := by omega
  exact Nat.lt_of_le_of_lt h3 (Nat.pow_lt_pow_right (by decide) (by decide))
theorem ok__law_draw (T : Top K mg) {k : Nat} : FnOk P w K mg base CX0 (k + 1) T.f__law_draw T.fd__law_draw ["_law_tape", "_law_limit"]  sp_draw := by
  refine T.F__law_draw.ok sc__law_draw (fun vs H Q E h => ?_) (fun cdv A outer s H vs Q E hr h => ?_)
  · obtain ⟨τ, m, n, rfl, _⟩ := h
    rfl
  · obtain ⟨⟨p, c, ns⟩, m, n, rfl, hn1, hn2, hm, ⟨i, r, hp, hc, hne, hlen, hi1, hi2⟩, q⟩ := h
    replace hp : H p = some (.dK (tapeV c i r)) := hp
    replace hc : H c = some (.lst (ns.map V.int)) := hc
    replace hne : ns ≠ [] := hne
    replace hlen : ns.length ≤ 63 := hlen
    have hlog := log_80 hn1 hn2
    have npc : c ≠ p := ne_of hc hp (by intro z; cases z)
    have hlen0 : 0 < ns.length := List.length_pos_iff.mpr hne
    refine ⟨_, (pss_cons (ps_if (pt_cmpR op_lt (pe_dget (hu_of hr) (pv 0) pe_str (fun _ _ => rfl)) (pv 1) (nomark _))
      (pss_cons (ps_par (i := 2) (j := 3) rfl sc__law_draw.nd rfl rfl (by decide) rfl rfl (pa_cons (pe_dget (hu_of hr) (pv 0) pe_str (fun _ _ => rfl)) (pa_cons (pe_callB call_len_seq (by rfl) T.m_len PySem.boot_len (pa_cons (pe_dget (hu_of hr) (pv 0) pe_str (fun _ _ => rfl)) pa_nil)) pa_nil)) rfl)
      (pss_cons (ps_asg (pe_tup (pa_cons (pe_ix ix_list (pe_dget (hu_of hr) (pv 0) pe_str (fun _ _ => rfl)) (pe_op op_mod (pe_callTy call_int1 (by rfl) T.m_int (by decide +kernel) (pa_cons (pv 2) pa_nil)) (pv 3)) (fun _ _ => rfl)) (pa_cons (pe_op op_add (pv 2) pe_int) pa_nil))) (pg_tup rfl (pgs_cons (pg_name (i := 4) sc__law_draw.nd rfl (Or.inl rfl)) (pgs_cons (pg_sub (pv 0) pe_str (set_dict (hu_of hr))) pgs_nil))))
      (pss_cons (ps_set (i := 5) sc__law_draw.nd rfl (Or.inl rfl) (pe_op op_add (pe_op op_add (pe_op op_mod (pe_callTy call_int1 (by rfl) T.m_int (by decide +kernel) (pa_cons (pv 4) pa_nil)) pe_int) (pe_op op_mul pe_int (pv 2))) pe_int))
      (pss_cons (ps_dput (hu_of hr) (pv 0) pe_str (pe_op op_mod (pe_callTy call_int1 (by rfl) T.m_int (by decide +kernel) (pa_cons (pe_op op_add (pe_op op_pow (pv 5) pe_int) (pe_op op_mul (pe_op op_mul pe_int (pv 2)) (pv 2))) pa_nil)) (pe_op op_add (pe_op op_pow pe_int pe_int) pe_int)) rfl)
      (pss_one (ps_if (PW.pt (pw_and (pt_cmpR op_ge (pv 4) (pe_op op_pow pe_int pe_int) (nomark _)) (pw_and1 (pt_cmpR op_lt (pv 2) (pv 3) (nomark _)))))
        (pss_one (ps_dput (hu_of hr) (pv 0) pe_str (pe_op op_sub (pv 4) (pe_op op_pow pe_int pe_int)) rfl))
        pss_nil))))))
      pss_nil)
    (pss_cons (ps_asg (pe_tup (pa_cons (pe_op op_mod (pe_callTy call_int1 (by rfl) T.m_int (by decide +kernel) (pa_cons (pe_dget (hu_of hr) (pv 0) pe_str (fun _ _ => rfl)) pa_nil)) (pv 1)) (pa_cons (pe_op op_fdivW (pe_dget (hu_of hr) (pv 0) pe_str (fun _ _ => rfl)) (pv 1)) pa_nil))) (pg_tup rfl (pgs_cons (pg_name (i := 6) sc__law_draw.nd rfl (Or.inl rfl)) (pgs_cons (pg_sub (pv 0) pe_str (set_dict (hu_of hr))) pgs_nil))))
    (pss_one (ps_ret (pv 6))))), ?_⟩
    refine ⟨_, rfl, p, _, rfl, tri_get3 dif hp, ?_⟩
    walk_at "r"
    refine if_join (fun σ' H' => ∃ (z3 z4 z5 z6 : Option V) (i' r' : Int), σ' = [some (.ref p), some (.int n), z3, z4, z5, z6, none] ∧ i ≤ i' ∧ i' ≤ i + 1 ∧ H' p = some (.dK (tapeV c i' r')) ∧ H' c = some (.lst (ns.map V.int)) ∧ But p H H') ?_ (fun D1 J hb => ?_) (fun D1 J hb => ?_)
    · rintro σ' H' ⟨z3, z4, z5, z6, i', r', rfl, hi', hi'', hp', hc', bt⟩
      dsimp only
      refine ⟨_, rfl, p, _, rfl, tri_get3 dif hp', ?_⟩
      walk_at "r"
      refine ⟨p, _, rfl, tri_get3 dif hp', ?_⟩
      walk_at "r"
      refine ⟨by show 2 ≤ sizeLine; decide, fun t nt => ?_⟩
      have sm := sm_upd (o := .tup [.int (r' % n), .int (r' / n)]) nt
      have hp2 := sm _ _ hp'
      have hc2 := sm _ _ hc'
      refine ⟨t, _, rfl, .inl (.inl upd_same), rfl, _, _, rfl, _, _, rfl, ?_⟩
      refine ⟨_, rfl, p, _, rfl, tri_put3 dif hp2, rfl, ?_⟩
      walk_at "r"
      refine q _ _ (Int.emod_nonneg _ (by omega)) (Int.emod_lt_of_pos _ (by omega)) ⟨i', _, upd_same, ?_, hne, hlen, by omega, by omega⟩ (bt.trans (But.of sm)).upd
      show upd _ p _ c = _
      rw [upd_ne npc]
      exact hc2
    · refine ⟨_, rfl, p, _, rfl, tri_get2 dif hp, ?_⟩
      refine ⟨_, rfl, p, _, rfl, tri_get1 hp, ?_⟩
      refine ⟨c, _, rfl, .inl (.inl (.inl hc)), ?_⟩
      rw [List.length_map]
      refine ⟨_, _, rfl, ?_⟩
      refine ⟨_, rfl, p, _, rfl, tri_get1 hp, ?_⟩
      walk_at "r"
      have hm1 := Int.emod_nonneg i (show (ns.length : Int) ≠ 0 by omega)
      have hm2 := Int.emod_lt_of_pos i (show 0 < (ns.length : Int) by omega)
      have hm3 : (i % (ns.length : Int)).toNat < ns.length := by omega
      refine ⟨c, _, _, .int (ns[(i % (ns.length : Int)).toNat]), rfl, rfl, .inl (.inl hc), at_of (j := (i % (ns.length : Int)).toNat) (by omega) ?_, ?_⟩
      · rw [List.getElem?_map, List.getElem?_eq_getElem hm3]
        rfl
      generalize ns[(i % (ns.length : Int)).toNat] = cell
      walk_at "r"
      refine ⟨by show 2 ≤ sizeLine; decide, fun t nt => ?_⟩
      have sm := sm_upd (o := .tup [.int cell, .int (i + 1)]) nt
      have hp2 := sm _ _ hp
      have hc2 := sm _ _ hc
      refine ⟨t, _, rfl, .inl (.inl upd_same), rfl, _, _, rfl, _, _, rfl, ?_⟩
      refine ⟨_, rfl, p, _, rfl, tri_put2 dif hp2, rfl, ?_⟩
      have hp3 := upd_same (H := upd H t (.tup [.int cell, .int (i + 1)])) (a := p) (o := .dK (tapeV c (i + 1) r))
      have hc3 : (upd (upd H t (.tup [.int cell, .int (i + 1)])) p (.dK (tapeV c (i + 1) r))) c = some (.lst (ns.map V.int)) := by
        rw [upd_ne npc]
        exact hc2
      have bt3 : But p H (upd (upd H t (.tup [.int cell, .int (i + 1)])) p (.dK (tapeV c (i + 1) r))) := (But.of sm).upd
      revert hp3 hc3 bt3
      generalize upd (upd H t (.tup [.int cell, .int (i + 1)])) p (.dK (tapeV c (i + 1) r)) = H3
      intro hp3 hc3 bt3
      walk_at "r"
      refine ⟨show (0 : Int) < 10 ^ Int.toNat 48 + 193 by decide, ?_⟩
      walk_at "r"
      refine ⟨p, _, rfl, tri_put3 dif hp3, ?_⟩
      have hp4 := upd_same (H := H3) (a := p) (o := .dK (tapeV c (i + 1) (((cell % 2305843009213693921 + 50119 * i + 23911) ^ Int.toNat 13 + 91 * i * i) % (10 ^ Int.toNat 48 + 193))))
      have hc4 : (upd H3 p (.dK (tapeV c (i + 1) (((cell % 2305843009213693921 + 50119 * i + 23911) ^ Int.toNat 13 + 91 * i * i) % (10 ^ Int.toNat 48 + 193))))) c = some (.lst (ns.map V.int)) := by
        rw [upd_ne npc]
        exact hc3
      have bt4 : But p H (upd H3 p (.dK (tapeV c (i + 1) (((cell % 2305843009213693921 + 50119 * i + 23911) ^ Int.toNat 13 + 91 * i * i) % (10 ^ Int.toNat 48 + 193))))) := bt3.upd
      walk_at "r"
      refine ifAnd ?_ (fun hb1 hY => ?_)
      · exact J.nx _ _ ⟨_, _, _, _, i + 1, (((cell % 2305843009213693921 + 50119 * i + 23911) ^ Int.toNat 13 + 91 * i * i) % (10 ^ Int.toNat 48 + 193)), rfl, by omega, Int.le_refl _, hp4, hc4, bt4⟩
      · walk_at "r"
        refine ifD (fun hb2 => ?_) (fun hb2 => hY)
        walk_at "r"
        refine ⟨p, _, rfl, tri_put3 dif hp4, ?_⟩
        refine J.nx _ _ ⟨_, _, _, _, i + 1, _, rfl, by omega, Int.le_refl _, upd_same, ?_, bt4.upd⟩
        rw [upd_ne npc]
        exact hc4
    · exact J.nx _ _ ⟨_, _, _, _, i, r, rfl, Int.le_refl _, by omega, hp, hc, But.refl _⟩
def sp_pick : Sp := fun vs H Q _ => ∃ (τ : Tp) (b : Addr) (m : Nat) (xs : List V), vs = [.ref τ.p, .ref b] ∧ m < 1000000 ∧ Tape H τ m ∧ H b = some (.lst xs) ∧ 1 ≤ xs.length ∧ xs.length ≤ 100000 ∧
  ∀ (v : V) H', v ∈ xs → Tape H' τ (m + 1) → But τ.p H H' → Q v H'
theorem ok__law_pick (T : Top K mg) {k : Nat} : FnOk P w K mg base CX0 (k + 2) T.f__law_pick T.fd__law_pick ["_law_tape", "_law_some"]  sp_pick := by
  have G__law_draw : FnOk P w K mg base CX0 (k + 1) T.f__law_draw T.fd__law_draw ["_law_tape", "_law_limit"]  sp_draw := ok__law_draw T
  refine T.F__law_pick.ok sc__law_pick (fun vs H Q E h => ?_) (fun cdv A outer s H vs Q E hr h => ?_)
  · obtain ⟨τ, b, m, xs, rfl, _⟩ := h
    rfl
  · obtain ⟨τ, b, m, xs, rfl, hm, hT, hb, hx1, hx2, q⟩ := h
    refine ⟨_, (pss_one (ps_ret (pe_ix ix_list (pv 1) (pe_call G__law_draw (hr.mono (by omega)) (by rfl) T.g__law_draw T.F__law_draw.kp T.b__law_draw .nil pass0 (pa_cons (pv 0) (pa_cons (pe_callB call_len_seq (by rfl) T.m_len PySem.boot_len (pa_cons (pv 1) pa_nil)) pa_nil))) (fun _ _ => rfl)))), ?_⟩
    walk_at "r"
    refine ⟨b, _, rfl, .inl (.inl (.inl hb)), ?_⟩
    refine ⟨τ, m, xs.length, rfl, by omega, by omega, hm, hT, fun d H' hd1 hd2 hT' bt => ?_⟩
    have hb' := bt b _ (hT.ne hb) hb
    have hd3 : d.toNat < xs.length := by omega
    refine ⟨b, _, _, xs[d.toNat], rfl, rfl, .inl (.inl hb'), at_of (j := d.toNat) (by omega) (List.getElem?_eq_getElem hd3), ?_⟩
    exact q _ _ (List.getElem_mem hd3) hT' bt
end
end K13
set_option Elab.async false
set_option linter.all false
set_option maxRecDepth 100000
set_option pp.deepTerms false
set_option pp.maxSteps 1500
namespace K13
open PySem PySem.Spec PyProof.Rows L2 HX TV FM DX
local macro_rules | `(tactic| walk_at "r") => `(tactic| (repeat (first | refine Exists.intro _ (And.intro rfl ?_) | refine And.intro rfl ?_ | refine Exists.intro _ (Exists.intro _ (And.intro rfl (And.intro rfl ?_))) | refine And.intro (by omega) ?_ | refine And.intro (Or.inl (And.intro (by omega) (by omega))) ?_ | refine And.intro (Or.inr (And.intro (by omega) (by omega))) ?_ | refine And.intro (And.intro (by omega) (by omega)) ?_ | refine And.intro (And.intro (by decide) (And.intro (by decide) (by decide))) ?_ | refine Or.inl (Exists.intro _ (And.intro rfl ?_)) | (dsimp only [gName]; first | with_reducible refine seqC ?_ | with_reducible refine asgC ?_))))
local macro_rules | `(tactic| walk_at "s") => `(tactic| (repeat (first | refine Exists.intro _ (And.intro rfl ?_) | refine And.intro rfl ?_ | refine Exists.intro _ (Exists.intro _ (And.intro rfl (And.intro rfl ?_))) | refine And.intro (by omega) ?_ | refine And.intro (Or.inl (And.intro (by omega) (by omega))) ?_ | refine And.intro (Or.inr (And.intro (by omega) (by omega))) ?_ | refine And.intro (And.intro (by omega) (by omega)) ?_ | refine And.intro (And.intro (by decide) (And.intro (by decide) (by decide))) ?_ | refine Or.inl (Exists.intro _ (And.intro rfl ?_)) | refine Exists.intro _ (Exists.intro _ (And.intro rfl ?_)) | (dsimp only [gName]; first | with_reducible refine seqC ?_ | with_reducible refine asgC ?_))))
section
variable {P : Program} {w : World} {K : PySem.W.Frag} {mg : Str → Option Value} {base : Heap}
theorem bits_pow (t : Nat) : Builtin.Int.intBits ((2 : Int) ^ t) = t + 1 := by
  have e : ((2 : Int) ^ t).natAbs = 2 ^ t := by rw [Int.natAbs_pow]; rfl
  have hp : 2 ^ t ≠ 0 := Nat.pos_iff_ne_zero.mp (Nat.pow_pos (by decide))
  have e0 : (2 : Int) ^ t ≠ 0 := fun z => by
    rw [z] at e
    exact hp e.symm
  unfold Builtin.Int.intBits
  split
  · rename_i h
    exact absurd (by simpa using h) e0
  · rw [e, Nat.log2_two_pow]
/-- the turns of n, an integer of k bits and a sign -/
def sp_turns (K : PySem.W.Frag) : Sp := fun vs H Q _ => ∃ (n : Int) (k : Nat), vs = [.int n] ∧ k ≤ 900000 ∧ -(2 ^ k) ≤ n ∧ n < 2 ^ k ∧
  ∀ (ts : List Nat) l H', Asc ts → tv ts = n → (∀ t ∈ ts, t ≤ k) → ts.length ≤ k + 1 → Same H H' → H l = none → H' l = some (.lst (nv ts)) → Q (.ref l) H'
theorem turns_in {n : Int} {k : Nat} (h1 : -(2 ^ k) ≤ n) (h2 : n < 2 ^ k) : ∃ ts, Asc ts ∧ tv ts = n ∧ (∀ t ∈ ts, t ≤ k) ∧ ts.length ≤ k + 1 := by
  obtain ⟨ts, hA, e⟩ := turns_ex n
  subst e
  have hb := (tv_range hA).mpr ⟨h1, h2⟩
  exact ⟨ts, hA, rfl, hb, asc_len (a := 0) hA fun t ht => ⟨Nat.zero_le _, hb t ht⟩⟩
theorem ok__law_turns (T : Top K mg) {k : Nat} : FnOk P w K mg base CX0 (k + 1) T.f__law_turns T.fd__law_turns ["_law_number_here"]  (sp_turns K) := by
  refine T.F__law_turns.ok sc__law_turns (fun vs H Q E h => ?_) (fun cdv A outer s H vs Q E hr h => ?_)
  · obtain ⟨n, _, rfl, _⟩ := h
    rfl
  · obtain ⟨n, kb, rfl, hk, hn1, hn2, q⟩ := h
    obtain ⟨ts, hA, hn, hb, hlen⟩ := turns_in hn1 hn2
    replace q := fun l H' => q ts l H' hA hn hb hlen
    refine ⟨_, (pss_cons (ps_par (i := 1) (j := 2) rfl sc__law_turns.nd rfl rfl (by decide) rfl rfl (pa_cons (pe_op op_xor (pv 0) (pe_op op_mul (pv 0) pe_int)) (pa_cons (pe_lst pa_nil) pa_nil)) rfl)
    (pss_cons (ps_while PassesOwn.never (pt_cmpR op_ne (pv 1) pe_int (nomark _))
      (pss_cons (ps_set (i := 3) sc__law_turns.nd rfl (Or.inl rfl) (pe_op op_and (pv 1) (pe_un un_neg (pv 1))))
      (pss_cons (ps_expr (pe_bm PySem.F.plainAttrs_list PySem.F.slot_list_append PySem.F.type_list_append mt_append (pv 2) (pa_cons (pe_op op_sub (pe_bits (pv 3)) pe_int) pa_nil)))
      (pss_one (ps_set (i := 1) sc__law_turns.nd rfl (Or.inl rfl) (pe_op op_sub (pv 1) (pv 3)))))))
    (pss_one (ps_ret (pv 2))))), ?_⟩
    walk_at "r"
    refine ⟨Nat.zero_le _, fun l nl => ?_⟩
    refine ⟨_, _, rfl, ?_⟩
    refine ⟨fun m σ H' => ∃ (pre post : List Nat) (z : Option V), σ = [some (.int n), some (.int (psum post)), some (.ref l), z] ∧ ts = pre ++ post ∧ post.length ≤ m ∧ Same H H' ∧ H' l = some (.lst (nv pre)),
      ⟨ts.length, [], ts, none, ?_, rfl, Nat.le_refl _, sm_upd nl, upd_same⟩, ?_⟩
    · show [some (V.int n), some (V.int (Builtin.bitXor n (n * 2))), some (V.ref l), none] = _
      rw [← hn, marks hA]
    rintro m σ H' ⟨pre, post, z, rfl, ets, hm, sm, el⟩
    walk_at "r"
    refine ifNE (fun hc => wb fun D' B => ?_) (fun hc => ?_)
    · cases post with
      | nil => exact absurd rfl hc
      | cons t r =>
        have hA2 : Asc (t :: r) := by
          have := asc_pairwise.mp hA
          rw [ets, List.pairwise_append] at this
          exact asc_pairwise.mpr this.2.1
        walk_at "r"
        simp only [low_mark hA2]
        refine ⟨.inl ⟨rfl, _, .inl (.inl el)⟩, ?_⟩
        walk_at "r"
        simp only [bits_pow]
        refine ⟨_, _, _, rfl, rfl, el, ?_, ?_⟩
        · rw [nv_len]
          have : ts.length = pre.length + (r.length + 1) := by rw [ets]; simp
          exact len_lt (by omega)
        walk_at "r"
        refine B.nx _ _ ⟨r.length, by simp at hm; omega, pre ++ [t], r, some (.int (2 ^ t)), ?_, ?_, Nat.le_refl _, sm_mut sm nl, ?_⟩
        · show [some (V.int n), some (V.int (psum (t :: r) - 2 ^ t)), some (V.ref l), some (V.int (2 ^ t))] = _
          have : psum (t :: r) - 2 ^ t = psum r := by
            show 2 ^ t + psum r - 2 ^ t = psum r
            omega
          rw [this]
        · rw [ets]
          simp
        · rw [upd_same, nv_app]
          have e : ((t + 1 : Nat) : Int) - 1 = ((t : Nat) : Int) := by omega
          rw [← e]
    · cases post with
      | nil =>
        walk_at "r"
        rw [List.append_nil] at ets
        exact q l H' sm nl (ets ▸ el)
      | cons t r => exact absurd hc (Int.ne_of_gt psum_pos)
/-- the integer of a row of turns -/
def sp_int (K : PySem.W.Frag) : Sp := fun vs H Q _ => ∃ (a : Addr) (ts : List Nat), vs = [.ref a] ∧ SqL K H a (nv ts) ∧ (∀ t ∈ ts, t ≤ 100000000) ∧ ∀ H', Same H H' → Q (.int (tv ts)) H'
theorem ok__law_int (T : Top K mg) {k : Nat} : FnOk P w K mg base CX0 (k + 1) T.f__law_int T.fd__law_int ["_law_places"]  (sp_int K) := by
  refine T.F__law_int.ok sc__law_int (fun vs H Q E h => ?_) (fun cdv A outer s H vs Q E hr h => ?_)
  · obtain ⟨a, ts, rfl, _⟩ := h
    rfl
  · obtain ⟨a, ts, rfl, hS, hb, q⟩ := h
    refine ⟨_, (pss_cons (ps_asg (pe_tup (pa_cons pe_int (pa_cons (pe_un un_neg pe_int) pa_nil))) (pg_tup rfl (pgs_cons (pg_name (i := 1) sc__law_int.nd rfl (Or.inl rfl)) (pgs_cons (pg_name (i := 2) sc__law_int.nd rfl (Or.inl rfl)) pgs_nil))))
    (pss_cons (ps_for PassesOwn.never rfl (pi_list (pv 0)) (pg_name (i := 3) sc__law_int.nd rfl (Or.inl rfl))
      (pss_one (ps_par (i := 1) (j := 2) rfl sc__law_int.nd rfl rfl (by decide) rfl rfl (pa_cons (pe_op op_add (pv 1) (pe_op op_mul (pv 2) (pe_op op_oneShl pe_int (pv 3)))) (pa_cons (pe_un un_neg (pv 2)) pa_nil)) rfl)))
    (pss_one (ps_ret (pv 1))))), ?_⟩
    walk_at "r"
    refine ⟨by show 2 ≤ sizeLine; decide, fun t0 nt0 => ?_⟩
    have sm0 := sm_upd (o := .tup [.int 0, .int (-1)]) nt0
    refine ⟨t0, _, rfl, .inl (.inl upd_same), rfl, _, _, rfl, _, _, rfl, rfl, ?_⟩
    replace hS := sm0.seq hS
    replace q := fun H' (e : Same (upd H t0 (.tup [.int 0, .int (-1)])) H') => q H' (sm0.trans e)
    revert hS q
    generalize upd H t0 (.tup [.int 0, .int (-1)]) = H1
    intro hS q
    refine ⟨_, rfl, a, rfl, ⟨_, hS⟩, flL (xs := nv ts) (fun i σ H' => ∃ (tot sg : Int) (z : Option V), σ = [some (.ref a), some (.int tot), some (.int sg), z] ∧ (sg = 1 ∨ sg = -1) ∧ tot + tvs sg (ts.drop i) = tv ts ∧ H' = H1)
      ⟨0, -1, none, rfl, .inr rfl, by show 0 + tvs (-1) (ts.drop 0) = tvs (-1) ts; simp, rfl⟩ ?_ ?_ ?_⟩
    · rintro i σ H' _ ⟨tot, sg, z, _, _, _, rfl⟩
      exact hS
    · rintro i x σ H' hx ⟨tot, sg, z, rfl, hsg, inv, rfl⟩ D' B
      obtain ⟨t, ht, rfl⟩ := nv_get hx
      have hbt := hb t (List.mem_of_getElem? ht)
      have hdrop : ts.drop i = t :: ts.drop (i + 1) := by
        obtain ⟨hi, e⟩ := List.getElem?_eq_some_iff.mp ht
        rw [List.drop_eq_getElem_cons hi, e]
      walk_at "r"
      refine ⟨t, rfl, rfl, by omega, ?_⟩
      walk_at "r"
      refine ⟨_, _, rfl, ?_⟩
      refine B.nx _ _ ⟨tot + sg * 2 ^ t, -sg, _, rfl, by omega, ?_, rfl⟩
      rw [hdrop] at inv
      rw [← inv]
      show tot + sg * 2 ^ t + tvs (-sg) (ts.drop (i + 1)) = tot + (sg * 2 ^ t + tvs (-sg) (ts.drop (i + 1)))
      omega
    · rintro σ H' ⟨tot, sg, z, rfl, hsg, inv, rfl⟩
      walk_at "r"
      rw [nv_len, List.drop_length] at inv
      have : tot = tv ts := by
        have : tvs sg [] = 0 := rfl
        omega
      rw [this]
      exact q _ (Same.refl _)
/-- the form of an int whose turns are plain -/
def sp_form (K : PySem.W.Frag) : Sp := fun vs H Q _ => ∃ (n : Int) (k : Nat), vs = [.int n] ∧ k ≤ 900000 ∧ -(2 ^ k) ≤ n ∧ n < 2 ^ k ∧
  ∀ (v : V) (d : PyData) H', Fm d → val d = n → d.depth ≤ 1 → wt d ≤ k + 3 → Dp K H' v d → Same H H' → Q v H'
theorem ok__law_form (T : Top K mg) {k : Nat} : FnOk P w K mg base CX0 (k + 2) T.f__law_form T.fd__law_form ["_law_number_here"]  (sp_form K) := by
  have G__law_turns : FnOk P w K mg base CX0 (k + 1) T.f__law_turns T.fd__law_turns ["_law_number_here"]  (sp_turns K) := ok__law_turns T
  refine T.F__law_form.ok sc__law_form (fun vs H Q E h => ?_) (fun cdv A outer s H vs Q E hr h => ?_)
  · obtain ⟨n, _, rfl, _⟩ := h
    rfl
  · obtain ⟨n, kb, rfl, hk, hn1, hn2, q⟩ := h
    refine ⟨_, (pss_one (ps_ret (pe_ifExp (pt_chain op_le op_lt (pe_un un_neg (pe_op op_pow pe_int pe_int)) (pv 0) (pe_op op_pow pe_int pe_int)) (pv 0) (pe_callTy call_tuple_of (by rfl) T.m_tuple (by decide +kernel) (pa_cons (pe_call G__law_turns (hr.mono (by omega)) (by rfl) T.g__law_turns T.F__law_turns.kp T.b__law_turns .nil pass0 (pa_cons (pv 0) pa_nil)) pa_nil))))), ?_⟩
    walk_at "r"
    by_cases hpl : -(2 ^ 64) ≤ n ∧ n < 2 ^ 64
    · refine ifD (fun _ => ?_) (fun z => absurd hpl.1 z)
      walk_at "r"
      refine ifD (fun _ => ?_) (fun z => absurd hpl.2 z)
      walk_at "r"
      exact q _ _ _ ((fm_int n).mpr hpl) (val_int n) (by rw [depth_int]; decide) (by rw [wt_int]; omega) (.int n) (Same.refl _)
    · refine ifChain ?_ (fun h1 hB => ?_)
      · walk_at "r"
        refine ⟨n, kb, rfl, hk, hn1, hn2, fun ts l H' hA hn hb hlen sm nl hl => ?_⟩
        refine ⟨l, _, rfl, .inl ⟨.inl (.inl hl), fun r nr => ?_⟩⟩
        have h64 : ∃ t ∈ ts, 64 < t := by
          apply Classical.byContradiction
          intro hc
          apply hpl
          rw [← hn, ← tv_range hA]
          intro t ht
          apply Nat.le_of_not_lt
          intro hlt
          exact hc ⟨t, ht, hlt⟩
        obtain ⟨f1, f2⟩ := fm_small hA (fun t ht => by have := hb t ht; omega) h64
        refine q _ _ _ f1 (f2.trans hn) (by rw [depth_tuple, depthAll_iD]; exact Nat.le_refl _) (by rw [wt_tuple, wtAll_iD]; omega) (.tup (.inl (.inl upd_same)) (dp_nv ts)) (sm.trans (sm_upd nr))
      · walk_at "r"
        refine ifD (fun h2 => absurd ⟨h1, h2⟩ hpl) (fun _ => hB)
end
end K13
set_option Elab.async false
set_option linter.all false
set_option maxRecDepth 100000
set_option pp.deepTerms false
set_option pp.maxSteps 1500
namespace K13
open PySem PySem.Spec PyProof.Rows L2 HX TV FM DX
local macro_rules | `(tactic| walk_at "r") => `(tactic| (repeat (first | refine Exists.intro _ (And.intro rfl ?_) | refine And.intro rfl ?_ | refine Exists.intro _ (Exists.intro _ (And.intro rfl (And.intro rfl ?_))) | refine And.intro (by omega) ?_ | refine And.intro (Or.inl (And.intro (by omega) (by omega))) ?_ | refine And.intro (Or.inr (And.intro (by omega) (by omega))) ?_ | refine And.intro (And.intro (by omega) (by omega)) ?_ | refine And.intro (And.intro (by decide) (And.intro (by decide) (by decide))) ?_ | refine Or.inl (Exists.intro _ (And.intro rfl ?_)) | (dsimp only [gName]; first | with_reducible refine seqC ?_ | with_reducible refine asgC ?_))))
local macro_rules | `(tactic| walk_at "s") => `(tactic| (repeat (first | refine Exists.intro _ (And.intro rfl ?_) | refine And.intro rfl ?_ | refine Exists.intro _ (Exists.intro _ (And.intro rfl (And.intro rfl ?_))) | refine And.intro (by omega) ?_ | refine And.intro (Or.inl (And.intro (by omega) (by omega))) ?_ | refine And.intro (Or.inr (And.intro (by omega) (by omega))) ?_ | refine And.intro (And.intro (by omega) (by omega)) ?_ | refine And.intro (And.intro (by decide) (And.intro (by decide) (by decide))) ?_ | refine Or.inl (Exists.intro _ (And.intro rfl ?_)) | refine Exists.intro _ (Exists.intro _ (And.intro rfl ?_)) | (dsimp only [gName]; first | with_reducible refine seqC ?_ | with_reducible refine asgC ?_))))
section
variable {P : Program} {w : World} {K : PySem.W.Frag} {mg : Str → Option Value} {base : Heap}
theorem cut_take {xs : List V} {m : Nat} : cutV xs none (some (m : Int)) = xs.take m := by
  unfold cutV
  rw [HT.sIx_nat xs.length xs.length m, HT.sIx_none]
  show List.take (min m xs.length - 0) xs = _
  rw [Nat.sub_zero, List.take_eq_take_iff]
  omega
theorem but_tk {H H' : Hp} {τ : Tp} {n : Nat} (h : Tape H τ n) (b : But τ.p H H') : Tk H H' := tk_but b h.mut
theorem nat_of {d : Int} {n : Nat} (h1 : 0 ≤ d) (h2 : d < n) : ∃ k : Nat, d = (k : Nat) ∧ k < n := ⟨d.toNat, by omega, by omega⟩
def iv (cs : List Int) : List V := cs.map V.int
theorem inV_int {c : Int} : ∀ {cs : List Int}, inV (.int c) (iv cs) = decide (c ∈ cs)
  | [] => by simp [inV, iv]
  | a :: r => by
    have ih := inV_int (c := c) (cs := r)
    unfold inV iv at *
    rw [List.map_cons, List.any_cons, ih]
    show ((a == c) || decide (c ∈ r)) = _
    by_cases h : a = c
    · subst h
      simp
    · have h' : ¬ c = a := fun e => h e.symm
      simp [h, h']
theorem flat_iv (cs : List Int) : (iv cs).all flatV = true := by
  unfold iv
  rw [List.all_map, List.all_eq_true]
  intro x _
  rfl
theorem iv_get {cs : List Int} {i : Nat} {v : V} (h : (iv cs)[i]? = some v) : ∃ c, cs[i]? = some c ∧ v = .int c := by
  unfold iv at h
  rw [List.getElem?_map] at h
  cases e : cs[i]? with
  | none => rw [e] at h; cases h
  | some q => rw [e] at h; exact ⟨q, rfl, (Option.some.inj h).symm⟩
theorem ivs_all {xs : List Int} {v : V} (h : v ∈ xs.map V.int) : ∃ i, v = .int i ∧ i ∈ xs := by
  obtain ⟨i, h1, rfl⟩ := List.mem_map.mp h
  exact ⟨i, rfl, h1⟩
end
end K13
set_option Elab.async false
set_option linter.all false
set_option maxRecDepth 100000
set_option pp.deepTerms false
set_option pp.maxSteps 1500
namespace K13
open PySem PySem.Spec PyProof.Rows L2 HX TV FM DX
local macro_rules | `(tactic| walk_at "r") => `(tactic| (repeat (first | refine Exists.intro _ (And.intro rfl ?_) | refine And.intro rfl ?_ | refine Exists.intro _ (Exists.intro _ (And.intro rfl (And.intro rfl ?_))) | refine And.intro (by omega) ?_ | refine And.intro (Or.inl (And.intro (by omega) (by omega))) ?_ | refine And.intro (Or.inr (And.intro (by omega) (by omega))) ?_ | refine And.intro (And.intro (by omega) (by omega)) ?_ | refine And.intro (And.intro (by decide) (And.intro (by decide) (by decide))) ?_ | refine Or.inl (Exists.intro _ (And.intro rfl ?_)) | (dsimp only [gName]; first | with_reducible refine seqC ?_ | with_reducible refine asgC ?_))))
local macro_rules | `(tactic| walk_at "s") => `(tactic| (repeat (first | refine Exists.intro _ (And.intro rfl ?_) | refine And.intro rfl ?_ | refine Exists.intro _ (Exists.intro _ (And.intro rfl (And.intro rfl ?_))) | refine And.intro (by omega) ?_ | refine And.intro (Or.inl (And.intro (by omega) (by omega))) ?_ | refine And.intro (Or.inr (And.intro (by omega) (by omega))) ?_ | refine And.intro (And.intro (by omega) (by omega)) ?_ | refine And.intro (And.intro (by decide) (And.intro (by decide) (by decide))) ?_ | refine Or.inl (Exists.intro _ (And.intro rfl ?_)) | refine Exists.intro _ (Exists.intro _ (And.intro rfl ?_)) | (dsimp only [gName]; first | with_reducible refine seqC ?_ | with_reducible refine asgC ?_))))
section
variable {P : Program} {w : World} {K : PySem.W.Frag} {mg : Str → Option Value} {base : Heap}
theorem fm_plain {d : PyData} (h : Fm d) (h1 : -(2 ^ 64) ≤ val d) (h2 : val d < 2 ^ 64) : d = .int (val d) := by
  cases d with
  | int i => rw [val_int]
  | tuple ds => exact absurd ⟨h1, h2⟩ (tuple_far h)
  | none => simp [Fm] at h
  | bool _ => simp [Fm] at h
  | str _ => simp [Fm] at h
  | list _ => simp [Fm] at h
  | dict _ => simp [Fm] at h
theorem fm_tup {d : PyData} (h : Fm d) (h1 : ∀ i, d ≠ .int i) : ∃ ds, d = .tuple ds := by
  cases d with
  | int i => exact absurd rfl (h1 i)
  | tuple ds => exact ⟨ds, rfl⟩
  | none => simp [Fm] at h
  | bool _ => simp [Fm] at h
  | str _ => simp [Fm] at h
  | list _ => simp [Fm] at h
  | dict _ => simp [Fm] at h
theorem ds_small : ∀ {ds : List PyData}, FmAll ds → (∀ t ∈ vals ds, t ≤ 64) → ds = iD (vals ds)
  | [], _, _ => by simp [vals, iD]
  | d :: r, f, h => by
    rw [fmAll_cons] at f
    rw [vals_cons] at h ⊢
    have h1 := h (val d).toNat (by simp)
    have h0 := f.2.1
    have e := fm_plain f.1 (by omega) (by omega)
    show d :: r = .int ((val d).toNat : Nat) :: iD (vals r)
    rw [← ds_small f.2.2 fun t ht => h t (by simp [ht])]
    congr 1
    rw [show (((val d).toNat : Nat) : Int) = val d by omega]
    exact e
theorem nv_of {H : Hp} : ∀ {ts : List Nat} {vs : List V}, DpAll K H vs (iD ts) → vs = nv ts
  | [], _, h => by
    cases h
    rfl
  | t :: r, _, h => by
    cases h with
    | cons h1 h2 =>
      cases h1
      show _ = .int (t : Nat) :: nv r
      rw [nv_of h2]
theorem last_is {α : Type} {l : List α} (h : l ≠ []) : ∃ a r, l = r ++ [a] := ⟨l.getLast h, l.dropLast, (List.dropLast_concat_getLast h).symm⟩
/-- the form of a row of places -/
def sp_row (K : PySem.W.Frag) : Sp := fun vs H Q _ => ∃ (a : Addr) (us : List V) (ds : List PyData), vs = [.ref a] ∧ H a = some (.lst us) ∧ DpAll K H us ds ∧ FmAll ds ∧ Asc (vals ds) ∧ PyData.depthAll ds ≤ 20 ∧ ds.length ≤ 1000000 ∧
  ∀ (v : V) (d : PyData) H', Fm d → val d = tv (vals ds) → d.depth ≤ PyData.depthAll ds + 1 → wt d ≤ wtAll ds + 1 → Dp K H' v d → Same H H' → Q v H'
theorem ok__law_row_form (T : Top K mg) {k : Nat} : FnOk P w K mg base CX0 (k + 2) T.f__law_row_form T.fd__law_row_form ["_law_places"]  (sp_row K) := by
  have G__law_int : FnOk P w K mg base CX0 (k + 1) T.f__law_int T.fd__law_int ["_law_places"]  (sp_int K) := ok__law_int T
  refine T.F__law_row_form.ok sc__law_row_form (fun vs H Q E h => ?_) (fun cdv A outer s H vs Q E hr h => ?_)
  · obtain ⟨a, us, ds, rfl, _⟩ := h
    rfl
  · obtain ⟨a, us, ds, rfl, ha, hD, hF, hA, hdep, hlen, q⟩ := h
    have hul := dpAll_len hD
    refine ⟨_, (pss_cons (ps_if (PW.pt (pw_or (pt_cmpR (op_eqD hr.units) (pv 0) (pe_lst pa_nil) (nomark _)) (pw_or1 (PW.pt (pw_and (pt_val (pe_callB call_isi (by rfl) T.m_isinstance (by decide +kernel) (pa_cons (pe_ix ix_list (pv 0) (pe_un un_neg pe_int) (fun _ _ => rfl)) (pa_cons (pe_bltn (v := .ty "int") (by rfl) T.m_int (by decide +kernel) rfl) pa_nil))) (fun _ => rfl)) (pw_and1 (pt_cmpR op_le (pe_ix ix_list (pv 0) (pe_un un_neg pe_int) (fun _ _ => rfl)) pe_int (nomark _))))))))
      (pss_one (ps_ret (pe_call G__law_int (hr.mono (by omega)) (by rfl) T.g__law_int T.F__law_int.kp T.b__law_int .nil pass0 (pa_cons (pv 0) pa_nil))))
      pss_nil)
    (pss_one (ps_ret (pe_callTy call_tuple_of (by rfl) T.m_tuple (by decide +kernel) (pa_cons (pv 0) pa_nil))))), ?_⟩
    refine ⟨_, rfl, Nat.zero_le _, fun e ne => ?_⟩
    have sm1 := sm_upd (o := .lst []) ne
    have ha1 := sm1 _ _ ha
    have hD1 := dpAll_tk (tk_same sm1) hF hD
    refine ⟨_, _, .lst (.inl (.inl ha1)) hD1, .lst (.inl (.inl upd_same)) .nil, shaped_fms hF (by omega), shaped_ints [], _, rfl, ?_⟩
    rw [eqv_nil]
    replace q := fun v d H' f1 f2 f3 f5 f4 (e : Same (upd H e (.lst [])) H') => q v d H' f1 f2 f3 f5 f4 (sm1.trans e)
    revert ha1 hD1 q
    generalize upd H e (.lst []) = H1
    intro ha1 hD1 q
    -- where all places are at most 64
    have small : (∀ t ∈ vals ds, t ≤ 64) → ∀ (Q' : VK), (∀ v d H', Fm d → val d = tv (vals ds) → d.depth ≤ PyData.depthAll ds + 1 → wt d ≤ wtAll ds + 1 → Dp K H' v d → Same H1 H' → Q' v H') →
        sp_int K [.ref a] H1 Q' E0 := fun h64 Q' q' => by
      have eds := ds_small hF h64
      have eus : us = nv (vals ds) := nv_of (H := H1) (by rw [← eds]; exact hD1)
      refine ⟨a, vals ds, rfl, eus ▸ .inl (.inl ha1), fun t ht => by have := h64 t ht; omega, fun H' sm => ?_⟩
      exact q' _ _ _ ((fm_int _).mpr ((tv_range hA).mp h64)) (val_int _) (by rw [depth_int]; exact Nat.zero_le _) (by rw [wt_int]; omega) (.int _) sm
    by_cases hne : ds = []
    · subst hne
      refine ifY rfl (ifY rfl ?_)
      refine ⟨_, rfl, small (by simp [vals]) _ q⟩
    · obtain ⟨dl, dr, rfl⟩ := last_is hne
      have hune : us ≠ [] := by
        rintro rfl
        simp at hul
      obtain ⟨ul, ur, rfl⟩ := last_is hune
      have hDl : Dp K H1 ul dl := by
        obtain ⟨d', h1, h2⟩ := dpAll_get (i := ur.length) (v := ul) hD1 (by simp)
        have : ur.length = dr.length := by simpa using hul
        rw [this] at h1
        simp at h1
        rw [h1]
        exact h2
      have hFl : Fm dl ∧ 0 ≤ val dl := fmAll_mem hF dl (by simp)
      have hle : ∀ t ∈ vals (dr ++ [dl]), t ≤ (val dl).toNat := by
        intro t ht
        rw [vals_app, vals_cons, vals_nil] at ht hA
        have := asc_pairwise.mp hA
        rw [List.pairwise_append] at this
        rcases List.mem_append.mp ht with ht | ht
        · exact Nat.le_of_lt (this.2.2 t ht _ (by simp))
        · simp at ht
          omega
      refine ifZ (by simp) ?_
      have big : 64 < val dl → ∀ (Q' : VK), (∀ v d H', Fm d → val d = tv (vals (dr ++ [dl])) → d.depth ≤ PyData.depthAll (dr ++ [dl]) + 1 → wt d ≤ wtAll (dr ++ [dl]) + 1 → Dp K H' v d → Same H1 H' → Q' v H') →
          (∃ p ys, [V.ref a] = [V.ref p] ∧ ((SqL K H1 p ys ∧ ∀ l, H1 l = none → Q' (.ref l) (upd H1 l (.tup ys))) ∨ (SqT K H1 p ys ∧ Q' (.ref p) H1))) := fun h64 Q' q' => by
        refine ⟨a, _, rfl, .inl ⟨.inl (.inl ha1), fun l nl => ?_⟩⟩
        refine q' _ (.tuple (dr ++ [dl])) _ ((fm_tuple _).mpr ⟨hF, hA, (val dl).toNat, ?_, by omega⟩) (val_tuple _) (by rw [depth_tuple]; exact Nat.le_refl _) (by rw [wt_tuple]; omega) (.tup (.inl (.inl upd_same)) (dpAll_tk (tk_same (sm_upd nl)) hF hD1)) (sm_upd nl)
        rw [vals_app, vals_cons]
        simp
      refine ⟨_, rfl, _, rfl, a, _, -1, ul, rfl, rfl, .inl (.inl ha1), atI_last _ _, ?_⟩
      by_cases hi : ∃ i, dl = .int i
      · obtain ⟨i, rfl⟩ := hi
        cases hDl
        rw [val_int] at hle big
        refine ⟨_, _, _, _, true, rfl, .ty "int", tyI _, k_ii, true, rfl, iteT ?_⟩
        refine ⟨_, rfl, _, rfl, a, _, -1, _, rfl, rfl, .inl (.inl ha1), atI_last _ _, ?_⟩
        walk_at "r"
        refine ifD (fun hc => ?_) (fun hc => ?_)
        · refine ⟨_, rfl, small (fun t ht => by have := hle t ht; omega) _ q⟩
        · refine ⟨_, rfl, big (by omega) _ q⟩
      · obtain ⟨es, rfl⟩ := fm_tup hFl.1 fun i e => hi ⟨i, e⟩
        have hfar := tuple_far hFl.1
        have h0 := hFl.2
        cases hDl with
        | tup h1 h2 =>
          refine ⟨_, _, _, _, false, rfl, .ty "int", tyT h1, k_ti, false, rfl, iteF (iteF ?_)⟩
          refine ⟨_, rfl, big ?_ _ q⟩
          apply Int.lt_of_not_ge
          intro hc
          exact hfar ⟨by omega, by omega⟩
end
end K13
set_option Elab.async false
set_option linter.all false
set_option maxRecDepth 100000
set_option pp.deepTerms false
set_option pp.maxSteps 1500
namespace K13
open PySem PySem.Spec PyProof.Rows L2 HX TV FM DX FB
local macro_rules | `(tactic| walk_at "r") => `(tactic| (repeat (first | refine Exists.intro _ (And.intro rfl ?_) | refine And.intro rfl ?_ | refine Exists.intro _ (Exists.intro _ (And.intro rfl (And.intro rfl ?_))) | refine And.intro (by omega) ?_ | refine And.intro (Or.inl (And.intro (by omega) (by omega))) ?_ | refine And.intro (Or.inr (And.intro (by omega) (by omega))) ?_ | refine And.intro (And.intro (by omega) (by omega)) ?_ | refine And.intro (And.intro (by decide) (And.intro (by decide) (by decide))) ?_ | refine Or.inl (Exists.intro _ (And.intro rfl ?_)) | (dsimp only [gName]; first | with_reducible refine seqC ?_ | with_reducible refine asgC ?_))))
local macro_rules | `(tactic| walk_at "s") => `(tactic| (repeat (first | refine Exists.intro _ (And.intro rfl ?_) | refine And.intro rfl ?_ | refine Exists.intro _ (Exists.intro _ (And.intro rfl (And.intro rfl ?_))) | refine And.intro (by omega) ?_ | refine And.intro (Or.inl (And.intro (by omega) (by omega))) ?_ | refine And.intro (Or.inr (And.intro (by omega) (by omega))) ?_ | refine And.intro (And.intro (by omega) (by omega)) ?_ | refine And.intro (And.intro (by decide) (And.intro (by decide) (by decide))) ?_ | refine Or.inl (Exists.intro _ (And.intro rfl ?_)) | refine Exists.intro _ (Exists.intro _ (And.intro rfl ?_)) | (dsimp only [gName]; first | with_reducible refine seqC ?_ | with_reducible refine asgC ?_))))
section
variable {P : Program} {w : World} {K : PySem.W.Frag} {mg : Str → Option Value} {base : Heap}
/-- the fields: a list of the first m of four -/
def sp_fields (K : PySem.W.Frag) : Sp := fun vs H Q _ => ∃ (τ : Tp) (n m : Nat), vs = [.ref τ.p, .int m] ∧ n < 900000 ∧ m ≤ 4 ∧ Tape H τ n ∧
  ∀ (l : Addr) (us : List V) (fs : List PyData) H', Fields fs → DpAll K H' us fs → H l = none → H' l = some (.lst (us.take m)) → Tape H' τ (n + 12) → But τ.p H H' → Q (.ref l) H'
theorem first_in {d : Int} {v : V} (h1 : 0 ≤ d) (h2 : d < 1000000) (h : v ∈ [V.int 200, .int 130, .int (2 ^ (64 : Int).toNat - 90), .int (2 ^ (64 : Int).toNat - 1), .int (2 ^ (63 : Int).toNat), .int (10 ^ (9 : Int).toNat * 1000 + d)]) :
    ∃ f : Nat, v = .int (f : Nat) ∧ 130 ≤ f ∧ f < 2 ^ 64 := by
  simp only [List.mem_cons, List.not_mem_nil, or_false] at h
  rcases h with rfl | rfl | rfl | rfl | rfl | rfl
  · exact ⟨200, rfl, by decide, by decide⟩
  · exact ⟨130, rfl, by decide, by decide⟩
  · exact ⟨2 ^ 64 - 90, rfl, by decide, by decide⟩
  · exact ⟨2 ^ 64 - 1, rfl, by decide, by decide⟩
  · exact ⟨2 ^ 63, rfl, by decide, by decide⟩
  · refine ⟨10 ^ 9 * 1000 + d.toNat, ?_, by omega, by omega⟩
    rw [show ((10 : Int) ^ (9 : Int).toNat * 1000 + d) = ((10 ^ 9 * 1000 + d.toNat : Nat) : Int) by
      show (1000000000 : Int) * 1000 + d = _
      omega]
theorem ok__law_fields (T : Top K mg) {k : Nat} : FnOk P w K mg base CX0 (k + 3) T.f__law_fields T.fd__law_fields ["_law_tape", "_law_many"]  (sp_fields K) := by
  have G__law_draw : FnOk P w K mg base CX0 (k + 1) T.f__law_draw T.fd__law_draw ["_law_tape", "_law_limit"]  sp_draw := ok__law_draw T
  have G__law_pick : FnOk P w K mg base CX0 (k + 2) T.f__law_pick T.fd__law_pick ["_law_tape", "_law_some"]  sp_pick := ok__law_pick T
  refine T.F__law_fields.ok sc__law_fields (fun vs H Q E h => ?_) (fun cdv A outer s H vs Q E hr h => ?_)
  · obtain ⟨τ, n, m, rfl, _⟩ := h
    rfl
  · obtain ⟨τ, n, m, rfl, hn, hm, hT, q⟩ := h
    refine ⟨_, (pss_cons (ps_set (i := 2) sc__law_fields.nd rfl (Or.inl rfl) (pe_call G__law_pick (hr.mono (by omega)) (by rfl) T.g__law_pick T.F__law_pick.kp T.b__law_pick .nil pass0 (pa_cons (pv 0) (pa_cons (pe_lst (pa_cons pe_int (pa_cons pe_int (pa_cons (pe_op op_sub (pe_op op_pow pe_int pe_int) pe_int) (pa_cons (pe_op op_sub (pe_op op_pow pe_int pe_int) pe_int) (pa_cons (pe_op op_pow pe_int pe_int) (pa_cons (pe_op op_add (pe_op op_mul (pe_op op_pow pe_int pe_int) pe_int) (pe_call G__law_draw (hr.mono (by omega)) (by rfl) T.g__law_draw T.F__law_draw.kp T.b__law_draw .nil pass0 (pa_cons (pv 0) (pa_cons (pe_op op_pow pe_int pe_int) pa_nil)))) pa_nil))))))) pa_nil))))
    (pss_cons (ps_set (i := 3) sc__law_fields.nd rfl (Or.inl rfl) (pe_lst (pa_cons pe_int (pa_cons (pv 2) pa_nil))))
    (pss_cons (ps_set (i := 4) sc__law_fields.nd rfl (Or.inl rfl) (pe_op op_add pe_int (pe_call G__law_draw (hr.mono (by omega)) (by rfl) T.g__law_draw T.F__law_draw.kp T.b__law_draw .nil pass0 (pa_cons (pv 0) (pa_cons pe_int pa_nil)))))
    (pss_cons (ps_expr (pe_bm PySem.F.plainAttrs_list PySem.F.slot_list_append PySem.F.type_list_append mt_append (pv 3) (pa_cons (pe_tup (pa_cons (pv 4) (pa_cons (pe_op op_add (pe_op op_add (pv 4) pe_int) (pe_call G__law_draw (hr.mono (by omega)) (by rfl) T.g__law_draw T.F__law_draw.kp T.b__law_draw .nil pass0 (pa_cons (pv 0) (pa_cons pe_int pa_nil)))) pa_nil))) pa_nil)))
    (pss_cons (ps_par (i := 5) (j := 6) rfl sc__law_fields.nd rfl rfl (by decide) rfl rfl (pa_cons (pe_ix ix_list (pv 3) pe_int (fun _ _ => rfl)) (pa_cons (pe_op op_add pe_int (pe_call G__law_draw (hr.mono (by omega)) (by rfl) T.g__law_draw T.F__law_draw.kp T.b__law_draw .nil pass0 (pa_cons (pv 0) (pa_cons pe_int pa_nil)))) pa_nil)) rfl)
    (pss_cons (ps_if (pt_cmpR op_eq (pe_call G__law_draw (hr.mono (by omega)) (by rfl) T.g__law_draw T.F__law_draw.kp T.b__law_draw .nil pass0 (pa_cons (pv 0) (pa_cons pe_int pa_nil))) pe_int (nomark _))
      (pss_cons (ps_asg (pe_tup (pa_cons (pv 4) (pa_cons (pe_op op_add (pv 4) pe_int) (pa_cons (pe_op op_add (pe_op op_add (pv 4) pe_int) (pv 6)) (pa_cons (pe_op op_add (pe_op op_add (pe_op op_add (pv 4) pe_int) (pe_op op_mul pe_int (pv 6))) (pe_call G__law_draw (hr.mono (by omega)) (by rfl) T.g__law_draw T.F__law_draw.kp T.b__law_draw .nil pass0 (pa_cons (pv 0) (pa_cons (pe_op op_pow pe_int pe_int) pa_nil)))) pa_nil))))) (pg_sub (pv 3) pe_int set_list))
      (pss_one (ps_set (i := 5) sc__law_fields.nd rfl (Or.inl rfl) (pe_ix ix_list (pv 3) pe_int (fun _ _ => rfl)))))
      pss_nil)
    (pss_cons (ps_expr (pe_bm PySem.F.plainAttrs_list PySem.F.slot_list_append PySem.F.type_list_append mt_append (pv 3) (pa_cons (pe_tup (pa_cons (pv 6) (pa_cons (pv 5) pa_nil))) pa_nil)))
    (pss_cons (ps_if (pt_cmpR op_eq (pe_call G__law_draw (hr.mono (by omega)) (by rfl) T.g__law_draw T.F__law_draw.kp T.b__law_draw .nil pass0 (pa_cons (pv 0) (pa_cons pe_int pa_nil))) pe_int (nomark _))
      (pss_cons (ps_asg (pe_tup (pa_cons (pv 5) (pa_cons (pe_op op_catA (pe_callTy call_tuple_of (by rfl) T.m_tuple (by decide +kernel) (pa_cons (pe_lst (pa_cons (pe_op op_add (pe_call G__law_draw (hr.mono (by omega)) (by rfl) T.g__law_draw T.F__law_draw.kp T.b__law_draw .nil pass0 (pa_cons (pv 0) (pa_cons pe_int pa_nil))) pe_int) (pa_cons pe_int pa_nil))) pa_nil)) (pv 5)) pa_nil))) (pg_sub (pv 3) pe_int set_list))
      (pss_one (ps_if (pt_cmpR op_eq (pe_call G__law_draw (hr.mono (by omega)) (by rfl) T.g__law_draw T.F__law_draw.kp T.b__law_draw .nil pass0 (pa_cons (pv 0) (pa_cons pe_int pa_nil))) pe_int (nomark _))
        (pss_one (ps_asg (pe_tup (pa_cons (pv 6) (pa_cons (pe_op op_add (pv 6) pe_int) (pa_cons (pe_ix ix_list (pv 3) pe_int (fun _ _ => rfl)) (pa_cons (pe_tup (pa_cons (pv 6) (pa_cons (pv 5) pa_nil))) pa_nil))))) (pg_sub (pv 3) pe_int set_list)))
        pss_nil)))
      pss_nil)
    (pss_one (ps_ret (pe_slice sl_list (pv 3) po_none (po_some (pv 1))))))))))))), ?_⟩
    walk_at "r"
    refine ⟨τ, n, 1000000, rfl, by decide, by decide, by omega, hT, fun d1 H1 hd1 hd1' hT1 b1 => ?_⟩
    walk_at "r"
    refine ⟨by show 6 ≤ sizeLine; decide, fun l1 nl1 => ?_⟩
    have b2 := b1.new (o := .lst [.int 200, .int 130, .int (2 ^ (64 : Int).toNat - 90), .int (2 ^ (64 : Int).toNat - 1), .int (2 ^ (63 : Int).toNat), .int (10 ^ (9 : Int).toNat * 1000 + d1)]) nl1
    refine ⟨τ, l1, n + 1, _, rfl, by omega, hT1.up (sm_upd nl1), upd_same, by show 1 ≤ 6; decide, by show 6 ≤ 100000; decide, fun v H3 hv hT3 b3 => ?_⟩
    obtain ⟨f1, rfl, hf1, hf2⟩ := first_in hd1 hd1' hv
    replace b3 := b2.trans b3
    walk_at "r"
    refine ⟨by show 2 ≤ sizeLine; decide, fun o no => ?_⟩
    have hoe := hT3.new no
    have no0 : H o = none := by
      cases e : H o with
      | none => rfl
      | some u =>
        rw [b3 o u hoe.1 e] at no
        cases no
    have hT4 := hT3.up (sm_upd (o := .lst [.int 0, .int (f1 : Nat)]) no)
    have ho4 := upd_at (o := .lst [.int 0, .int (f1 : Nat)]) no
    have b4 := b3.new (o := .lst [.int 0, .int (f1 : Nat)]) no
    revert hT4 ho4 b4
    generalize upd H3 o (.lst [.int 0, .int (f1 : Nat)]) = H4
    intro hT4 ho4 b4
    walk_at "r"
    refine ⟨τ, n + 2, 60, rfl, by decide, by decide, by omega, hT4, fun d2 H5 hd2 hd2' hT5 b5 => ?_⟩
    have ho5 := b5 _ _ hoe.1 ho4
    replace b5 := b4.trans b5
    obtain ⟨x2, rfl, hx2⟩ := nat_of (n := 60) hd2 hd2'
    walk_at "r"
    refine ⟨.inl ⟨rfl, _, .inl (.inl ho5)⟩, ?_⟩
    walk_at "r"
    refine ⟨τ, n + 3, 90, rfl, by decide, by decide, by omega, hT5, fun d3 H6 hd3 hd3' hT6 b6 => ?_⟩
    have ho6 := b6 _ _ hoe.1 ho5
    replace b6 := b5.trans b6
    obtain ⟨x3, rfl, hx3⟩ := nat_of (n := 90) hd3 hd3'
    walk_at "r"
    refine ⟨by show 2 ≤ sizeLine; decide, fun t2 nt2 => ?_⟩
    have sm7 := sm_upd (o := .tup [.int (200 + x2), .int (200 + x2 + 1 + x3)]) nt2
    have ho7 := sm7 _ _ ho6
    refine ⟨o, _, _, rfl, rfl, ho7, by show 2 < sizeLine; decide, ?_⟩
    have no2 : t2 ≠ o := (ne_of_none ho6 nt2).symm
    have ht2 : (upd (upd H6 t2 (.tup [.int (200 + x2), .int (200 + x2 + 1 + x3)])) o (.lst [.int 0, .int (f1 : Nat), .ref t2])) t2 = some (.tup (nv [200 + x2, 200 + x2 + 1 + x3])) := by
      rw [upd_ne no2, upd_same]
      rfl
    have hT7 := (hT6.up sm7).set (o := .lst [.int 0, .int (f1 : Nat), .ref t2]) hoe
    have b7 := but_new (x := .lst [.int 0, .int (f1 : Nat), .ref t2]) (b6.trans (But.of sm7)) no0
    have ho8 := upd_same (H := upd H6 t2 (.tup [.int (200 + x2), .int (200 + x2 + 1 + x3)])) (a := o) (o := .lst [.int 0, .int (f1 : Nat), .ref t2])
    have S0 : Sec [200 + x2, 200 + x2 + 1 + x3] := ⟨⟨by omega, trivial⟩, by simp, by simp, fun t ht => by simp at ht; omega, fun t ht => by simp at ht; omega, by simp⟩
    show tSeq _ _ _ _ (upd (upd H6 t2 (.tup [.int (200 + x2), .int (200 + x2 + 1 + x3)])) o (.lst [.int 0, .int (f1 : Nat), .ref t2]))
    revert ht2 hT7 b7 ho8
    generalize upd (upd H6 t2 (.tup [.int (200 + x2), .int (200 + x2 + 1 + x3)])) o (.lst [.int 0, .int (f1 : Nat), .ref t2]) = H8
    intro ht2 hT8 b8 ho8
    refine ⟨_, rfl, o, _, 2, .ref t2, rfl, rfl, .inl (.inl ho8), atI_nat (j := 2) rfl, ?_⟩
    walk_at "r"
    refine ⟨τ, n + 4, 40, rfl, by decide, by decide, by omega, hT8, fun d4 H9 hd4 hd4' hT9 b9 => ?_⟩
    have ho9 := b9 _ _ hoe.1 ho8
    have ht9 := b9 _ _ (hT8.neT ht2) ht2
    replace b9 := b8.trans b9
    obtain ⟨x4, rfl, hx4⟩ := nat_of (n := 40) hd4 hd4'
    walk_at "r"
    refine ⟨_, _, rfl, ?_⟩
    walk_at "r"
    refine ⟨τ, n + 5, 2, rfl, by decide, by decide, by omega, hT9, fun d5 H10 hd5 hd5' hT10 b10 => ?_⟩
    have ho10 := b10 _ _ hoe.1 ho9
    have ht10 := b10 _ _ (hT9.neT ht9) ht9
    replace b10 := b9.trans b10
    walk_at "r"
    refine if_join (fun σ' H' => ∃ (t : Addr) (ts : List Nat), σ' = [some (.ref τ.p), some (.int m), some (.int (f1 : Nat)), some (.ref o), some (.int (200 + x2)), some (.ref t), some (.int (150 + x4))] ∧ Sec ts ∧ H' t = some (.tup (nv ts)) ∧ H' o = some (.lst [.int 0, .int (f1 : Nat), .ref t]) ∧ Tape H' τ (n + 7) ∧ But τ.p H H') ?_ (fun D1 J hb => ?_) (fun D1 J hb => ?_)
    · rintro σ' H11 ⟨t, ts, rfl, S, ht11, ho11, hT11, b11⟩
      dsimp only
      refine ⟨_, rfl, .inl ⟨rfl, _, .inl (.inl ho11)⟩, ?_⟩
      walk_at "r"
      refine ⟨by show 2 ≤ sizeLine; decide, fun t3 nt3 => ?_⟩
      have sm12 := sm_upd (o := .tup [.int (150 + x4), .ref t]) nt3
      have no3 : t3 ≠ o := (ne_of_none ho11 nt3).symm
      refine ⟨o, _, _, rfl, rfl, sm12 _ _ ho11, by show 3 < sizeLine; decide, ?_⟩
      have ht13 : (upd (upd H11 t3 (.tup [.int (150 + x4), .ref t])) o (.lst [.int 0, .int (f1 : Nat), .ref t, .ref t3])) t3 = some (.tup [.int (150 + x4), .ref t]) := by
        rw [upd_ne no3, upd_same]
      have htt : (upd (upd H11 t3 (.tup [.int (150 + x4), .ref t])) o (.lst [.int 0, .int (f1 : Nat), .ref t, .ref t3])) t = some (.tup (nv ts)) := by
        rw [upd_ne (ne_of ht11 ho11 (by intro z; cases z))]
        exact sm12 _ _ ht11
      have hT13 := (hT11.up sm12).set (o := .lst [.int 0, .int (f1 : Nat), .ref t, .ref t3]) hoe
      have b13 := but_new (x := .lst [.int 0, .int (f1 : Nat), .ref t, .ref t3]) (b11.trans (But.of sm12)) no0
      have ho13 := upd_same (H := upd H11 t3 (.tup [.int (150 + x4), .ref t])) (a := o) (o := .lst [.int 0, .int (f1 : Nat), .ref t, .ref t3])
      dsimp only [List.cons_append, List.nil_append]
      revert ht13 htt hT13 b13 ho13
      generalize upd (upd H11 t3 (.tup [.int (150 + x4), .ref t])) o (.lst [.int 0, .int (f1 : Nat), .ref t, .ref t3]) = H13
      intro ht13 htt hT13 b13 ho13
      have eg : ((150 + x4 : Nat) : Int) = 150 + (x4 : Int) := by omega
      -- the end
      refine cut (fun σ' H' => ∃ (t3 : Addr) (es : List PyData), σ' = [some (.ref τ.p), some (.int m), some (.int (f1 : Nat)), some (.ref o), some (.int (200 + x2)), some (.ref t), some (.int (150 + x4))] ∧ Third ts es ∧ Dp K H' (.ref t3) (.tuple es) ∧ H' t = some (.tup (nv ts)) ∧ H' o = some (.lst [.int 0, .int (f1 : Nat), .ref t, .ref t3]) ∧ Tape H' τ (n + 12) ∧ But τ.p H H') (fun D1 J => ?_) ?_
      · walk_at "r"
        refine ⟨τ, n + 7, 2, rfl, by decide, by decide, by omega, hT13, fun d7 H14 hd7 hd7' hT14 b14 => ?_⟩
        have ho14 := b14 _ _ hoe.1 ho13
        have ht14 := b14 _ _ (hT13.neT htt) htt
        have hs14 := b14 _ _ (hT13.neT ht13) ht13
        replace b14 := b13.trans b14
        walk_at "r"
        refine ifE (fun _ => ?_) (fun _ => ?_)
        · walk_at "r"
          refine ⟨τ, n + 8, 60, rfl, by decide, by decide, by omega, hT14, fun d8 H15 hd8 hd8' hT15 b15 => ?_⟩
          have ho15 := b15 _ _ hoe.1 ho14
          have ht15 := b15 _ _ (hT14.neT ht14) ht14
          replace b15 := b14.trans b15
          obtain ⟨x8, rfl, hx8⟩ := nat_of (n := 60) hd8 hd8'
          walk_at "r"
          refine ⟨by show 2 ≤ sizeLine; decide, fun l8 nl8 => ?_⟩
          have s16 := sm_upd (o := .lst [.int (x8 + 1), .int 64]) nl8
          refine ⟨l8, _, rfl, .inl ⟨.inl (.inl upd_same), fun t8 nt8 => ?_⟩⟩
          have s17 := s16.trans (sm_upd (o := .tup [.int (x8 + 1), .int 64]) nt8)
          walk_at "r"
          refine ⟨t8, t, _, _, rfl, rfl, .inl (.inl upd_same), .inl (.inl (s17 _ _ ht15)), ?_, (fun z => by cases z), (fun _ z => ?_), (fun _ _ t9 nt9 => ?_)⟩
          · rw [nv_len]
            have := S.len
            exact len_le (by show 2 + ts.length ≤ 16000000; omega)
          · exact absurd (by simpa [nv] using z) S.ne
          have s18 := s17.trans (sm_upd (o := .tup ([V.int (x8 + 1), .int 64] ++ nv ts)) nt9)
          have h9 := upd_at (o := .tup ([V.int (x8 + 1), .int 64] ++ nv ts)) nt9
          refine ⟨by show 2 ≤ sizeLine; decide, fun t10 nt10 => ?_⟩
          have s19 := s18.trans (sm_upd (o := .tup [.ref t, .ref t9]) nt10)
          have h9' := (sm_upd (o := .tup [.ref t, .ref t9]) nt10) _ _ h9
          have h10 := upd_at (o := .tup [.ref t, .ref t9]) nt10
          have hT19 := hT15.up s19
          have ho19 := s19 _ _ ho15
          have ht19 := s19 _ _ ht15
          have b19 := b15.trans (But.of s19)
          revert h9' h10 hT19 ho19 ht19 b19
          generalize (upd (upd _ t9 _) t10 _) = H19
          intro h9' h10 hT19 ho19 ht19 b19
          refine ⟨_, rfl, o, _, 3, 3, rfl, rfl, ho19, rfl, ?_⟩
          have no9 := ne_of h9' ho19 (by intro z; cases z)
          have no10 := ne_of h10 ho19 (by intro z; cases z)
          have not19 := ne_of ht19 ho19 (by intro z; cases z)
          have hT20 := hT19.set (o := .lst [.int 0, .int (f1 : Nat), .ref t, .ref t10]) hoe
          have ho20 := upd_same (H := H19) (a := o) (o := .lst [.int 0, .int (f1 : Nat), .ref t, .ref t10])
          have h9b : (upd H19 o (.lst [.int 0, .int (f1 : Nat), .ref t, .ref t10])) t9 = _ := (upd_ne no9).trans h9'
          have h10b : (upd H19 o (.lst [.int 0, .int (f1 : Nat), .ref t, .ref t10])) t10 = _ := (upd_ne no10).trans h10
          have ht20 : (upd H19 o (.lst [.int 0, .int (f1 : Nat), .ref t, .ref t10])) t = _ := (upd_ne not19).trans ht19
          have b20 := but_new (x := .lst [.int 0, .int (f1 : Nat), .ref t, .ref t10]) b19 no0
          dsimp only [List.set]
          revert hT20 ho20 h9b h10b ht20 b20
          generalize upd H19 o (.lst [.int 0, .int (f1 : Nat), .ref t, .ref t10]) = H20
          intro hT20 ho20 h9b h10b ht20 b20
          walk_at "r"
          refine ⟨τ, n + 9, 2, rfl, by decide, by decide, by omega, hT20, fun d9 H21 hd9 hd9' hT21 b21 => ?_⟩
          have ho21 := b21 _ _ hoe.1 ho20
          have ht21 := b21 _ _ (hT20.neT ht20) ht20
          have h921 := b21 _ _ (hT20.neT h9b) h9b
          have h1021 := b21 _ _ (hT20.neT h10b) h10b
          replace b21 := b20.trans b21
          walk_at "r"
          refine ifE (fun _ => ?_) (fun _ => ?_)
          · walk_at "r"
            refine ⟨o, _, 2, _, rfl, rfl, .inl (.inl ho21), atI_nat (j := 2) rfl, ?_⟩
            walk_at "r"
            refine ⟨by show 2 ≤ sizeLine; decide, fun t11 nt11 => ?_⟩
            have s22 := sm_upd (o := .tup [.int (150 + x4), .ref t]) nt11
            have h11 := upd_at (o := .tup [.int (150 + x4), .ref t]) nt11
            refine ⟨by show 4 ≤ sizeLine; decide, fun t12 nt12 => ?_⟩
            have s23 := s22.trans (sm_upd (o := .tup [.int (150 + x4), .int (150 + x4 + 1), .ref t, .ref t11]) nt12)
            have h11' := (sm_upd (o := .tup [.int (150 + x4), .int (150 + x4 + 1), .ref t, .ref t11]) nt12) _ _ h11
            have h12 := upd_at (o := .tup [.int (150 + x4), .int (150 + x4 + 1), .ref t, .ref t11]) nt12
            have ho23 := s23 _ _ ho21
            have ht23 := s23 _ _ ht21
            refine ⟨_, rfl, o, _, 3, 3, rfl, rfl, ho23, rfl, ?_⟩
            have eg1 : ((150 + x4 + 1 : Nat) : Int) = 150 + (x4 : Int) + 1 := by omega
            have h11o := (upd_ne (o := .lst [.int 0, .int (f1 : Nat), .ref t, .ref t12]) (ne_of h11' ho23 (by intro z; cases z))).trans h11'
            have h12o := (upd_ne (o := .lst [.int 0, .int (f1 : Nat), .ref t, .ref t12]) (ne_of h12 ho23 (by intro z; cases z))).trans h12
            have hto := (upd_ne (o := .lst [.int 0, .int (f1 : Nat), .ref t, .ref t12]) (ne_of ht23 ho23 (by intro z; cases z))).trans ht23
            refine J.nx _ _ ⟨t12, _, rfl, thirdC (g := 150 + x4) S (by omega) (by omega), .tup (.inl (.inl h12o)) (.cons (eg ▸ .int _) (.cons (eg1 ▸ .int _) (.cons (.tup (.inl (.inl hto)) (dp_nv ts)) (.cons (.tup (.inl (.inl h11o)) (.cons (eg ▸ .int _) (.cons (.tup (.inl (.inl hto)) (dp_nv ts)) .nil))) .nil)))), hto, upd_same, ((hT21.up s23).set hoe).le (by omega), but_new (b21.trans (But.of s23)) no0⟩
          · refine J.nx _ _ ⟨t10, _, rfl, thirdB (x := x8 + 1) S (by omega), .tup (.inl (.inl h1021)) (.cons (.tup (.inl (.inl ht21)) (dp_nv ts)) (.cons (.tup (.inl (.inl h921)) (dp_nv ((x8 + 1) :: 64 :: ts))) .nil)), ht21, ho21, hT21.le (by omega), b21⟩
        · exact J.nx _ _ ⟨t3, _, rfl, thirdA (g := 150 + x4) S (by omega) (by omega), .tup (.inl (.inl hs14)) (.cons (eg ▸ .int _) (.cons (.tup (.inl (.inl ht14)) (dp_nv ts)) .nil)), ht14, ho14, hT14.le (by omega), b14⟩
      · rintro σ' H20 ⟨t3, es, rfl, hE, hD, ht20, ho20, hT20, b20⟩
        walk_at "r"
        refine ⟨o, _, rfl, .inl (.inl ho20), fun l nl => ?_⟩
        rw [cut_take]
        have sm := sm_upd (o := .lst (List.take m [V.int 0, .int (f1 : Nat), .ref t, .ref t3])) nl
        have F := hE.fields hf1 hf2 S
        refine q l [.int 0, .int (f1 : Nat), .ref t, .ref t3] _ _ F ?_ ?_ upd_same (hT20.up sm) (b20.trans (But.of sm))
        · obtain ⟨_, e2, e3, he, _, _, fm2, fm3, _⟩ := F.ex
          injection he with _ he
          injection he with _ he
          injection he with he2 he
          injection he with he3 _
          refine .cons (.int _) (.cons (.int _) (.cons (.tup (.inl (.inl (sm _ _ ht20))) (dp_nv ts)) (.cons (dp_tk (tk_same sm) (he3 ▸ fm3) hD) .nil)))
        · have hle := hT20.new nl
          cases e : H l with
          | none => rfl
          | some u =>
            rw [b20 l u hle.1 e] at nl
            cases nl
    · walk_at "r"
      refine ⟨τ, n + 6, 1000000000, rfl, by decide, by decide, by omega, hT10, fun d6 H11 hd6 hd6' hT11 b11 => ?_⟩
      have ho11 := b11 _ _ hoe.1 ho10
      replace b11 := b10.trans b11
      obtain ⟨x6, rfl, hx6⟩ := nat_of (n := 1000000000) hd6 hd6'
      walk_at "r"
      refine ⟨by show 4 ≤ sizeLine; decide, fun t4 nt4 => ?_⟩
      have sm12 := sm_upd (o := .tup [.int (200 + x2), .int (200 + x2 + 7), .int (200 + x2 + 9 + (150 + x4)), .int (200 + x2 + 11 + 2 * (150 + x4) + x6)]) nt4
      have no4 : t4 ≠ o := (ne_of_none ho11 nt4).symm
      refine ⟨_, rfl, o, _, 2, 2, rfl, rfl, sm12 _ _ ho11, rfl, ?_⟩
      refine ⟨_, rfl, o, _, 2, .ref t4, rfl, rfl, .inl (.inl upd_same), atI_nat (j := 2) rfl, ?_⟩
      refine J.nx _ _ ⟨t4, [200 + x2, 200 + x2 + 7, 200 + x2 + 9 + (150 + x4), 200 + x2 + 11 + 2 * (150 + x4) + x6], rfl, ⟨⟨by omega, by omega, by omega, trivial⟩, by simp, by simp, fun t ht => by simp at ht; omega, fun t ht => by simp at ht; omega, by simp⟩, ?_, upd_same, (hT11.up sm12).set hoe, but_new (b11.trans (But.of sm12)) no0⟩
      rw [upd_ne no4, upd_same]
      rfl
    · exact J.nx _ _ ⟨t2, _, rfl, S0, ht10, ho10, hT10.le (by omega), b10⟩
end
end K13
set_option Elab.async false
set_option linter.all false
set_option maxRecDepth 100000
set_option pp.deepTerms false
set_option pp.maxSteps 1500
namespace K13
open PySem PySem.Spec PyProof.Rows L2 HX TV FM DX FB FC
local macro_rules | `(tactic| walk_at "r") => `(tactic| (repeat (first | refine Exists.intro _ (And.intro rfl ?_) | refine And.intro rfl ?_ | refine Exists.intro _ (Exists.intro _ (And.intro rfl (And.intro rfl ?_))) | refine And.intro (by omega) ?_ | refine And.intro (Or.inl (And.intro (by omega) (by omega))) ?_ | refine And.intro (Or.inr (And.intro (by omega) (by omega))) ?_ | refine And.intro (And.intro (by omega) (by omega)) ?_ | refine And.intro (And.intro (by decide) (And.intro (by decide) (by decide))) ?_ | refine Or.inl (Exists.intro _ (And.intro rfl ?_)) | (dsimp only [gName]; first | with_reducible refine seqC ?_ | with_reducible refine asgC ?_))))
local macro_rules | `(tactic| walk_at "s") => `(tactic| (repeat (first | refine Exists.intro _ (And.intro rfl ?_) | refine And.intro rfl ?_ | refine Exists.intro _ (Exists.intro _ (And.intro rfl (And.intro rfl ?_))) | refine And.intro (by omega) ?_ | refine And.intro (Or.inl (And.intro (by omega) (by omega))) ?_ | refine And.intro (Or.inr (And.intro (by omega) (by omega))) ?_ | refine And.intro (And.intro (by omega) (by omega)) ?_ | refine And.intro (And.intro (by decide) (And.intro (by decide) (by decide))) ?_ | refine Or.inl (Exists.intro _ (And.intro rfl ?_)) | refine Exists.intro _ (Exists.intro _ (And.intro rfl ?_)) | (dsimp only [gName]; first | with_reducible refine seqC ?_ | with_reducible refine asgC ?_))))
section
variable {P : Program} {w : World} {K : PySem.W.Frag} {mg : Str → Option Value} {base : Heap}
/-- the form of the place that a code stands for -/
def sp_moved (K : PySem.W.Frag) : Sp := fun vs H Q _ => ∃ (c : Int) (l : Addr) (us : List V) (fs : List PyData) (m : Nat), vs = [.int c, .ref l] ∧ H l = some (.lst (us.take m)) ∧ m ≤ 4 ∧ Fields fs ∧ DpAll K H us fs ∧ CodeOk m c ∧
  ∀ (v : V) (d : PyData) H', Fm d → val d = Phi fs c → d.depth ≤ 4 → wt d ≤ cwt c → Dp K H' v d → Same H H' → Q v H'
theorem fields_get {fs : List PyData} (F : Fields fs) : ∀ i, i < 4 → (∃ f : Nat, fs[i]? = some (.int (f : Nat)) ∧ f < 2 ^ 64 ∧ Fi fs i = f ∧ (i = 0 → f = 0)) ∨ (1 ≤ i ∧ ∃ es, fs[i]? = some (.tuple es) ∧ Fm (.tuple es) ∧ (∀ t ∈ vals es, 150 ≤ t) ∧ 0 ≤ val (.tuple es) ∧ PyData.depthAll es ≤ 2 ∧ Fi fs i = (val (.tuple es)).toNat ∧ es.length ≤ 100 ∧ wtAll es ≤ 14) := by
  obtain ⟨f1, es2, es3, rfl, h1, h2, f2, f3, l2, l3, h3, h4, d2, d3, n2, n3, w2, w3⟩ := F.ex
  have : (0 : Int) < 2 ^ 140 := Int.pow_pos (by decide)
  intro i hi
  have : i = 0 ∨ i = 1 ∨ i = 2 ∨ i = 3 := by omega
  rcases this with rfl | rfl | rfl | rfl
  · refine .inl ⟨0, rfl, by decide, ?_, fun _ => rfl⟩
    show (val (.int 0)).toNat = 0
    rw [val_int]; rfl
  · refine .inl ⟨f1, rfl, h2, ?_, fun z => by omega⟩
    show (val (.int (f1 : Nat))).toNat = f1
    rw [val_int]; omega
  · exact .inr ⟨by decide, es2, rfl, f2, l2, by omega, by omega, rfl, n2, w2⟩
  · exact .inr ⟨by decide, es3, rfl, f3, l3, by omega, by omega, rfl, n3, w3⟩
theorem ok__law_moved (T : Top K mg) {k : Nat} : FnOk P w K mg base CX0 (k + 3) T.f__law_moved T.fd__law_moved ["_law_code_here", "_law_fields_here"]  (sp_moved K) := by
  have G__law_turns : FnOk P w K mg base CX0 (k + 1) T.f__law_turns T.fd__law_turns ["_law_number_here"]  (sp_turns K) := ok__law_turns T
  have G__law_form : FnOk P w K mg base CX0 (k + 2) T.f__law_form T.fd__law_form ["_law_number_here"]  (sp_form K) := ok__law_form T
  have G__law_row_form : FnOk P w K mg base CX0 (k + 2) T.f__law_row_form T.fd__law_row_form ["_law_places"]  (sp_row K) := ok__law_row_form T
  refine T.F__law_moved.ok sc__law_moved (fun vs H Q E h => ?_) (fun cdv A outer s H vs Q E hr h => ?_)
  · obtain ⟨c, l, us, fs, m, rfl, _⟩ := h
    rfl
  · obtain ⟨c, l, us, fs, m, rfl, hl, hm, F, hD, hC, q⟩ := h
    have hfl : fs.length = 4 := by
      obtain ⟨f1, es2, es3, rfl, _⟩ := F.ex
      rfl
    have hul := dpAll_len hD
    have hFA : FmAll fs := by
      obtain ⟨f1, es2, es3, rfl, h1, h2, f2, f3, _, _, h3, h4, _⟩ := F.ex
      have : (0 : Int) < 2 ^ 140 := Int.pow_pos (by decide)
      rw [fmAll_cons, fmAll_cons, fmAll_cons, fmAll_cons, fm_int, fm_int, val_int, val_int]
      exact ⟨by omega, by omega, by omega, by omega, f2, by omega, f3, by omega, fmAll_nil⟩
    have hrg := code_range hC
    refine ⟨_, (pss_cons (ps_set (i := 2) sc__law_moved.nd rfl (Or.inl rfl) (pe_lst pa_nil))
    (pss_cons (ps_for PassesOwn.never rfl (pi_list (pe_call G__law_turns (hr.mono (by omega)) (by rfl) T.g__law_turns T.F__law_turns.kp T.b__law_turns .nil pass0 (pa_cons (pv 0) pa_nil))) (pg_name (i := 3) sc__law_moved.nd rfl (Or.inl rfl))
      (pss_cons (ps_par (i := 4) (j := 5) rfl sc__law_moved.nd rfl rfl (by decide) rfl rfl (pa_cons (pe_ix ix_list (pv 1) (pe_op op_fdiv (pv 3) pe_int) (fun _ _ => rfl)) (pa_cons (pe_op op_sub (pv 3) (pe_op op_mul (pe_op op_fdiv (pv 3) pe_int) pe_int)) pa_nil)) rfl)
      (pss_one (ps_if (pt_val (pe_callB call_isi (by rfl) T.m_isinstance (by decide +kernel) (pa_cons (pv 4) (pa_cons (pe_bltn (v := .ty "int") (by rfl) T.m_int (by decide +kernel) rfl) pa_nil))) (fun _ => rfl))
        (pss_one (ps_expr (pe_bm PySem.F.plainAttrs_list PySem.F.slot_list_append PySem.F.type_list_append mt_append (pv 2) (pa_cons (pe_call G__law_form (hr.mono (by omega)) (by rfl) T.g__law_form T.F__law_form.kp T.b__law_form .nil pass0 (pa_cons (pe_op op_add (pv 4) (pv 5)) pa_nil)) pa_nil))))
        (pss_one (ps_expr (pe_bm PySem.F.plainAttrs_list PySem.F.slot_list_append PySem.F.type_list_append mt_append (pv 2) (pa_cons (pe_op op_catA (pe_callTy call_tuple_of (by rfl) T.m_tuple (by decide +kernel) (pa_cons (pe_call G__law_turns (hr.mono (by omega)) (by rfl) T.g__law_turns T.F__law_turns.kp T.b__law_turns .nil pass0 (pa_cons (pv 5) pa_nil)) pa_nil)) (pv 4)) pa_nil))))))))
    (pss_one (ps_ret (pe_call G__law_row_form (hr.mono (by omega)) (by rfl) T.g__law_row_form T.F__law_row_form.kp T.b__law_row_form .nil pass0 (pa_cons (pv 2) pa_nil)))))), ?_⟩
    refine ⟨Nat.zero_le _, fun o no => ?_⟩
    have s1 := sm_upd (o := .lst []) no
    refine ⟨_, rfl, c, 200 * m, rfl, by omega, hrg.1, hrg.2, fun ts lt H1 hA hts htk htl sm1 nlt hlt => ?_⟩
    have ets := turnsOf_is hA hts
    have hC2 := hC.2
    rw [ets] at hC2
    refine ⟨lt, rfl, ⟨_, .inl (.inl hlt)⟩, flL (xs := nv ts) (fun i σ H' => ∃ (z3 z4 z5 : Option V) (vs : List V) (ds : List PyData), σ = [some (.int c), some (.ref l), some (.ref o), z3, z4, z5] ∧ H' o = some (.lst vs) ∧ DpAll K H' vs ds ∧ FmAll ds ∧ vals ds = (ts.take i).map (phi fs) ∧ PyData.depthAll ds ≤ 3 ∧ wtAll ds ≤ ((ts.take i).map cw).sum ∧ Same H H' ∧ H' lt = some (.lst (nv ts)))
      ⟨none, none, none, [], [], rfl, sm1 _ _ upd_same, .nil, fmAll_nil, by simp [vals], by rw [depthAll_nil]; exact Nat.zero_le _, by rw [wtAll_nil]; exact Nat.zero_le _, s1.trans sm1, hlt⟩ ?_ ?_ ?_⟩
    · rintro i σ H' _ ⟨_, _, _, _, _, _, _, _, _, _, _, _, _, h⟩
      exact .inl (.inl h)
    · rintro i x σ H2 hx ⟨z3, z4, z5, vs, ds, rfl, ho, hds, hF, hv, hdep, hwt, sm2, hlt2⟩ D' B
      obtain ⟨t, ht, rfl⟩ := nv_get hx
      obtain ⟨ht1, ht2⟩ := hC2 t (List.mem_of_getElem? ht)
      have hi := (List.getElem?_eq_some_iff.mp ht).1
      have hD2 := dpAll_tk (tk_same sm2) hFA hD
      have hl2 := sm2 _ _ hl
      have etake : (ts.take (i + 1)).map (phi fs) = (ts.take i).map (phi fs) ++ [phi fs t] := by
        rw [List.take_add_one, ht]
        simp
      have ecw : ((ts.take (i + 1)).map cw).sum = ((ts.take i).map cw).sum + cw t := by
        rw [List.take_add_one, ht]
        simp
      have hdl : ds.length ≤ 900 := by
        rw [← vals_len, hv, List.length_map, List.length_take]
        omega
      have hvl := dpAll_len hds
      have hfi : t / 200 < 4 := by omega
      have hgu : (us.take m)[t / 200]? = some us[t / 200] := by
        rw [List.getElem?_take, if_pos ht1]
        exact List.getElem?_eq_getElem (by omega)
      obtain ⟨df, hdf, hDf⟩ := dpAll_get (i := t / 200) (v := us[t / 200]) hD2 (List.getElem?_eq_getElem (by omega))
      generalize us[t / 200] = uf at hgu hDf
      -- how the turn goes on
      have nxt : ∀ (v' : V) (d' : PyData) (H3 : Hp) (za zb zc : Option V), Fm d' → val d' = (phi fs t : Nat) → d'.depth ≤ 3 → wt d' ≤ cw t → Dp K H3 v' d' → Same H2 H3 →
          D'.nx [some (.int c), some (.ref l), some (.ref o), za, zb, zc] (upd H3 o (.lst (vs ++ [v']))) := fun v' d' H3 za zb zc f1 f2 f3 f5 f4 sm3 => by
        have ho3 := sm3 _ _ ho
        have hmu : Mut (H3 o) := by rw [ho3]; trivial
        have tk3 : Tk H3 (upd H3 o (.lst (vs ++ [v']))) := tk_mut hmu
        have hol : lt ≠ o := fun e => by
          subst e
          rw [upd_same] at nlt
          cases nlt
        refine B.nx _ _ ⟨za, zb, zc, vs ++ [v'], ds ++ [d'], rfl, upd_same, dpAll_app (dpAll_tk (tk_same sm3 |>.trans tk3) hF hds) (.cons (dp_tk tk3 f1 f4) .nil), ?_, ?_, ?_, by rw [wtAll_app, wtAll_cons, wtAll_nil, ecw]; omega, sm_mut (sm2.trans sm3) no, ?_⟩
        · rw [fmAll_app, fmAll_cons]
          exact ⟨hF, f1, by omega, fmAll_nil⟩
        · rw [vals_app, hv, etake, vals_cons, vals_nil, f2]
          rfl
        · refine depthAll_le.mpr fun d hd => ?_
          rcases List.mem_append.mp hd with hd | hd
          · exact depthAll_le.mp hdep d hd
          · simp at hd
            subst hd
            exact f3
        · rw [upd_ne hol]
          exact sm3 _ _ hlt2
      have hstep : (t : Int) - (t : Int) / 200 * 200 = ((t % 200 : Nat) : Int) := by omega
      walk_at "r"
      refine ⟨l, _, _, uf, rfl, rfl, .inl (.inl hl2), at_of (j := t / 200) (by omega) hgu, ?_⟩
      walk_at "r"
      refine ⟨_, _, rfl, ?_⟩
      simp only [hstep]
      rcases fields_get F (t / 200) hfi with ⟨f, hf, hf64, hFi, hf0⟩ | ⟨hi1, es, hes, hfm, hlow, h0, hde, hFi, hel, hew⟩
      · rw [hf] at hdf
        cases hdf
        cases hDf
        refine ⟨_, rfl, _, _, _, _, true, rfl, .ty "int", tyI _, k_ii, true, rfl, iteT ?_⟩
        refine ⟨_, rfl, .inl ⟨rfl, _, .inl (.inl ho)⟩, ?_⟩
        walk_at "r"
        have h66 : (2 : Int) ^ 66 = 73786976294838206464 := by decide
        refine ⟨_, 66, rfl, by decide, by omega, by omega, fun v' d' H3 f1 f2 f3 f5 f4 sm3 => ?_⟩
        refine ⟨o, _, _, rfl, rfl, sm3 _ _ ho, len_lt (by omega), ?_⟩
        refine nxt v' d' H3 _ _ _ f1 ?_ (by omega) (by
          by_cases h200 : t < 200
          · rw [near_int f1 (by omega) (by have := hf0 (by omega); omega)]
            unfold cw
            rw [if_pos h200]
            exact Nat.le_refl _
          · unfold cw
            rw [if_neg h200]
            exact near64 f1 (by omega) (by omega)) f4 sm3
        rw [f2]
        unfold phi
        rw [hFi]
        omega
      · rw [hes] at hdf
        cases hdf
        cases hDf with
        | @tup tf ws _ h1 h2 =>
          have hwl := dpAll_len h2
          refine ⟨_, rfl, _, _, _, _, false, rfl, .ty "int", tyT h1, k_ti, false, rfl, iteF ?_⟩
          refine ⟨_, rfl, .inl ⟨rfl, _, .inl (.inl ho)⟩, ?_⟩
          refine ⟨_, rfl, _, 7, rfl, by decide, by omega, by omega, fun us5 l5 H3 hA5 ht5 hk5 hn5 sm3 nl5 hl5 => ?_⟩
          obtain ⟨fm5, v5⟩ := place_far hfm hlow h0 hA5 ht5 fun x hx => by have := hk5 x hx; omega
          have v5' : val (.tuple (iD us5 ++ es)) = (phi fs t : Nat) := by
            rw [v5]
            unfold phi
            rw [hFi]
            omega
          have d5 : PyData.depth (.tuple (iD us5 ++ es)) ≤ 3 := by
            rw [depth_tuple]
            have : PyData.depthAll (iD us5 ++ es) ≤ 2 := depthAll_le.mpr fun d hd => by
              rcases List.mem_append.mp hd with hd | hd
              · have := depthAll_le.mp (Nat.le_of_eq (depthAll_iD us5)) d hd
                omega
              · exact depthAll_le.mp hde d hd
            omega
          have w5 : wt (.tuple (iD us5 ++ es)) ≤ cw t := by
            rw [wt_tuple, wtAll_app, wtAll_iD]
            unfold cw
            rw [if_neg (by omega)]
            omega
          refine ⟨l5, _, rfl, .inl ⟨.inl (.inl hl5), fun t5 nt5 => ?_⟩⟩
          have sm4 := sm3.trans (sm_upd (o := .tup (nv us5)) nt5)
          walk_at "r"
          refine ⟨t5, tf, _, ws, rfl, rfl, .inl (.inl upd_same), HX.Same.tup sm4 h1, ?_, (fun z => ?_), (fun _ z => ?_), (fun _ _ t6 nt6 => ?_)⟩
          · rw [nv_len]
            exact len_le (by omega)
          · have e5 : us5 = [] := by simpa [nv] using z
            subst e5
            refine ⟨o, _, _, rfl, rfl, sm4 _ _ ho, len_lt (by omega), ?_⟩
            refine nxt _ _ _ _ _ _ fm5 v5' d5 w5 ?_ sm4
            exact dp_tk (tk_same sm4) hfm (.tup h1 h2)
          · subst z
            have e6 : es = [] := by
              cases es with
              | nil => rfl
              | cons a b => simp at hwl
            subst e6
            have := ((fm_tuple _).mp hfm).2.2
            obtain ⟨x, hx, _⟩ := this
            rw [vals_nil] at hx
            simp at hx
          · have sm5 := sm4.trans (sm_upd (o := .tup (nv us5 ++ ws)) nt6)
            refine ⟨o, _, _, rfl, rfl, sm5 _ _ ho, len_lt (by omega), ?_⟩
            refine nxt _ _ _ _ _ _ fm5 v5' d5 w5 ?_ sm5
            exact .tup (.inl (.inl upd_same)) (dpAll_app (dp_nv us5) (dpAll_tk (tk_same sm5) ((fm_tuple _).mp hfm).1 h2))
    · rintro σ H2 ⟨z3, z4, z5, vs, ds, rfl, ho, hds, hF, hv, hdep, hwt, sm2, hlt2⟩
      rw [nv_len, List.take_length] at hv
      refine ⟨_, rfl, o, vs, ds, rfl, ho, hds, hF, ?_, by omega, ?_, fun v d H' f1 f2 f3 f5 f4 sm3 => ?_⟩
      · rw [hv, ← ets]
        exact phi_asc F hm hC
      · rw [← vals_len, hv, List.length_map]
        omega
      · rw [nv_len] at hwt
        rw [List.take_length] at hwt
        refine q v d H' f1 ?_ (by omega) (by unfold cwt; rw [ets]; omega) f4 (sm2.trans sm3)
        rw [f2, hv]
        unfold Phi
        rw [ets]
end
end K13
set_option Elab.async false
set_option linter.all false
set_option maxRecDepth 100000
set_option pp.deepTerms false
set_option pp.maxSteps 1500
namespace K13
open PySem PySem.Spec PyProof.Rows L2 HX TV FM DX FB FC FD
local macro_rules | `(tactic| walk_at "r") => `(tactic| (repeat (first | refine Exists.intro _ (And.intro rfl ?_) | refine And.intro rfl ?_ | refine Exists.intro _ (Exists.intro _ (And.intro rfl (And.intro rfl ?_))) | refine And.intro (by omega) ?_ | refine And.intro (Or.inl (And.intro (by omega) (by omega))) ?_ | refine And.intro (Or.inr (And.intro (by omega) (by omega))) ?_ | refine And.intro (And.intro (by omega) (by omega)) ?_ | refine And.intro (And.intro (by decide) (And.intro (by decide) (by decide))) ?_ | refine Or.inl (Exists.intro _ (And.intro rfl ?_)) | (dsimp only [gName]; first | with_reducible refine seqC ?_ | with_reducible refine asgC ?_))))
local macro_rules | `(tactic| walk_at "s") => `(tactic| (repeat (first | refine Exists.intro _ (And.intro rfl ?_) | refine And.intro rfl ?_ | refine Exists.intro _ (Exists.intro _ (And.intro rfl (And.intro rfl ?_))) | refine And.intro (by omega) ?_ | refine And.intro (Or.inl (And.intro (by omega) (by omega))) ?_ | refine And.intro (Or.inr (And.intro (by omega) (by omega))) ?_ | refine And.intro (And.intro (by omega) (by omega)) ?_ | refine And.intro (And.intro (by decide) (And.intro (by decide) (by decide))) ?_ | refine Or.inl (Exists.intro _ (And.intro rfl ?_)) | refine Exists.intro _ (Exists.intro _ (And.intro rfl ?_)) | (dsimp only [gName]; first | with_reducible refine seqC ?_ | with_reducible refine asgC ?_))))
section
variable {P : Program} {w : World} {K : PySem.W.Frag} {mg : Str → Option Value} {base : Heap}
theorem piece_lt {p s : Nat} (hp : p < 2 ^ 41) (hs : s < 15) : p * 2 ^ s < 2 ^ 56 := by
  have h1 : 2 ^ s ≤ 2 ^ 14 := Nat.pow_le_pow_right (by decide) (by omega)
  have h2 : p * 2 ^ s ≤ p * 2 ^ 14 := Nat.mul_le_mul_left _ h1
  omega
theorem shift_eq {p d s : Nat} {e : Int} (he : e = 200 * (d : Int) + s) : (p : Int) * (1 * 2 ^ e.toNat) = ((p * 2 ^ s : Nat) : Int) * 2 ^ (200 * d) := by
  have : e.toNat = s + 200 * d := by omega
  rw [this, Int.one_mul, Int.pow_add, ← Int.mul_assoc]
  simp
def sp_code (K : PySem.W.Frag) : Sp := fun vs H Q _ => ∃ (τ : Tp) (n m mm B : Nat) (kn : Addr) (cs : List Int), vs = [.ref τ.p, .int mm, .ref kn] ∧ 1 ≤ mm ∧ mm ≤ m ∧ m ≤ 4 ∧ n < 900000 ∧ Tape H τ n ∧ H kn = some (.lst (iv cs)) ∧ (∀ c ∈ cs, Dw m B 8 c) ∧ 2 ^ 60 ≤ B ∧ cs.length ≤ 1000 ∧
  ∀ (c : Int) H', Dw m (B + 4) 8 c → Tape H' τ (n + 12) → But τ.p H H' → Q (.int c) H'
theorem pieces_in {d : Nat} {v : V} (hd : d < 40) (h : v ∈ [V.int 1, .int 1, .int 3, .int 5, .int (1 * 2 ^ (1 + (d : Int)).toNat - 1)]) : ∃ p : Nat, v = .int (p : Nat) ∧ p < 2 ^ 41 ∧ Two p := by
  simp only [List.mem_cons, List.not_mem_nil, or_false] at h
  rcases h with rfl | rfl | rfl | rfl | rfl
  · exact ⟨1, rfl, by decide, 0, 0, 0, by decide, by decide⟩
  · exact ⟨1, rfl, by decide, 0, 0, 0, by decide, by decide⟩
  · exact ⟨3, rfl, by decide, 1, 0, 1, by decide, by decide⟩
  · exact ⟨5, rfl, by decide, 2, 0, 1, by decide, by decide⟩
  · have e : (1 + (d : Int)).toNat = 1 + d := by omega
    have hp : 0 < 2 ^ (1 + d) := Nat.pow_pos (by decide)
    have hl : 2 ^ (1 + d) ≤ 2 ^ 40 := Nat.pow_le_pow_right (by decide) (by omega)
    have e2 : ((2 ^ (1 + d) : Nat) : Int) = (2 : Int) ^ (1 + d) := by simp
    refine ⟨2 ^ (1 + d) - 1, ?_, by omega, 1 + d, 0, -1, by decide, ?_⟩
    · rw [e]
      congr 1
      omega
    · rw [Int.pow_zero]
      omega
theorem ok__law_code (T : Top K mg) {k : Nat} : FnOk P w K mg base CX0 (k + 3) T.f__law_code T.fd__law_code ["_law_tape", "_law_many", "_law_known"]  (sp_code K) := by
  have G__law_draw : FnOk P w K mg base CX0 (k + 1) T.f__law_draw T.fd__law_draw ["_law_tape", "_law_limit"]  sp_draw := ok__law_draw T
  have G__law_pick : FnOk P w K mg base CX0 (k + 2) T.f__law_pick T.fd__law_pick ["_law_tape", "_law_some"]  sp_pick := ok__law_pick T
  refine T.F__law_code.ok sc__law_code (fun vs H Q E h => ?_) (fun cdv A outer s H vs Q E hr h => ?_)
  · obtain ⟨τ, n, m, mm, B, kn, cs, rfl, _⟩ := h
    rfl
  · obtain ⟨τ, n, m, mm, B, kn, cs, rfl, hmm, hmm2, hm4, hn, hT, hk, hcs, hB, hcl, q⟩ := h
    refine ⟨_, (pss_cons (ps_if (PW.pt (pw_and (pt_cmpR (op_neD hr.units) (pv 2) (pe_lst pa_nil) (nomark _)) (pw_and1 (pt_cmpR op_eq (pe_call G__law_draw (hr.mono (by omega)) (by rfl) T.g__law_draw T.F__law_draw.kp T.b__law_draw .nil pass0 (pa_cons (pv 0) (pa_cons pe_int pa_nil))) pe_int (nomark _)))))
      (pss_one (ps_ret (pe_op op_add (pe_call G__law_pick (hr.mono (by omega)) (by rfl) T.g__law_pick T.F__law_pick.kp T.b__law_pick .nil pass0 (pa_cons (pv 0) (pa_cons (pv 2) pa_nil))) (pe_call G__law_draw (hr.mono (by omega)) (by rfl) T.g__law_draw T.F__law_draw.kp T.b__law_draw .nil pass0 (pa_cons (pv 0) (pa_cons pe_int pa_nil))))))
      pss_nil)
    (pss_cons (ps_set (i := 3) sc__law_code.nd rfl (Or.inl rfl) (pe_call G__law_draw (hr.mono (by omega)) (by rfl) T.g__law_draw T.F__law_draw.kp T.b__law_draw .nil pass0 (pa_cons (pv 0) (pa_cons pe_int pa_nil))))
    (pss_cons (ps_for PassesOwn.never rfl (pi_range1 (by rfl) T.m_range (pa_cons (pe_call G__law_draw (hr.mono (by omega)) (by rfl) T.g__law_draw T.F__law_draw.kp T.b__law_draw .nil pass0 (pa_cons (pv 0) (pa_cons pe_int pa_nil))) pa_nil)) (pg_name (i := 4) sc__law_code.nd rfl (Or.inl rfl))
      (pss_cons (ps_set (i := 5) sc__law_code.nd rfl (Or.inl rfl) (pe_call G__law_pick (hr.mono (by omega)) (by rfl) T.g__law_pick T.F__law_pick.kp T.b__law_pick .nil pass0 (pa_cons (pv 0) (pa_cons (pe_lst (pa_cons pe_int (pa_cons pe_int (pa_cons pe_int (pa_cons pe_int (pa_cons (pe_op op_sub (pe_op op_shl pe_int (pe_op op_add pe_int (pe_call G__law_draw (hr.mono (by omega)) (by rfl) T.g__law_draw T.F__law_draw.kp T.b__law_draw .nil pass0 (pa_cons (pv 0) (pa_cons pe_int pa_nil))))) pe_int) pa_nil)))))) pa_nil))))
      (pss_one (ps_set (i := 3) sc__law_code.nd rfl (Or.inl rfl) (pe_op op_add (pv 3) (pe_op op_mul (pv 5) (pe_op op_shl pe_int (pe_op op_add (pe_op op_mul pe_int (pe_call G__law_draw (hr.mono (by omega)) (by rfl) T.g__law_draw T.F__law_draw.kp T.b__law_draw .nil pass0 (pa_cons (pv 0) (pa_cons (pv 1) pa_nil)))) (pe_call G__law_draw (hr.mono (by omega)) (by rfl) T.g__law_draw T.F__law_draw.kp T.b__law_draw .nil pass0 (pa_cons (pv 0) (pa_cons pe_int pa_nil)))))))))))
    (pss_one (ps_ret (pv 3)))))), ?_⟩
    refine cut (fun σ' H' => σ' = [some (.ref τ.p), some (.int mm), some (.ref kn), none, none, none] ∧ Tape H' τ (n + 1) ∧ But τ.p H H') (fun D1 J1 => ?_) ?_
    · refine ⟨_, rfl, Nat.zero_le _, fun e ne => ?_⟩
      have s1 := sm_upd (o := .lst []) ne
      refine ⟨_, _, .lst (.inl (.inl (s1 _ _ hk))) (dp_ints cs), .lst (.inl (.inl upd_same)) .nil, shaped_ints cs, shaped_ints [], _, rfl, ?_⟩
      rw [eqv_nil]
      have hk1 := s1 _ _ hk
      have hT1 := hT.up s1
      have b1 : But τ.p H (upd H e (.lst [])) := But.of s1
      revert hk1 hT1 b1
      generalize upd H e (.lst []) = H1
      intro hk1 hT1 b1
      refine ite2 (fun hc => ?_) (fun hc => iteF ?_)
      · have hne : cs ≠ [] := by
          rintro rfl
          simp at hc
        have hlen : 1 ≤ cs.length := List.length_pos_iff.mpr hne
        walk_at "r"
        refine ⟨τ, n, 3, rfl, by decide, by decide, by omega, hT1, fun d2 H2 hd2 hd2' hT2 b2 => ?_⟩
        have hk2 := b2 _ _ (hT1.ne hk1) hk1
        replace b2 := b1.trans b2
        walk_at "r"
        refine ifE (fun _ => ?_) (fun _ => ?_)
        · walk_at "r"
          refine ⟨τ, kn, n + 1, _, rfl, by omega, hT2, hk2, by simpa [iv] using hlen, by simp [iv]; omega, fun v H3 hv hT3 b3 => ?_⟩
          obtain ⟨c, hc1, rfl⟩ := List.mem_map.mp hv
          replace b3 := b2.trans b3
          walk_at "r"
          refine ⟨τ, n + 2, 4, rfl, by decide, by decide, by omega, hT3, fun d4 H4 hd4 hd4' hT4 b4 => ?_⟩
          obtain ⟨x4, rfl, hx4⟩ := nat_of (n := 4) hd4 hd4'
          walk_at "r"
          have hg := (hcs c hc1).add (y := x4) (Y := 4) hx4
          exact J1.rt _ _ (q _ _ hg (hT4.le (by omega)) (b3.trans b4))
        · exact J1.nx _ _ ⟨rfl, hT2, b2⟩
      · exact J1.nx _ _ ⟨rfl, hT1.le (by omega), b1⟩
    · rintro σ' H1 ⟨rfl, hT1, b1⟩
      walk_at "r"
      refine ⟨τ, n + 1, 70, rfl, by decide, by decide, by omega, hT1, fun d2 H2 hd2 hd2' hT2 b2 => ?_⟩
      obtain ⟨x2, rfl, hx2⟩ := nat_of (n := 70) hd2 hd2'
      replace b2 := b1.trans b2
      walk_at "r"
      refine ⟨τ, n + 2, 3, rfl, by decide, by decide, by omega, hT2, fun d3 H3 hd3 hd3' hT3 b3 => ?_⟩
      obtain ⟨x3, rfl, hx3⟩ := nat_of (n := 3) hd3 hd3'
      replace b3 := b2.trans b3
      walk_at "r"
      have hx2g : Dw m 100 0 (x2 : Int) := Dw.nat (by omega) (by omega)
      refine flR (fun i σ H' => ∃ (c : Int) (z4 z5 : Option V), σ = [some (.ref τ.p), some (.int mm), some (.ref kn), some (.int c), z4, z5] ∧ Dw m (100 + i * 2 ^ 56) (4 * i) c ∧ Tape H' τ (n + 3 + 4 * i) ∧ But τ.p H H')
        ⟨x2, none, none, rfl, by simpa using hx2g, hT3, b3⟩ ?_ ?_
      · rintro i σ H4 hi ⟨c, z4, z5, rfl, hc, hT4, b4⟩ D' Bd'
        have hi2 : i < 3 := by omega
        walk_at "r"
        refine ⟨τ, n + 3 + 4 * i, 40, rfl, by decide, by decide, by omega, hT4, fun d5 H5 hd5 hd5' hT5 b5 => ?_⟩
        obtain ⟨x5, rfl, hx5⟩ := nat_of (n := 40) hd5 hd5'
        replace b5 := b4.trans b5
        walk_at "r"
        refine ⟨by show 5 ≤ sizeLine; decide, fun l6 nl6 => ?_⟩
        have s6 := sm_upd (o := .lst [.int 1, .int 1, .int 3, .int 5, .int (1 * 2 ^ (1 + (x5 : Int)).toNat - 1)]) nl6
        refine ⟨τ, l6, n + 3 + 4 * i + 1, _, rfl, by omega, hT5.up s6, upd_same, by show 1 ≤ 5; decide, by show 5 ≤ 100000; decide, fun v H7 hv hT7 b7 => ?_⟩
        obtain ⟨pc, rfl, hpc, htw⟩ := pieces_in hx5 hv
        replace b7 := (b5.trans (But.of s6)).trans b7
        walk_at "r"
        refine ⟨τ, n + 3 + 4 * i + 2, mm, rfl, by omega, by omega, by omega, hT7, fun d8 H8 hd8 hd8' hT8 b8 => ?_⟩
        obtain ⟨x8, rfl, hx8⟩ := nat_of (n := mm) hd8 hd8'
        replace b8 := b7.trans b8
        walk_at "r"
        refine ⟨τ, n + 3 + 4 * i + 3, 15, rfl, by decide, by decide, by omega, hT8, fun d9 H9 hd9 hd9' hT9 b9 => ?_⟩
        obtain ⟨x9, rfl, hx9⟩ := nat_of (n := 15) hd9 hd9'
        replace b9 := b8.trans b9
        walk_at "r"
        refine Bd'.nx _ _ ⟨c + ((pc * 2 ^ x9 : Nat) : Int) * 2 ^ (200 * x8), some (.int (0 + (i : Nat))), some (.int (pc : Nat)), ?_, ?_, hT9.le (by omega), b9⟩
        rotate_left
        · by_cases h8 : x8 = 0
          · have := (hc.add (y := pc * 2 ^ x9) (Y := 2 ^ 56) (piece_lt hpc hx9)).mono (B' := 100 + (i + 1) * 2 ^ 56) (w' := 4 * (i + 1)) (by omega) (by omega)
            rw [h8, Nat.mul_zero, Int.pow_zero, Int.mul_one]
            exact this
          · exact (hc.far (d := x8) (y := pc * 2 ^ x9) (Y := 2 ^ 56) (by omega) (by omega) (piece_lt hpc hx9) (htw.shl x9)).mono (by omega) (by omega)
        · rw [← shift_eq (e := 200 * (x8 : Int) + x9) rfl]
          rfl
      · rintro σ H4 ⟨c, z4, z5, rfl, hc, hT4, b4⟩
        walk_at "r"
        exact q c H4 (hc.mono (by omega) (by omega)) (hT4.le (by omega)) b4
/-- ascending codes -/
def sp_codes (K : PySem.W.Frag) : Sp := fun vs H Q _ => ∃ (τ : Tp) (n m mm B ct : Nat) (kv : V) (cs : List Int), vs = [.ref τ.p, .int mm, .int ct, kv] ∧ 1 ≤ mm ∧ mm ≤ m ∧ m ≤ 4 ∧ n < 800000 ∧ ct ≤ 30 ∧ Tape H τ n ∧ (kv = .non ∧ cs = [] ∨ ∃ kn, kv = .ref kn ∧ H kn = some (.lst (iv cs))) ∧ (∀ c ∈ cs, Dw m B 8 c) ∧ 2 ^ 60 ≤ B ∧ cs.length ≤ 900 ∧
  ∀ (l : Addr) (ds : List Int) H', ds.Pairwise (· < ·) → (∀ c ∈ ds, Dw m (B + 4 * ct) 8 c) → ds.length ≤ ct → H l = none → H' l = some (.lst (iv ds)) → Tape H' τ (n + 12 * ct) → But τ.p H H' → Q (.ref l) H'
theorem ok__law_codes (T : Top K mg) {k : Nat} : FnOk P w K mg base CX0 (k + 4) T.f__law_codes T.fd__law_codes ["_law_tape", "_law_many", "_law_count", "_law_known"]  (sp_codes K) := by
  have G__law_code : FnOk P w K mg base CX0 (k + 3) T.f__law_code T.fd__law_code ["_law_tape", "_law_many", "_law_known"]  (sp_code K) := ok__law_code T
  refine funD_ok0 T.F__law_codes sc__law_codes (fun vs H Q E h => ?_) (fun cdv A outer s H vs Q E hr h => ?_)
  · obtain ⟨τ, n, m, mm, B, ct, kv, cs, rfl, _⟩ := h
    rfl
  · obtain ⟨τ, n, m, mm, B, ct, kv, cs, rfl, hmm, hmm2, hm4, hn, hct, hT, hk, hcs, hB, hcl, q⟩ := h
    refine ⟨_, (pss_cons (ps_set (i := 4) sc__law_codes.nd rfl (Or.inl rfl) (pe_lst pa_nil))
    (pss_cons (ps_for PassesOwn.never rfl (pi_range1 (by rfl) T.m_range (pa_cons (pv 2) pa_nil)) (pg_name (i := 5) sc__law_codes.nd rfl (Or.inl rfl))
      (pss_cons (ps_set (i := 6) sc__law_codes.nd rfl (Or.inl rfl) (pe_call G__law_code (hr.mono (by omega)) (by rfl) T.g__law_code T.F__law_code.kp T.b__law_code .nil pass0 (pa_cons (pv 0) (pa_cons (pv 1) (pa_cons (pe_op op_cat (pe_orT (pv 3) (pe_one (pe_lst pa_nil))) (pv 4)) pa_nil)))))
      (pss_one (ps_if (pt_cmpR op_notIn_seq (pv 6) (pv 4) rfl)
        (pss_one (ps_expr (pe_bm PySem.F.plainAttrs_list PySem.F.slot_list_append PySem.F.type_list_append mt_append (pv 4) (pa_cons (pv 6) pa_nil))))
        pss_nil))))
    (pss_one (ps_ret (pe_callB cr_sorted (by rfl) T.m_sorted (by decide +kernel) (pa_cons (pe_lc (own := [("_law_code_here", 6)]) (g := gName 6) (by rfl) sc__law_codes.nd (pi_list (pv 4)) (blkOk_by (own := [("_law_code_here", 6)]) (N := ["_law_tape", "_law_many", "_law_count", "_law_known", "_law_found", "_law_k", "_law_code_here"]) (sc := defScope s__law_codes) (by decide +kernel)) (fun _ _ _ _ _ => (pg_name (i := 6) sc__law_codes.nd rfl (Or.inl rfl))) (fun _ _ _ _ _ => pts_nil) (fun _ _ _ _ _ => (pe_callTy (T := "int") call_int1 (by rfl) T.m_int (by decide +kernel) (pa_cons (pv 6) pa_nil)))) pa_nil)))))), ?_⟩
    refine ⟨Nat.zero_le _, fun o no => ?_⟩
    have hoe := hT.new no
    have s1 := sm_upd (o := .lst []) no
    walk_at "r"
    have hco : ∀ xs : List V, H o = none := fun _ => no
    refine flR (fun i σ H' => ∃ (z5 z6 : Option V) (ds : List Int), σ = [some (.ref τ.p), some (.int mm), some (.int ct), some kv, some (.ref o), z5, z6] ∧ H' o = some (.lst (iv ds)) ∧ ds.Nodup ∧ (∀ c ∈ ds, Dw m (B + 4 * i) 8 c) ∧ ds.length ≤ i ∧ Tape H' τ (n + 12 * i) ∧ But τ.p H H')
      ⟨none, none, [], rfl, upd_same, List.nodup_nil, by simp, Nat.le_refl _, hT.up s1, But.of s1⟩ ?_ ?_
    · rintro i σ H2 hi ⟨z5, z6, ds, rfl, ho, hnd, hds, hdl, hT2, b2⟩ D' Bd'
      have hi2 : i < ct := by omega
      -- what is known, and the list found
      have goon : ∀ (a b : Addr) (H3 : Hp), H3 a = some (.lst (iv cs)) → H3 b = some (.lst (iv ds)) → Tape H3 τ (n + 12 * i) → But τ.p H H3 → H3 o = some (.lst (iv ds)) → ∀ (tail : V → Hp → Prop),
          (∀ (c : Int) (H4 : Hp), Dw m (B + 4 * i + 4) 8 c → Tape H4 τ (n + 12 * i + 12) → But τ.p H H4 → H4 o = some (.lst (iv ds)) → tail (.int c) H4) →
          rCat (.ref a) (.ref b) H3 (fun v H4 => sp_code K [.ref τ.p, .int mm, v] H4 tail E0) := fun a b H3 ha hb hT3 b3 ho3 tail ht => by
        refine ⟨a, b, _, _, rfl, rfl, ha, hb, ?_, fun l nl => ?_⟩
        · simp [iv]
          exact len_le (by omega)
        have s4 := sm_upd (o := .lst (iv cs ++ iv ds)) nl
        refine ⟨τ, n + 12 * i, m, mm, B + 4 * i, l, cs ++ ds, rfl, hmm, hmm2, hm4, by omega, hT3.up s4, by rw [upd_same]; simp [iv], fun c hc => ?_, by omega, by simp; omega, fun c H5 hc hT5 b5 => ?_⟩
        · rcases List.mem_append.mp hc with hc | hc
          · exact (hcs c hc).mono (by omega) (Nat.le_refl _)
          · exact hds c hc
        · exact ht c H5 hc hT5 ((b3.trans (But.of s4)).trans b5) (b5 _ _ hoe.1 (s4 _ _ ho3))
      dsimp only [gName]
      refine cut (fun σ' H' => ∃ c : Int, σ' = [some (.ref τ.p), some (.int mm), some (.int ct), some kv, some (.ref o), some (.int (0 + (i : Nat))), some (.int c)] ∧ Dw m (B + 4 * i + 4) 8 c ∧ Tape H' τ (n + 12 * i + 12) ∧ But τ.p H H' ∧ H' o = some (.lst (iv ds))) (fun D1 J1 => ?_) ?_
      · have empty : cs = [] → ∀ (tail : V → Hp → Prop), (∀ (c : Int) (H4 : Hp), Dw m (B + 4 * i + 4) 8 c → Tape H4 τ (n + 12 * i + 12) → But τ.p H H4 → H4 o = some (.lst (iv ds)) → tail (.int c) H4) →
            ∀ e, H2 e = none → rCat (.ref e) (.ref o) (upd H2 e (.lst [])) (fun v H4 => sp_code K [.ref τ.p, .int mm, v] H4 tail E0) := fun ec tail ht e ne => by
          have s3 := sm_upd (o := .lst []) ne
          exact goon e o _ (by rw [upd_same, ec]; rfl) (s3 _ _ ho) (hT2.up s3) (b2.trans (But.of s3)) (s3 _ _ ho) tail ht
        have fin : ∀ (c : Int) (H4 : Hp), Dw m (B + 4 * i + 4) 8 c → Tape H4 τ (n + 12 * i + 12) → But τ.p H H4 → H4 o = some (.lst (iv ds)) →
            D1.nx [some (.ref τ.p), some (.int mm), some (.int ct), some kv, some (.ref o), some (.int (0 + (i : Nat))), some (.int c)] H4 := fun c H4 h1 h2 h3 h4 => J1.nx _ _ ⟨c, rfl, h1, h2, h3, h4⟩
        walk_at "r"
        rcases hk with ⟨rfl, ec⟩ | ⟨kn, rfl, hkn⟩
        · refine ⟨false, rfl, iteF ⟨Nat.zero_le _, fun e ne => ⟨_, rfl, empty ec (fun x H1 => D1.nx [some (.ref τ.p), some (.int mm), some (.int ct), some (.non), some (.ref o), some (.int (0 + (i : Nat))), some x] H1) fin e ne⟩⟩⟩
        · have hk2 := b2 _ _ (hT.ne hkn) hkn
          by_cases ec : cs = []
          · refine ⟨false, .inl ⟨_, .inl (.inl hk2), by rw [ec]; rfl⟩, iteF ⟨Nat.zero_le _, fun e ne => ⟨_, rfl, empty ec (fun x H1 => D1.nx [some (.ref τ.p), some (.int mm), some (.int ct), some (.ref kn), some (.ref o), some (.int (0 + (i : Nat))), some x] H1) fin e ne⟩⟩⟩
          · refine ⟨true, .inl ⟨_, .inl (.inl hk2), ?_⟩, iteT ⟨_, rfl, goon kn o H2 hk2 ho hT2 b2 ho (fun x H1 => D1.nx [some (.ref τ.p), some (.int mm), some (.int ct), some (.ref kn), some (.ref o), some (.int (0 + (i : Nat))), some x] H1) fin⟩⟩
            cases cs with
            | nil => exact absurd rfl ec
            | cons a r => rfl
      · rintro σ' H3 ⟨c, rfl, hc, hT3, b3, ho3⟩
        refine ⟨_, rfl, _, rfl, o, _, rfl, .inl (.inl (.inl ho3)), rfl, flat_iv ds, _, rfl, ?_⟩
        rw [inV_int]
        refine ifN (fun hnc => ?_) (fun hcc => ?_)
        · refine ⟨_, rfl, .inl ⟨rfl, _, .inl (.inl ho3)⟩, ?_⟩
          walk_at "r"
          refine ⟨o, _, _, rfl, rfl, ho3, ?_, ?_⟩
          · simp [iv]
            exact len_lt (by omega)
          refine Bd'.nx _ _ ⟨_, _, ds ++ [c], rfl, ?_, ?_, fun c' hc' => ?_, by simp; omega, (hT3.set hoe).le (by omega), but_new b3 no⟩
          · rw [upd_same]
            simp [iv]
          · rw [List.nodup_append]
            refine ⟨hnd, by simp, fun a ha b hb e => ?_⟩
            simp at hb
            subst hb e
            exact hnc ha
          · rcases List.mem_append.mp hc' with h | h
            · exact (hds c' h).mono (by omega) (Nat.le_refl _)
            · simp at h
              subst h
              exact hc.mono (by omega) (Nat.le_refl _)
        · exact Bd'.nx _ _ ⟨_, _, ds, rfl, ho3, hnd, fun c' hc' => (hds c' hc').mono (by omega) (Nat.le_refl _), by omega, hT3.le (by omega), b3⟩
    · rintro σ H2 ⟨z5, z6, ds, rfl, ho, hnd, hds, hdl, hT2, b2⟩
      have ect : ((ct : Int)).toNat = ct := by omega
      rw [ect] at hds hdl hT2
      refine ⟨_, rfl, o, rfl, ⟨_, .inl (.inl ho)⟩, fun D nD => lc_list (xs := iv ds) (fun i H' => Same H2 H' ∧ H' D = some (.lst (iv (ds.take i)))) ⟨sm_upd nD, by rw [upd_same]; rfl⟩ ?_ ?_ ?_⟩
      · rintro i H' _ ⟨sm, _⟩
        exact .inl (.inl (sm _ _ ho))
      · rintro i x H' hx ⟨sm, eD⟩
        have hx' : (iv ds)[i]? = some x := hx
        unfold iv at hx'
        rw [List.getElem?_map] at hx'
        cases e : ds[i]? with
        | none => rw [e] at hx'; cases hx'
        | some c =>
          rw [e] at hx'
          cases hx'
          refine ⟨rfl, ?_⟩
          walk_at "r"
          refine ⟨_, eD, ?_, sm_mut sm nD, ?_⟩
          · simp [iv]
            exact len_lt (by omega)
          · rw [upd_same, List.take_add_one, e]
            simp [iv]
      · rintro H3 ⟨sm3, eD⟩
        have el : ds.take (iv ds).length = ds := List.take_of_length_le (by simp [iv])
        rw [el] at eD
        refine ⟨D, ds, rfl, .inl (.inl eD), by omega, fun ds' l hperm hsort nl => ?_⟩
        have nD0 : H D = none := by
          have := hT2.new nD
          cases e : H D with
          | none => rfl
          | some u =>
            rw [b2 D u this.1 e] at nD
            cases nD
        have hle := (hT2.up sm3).new nl
        refine q l ds' _ ?_ (fun c hc => hds c (hperm.mem_iff.mp hc)) (by rw [hperm.length_eq]; exact hdl) ?_ upd_same ((hT2.up sm3).up (sm_upd nl)) ((b2.trans (But.of sm3)).trans (But.of (sm_upd nl)))
        · have hnd' : ds'.Nodup := hperm.nodup_iff.mpr hnd
          have := hsort.and hnd'
          exact this.imp fun h => by omega
        · cases e : H l with
          | none => rfl
          | some u =>
            rw [sm3 _ _ (b2 l u hle.1 e)] at nl
            cases nl
end
end K13
set_option Elab.async false
set_option linter.all false
set_option maxRecDepth 100000
set_option pp.deepTerms false
set_option pp.maxSteps 1500
namespace K13
open PySem PySem.Spec PyProof.Rows L2 HX TV FM DX FB FC FD
local macro_rules | `(tactic| walk_at "r") => `(tactic| (repeat (first | refine Exists.intro _ (And.intro rfl ?_) | refine And.intro rfl ?_ | refine Exists.intro _ (Exists.intro _ (And.intro rfl (And.intro rfl ?_))) | refine And.intro (by omega) ?_ | refine And.intro (Or.inl (And.intro (by omega) (by omega))) ?_ | refine And.intro (Or.inr (And.intro (by omega) (by omega))) ?_ | refine And.intro (And.intro (by omega) (by omega)) ?_ | refine And.intro (And.intro (by decide) (And.intro (by decide) (by decide))) ?_ | refine Or.inl (Exists.intro _ (And.intro rfl ?_)) | (dsimp only [gName]; first | with_reducible refine seqC ?_ | with_reducible refine asgC ?_))))
local macro_rules | `(tactic| walk_at "s") => `(tactic| (repeat (first | refine Exists.intro _ (And.intro rfl ?_) | refine And.intro rfl ?_ | refine Exists.intro _ (Exists.intro _ (And.intro rfl (And.intro rfl ?_))) | refine And.intro (by omega) ?_ | refine And.intro (Or.inl (And.intro (by omega) (by omega))) ?_ | refine And.intro (Or.inr (And.intro (by omega) (by omega))) ?_ | refine And.intro (And.intro (by omega) (by omega)) ?_ | refine And.intro (And.intro (by decide) (And.intro (by decide) (by decide))) ?_ | refine Or.inl (Exists.intro _ (And.intro rfl ?_)) | refine Exists.intro _ (Exists.intro _ (And.intro rfl ?_)) | (dsimp only [gName]; first | with_reducible refine seqC ?_ | with_reducible refine asgC ?_))))
section
variable {P : Program} {w : World} {K : PySem.W.Frag} {mg : Str → Option Value} {base : Heap}
def sp_foc (K : PySem.W.Frag) : Sp := fun vs H Q _ => ∃ (lc l : Addr) (cs : List Int) (us : List V) (fs : List PyData) (m : Nat), vs = [.ref lc, .ref l] ∧ H lc = some (.lst (iv cs)) ∧ H l = some (.lst (us.take m)) ∧ m ≤ 4 ∧ Fields fs ∧ DpAll K H us fs ∧ cs.Pairwise (· < ·) ∧ (∀ c ∈ cs, CodeOk m c) ∧ cs.length ≤ 100000 ∧
  ∀ (v : V) (d : PyData) H', Fm d → val d = tv (Phis fs cs) → d.depth ≤ 5 → wt d ≤ (cs.map cwt).sum + 1 → Dp K H' v d → Same H H' → Q v H'
theorem fields_fm {fs : List PyData} (F : Fields fs) : FmAll fs := by
  obtain ⟨f1, es2, es3, rfl, h1, h2, f2, f3, _, _, h3, h4, _⟩ := F.ex
  have : (0 : Int) < 2 ^ 140 := Int.pow_pos (by decide)
  rw [fmAll_cons, fmAll_cons, fmAll_cons, fmAll_cons, fm_int, fm_int, val_int, val_int]
  exact ⟨by omega, by omega, by omega, by omega, f2, by omega, f3, by omega, fmAll_nil⟩
theorem ok__law_form_of_codes (T : Top K mg) {k : Nat} : FnOk P w K mg base CX0 (k + 4) T.f__law_form_of_codes T.fd__law_form_of_codes ["_law_codes_here", "_law_fields_here"]  (sp_foc K) := by
  have G__law_moved : FnOk P w K mg base CX0 (k + 3) T.f__law_moved T.fd__law_moved ["_law_code_here", "_law_fields_here"]  (sp_moved K) := ok__law_moved T
  have G__law_row_form : FnOk P w K mg base CX0 (k + 2) T.f__law_row_form T.fd__law_row_form ["_law_places"]  (sp_row K) := ok__law_row_form T
  refine T.F__law_form_of_codes.ok sc__law_form_of_codes (fun vs H Q E h => ?_) (fun cdv A outer s H vs Q E hr h => ?_)
  · obtain ⟨lc, l, cs, us, fs, m, rfl, _⟩ := h
    rfl
  · obtain ⟨lc, l, cs, us, fs, m, rfl, hlc, hl, hm, F, hD, hpw, hC, hcl, q⟩ := h
    have hFA := fields_fm F
    refine ⟨_, (pss_one (ps_ret (pe_call G__law_row_form (hr.mono (by omega)) (by rfl) T.g__law_row_form T.F__law_row_form.kp T.b__law_row_form .nil pass0 (pa_cons (pe_lc (own := [("_law_code_here", 2)]) (g := gName 2) (by rfl) sc__law_form_of_codes.nd (pi_list (pv 0)) (blkOk_by (own := [("_law_code_here", 2)]) (N := ["_law_codes_here", "_law_fields_here", "_law_code_here"]) (sc := defScope s__law_form_of_codes) (by decide +kernel)) (fun _ _ _ _ _ => (pg_name (i := 2) sc__law_form_of_codes.nd rfl (Or.inl rfl))) (fun _ _ _ _ _ => pts_nil) (fun _ _ _ _ _ => (pe_call G__law_moved (hr.mono (by omega)) (by rfl) T.g__law_moved T.F__law_moved.kp T.b__law_moved .nil pass0 (pa_cons (pv 2) (pa_cons (pv 1) pa_nil))))) pa_nil)))), ?_⟩
    refine ⟨_, rfl, lc, rfl, ⟨_, .inl (.inl hlc)⟩, fun D nD => lc_list (xs := iv cs) (fun i H' => ∃ (vs : List V) (ds : List PyData), Same H H' ∧ H' D = some (.lst vs) ∧ DpAll K H' vs ds ∧ FmAll ds ∧ vals ds = Phis fs (cs.take i) ∧ PyData.depthAll ds ≤ 4 ∧ wtAll ds ≤ ((cs.take i).map cwt).sum) ⟨[], [], sm_upd nD, upd_same, .nil, fmAll_nil, by simp [vals, Phis], by rw [depthAll_nil]; exact Nat.zero_le _, by rw [wtAll_nil]; exact Nat.zero_le _⟩ ?_ ?_ ?_⟩
    · rintro i H' _ ⟨_, _, sm, _⟩
      exact .inl (.inl (sm _ _ hlc))
    · rintro i x H2 hx ⟨vs, ds, sm, eD, hds, hF, hv, hdep, hwt⟩
      obtain ⟨c, hc, rfl⟩ := iv_get hx
      have hcC := hC c (List.mem_of_getElem? hc)
      have hdl : ds.length ≤ 100000 := by
        rw [← vals_len, hv]
        simp [Phis]
        omega
      have hvl := dpAll_len hds
      have ecw : ((cs.take (i + 1)).map cwt).sum = ((cs.take i).map cwt).sum + cwt c := by
        rw [List.take_add_one, hc, Option.toList_some, List.map_append, List.sum_append, List.map_cons, List.map_nil, List.sum_cons, List.sum_nil]
        omega
      refine ⟨rfl, ?_⟩
      walk_at "r"
      refine ⟨c, l, us, fs, m, rfl, sm _ _ hl, hm, F, dpAll_tk (tk_same sm) hFA hD, hcC, fun v d H3 f1 f2 f3 f5 f4 sm3 => ?_⟩
      have eD3 := sm3 _ _ eD
      have hmu : Mut (H3 D) := by rw [eD3]; trivial
      have tk3 : Tk H3 (upd H3 D (.lst (vs ++ [v]))) := tk_mut hmu
      refine ⟨vs, eD3, len_lt (by omega), vs ++ [v], ds ++ [d], sm_mut (sm.trans sm3) nD, upd_same, dpAll_app (dpAll_tk ((tk_same sm3).trans tk3) hF hds) (.cons (dp_tk tk3 f1 f4) .nil), ?_, ?_, ?_, by rw [wtAll_app, wtAll_cons, wtAll_nil, ecw]; omega⟩
      · rw [fmAll_app, fmAll_cons, f2]
        exact ⟨hF, f1, Phi_nonneg F hm hcC, fmAll_nil⟩
      · rw [vals_app, hv, vals_cons, vals_nil, f2, List.take_add_one, hc]
        simp [Phis]
      · refine depthAll_le.mpr fun e he => ?_
        rcases List.mem_append.mp he with he | he
        · exact depthAll_le.mp hdep e he
        · simp at he
          subst he
          exact f3
    · rintro H2 ⟨vs, ds, sm, eD, hds, hF, hv, hdep, hwt⟩
      rw [List.take_of_length_le (by simp [iv])] at hv
      refine ⟨D, vs, ds, rfl, eD, hds, hF, ?_, by omega, ?_, fun v d H' f1 f2 f3 f5 f4 sm3 => ?_⟩
      · rw [hv]
        exact Phis_asc F hm hpw hC
      · rw [← vals_len, hv]
        simp [Phis]
        omega
      · have el : (iv cs).length = cs.length := by simp [iv]
        rw [el, List.take_length] at hwt
        exact q v d H' f1 (by rw [f2, hv]) (by omega) (by omega) f4 (sm.trans sm3)
end
end K13
set_option Elab.async false
set_option linter.all false
set_option maxRecDepth 100000
set_option pp.deepTerms false
set_option pp.maxSteps 1500
namespace K13
open PySem PySem.Spec PyProof.Rows L2 HX TV FM DX FB FC PM
local macro_rules | `(tactic| walk_at "r") => `(tactic| (repeat (first | refine Exists.intro _ (And.intro rfl ?_) | refine And.intro rfl ?_ | refine Exists.intro _ (Exists.intro _ (And.intro rfl (And.intro rfl ?_))) | refine And.intro (by omega) ?_ | refine And.intro (Or.inl (And.intro (by omega) (by omega))) ?_ | refine And.intro (Or.inr (And.intro (by omega) (by omega))) ?_ | refine And.intro (And.intro (by omega) (by omega)) ?_ | refine And.intro (And.intro (by decide) (And.intro (by decide) (by decide))) ?_ | refine Or.inl (Exists.intro _ (And.intro rfl ?_)) | (dsimp only [gName]; first | with_reducible refine seqC ?_ | with_reducible refine asgC ?_))))
local macro_rules | `(tactic| walk_at "s") => `(tactic| (repeat (first | refine Exists.intro _ (And.intro rfl ?_) | refine And.intro rfl ?_ | refine Exists.intro _ (Exists.intro _ (And.intro rfl (And.intro rfl ?_))) | refine And.intro (by omega) ?_ | refine And.intro (Or.inl (And.intro (by omega) (by omega))) ?_ | refine And.intro (Or.inr (And.intro (by omega) (by omega))) ?_ | refine And.intro (And.intro (by omega) (by omega)) ?_ | refine And.intro (And.intro (by decide) (And.intro (by decide) (by decide))) ?_ | refine Or.inl (Exists.intro _ (And.intro rfl ?_)) | refine Exists.intro _ (Exists.intro _ (And.intro rfl ?_)) | (dsimp only [gName]; first | with_reducible refine seqC ?_ | with_reducible refine asgC ?_))))
section
variable {P : Program} {w : World} {K : PySem.W.Frag} {mg : Str → Option Value} {base : Heap}
theorem ok__law_size (T : Top K mg) : ∀ n, FnOk P w K mg base CX0 (n + 1) T.f__law_size T.fd__law_size ["_law_form_here"]  (sp_size K n) := by
  intro n
  induction n with
  | zero =>
    refine T.F__law_size.ok sc__law_size (fun vs H Q E h => ?_) (fun cdv A outer s H vs Q E hr h => ?_)
    · obtain ⟨v, d, rfl, _⟩ := h
      rfl
    · obtain ⟨v, d, rfl, hD, hF, hd, hw, q⟩ := h
      refine ⟨_, (pss_one (ps_ret (pe_ifExp (pt_val (pe_callB call_isi (by rfl) T.m_isinstance (by decide +kernel) (pa_cons (pv 0) (pa_cons (pe_bltn (v := .ty "int") (by rfl) T.m_int (by decide +kernel) rfl) pa_nil))) (fun _ => rfl)) pe_int pe_never))), ?_⟩
      rcases fm_cases hF with ⟨i, rfl⟩ | ⟨ds, rfl⟩
      · cases hD
        refine ⟨_, rfl, _, _, _, _, true, rfl, .ty "int", tyI _, k_ii, true, rfl, iteT ?_⟩
        have := q H (Same.refl _)
        rw [wt_int] at this
        exact this
      · rw [depth_tuple] at hd
        omega
  | succ n ih =>
    have G__law_size : FnOk P w K mg base CX0 (n + 1) T.f__law_size T.fd__law_size ["_law_form_here"]  (sp_size K n) := ih
    refine T.F__law_size.ok sc__law_size (fun vs H Q E h => ?_) (fun cdv A outer s H vs Q E hr h => ?_)
    · obtain ⟨v, d, rfl, _⟩ := h
      rfl
    · obtain ⟨v, d, rfl, hD, hF, hd, hw, q⟩ := h
      refine ⟨_, (pss_one (ps_ret (pe_ifExp (pt_val (pe_callB call_isi (by rfl) T.m_isinstance (by decide +kernel) (pa_cons (pv 0) (pa_cons (pe_bltn (v := .ty "int") (by rfl) T.m_int (by decide +kernel) rfl) pa_nil))) (fun _ => rfl)) pe_int (pe_op op_add pe_int (pe_callB (cr_sum rfl) (by rfl) T.m_sum (by decide +kernel) (pa_cons (pe_lc (own := [("_law_one", 1)]) (g := gName 1) (by rfl) sc__law_size.nd (pi_tup (pv 0)) (blkOk_by (own := [("_law_one", 1)]) (N := ["_law_form_here", "_law_one"]) (sc := defScope s__law_size) (by decide +kernel)) (fun _ _ _ _ _ => (pg_name (i := 1) sc__law_size.nd rfl (Or.inl rfl))) (fun _ _ _ _ _ => pts_nil) (fun _ _ _ _ _ => (pe_call G__law_size (hr.mono (by omega)) (by rfl) T.g__law_size T.F__law_size.kp T.b__law_size .nil pass0 (pa_cons (pv 1) pa_nil)))) pa_nil)))))), ?_⟩
      rcases fm_cases hF with ⟨i, rfl⟩ | ⟨ds, rfl⟩
      · cases hD
        refine ⟨_, rfl, _, _, _, _, true, rfl, .ty "int", tyI _, k_ii, true, rfl, iteT ?_⟩
        have := q H (Same.refl _)
        rw [wt_int] at this
        exact this
      · have hFa := ((fm_tuple _).mp hF).1
        rw [depth_tuple] at hd
        cases hD with
        | @tup a xs _ h1 h2 =>
          have hlx := dpAll_len h2
          refine ⟨_, rfl, _, _, _, _, false, rfl, .ty "int", tyT h1, k_ti, false, rfl, iteF ?_⟩
          refine ⟨_, rfl, a, rfl, ⟨_, h1⟩, fun D nD => lc_tup (xs := xs) (fun i H' => Same H H' ∧ H' D = some (.lst (nv ((ds.take i).map wt)))) ⟨sm_upd nD, by rw [upd_same]; rfl⟩ ?_ ?_ ?_⟩
          · rintro i H' _ ⟨sm, _⟩
            exact HX.Same.tup sm h1
          · rintro i x H' hx ⟨sm, eD⟩
            obtain ⟨e, he, hDe⟩ := dpAll_get h2 hx
            have hFe := (fmAll_mem hFa e (List.mem_of_getElem? he)).1
            have hi := (List.getElem?_eq_some_iff.mp hx).1
            refine ⟨rfl, ?_⟩
            have hwe := wt_mem (List.mem_of_getElem? he)
            have hll := len_wt ds
            rw [wt_tuple] at hw
            refine ⟨_, rfl, x, e, rfl, dp_tk (tk_same sm) hFe hDe, hFe, ?_, by omega, fun H2 sm2 => ?_⟩
            · have := depthAll_le.mp (Nat.le_refl _) e (List.mem_of_getElem? he)
              omega
            refine ⟨_, sm2 _ _ eD, ?_, sm_mut (sm.trans sm2) nD, ?_⟩
            · rw [nv_len]
              simp
              exact len_lt (by omega)
            · rw [upd_same, List.take_add_one, he, ← nv_app]
              simp
          · rintro H2 ⟨sm, eD⟩
            rw [hlx, List.take_length, nvn] at eD
            refine ⟨D, _, rfl, .inl (.inl eD), ?_⟩
            walk_at "r"
            rw [sum_nat, ← wtAll_sum]
            have := q H2 sm
            rw [wt_tuple] at this
            show Q (.int ((1 : Int) + ((wtAll ds : Nat) : Int))) H2
            rw [show (1 : Int) + ((wtAll ds : Nat) : Int) = ((1 + wtAll ds : Nat) : Int) by omega]
            exact this
theorem ok__law_height (T : Top K mg) : ∀ n, FnOk P w K mg base CX0 (n + 1) T.f__law_height T.fd__law_height ["_law_form_here"]  (sp_height K n) := by
  intro n
  induction n with
  | zero =>
    refine T.F__law_height.ok sc__law_height (fun vs H Q E h => ?_) (fun cdv A outer s H vs Q E hr h => ?_)
    · obtain ⟨v, d, rfl, _⟩ := h
      rfl
    · obtain ⟨v, d, rfl, hD, hF, hd, hw, q⟩ := h
      refine ⟨_, (pss_cons (ps_if (pt_val (pe_callB call_isi (by rfl) T.m_isinstance (by decide +kernel) (pa_cons (pv 0) (pa_cons (pe_bltn (v := .ty "int") (by rfl) T.m_int (by decide +kernel) rfl) pa_nil))) (fun _ => rfl)) (pss_one (ps_ret pe_int)) pss_nil) pss_never), ?_⟩
      rcases fm_cases hF with ⟨i, rfl⟩ | ⟨ds, rfl⟩
      · cases hD
        refine ⟨_, rfl, _, _, _, _, true, rfl, .ty "int", tyI _, k_ii, true, rfl, iteT ?_⟩
        have := q H (Same.refl _)
        rw [depth_int] at this
        exact this
      · rw [depth_tuple] at hd
        omega
  | succ n ih =>
    have G__law_height : FnOk P w K mg base CX0 (n + 1) T.f__law_height T.fd__law_height ["_law_form_here"]  (sp_height K n) := ih
    refine T.F__law_height.ok sc__law_height (fun vs H Q E h => ?_) (fun cdv A outer s H vs Q E hr h => ?_)
    · obtain ⟨v, d, rfl, _⟩ := h
      rfl
    · obtain ⟨v, d, rfl, hD, hF, hd, hw, q⟩ := h
      refine ⟨_, (pss_cons (ps_if (pt_val (pe_callB call_isi (by rfl) T.m_isinstance (by decide +kernel) (pa_cons (pv 0) (pa_cons (pe_bltn (v := .ty "int") (by rfl) T.m_int (by decide +kernel) rfl) pa_nil))) (fun _ => rfl))
      (pss_one (ps_ret pe_int))
      pss_nil)
    (pss_one (ps_ret (pe_op op_add pe_int (pe_callB (cr_max rfl) (by rfl) T.m_max (by decide +kernel) (pa_cons (pe_lc (own := [("_law_one", 1)]) (g := gName 1) (by rfl) sc__law_height.nd (pi_tup (pv 0)) (blkOk_by (own := [("_law_one", 1)]) (N := ["_law_form_here", "_law_one"]) (sc := defScope s__law_height) (by decide +kernel)) (fun _ _ _ _ _ => (pg_name (i := 1) sc__law_height.nd rfl (Or.inl rfl))) (fun _ _ _ _ _ => pts_nil) (fun _ _ _ _ _ => (pe_callTy (T := "int") call_int1 (by rfl) T.m_int (by decide +kernel) (pa_cons (pe_call G__law_height (hr.mono (by omega)) (by rfl) T.g__law_height T.F__law_height.kp T.b__law_height .nil pass0 (pa_cons (pv 1) pa_nil)) pa_nil)))) pa_nil)))))), ?_⟩
      rcases fm_cases hF with ⟨i, rfl⟩ | ⟨ds, rfl⟩
      · cases hD
        refine ⟨_, rfl, _, _, _, _, true, rfl, .ty "int", tyI _, k_ii, true, rfl, iteT ?_⟩
        have := q H (Same.refl _)
        rw [depth_int] at this
        exact this
      · have hFa := ((fm_tuple _).mp hF).1
        rw [depth_tuple] at hd
        rw [wt_tuple] at hw
        have hll := len_wt ds
        cases hD with
        | @tup a xs _ h1 h2 =>
          have hlx := dpAll_len h2
          refine ⟨_, rfl, _, _, _, _, false, rfl, .ty "int", tyT h1, k_ti, false, rfl, iteF ?_⟩
          refine ⟨_, rfl, a, rfl, ⟨_, h1⟩, fun D nD => lc_tup (xs := xs) (fun i H' => Same H H' ∧ H' D = some (.lst (nv ((ds.take i).map PyData.depth)))) ⟨sm_upd nD, by rw [upd_same]; rfl⟩ ?_ ?_ ?_⟩
          · rintro i H' _ ⟨sm, _⟩
            exact HX.Same.tup sm h1
          · rintro i x H' hx ⟨sm, eD⟩
            obtain ⟨e, he, hDe⟩ := dpAll_get h2 hx
            have hFe := (fmAll_mem hFa e (List.mem_of_getElem? he)).1
            have hi := (List.getElem?_eq_some_iff.mp hx).1
            refine ⟨rfl, ?_⟩
            have hwe := wt_mem (List.mem_of_getElem? he)
            refine ⟨_, rfl, x, e, rfl, dp_tk (tk_same sm) hFe hDe, hFe, ?_, by omega, fun H2 sm2 => ?_⟩
            · have := depthAll_le.mp (Nat.le_refl _) e (List.mem_of_getElem? he)
              omega
            walk_at "r"
            refine ⟨_, sm2 _ _ eD, ?_, sm_mut (sm.trans sm2) nD, ?_⟩
            · rw [nv_len]
              simp
              exact len_lt (by omega)
            · rw [upd_same, List.take_add_one, he, ← nv_app]
              simp
          · rintro H2 ⟨sm, eD⟩
            rw [hlx, List.take_length, nvn] at eD
            have hne := fm_ne hF
            refine ⟨D, _, rfl, .inl (.inl eD), ?_, fun mx hm1 hm2 => ?_⟩
            · simp
              exact List.length_pos_iff.mpr hne
            walk_at "r"
            have emx : mx = ((PyData.depthAll ds : Nat) : Int) := by
              simp only [List.mem_map] at hm1 hm2
              obtain ⟨x, ⟨y, hy, rfl⟩, rfl⟩ := hm1
              have h5 := depthAll_le.mp (Nat.le_refl (PyData.depthAll ds)) y hy
              have h6 : PyData.depthAll ds ≤ y.depth := depthAll_le.mpr fun z hz => by
                have := hm2 _ ⟨z.depth, ⟨z, hz, rfl⟩, rfl⟩
                omega
              omega
            rw [emx]
            have := q H2 sm
            rw [depth_tuple] at this
            show Q (.int ((1 : Int) + ((PyData.depthAll ds : Nat) : Int))) H2
            rw [show (1 : Int) + ((PyData.depthAll ds : Nat) : Int) = ((PyData.depthAll ds + 1 : Nat) : Int) by omega]
            exact this
end
end K13
set_option Elab.async false
set_option linter.all false
set_option maxRecDepth 100000
set_option pp.deepTerms false
set_option pp.maxSteps 1500
namespace K13
open PySem PySem.Spec PyProof.Rows L2 HX TV FM DX
local macro_rules | `(tactic| walk_at "r") => `(tactic| (repeat (first | refine Exists.intro _ (And.intro rfl ?_) | refine And.intro rfl ?_ | refine Exists.intro _ (Exists.intro _ (And.intro rfl (And.intro rfl ?_))) | refine And.intro (by omega) ?_ | refine And.intro (Or.inl (And.intro (by omega) (by omega))) ?_ | refine And.intro (Or.inr (And.intro (by omega) (by omega))) ?_ | refine And.intro (And.intro (by omega) (by omega)) ?_ | refine And.intro (And.intro (by decide) (And.intro (by decide) (by decide))) ?_ | refine Or.inl (Exists.intro _ (And.intro rfl ?_)) | (dsimp only [gName]; first | with_reducible refine seqC ?_ | with_reducible refine asgC ?_))))
local macro_rules | `(tactic| walk_at "s") => `(tactic| (repeat (first | refine Exists.intro _ (And.intro rfl ?_) | refine And.intro rfl ?_ | refine Exists.intro _ (Exists.intro _ (And.intro rfl (And.intro rfl ?_))) | refine And.intro (by omega) ?_ | refine And.intro (Or.inl (And.intro (by omega) (by omega))) ?_ | refine And.intro (Or.inr (And.intro (by omega) (by omega))) ?_ | refine And.intro (And.intro (by omega) (by omega)) ?_ | refine And.intro (And.intro (by decide) (And.intro (by decide) (by decide))) ?_ | refine Or.inl (Exists.intro _ (And.intro rfl ?_)) | refine Exists.intro _ (Exists.intro _ (And.intro rfl ?_)) | (dsimp only [gName]; first | with_reducible refine seqC ?_ | with_reducible refine asgC ?_))))
section
variable {P : Program} {w : World} {K : PySem.W.Frag} {mg : Str → Option Value} {base : Heap}
/-- an int of few turns -/
def sp_few (K : PySem.W.Frag) : Sp := fun vs H Q _ => ∃ (τ : Tp) (n most : Nat), vs = [.ref τ.p, .int most] ∧ n < 900000 ∧ 1 ≤ most ∧ most ≤ 100000 ∧ Tape H τ n ∧
  ∀ (ts : List Nat) H', Asc ts → (∀ t ∈ ts, t ≤ most) → ts.length ≤ 9 → Tape H' τ (n + 46) → But τ.p H H' → Q (.int (tv ts)) H'
theorem count_in {v : V} (h : v ∈ [V.int 0, .int 1, .int 2, .int 2, .int 3, .int 4, .int 5, .int 6, .int 9]) : ∃ c : Nat, v = .int (c : Nat) ∧ c ≤ 9 := by
  simp only [List.mem_cons, List.not_mem_nil, or_false] at h
  rcases h with rfl | rfl | rfl | rfl | rfl | rfl | rfl | rfl | rfl
  · exact ⟨0, rfl, by decide⟩
  · exact ⟨1, rfl, by decide⟩
  · exact ⟨2, rfl, by decide⟩
  · exact ⟨2, rfl, by decide⟩
  · exact ⟨3, rfl, by decide⟩
  · exact ⟨4, rfl, by decide⟩
  · exact ⟨5, rfl, by decide⟩
  · exact ⟨6, rfl, by decide⟩
  · exact ⟨9, rfl, by decide⟩
theorem ok__law_few (T : Top K mg) {k : Nat} : FnOk P w K mg base CX0 (k + 3) T.f__law_few T.fd__law_few ["_law_tape", "_law_most"]  (sp_few K) := by
  have G__law_draw : FnOk P w K mg base CX0 (k + 1) T.f__law_draw T.fd__law_draw ["_law_tape", "_law_limit"]  sp_draw := ok__law_draw T
  have G__law_pick : FnOk P w K mg base CX0 (k + 2) T.f__law_pick T.fd__law_pick ["_law_tape", "_law_some"]  sp_pick := ok__law_pick T
  have G__law_int : FnOk P w K mg base CX0 (k + 1) T.f__law_int T.fd__law_int ["_law_places"]  (sp_int K) := ok__law_int T
  refine T.F__law_few.ok sc__law_few (fun vs H Q E h => ?_) (fun cdv A outer s H vs Q E hr h => ?_)
  · obtain ⟨τ, n, most, rfl, _⟩ := h
    rfl
  · obtain ⟨τ, n, most, rfl, hn, hm1, hm2, hT, q⟩ := h
    refine ⟨_, (pss_cons (ps_par (i := 2) (j := 3) rfl sc__law_few.nd rfl rfl (by decide) rfl rfl (pa_cons (pe_lst pa_nil) (pa_cons (pe_call G__law_pick (hr.mono (by omega)) (by rfl) T.g__law_pick T.F__law_pick.kp T.b__law_pick .nil pass0 (pa_cons (pv 0) (pa_cons (pe_lst (pa_cons pe_int (pa_cons pe_int (pa_cons pe_int (pa_cons pe_int (pa_cons pe_int (pa_cons pe_int (pa_cons pe_int (pa_cons pe_int (pa_cons pe_int pa_nil)))))))))) pa_nil))) pa_nil)) rfl)
    (pss_cons (ps_for PassesOwn.never rfl (pi_range1 (by rfl) T.m_range (pa_cons (pv 3) pa_nil)) (pg_name (i := 4) sc__law_few.nd rfl (Or.inl rfl))
      (pss_cons (ps_set (i := 5) sc__law_few.nd rfl (Or.inl rfl) (pe_op op_sub (pe_call G__law_pick (hr.mono (by omega)) (by rfl) T.g__law_pick T.F__law_pick.kp T.b__law_pick .nil pass0 (pa_cons (pv 0) (pa_cons (pe_lst (pa_cons pe_int (pa_cons pe_int (pa_cons pe_int (pa_cons pe_int (pa_cons pe_int (pa_cons (pv 1) pa_nil))))))) pa_nil))) (pe_call G__law_draw (hr.mono (by omega)) (by rfl) T.g__law_draw T.F__law_draw.kp T.b__law_draw .nil pass0 (pa_cons (pv 0) (pa_cons pe_int pa_nil)))))
      (pss_cons (ps_set (i := 6) sc__law_few.nd rfl (Or.inl rfl) (pe_ifExp (pt_cmpR (op_eqD hr.units) (pv 2) (pe_lst pa_nil) (nomark _)) pe_int (pe_op op_add (pe_ix ix_list (pv 2) (pe_un un_neg pe_int) (fun _ _ => rfl)) pe_int)))
      (pss_cons (ps_set (i := 7) sc__law_few.nd rfl (Or.inl rfl) (pe_call G__law_pick (hr.mono (by omega)) (by rfl) T.g__law_pick T.F__law_pick.kp T.b__law_pick .nil pass0 (pa_cons (pv 0) (pa_cons (pe_lst (pa_cons (pe_call G__law_draw (hr.mono (by omega)) (by rfl) T.g__law_draw T.F__law_draw.kp T.b__law_draw .nil pass0 (pa_cons (pv 0) (pa_cons (pe_op op_add (pv 1) pe_int) pa_nil))) (pa_cons (pe_callB (call_max2 rfl) (by rfl) T.m_max (by decide +kernel) (pa_cons pe_int (pa_cons (pv 5) pa_nil))) (pa_cons (pe_call G__law_draw (hr.mono (by omega)) (by rfl) T.g__law_draw T.F__law_draw.kp T.b__law_draw .nil pass0 (pa_cons (pv 0) (pa_cons pe_int pa_nil))) (pa_cons (pv 6) pa_nil))))) pa_nil))))
      (pss_one (ps_if (PW.pt (pw_and (pt_cmpR op_notIn_seq (pv 7) (pv 2) rfl) (pw_and1 (pt_cmpR op_le (pv 7) (pv 1) (nomark _)))))
        (pss_one (ps_expr (pe_bm PySem.F.plainAttrs_list PySem.F.slot_list_append PySem.F.type_list_append mt_append (pv 2) (pa_cons (pv 7) pa_nil))))
        pss_nil))))))
    (pss_one (ps_ret (pe_call G__law_int (hr.mono (by omega)) (by rfl) T.g__law_int T.F__law_int.kp T.b__law_int .nil pass0 (pa_cons (pe_callB cr_sorted (by rfl) T.m_sorted (by decide +kernel) (pa_cons (pe_lc (own := [("_law_turn", 7)]) (g := gName 7) (by rfl) sc__law_few.nd (pi_list (pv 2)) (blkOk_by (own := [("_law_turn", 7)]) (N := ["_law_tape", "_law_most", "_law_found", "_law_count", "_law_k", "_law_near", "_law_last", "_law_turn"]) (sc := defScope s__law_few) (by decide +kernel)) (fun _ _ _ _ _ => (pg_name (i := 7) sc__law_few.nd rfl (Or.inl rfl))) (fun _ _ _ _ _ => pts_nil) (fun _ _ _ _ _ => (pe_callTy (T := "int") call_int1 (by rfl) T.m_int (by decide +kernel) (pa_cons (pv 7) pa_nil)))) pa_nil)) pa_nil)))))), ?_⟩
    refine ⟨Nat.zero_le _, fun o no => ?_⟩
    have hoe := hT.new no
    have s1 := sm_upd (o := .lst []) no
    walk_at "r"
    refine ⟨by show 9 ≤ sizeLine; decide, fun l1 nl1 => ?_⟩
    have s2 := s1.trans (sm_upd (o := .lst [V.int 0, .int 1, .int 2, .int 2, .int 3, .int 4, .int 5, .int 6, .int 9]) nl1)
    refine ⟨τ, l1, n, _, rfl, by omega, hT.up s2, upd_same, by show 1 ≤ 9; decide, by show 9 ≤ 100000; decide, fun v H3 hv hT3 b3 => ?_⟩
    obtain ⟨ct, rfl, hct⟩ := count_in hv
    have ho3 := b3 _ _ hoe.1 ((sm_upd nl1) _ _ (upd_at (o := .lst []) no))
    replace b3 := (But.of s2).trans b3
    refine ⟨_, _, rfl, ?_⟩
    walk_at "r"
    refine flR (fun i σ H' => ∃ (z4 z5 z6 z7 : Option V) (ts : List Nat), σ = [some (.ref τ.p), some (.int most), some (.ref o), some (.int ct), z4, z5, z6, z7] ∧ H' o = some (.lst (nv ts)) ∧ ts.Nodup ∧ (∀ t ∈ ts, t ≤ most) ∧ ts.length ≤ i ∧ Tape H' τ (n + 1 + 5 * i) ∧ But τ.p H H')
      ⟨none, none, none, none, [], rfl, ho3, List.nodup_nil, by simp, Nat.le_refl _, hT3, b3⟩ ?_ ?_
    · rintro i σ H4 hi ⟨z4, z5, z6, z7, ts, rfl, ho, hnd, hts, htl, hT4, b4⟩ D' Bd'
      have hi2 : i < ct := by omega
      walk_at "r"
      refine ⟨by show 6 ≤ sizeLine; decide, fun l5 nl5 => ?_⟩
      have s5 := sm_upd (o := .lst [V.int 64, .int 65, .int 63, .int 0, .int 1, .int most]) nl5
      refine ⟨τ, l5, n + 1 + 5 * i, _, rfl, by omega, hT4.up s5, upd_same, by show 1 ≤ 6; decide, by show 6 ≤ 100000; decide, fun v H6 hv hT6 b6 => ?_⟩
      obtain ⟨x6, rfl⟩ : ∃ x : Int, v = .int x := by
        simp only [List.mem_cons, List.not_mem_nil, or_false] at hv
        rcases hv with rfl | rfl | rfl | rfl | rfl | rfl <;> exact ⟨_, rfl⟩
      have ho6 := b6 _ _ hoe.1 (s5 _ _ ho)
      replace b6 := (b4.trans (But.of s5)).trans b6
      walk_at "r"
      refine ⟨τ, n + 1 + 5 * i + 1, 3, rfl, by decide, by decide, by omega, hT6, fun d7 H7 hd7 hd7' hT7 b7 => ?_⟩
      have ho7 := b7 _ _ hoe.1 ho6
      replace b7 := b6.trans b7
      refine ⟨_, _, rfl, rfl, ?_⟩
      dsimp only [gName]
      refine cut (fun σ' H' => ∃ la : Nat, σ' = [some (.ref τ.p), some (.int most), some (.ref o), some (.int ct), some (.int (0 + (i : Nat))), some (.int (x6 - d7)), some (.int (la : Nat)), z7] ∧ Tape H' τ (n + 1 + 5 * i + 2) ∧ But τ.p H H' ∧ H' o = some (.lst (nv ts))) (fun D1 J1 => ?_) ?_
      · refine ⟨_, rfl, Nat.zero_le _, fun e ne => ?_⟩
        have s8 := sm_upd (o := .lst []) ne
        have ho8 := s8 _ _ ho7
        refine ⟨_, _, .lst (.inl (.inl ho8)) (dp_nv ts), .lst (.inl (.inl upd_same)) .nil, shaped_iD ts, shaped_ints [], _, rfl, ?_⟩
        rw [eqv_nil]
        refine ite2 (fun _ => ?_) (fun hc => ?_)
        · exact J1.nx _ _ ⟨6, rfl, hT7.up s8, b7.trans (But.of s8), ho8⟩
        · have hne : ts ≠ [] := by
            rintro rfl
            exact hc rfl
          have hlp := List.length_pos_iff.mpr hne
          refine ⟨_, rfl, 1, rfl, o, _, -1, .int ((ts[ts.length - 1] : Nat) : Int), rfl, rfl, .inl (.inl ho8), atI_neg1 ?_, ?_⟩
          · rw [nv_len]
            unfold nv
            rw [List.getElem?_map, List.getElem?_eq_getElem (by omega)]
            rfl
          · walk_at "r"
            exact J1.nx _ _ ⟨ts[ts.length - 1] + 1, rfl, hT7.up s8, b7.trans (But.of s8), ho8⟩
      · rintro σ' H8 ⟨la, rfl, hT8, b8, ho8⟩
        walk_at "r"
        refine ⟨τ, n + 1 + 5 * i + 2, most + 1, rfl, by omega, by omega, by omega, hT8, fun d9 H9 hd9 hd9' hT9 b9 => ?_⟩
        have ho9 := b9 _ _ hoe.1 ho8
        replace b9 := b8.trans b9
        obtain ⟨x9, rfl, hx9⟩ := nat_of (n := most + 1) hd9 (by omega)
        walk_at "s"
        refine ⟨τ, n + 1 + 5 * i + 3, 70, rfl, by decide, by decide, by omega, hT9, fun d10 H10 hd10 hd10' hT10 b10 => ?_⟩
        have ho10 := b10 _ _ hoe.1 ho9
        replace b10 := b9.trans b10
        obtain ⟨x10, rfl, hx10⟩ := nat_of (n := 70) hd10 hd10'
        walk_at "r"
        refine ⟨by show 4 ≤ sizeLine; decide, fun l11 nl11 => ?_⟩
        have s11 := sm_upd (o := .lst [V.int (x9 : Nat), .int (if x6 - d7 > 0 then x6 - d7 else 0), .int (x10 : Nat), .int (la : Nat)]) nl11
        refine ⟨τ, l11, n + 1 + 5 * i + 4, _, rfl, by omega, hT10.up s11, upd_same, by show 1 ≤ 4; decide, by show 4 ≤ 100000; decide, fun v H12 hv hT12 b12 => ?_⟩
        have ho12 := b12 _ _ hoe.1 (s11 _ _ ho10)
        replace b12 := (b10.trans (But.of s11)).trans b12
        obtain ⟨t, rfl⟩ : ∃ t : Nat, v = .int (t : Nat) := by
          simp only [List.mem_cons, List.not_mem_nil, or_false] at hv
          rcases hv with rfl | rfl | rfl | rfl
          · exact ⟨_, rfl⟩
          · refine ⟨(if x6 - d7 > 0 then x6 - d7 else 0).toNat, ?_⟩
            congr 1
            split <;> omega
          · exact ⟨_, rfl⟩
          · exact ⟨_, rfl⟩
        have ein : inV (.int (t : Nat)) (nv ts) = decide (t ∈ ts) := by
          have e1 : nv ts = iv (ts.map fun t => ((t : Nat) : Int)) := by
            unfold nv iv
            rw [List.map_map]
            rfl
          rw [e1, inV_int]
          apply decide_eq_decide.mpr
          rw [List.mem_map]
          constructor
          · rintro ⟨a, h1, h2⟩
            have : a = t := by omega
            exact this ▸ h1
          · intro h
            exact ⟨t, h, rfl⟩
        have efl : (nv ts).all flatV = true := by
          unfold nv
          rw [List.all_map, List.all_eq_true]
          intro x _
          rfl
        refine ⟨_, rfl, _, rfl, o, _, rfl, .inl (.inl (.inl ho12)), rfl, efl, _, rfl, ?_⟩
        rw [ein]
        have no2 : Bd' = Bd' := rfl
        have skip : ∀ za zb zc zd, D'.nx [some (.ref τ.p), some (.int most), some (.ref o), some (.int ct), za, zb, zc, zd] H12 := fun za zb zc zd =>
          Bd'.nx _ _ ⟨za, zb, zc, zd, ts, rfl, ho12, hnd, hts, by omega, hT12.le (by omega), b12⟩
        refine ifN (fun hnc => ?_) (fun hcc => iteF (skip _ _ _ _))
        walk_at "r"
        refine ifD (fun hle => ?_) (fun _ => skip _ _ _ _)
        refine ⟨_, rfl, .inl ⟨rfl, _, .inl (.inl ho12)⟩, ?_⟩
        walk_at "r"
        refine ⟨o, _, _, rfl, rfl, ho12, ?_, ?_⟩
        · rw [nv_len]
          exact len_lt (by omega)
        refine Bd'.nx _ _ ⟨_, _, _, _, ts ++ [t], rfl, by rw [upd_same, nv_app], ?_, fun x hx => ?_, by simp; omega, (hT12.set hoe).le (by omega), but_new b12 no⟩
        · rw [List.nodup_append]
          refine ⟨hnd, by simp, fun a ha b hb e => ?_⟩
          simp at hb
          subst hb e
          exact hnc ha
        · rcases List.mem_append.mp hx with h | h
          · exact hts x h
          · simp at h
            omega
    · rintro σ H4 ⟨z4, z5, z6, z7, ts, rfl, ho, hnd, hts, htl, hT4, b4⟩
      have ect : ((ct : Int)).toNat = ct := by omega
      rw [ect] at htl hT4
      refine ⟨_, rfl, o, rfl, ⟨_, .inl (.inl ho)⟩, fun D nD => lc_list (xs := nv ts) (fun i H' => Same H4 H' ∧ H' D = some (.lst (nv (ts.take i)))) ⟨sm_upd nD, by rw [upd_same]; rfl⟩ ?_ ?_ ?_⟩
      · rintro i H' _ ⟨sm, _⟩
        exact .inl (.inl (sm _ _ ho))
      · rintro i x H' hx ⟨sm, eD⟩
        obtain ⟨t, e, rfl⟩ := nv_get hx
        refine ⟨rfl, ?_⟩
        walk_at "r"
        refine ⟨_, eD, ?_, sm_mut sm nD, ?_⟩
        · rw [nv_len]
          simp
          exact len_lt (by omega)
        · rw [upd_same, List.take_add_one, e, ← nv_app]
          rfl
      · rintro H5 ⟨sm5, eD⟩
        rw [List.take_of_length_le (by rw [nv_len]; exact Nat.le_refl _)] at eD
        have e1 : nv ts = (ts.map fun t => ((t : Nat) : Int)).map V.int := by
          unfold nv
          rw [List.map_map]
          rfl
        rw [e1] at eD
        refine ⟨D, _, rfl, .inl (.inl eD), by simp; omega, fun ds l hperm hsort nl => ?_⟩
        -- the sorted list is one of naturals
        have hpos : ∀ c ∈ ds, 0 ≤ c ∧ c.toNat ∈ ts := fun c hc => by
          have := hperm.mem_iff.mp hc
          obtain ⟨t, h1, h2⟩ := List.mem_map.mp this
          subst h2
          exact ⟨by omega, by simpa using h1⟩
        have eds : ds.map V.int = nv (ds.map Int.toNat) := by
          unfold nv
          rw [List.map_map]
          apply List.map_congr_left
          intro c hc
          have := (hpos c hc).1
          show V.int c = V.int ((c.toNat : Nat) : Int)
          congr 1
          omega
        have hnd' : ds.Nodup := hperm.nodup_iff.mpr (by
          rw [List.Nodup, List.pairwise_map]
          exact hnd.imp fun {a b} h e => h (by omega))
        have hasc : Asc (ds.map Int.toNat) := by
          rw [asc_pairwise, List.pairwise_map]
          exact (hsort.and hnd').imp_of_mem fun {a b} ha hb h => by
            have := (hpos a ha).1
            have := (hpos b hb).1
            omega
        rw [eds]
        refine ⟨l, ds.map Int.toNat, rfl, .inl (.inl upd_same), fun t ht => ?_, fun H6 sm6 => ?_⟩
        · obtain ⟨c, hc, rfl⟩ := List.mem_map.mp ht
          have := hts _ (hpos c hc).2
          omega
        · refine q _ _ hasc (fun t ht => ?_) ?_ (((hT4.up sm5).up (sm_upd nl)).up sm6 |>.le (by omega)) (((b4.trans (But.of sm5)).trans (But.of (sm_upd nl))).trans (But.of sm6))
          · obtain ⟨c, hc, rfl⟩ := List.mem_map.mp ht
            exact hts _ (hpos c hc).2
          · rw [List.length_map, hperm.length_eq, List.length_map]
            omega
end
end K13
set_option Elab.async false
set_option linter.all false
set_option maxRecDepth 100000
set_option pp.deepTerms false
set_option pp.maxSteps 1500
namespace K13
open PySem PySem.Spec PyProof.Rows L2 HX TV FM DX FB FC FD
local macro_rules | `(tactic| walk_at "r") => `(tactic| (repeat (first | refine Exists.intro _ (And.intro rfl ?_) | refine And.intro rfl ?_ | refine Exists.intro _ (Exists.intro _ (And.intro rfl (And.intro rfl ?_))) | refine And.intro (by omega) ?_ | refine And.intro (Or.inl (And.intro (by omega) (by omega))) ?_ | refine And.intro (Or.inr (And.intro (by omega) (by omega))) ?_ | refine And.intro (And.intro (by omega) (by omega)) ?_ | refine And.intro (And.intro (by decide) (And.intro (by decide) (by decide))) ?_ | refine Or.inl (Exists.intro _ (And.intro rfl ?_)) | (dsimp only [gName]; first | with_reducible refine seqC ?_ | with_reducible refine asgC ?_))))
local macro_rules | `(tactic| walk_at "s") => `(tactic| (repeat (first | refine Exists.intro _ (And.intro rfl ?_) | refine And.intro rfl ?_ | refine Exists.intro _ (Exists.intro _ (And.intro rfl (And.intro rfl ?_))) | refine And.intro (by omega) ?_ | refine And.intro (Or.inl (And.intro (by omega) (by omega))) ?_ | refine And.intro (Or.inr (And.intro (by omega) (by omega))) ?_ | refine And.intro (And.intro (by omega) (by omega)) ?_ | refine And.intro (And.intro (by decide) (And.intro (by decide) (by decide))) ?_ | refine Or.inl (Exists.intro _ (And.intro rfl ?_)) | refine Exists.intro _ (Exists.intro _ (And.intro rfl ?_)) | (dsimp only [gName]; first | with_reducible refine seqC ?_ | with_reducible refine asgC ?_))))
section
variable {P : Program} {w : World} {K : PySem.W.Frag} {mg : Str → Option Value} {base : Heap}
/-- what is left of a list of ints by a test -/
theorem iv_take_filter {cs : List Int} {p : Int → Bool} {i : Nat} {c : Int} (h : cs[i]? = some c) : (cs.take (i + 1)).filter p = (cs.take i).filter p ++ (if p c then [c] else []) := by
  rw [List.take_add_one, h, List.filter_append]
  congr 1
  cases e : p c <;> simp [e]
theorem iv_len (cs : List Int) : (iv cs).length = cs.length := by simp [iv]
theorem iv_app (cs : List Int) (c : Int) : iv cs ++ [.int c] = iv (cs ++ [c]) := by simp [iv]
theorem mem_same {v : V} {a b : Int} (h : v ∈ [V.int a, .int b, .int b, .int b]) : v = .int a ∨ v = .int b := by
  simp only [List.mem_cons, List.not_mem_nil, or_false] at h
  rcases h with h | h | h | h
  · exact .inl h
  · exact .inr h
  · exact .inr h
  · exact .inr h
/-- the codes of a number -/
def sp_number (K : PySem.W.Frag) : Sp := fun vs H Q _ => ∃ (τ : Tp) (n m B ct : Nat) (l : Addr) (ws : List V) (kv : V) (cs : List Int), vs = [.ref τ.p, .ref l, .int ct, kv] ∧ H l = some (.lst ws) ∧ ws.length = m ∧ 1 ≤ m ∧ m ≤ 4 ∧ n < 700000 ∧ ct ≤ 30 ∧ Tape H τ n ∧ (kv = .non ∧ cs = [] ∨ ∃ kn, kv = .ref kn ∧ H kn = some (.lst (iv cs))) ∧ (∀ c ∈ cs, Dw m B 8 c) ∧ 2 ^ 60 ≤ B ∧ cs.length ≤ 900 ∧
  ∀ (l : Addr) (ds : List Int) H', ds.Pairwise (· < ·) → (∀ c ∈ ds, Dw m (B + 4 * ct) 8 c) → ds.length ≤ ct → H l = none → H' l = some (.lst (iv ds)) → Tape H' τ (n + 3 + 12 * ct) → But τ.p H H' → Q (.ref l) H'
theorem ok__law_number (T : Top K mg) {k : Nat} : FnOk P w K mg base CX0 (k + 5) T.f__law_number T.fd__law_number ["_law_tape", "_law_fields_here", "_law_count", "_law_known"]  (sp_number K) := by
  have G__law_draw : FnOk P w K mg base CX0 (k + 1) T.f__law_draw T.fd__law_draw ["_law_tape", "_law_limit"]  sp_draw := ok__law_draw T
  have G__law_pick : FnOk P w K mg base CX0 (k + 2) T.f__law_pick T.fd__law_pick ["_law_tape", "_law_some"]  sp_pick := ok__law_pick T
  have G__law_codes : FnOk P w K mg base CX0 (k + 4) T.f__law_codes T.fd__law_codes ["_law_tape", "_law_many", "_law_count", "_law_known"]  (sp_codes K) := ok__law_codes T
  refine funD_ok0 T.F__law_number sc__law_number (fun vs H Q E h => ?_) (fun cdv A outer s H vs Q E hr h => ?_)
  · obtain ⟨τ, n, m, B, ct, l, ws, kv, cs, rfl, _⟩ := h
    rfl
  · obtain ⟨τ, n, m, B, ct, l, ws, kv, cs, rfl, hl, hwl, hm, hm4, hn, hct, hT, hk, hcs, hB, hcl, q⟩ := h
    refine ⟨_, (pss_cons (ps_set (i := 4) sc__law_number.nd rfl (Or.inl rfl) (pe_call G__law_pick (hr.mono (by omega)) (by rfl) T.g__law_pick T.F__law_pick.kp T.b__law_pick .nil pass0 (pa_cons (pv 0) (pa_cons (pe_lst (pa_cons pe_int (pa_cons (pe_callB call_len_seq (by rfl) T.m_len PySem.boot_len (pa_cons (pv 1) pa_nil)) (pa_cons (pe_callB call_len_seq (by rfl) T.m_len PySem.boot_len (pa_cons (pv 1) pa_nil)) (pa_cons (pe_callB call_len_seq (by rfl) T.m_len PySem.boot_len (pa_cons (pv 1) pa_nil)) pa_nil))))) pa_nil))))
    (pss_cons (ps_set (i := 5) sc__law_number.nd rfl (Or.inl rfl) (pe_call G__law_codes (hr.mono (by omega)) (by rfl) T.g__law_codes T.F__law_codes.kp T.b__law_codes .nil pass0 (pa_cons (pv 0) (pa_cons (pv 4) (pa_cons (pe_call G__law_draw (hr.mono (by omega)) (by rfl) T.g__law_draw T.F__law_draw.kp T.b__law_draw .nil pass0 (pa_cons (pv 0) (pa_cons (pe_op op_add (pv 2) pe_int) pa_nil))) (pa_cons (pv 3) pa_nil))))))
    (pss_cons (ps_if (pt_cmpR op_eq (pe_call G__law_draw (hr.mono (by omega)) (by rfl) T.g__law_draw T.F__law_draw.kp T.b__law_draw .nil pass0 (pa_cons (pv 0) (pa_cons pe_int pa_nil))) pe_int (nomark _))
      (pss_one (ps_setLc (i := 5) (own := [("_law_code_here", 6)]) (g := gName 6) (by rfl) sc__law_number.nd rfl rfl (sw_true rfl rfl rfl (by decide +kernel)) (pi_list (pv 5)) (blkOk_by (own := [("_law_code_here", 6)]) (N := ["_law_tape", "_law_fields_here", "_law_count", "_law_known", "_law_many", "_law_codes_here", "_law_code_here"]) (sc := defScope s__law_number) (by decide +kernel)) (fun _ _ _ _ _ => (pg_name (i := 6) sc__law_number.nd rfl (Or.inl rfl))) (fun _ _ _ _ _ => pts_one (pt_cmpR op_le (pv 6) pe_int (nomark _))) (fun _ _ _ _ _ => (pv 6))))
      pss_nil)
    (pss_one (ps_ret (pv 5)))))), ?_⟩
    refine ⟨_, rfl, _, rfl, l, ws, rfl, .inl (.inl (.inl hl)), _, rfl, l, ws, rfl, .inl (.inl (.inl hl)), _, rfl, l, ws, rfl, .inl (.inl (.inl hl)), ?_⟩
    rw [hwl]
    refine ⟨len_le (by show 4 ≤ _; decide), fun l2 nl2 => ?_⟩
    have s2 := sm_upd (o := .lst [V.int 1, .int (m : Nat), .int (m : Nat), .int (m : Nat)]) nl2
    refine ⟨τ, l2, n, _, rfl, by omega, hT.up s2, upd_same, by show 1 ≤ 4; decide, by show 4 ≤ _; decide, fun v H3 hv hT3 b3 => ?_⟩
    obtain ⟨mm, rfl, hmm, hmm2⟩ : ∃ mm : Nat, v = .int (mm : Nat) ∧ 1 ≤ mm ∧ mm ≤ m := by
      rcases mem_same hv with rfl | rfl
      · exact ⟨1, rfl, by omega, by omega⟩
      · exact ⟨m, rfl, by omega, by omega⟩
    replace b3 := (But.of s2).trans b3
    walk_at "r"
    refine ⟨τ, n + 1, ct + 1, rfl, by omega, by omega, by omega, hT3, fun d4 H4 hd4 hd4' hT4 b4 => ?_⟩
    obtain ⟨x4, rfl, hx4⟩ := nat_of (n := ct + 1) hd4 hd4'
    replace b4 := b3.trans b4
    walk_at "r"
    refine ⟨τ, n + 2, m, mm, B, x4, kv, cs, rfl, hmm, hmm2, hm4, by omega, by omega, hT4, ?_, hcs, hB, hcl, fun lc ds H5 hp hds hdl nlc hlc hT5 b5 => ?_⟩
    · rcases hk with hk | ⟨kn, rfl, hkn⟩
      · exact .inl hk
      · exact .inr ⟨kn, rfl, b4 _ _ (hT.ne hkn) hkn⟩
    have nlH : ∀ {a : Addr}, a ≠ τ.p → H4 a = none → H a = none := fun {a} hne hna => by
      cases e : H a with
      | none => rfl
      | some u => rw [b4 a u hne e] at hna; cases hna
    replace b5 := b4.trans b5
    walk_at "r"
    refine ⟨τ, n + 2 + 12 * x4, 4, rfl, by decide, by decide, by omega, hT5, fun d6 H6 hd6 hd6' hT6 b6 => ?_⟩
    have hlc6 := b6 _ _ (hT5.ne hlc) hlc
    have hnlc : H lc = none := nlH (hT5.ne hlc) nlc
    replace b6 := b5.trans b6
    walk_at "r"
    refine ifE (fun _ => ?_) (fun _ => ?_)
    · refine ⟨_, rfl, lc, rfl, ⟨_, .inl (.inl hlc6)⟩, fun D nD => lc_list (xs := iv ds) (fun i H' => Same H6 H' ∧ H' D = some (.lst (iv ((ds.take i).filter fun c => decide (c ≤ 64))))) ⟨sm_upd nD, by rw [upd_same]; rfl⟩ ?_ ?_ ?_⟩
      · rintro i H' _ ⟨sm, _⟩
        exact .inl (.inl (sm _ _ hlc6))
      · rintro i x H' hx ⟨sm, eD⟩
        obtain ⟨c, hc, rfl⟩ := iv_get hx
        refine ⟨rfl, ?_⟩
        walk_at "r"
        rw [iv_take_filter hc]
        refine ite2 (fun hz => ?_) (fun hz => ?_)
        · walk_at "r"
          refine ⟨_, eD, ?_, sm_mut sm nD, ?_⟩
          · rw [iv_len]
            have h1 := List.length_filter_le (fun c => decide (c ≤ (64 : Int))) (ds.take i)
            have h2 := List.length_take_le i ds
            have h3 := List.length_take_le' i ds
            exact len_lt (by omega)
          · rw [upd_same, if_pos hz, iv_app]
        · rw [if_neg (by simpa using hz), List.append_nil]
          exact ⟨sm, eD⟩
      · rintro H7 ⟨sm7, eD⟩
        rw [iv_len, List.take_length] at eD
        have hDn := hT6.new nD
        have hDH : H D = none := by
          cases e : H D with
          | none => rfl
          | some u => rw [b6 D u hDn.1 e] at nD; cases nD
        walk_at "r"
        exact q D _ _ (hp.sublist List.filter_sublist) (fun c hc => (hds c (List.mem_filter.mp hc).1).mono (by omega) (Nat.le_refl _)) (Nat.le_trans (List.length_filter_le _ _) (by omega)) hDH eD ((hT6.up sm7).le (by omega)) (b6.trans (But.of sm7))
    · walk_at "r"
      exact q lc ds _ hp (fun c hc => (hds c hc).mono (by omega) (Nat.le_refl _)) (by omega) hnlc hlc6 (hT6.le (by omega)) b6
end
end K13
set_option Elab.async false
set_option linter.all false
set_option maxRecDepth 100000
set_option pp.deepTerms false
set_option pp.maxSteps 1500
/-! codes, with the finer word on their weights (printed from FA6 and FA10) -/
namespace K13
open PySem PySem.Spec PyProof.Rows L2 HX TV FM DX FB FC FD MS FW
local macro_rules | `(tactic| walk_at "r") => `(tactic| (repeat (first | refine Exists.intro _ (And.intro rfl ?_) | refine And.intro rfl ?_ | refine Exists.intro _ (Exists.intro _ (And.intro rfl (And.intro rfl ?_))) | refine And.intro (by omega) ?_ | refine And.intro (Or.inl (And.intro (by omega) (by omega))) ?_ | refine And.intro (Or.inr (And.intro (by omega) (by omega))) ?_ | refine And.intro (And.intro (by omega) (by omega)) ?_ | refine And.intro (And.intro (by decide) (And.intro (by decide) (by decide))) ?_ | refine Or.inl (Exists.intro _ (And.intro rfl ?_)) | (dsimp only [gName]; first | with_reducible refine seqC ?_ | with_reducible refine asgC ?_))))
local macro_rules | `(tactic| walk_at "s") => `(tactic| (repeat (first | refine Exists.intro _ (And.intro rfl ?_) | refine And.intro rfl ?_ | refine Exists.intro _ (Exists.intro _ (And.intro rfl (And.intro rfl ?_))) | refine And.intro (by omega) ?_ | refine And.intro (Or.inl (And.intro (by omega) (by omega))) ?_ | refine And.intro (Or.inr (And.intro (by omega) (by omega))) ?_ | refine And.intro (And.intro (by omega) (by omega)) ?_ | refine And.intro (And.intro (by decide) (And.intro (by decide) (by decide))) ?_ | refine Or.inl (Exists.intro _ (And.intro rfl ?_)) | refine Exists.intro _ (Exists.intro _ (And.intro rfl ?_)) | (dsimp only [gName]; first | with_reducible refine seqC ?_ | with_reducible refine asgC ?_))))
section
variable {P : Program} {w : World} {K : PySem.W.Frag} {mg : Str → Option Value} {base : Heap}
def sp_codeW (K : PySem.W.Frag) : Sp := fun vs H Q _ => ∃ (τ : Tp) (n m mm B κ : Nat) (kn : Addr) (cs : List Int), vs = [.ref τ.p, .int mm, .ref kn] ∧ 1 ≤ mm ∧ mm ≤ m ∧ m ≤ 4 ∧ n < 900000 ∧ Tape H τ n ∧ H kn = some (.lst (iv cs)) ∧ (∀ c ∈ cs, Dk m B κ c) ∧ 2 ^ 60 ≤ B ∧ cs.length ≤ 1000 ∧
  ∀ (c : Int) H', Dk m (B + 4) (κ + 4) c → Tape H' τ (n + 12) → But τ.p H H' → Q (.int c) H'
theorem ok__law_codeW (T : Top K mg) {k : Nat} : FnOk P w K mg base CX0 (k + 3) T.f__law_code T.fd__law_code ["_law_tape", "_law_many", "_law_known"]  (sp_codeW K) := by
  have G__law_draw : FnOk P w K mg base CX0 (k + 1) T.f__law_draw T.fd__law_draw ["_law_tape", "_law_limit"]  sp_draw := ok__law_draw T
  have G__law_pick : FnOk P w K mg base CX0 (k + 2) T.f__law_pick T.fd__law_pick ["_law_tape", "_law_some"]  sp_pick := ok__law_pick T
  refine T.F__law_code.ok sc__law_code (fun vs H Q E h => ?_) (fun cdv A outer s H vs Q E hr h => ?_)
  · obtain ⟨τ, n, m, mm, B, κ, kn, cs, rfl, _⟩ := h
    rfl
  · obtain ⟨τ, n, m, mm, B, κ, kn, cs, rfl, hmm, hmm2, hm4, hn, hT, hk, hcs, hB, hcl, q⟩ := h
    refine ⟨_, (pss_cons (ps_if (PW.pt (pw_and (pt_cmpR (op_neD hr.units) (pv 2) (pe_lst pa_nil) (nomark _)) (pw_and1 (pt_cmpR op_eq (pe_call G__law_draw (hr.mono (by omega)) (by rfl) T.g__law_draw T.F__law_draw.kp T.b__law_draw .nil pass0 (pa_cons (pv 0) (pa_cons pe_int pa_nil))) pe_int (nomark _)))))
      (pss_one (ps_ret (pe_op op_add (pe_call G__law_pick (hr.mono (by omega)) (by rfl) T.g__law_pick T.F__law_pick.kp T.b__law_pick .nil pass0 (pa_cons (pv 0) (pa_cons (pv 2) pa_nil))) (pe_call G__law_draw (hr.mono (by omega)) (by rfl) T.g__law_draw T.F__law_draw.kp T.b__law_draw .nil pass0 (pa_cons (pv 0) (pa_cons pe_int pa_nil))))))
      pss_nil)
    (pss_cons (ps_set (i := 3) sc__law_code.nd rfl (Or.inl rfl) (pe_call G__law_draw (hr.mono (by omega)) (by rfl) T.g__law_draw T.F__law_draw.kp T.b__law_draw .nil pass0 (pa_cons (pv 0) (pa_cons pe_int pa_nil))))
    (pss_cons (ps_for PassesOwn.never rfl (pi_range1 (by rfl) T.m_range (pa_cons (pe_call G__law_draw (hr.mono (by omega)) (by rfl) T.g__law_draw T.F__law_draw.kp T.b__law_draw .nil pass0 (pa_cons (pv 0) (pa_cons pe_int pa_nil))) pa_nil)) (pg_name (i := 4) sc__law_code.nd rfl (Or.inl rfl))
      (pss_cons (ps_set (i := 5) sc__law_code.nd rfl (Or.inl rfl) (pe_call G__law_pick (hr.mono (by omega)) (by rfl) T.g__law_pick T.F__law_pick.kp T.b__law_pick .nil pass0 (pa_cons (pv 0) (pa_cons (pe_lst (pa_cons pe_int (pa_cons pe_int (pa_cons pe_int (pa_cons pe_int (pa_cons (pe_op op_sub (pe_op op_shl pe_int (pe_op op_add pe_int (pe_call G__law_draw (hr.mono (by omega)) (by rfl) T.g__law_draw T.F__law_draw.kp T.b__law_draw .nil pass0 (pa_cons (pv 0) (pa_cons pe_int pa_nil))))) pe_int) pa_nil)))))) pa_nil))))
      (pss_one (ps_set (i := 3) sc__law_code.nd rfl (Or.inl rfl) (pe_op op_add (pv 3) (pe_op op_mul (pv 5) (pe_op op_shl pe_int (pe_op op_add (pe_op op_mul pe_int (pe_call G__law_draw (hr.mono (by omega)) (by rfl) T.g__law_draw T.F__law_draw.kp T.b__law_draw .nil pass0 (pa_cons (pv 0) (pa_cons (pv 1) pa_nil)))) (pe_call G__law_draw (hr.mono (by omega)) (by rfl) T.g__law_draw T.F__law_draw.kp T.b__law_draw .nil pass0 (pa_cons (pv 0) (pa_cons pe_int pa_nil)))))))))))
    (pss_one (ps_ret (pv 3)))))), ?_⟩
    refine cut (fun σ' H' => σ' = [some (.ref τ.p), some (.int mm), some (.ref kn), none, none, none] ∧ Tape H' τ (n + 1) ∧ But τ.p H H') (fun D1 J1 => ?_) ?_
    · refine ⟨_, rfl, Nat.zero_le _, fun e ne => ?_⟩
      have s1 := sm_upd (o := .lst []) ne
      refine ⟨_, _, .lst (.inl (.inl (s1 _ _ hk))) (dp_ints cs), .lst (.inl (.inl upd_same)) .nil, shaped_ints cs, shaped_ints [], _, rfl, ?_⟩
      rw [eqv_nil]
      have hk1 := s1 _ _ hk
      have hT1 := hT.up s1
      have b1 : But τ.p H (upd H e (.lst [])) := But.of s1
      revert hk1 hT1 b1
      generalize upd H e (.lst []) = H1
      intro hk1 hT1 b1
      refine ite2 (fun hc => ?_) (fun hc => iteF ?_)
      · have hne : cs ≠ [] := by
          rintro rfl
          simp at hc
        have hlen : 1 ≤ cs.length := List.length_pos_iff.mpr hne
        walk_at "r"
        refine ⟨τ, n, 3, rfl, by decide, by decide, by omega, hT1, fun d2 H2 hd2 hd2' hT2 b2 => ?_⟩
        have hk2 := b2 _ _ (hT1.ne hk1) hk1
        replace b2 := b1.trans b2
        walk_at "r"
        refine ifE (fun _ => ?_) (fun _ => ?_)
        · walk_at "r"
          refine ⟨τ, kn, n + 1, _, rfl, by omega, hT2, hk2, by simpa [iv] using hlen, by simp [iv]; omega, fun v H3 hv hT3 b3 => ?_⟩
          obtain ⟨c, hc1, rfl⟩ := List.mem_map.mp hv
          replace b3 := b2.trans b3
          walk_at "r"
          refine ⟨τ, n + 2, 4, rfl, by decide, by decide, by omega, hT3, fun d4 H4 hd4 hd4' hT4 b4 => ?_⟩
          obtain ⟨x4, rfl, hx4⟩ := nat_of (n := 4) hd4 hd4'
          walk_at "r"
          have hg := (hcs c hc1).add (y := x4) (Y := 4) hx4
          exact J1.rt _ _ (q _ _ hg (hT4.le (by omega)) (b3.trans b4))
        · exact J1.nx _ _ ⟨rfl, hT2, b2⟩
      · exact J1.nx _ _ ⟨rfl, hT1.le (by omega), b1⟩
    · rintro σ' H1 ⟨rfl, hT1, b1⟩
      walk_at "r"
      refine ⟨τ, n + 1, 70, rfl, by decide, by decide, by omega, hT1, fun d2 H2 hd2 hd2' hT2 b2 => ?_⟩
      obtain ⟨x2, rfl, hx2⟩ := nat_of (n := 70) hd2 hd2'
      replace b2 := b1.trans b2
      walk_at "r"
      refine ⟨τ, n + 2, 3, rfl, by decide, by decide, by omega, hT2, fun d3 H3 hd3 hd3' hT3 b3 => ?_⟩
      obtain ⟨x3, rfl, hx3⟩ := nat_of (n := 3) hd3 hd3'
      replace b3 := b2.trans b3
      walk_at "r"
      have hx2g : Dw m 100 0 (x2 : Int) := Dw.nat (by omega) (by omega)
      have hx2w : Wl 0 (x2 : Int) := Wl.start hx2
      refine flR (fun i σ H' => ∃ (c : Int) (z4 z5 : Option V), σ = [some (.ref τ.p), some (.int mm), some (.ref kn), some (.int c), z4, z5] ∧ (Dw m (100 + i * 2 ^ 56) (4 * i) c ∧ Wl i c) ∧ Tape H' τ (n + 3 + 4 * i) ∧ But τ.p H H')
        ⟨x2, none, none, rfl, ⟨by simpa using hx2g, hx2w⟩, hT3, b3⟩ ?_ ?_
      · rintro i σ H4 hi ⟨c, z4, z5, rfl, hc, hT4, b4⟩ D' Bd'
        have hi2 : i < 3 := by omega
        walk_at "r"
        refine ⟨τ, n + 3 + 4 * i, 40, rfl, by decide, by decide, by omega, hT4, fun d5 H5 hd5 hd5' hT5 b5 => ?_⟩
        obtain ⟨x5, rfl, hx5⟩ := nat_of (n := 40) hd5 hd5'
        replace b5 := b4.trans b5
        walk_at "r"
        refine ⟨by show 5 ≤ sizeLine; decide, fun l6 nl6 => ?_⟩
        have s6 := sm_upd (o := .lst [.int 1, .int 1, .int 3, .int 5, .int (1 * 2 ^ (1 + (x5 : Int)).toNat - 1)]) nl6
        refine ⟨τ, l6, n + 3 + 4 * i + 1, _, rfl, by omega, hT5.up s6, upd_same, by show 1 ≤ 5; decide, by show 5 ≤ 100000; decide, fun v H7 hv hT7 b7 => ?_⟩
        obtain ⟨pc, rfl, hpc, htw⟩ := pieces_in hx5 hv
        replace b7 := (b5.trans (But.of s6)).trans b7
        walk_at "r"
        refine ⟨τ, n + 3 + 4 * i + 2, mm, rfl, by omega, by omega, by omega, hT7, fun d8 H8 hd8 hd8' hT8 b8 => ?_⟩
        obtain ⟨x8, rfl, hx8⟩ := nat_of (n := mm) hd8 hd8'
        replace b8 := b7.trans b8
        walk_at "r"
        refine ⟨τ, n + 3 + 4 * i + 3, 15, rfl, by decide, by decide, by omega, hT8, fun d9 H9 hd9 hd9' hT9 b9 => ?_⟩
        obtain ⟨x9, rfl, hx9⟩ := nat_of (n := 15) hd9 hd9'
        replace b9 := b8.trans b9
        walk_at "r"
        refine Bd'.nx _ _ ⟨c + ((pc * 2 ^ x9 : Nat) : Int) * 2 ^ (200 * x8), some (.int (0 + (i : Nat))), some (.int (pc : Nat)), ?_, ?_, hT9.le (by omega), b9⟩
        rotate_left
        · by_cases h8 : x8 = 0
          · have := (hc.1.add (y := pc * 2 ^ x9) (Y := 2 ^ 56) (piece_lt hpc hx9)).mono (B' := 100 + (i + 1) * 2 ^ 56) (w' := 4 * (i + 1)) (by omega) (by omega)
            rw [h8, Nat.mul_zero, Int.pow_zero, Int.mul_one]
            exact ⟨this, hc.2.near (piece_lt hpc hx9)⟩
          · exact ⟨(hc.1.far (d := x8) (y := pc * 2 ^ x9) (Y := 2 ^ 56) (by omega) (by omega) (piece_lt hpc hx9) (htw.shl x9)).mono (by omega) (by omega), hc.2.far (by omega) (htw.shl x9)⟩
        · rw [← shift_eq (e := 200 * (x8 : Int) + x9) rfl]
          rfl
      · rintro σ H4 ⟨c, z4, z5, rfl, hc, hT4, b4⟩
        walk_at "r"
        exact q c H4 ⟨hc.1.mono (by omega) (by omega), (hc.2.wz (by omega)).mono (by omega)⟩ (hT4.le (by omega)) b4
/-- ascending codes -/
def sp_codesW (K : PySem.W.Frag) : Sp := fun vs H Q _ => ∃ (τ : Tp) (n m mm B κ ct : Nat) (kv : V) (cs : List Int), vs = [.ref τ.p, .int mm, .int ct, kv] ∧ 1 ≤ mm ∧ mm ≤ m ∧ m ≤ 4 ∧ n < 800000 ∧ ct ≤ 30 ∧ Tape H τ n ∧ (kv = .non ∧ cs = [] ∨ ∃ kn, kv = .ref kn ∧ H kn = some (.lst (iv cs))) ∧ (∀ c ∈ cs, Dk m B κ c) ∧ 2 ^ 60 ≤ B ∧ cs.length ≤ 900 ∧
  ∀ (l : Addr) (ds : List Int) H', ds.Pairwise (· < ·) → (∀ c ∈ ds, Dk m (B + 4 * ct) (κ + 4 * ct) c) → ds.length ≤ ct → H l = none → H' l = some (.lst (iv ds)) → Tape H' τ (n + 12 * ct) → But τ.p H H' → Q (.ref l) H'
theorem ok__law_codesW (T : Top K mg) {k : Nat} : FnOk P w K mg base CX0 (k + 4) T.f__law_codes T.fd__law_codes ["_law_tape", "_law_many", "_law_count", "_law_known"]  (sp_codesW K) := by
  have G__law_code : FnOk P w K mg base CX0 (k + 3) T.f__law_code T.fd__law_code ["_law_tape", "_law_many", "_law_known"]  (sp_codeW K) := ok__law_codeW T
  refine funD_ok0 T.F__law_codes sc__law_codes (fun vs H Q E h => ?_) (fun cdv A outer s H vs Q E hr h => ?_)
  · obtain ⟨τ, n, m, mm, B, κ, ct, kv, cs, rfl, _⟩ := h
    rfl
  · obtain ⟨τ, n, m, mm, B, κ, ct, kv, cs, rfl, hmm, hmm2, hm4, hn, hct, hT, hk, hcs, hB, hcl, q⟩ := h
    refine ⟨_, (pss_cons (ps_set (i := 4) sc__law_codes.nd rfl (Or.inl rfl) (pe_lst pa_nil))
    (pss_cons (ps_for PassesOwn.never rfl (pi_range1 (by rfl) T.m_range (pa_cons (pv 2) pa_nil)) (pg_name (i := 5) sc__law_codes.nd rfl (Or.inl rfl))
      (pss_cons (ps_set (i := 6) sc__law_codes.nd rfl (Or.inl rfl) (pe_call G__law_code (hr.mono (by omega)) (by rfl) T.g__law_code T.F__law_code.kp T.b__law_code .nil pass0 (pa_cons (pv 0) (pa_cons (pv 1) (pa_cons (pe_op op_cat (pe_orT (pv 3) (pe_one (pe_lst pa_nil))) (pv 4)) pa_nil)))))
      (pss_one (ps_if (pt_cmpR op_notIn_seq (pv 6) (pv 4) rfl)
        (pss_one (ps_expr (pe_bm PySem.F.plainAttrs_list PySem.F.slot_list_append PySem.F.type_list_append mt_append (pv 4) (pa_cons (pv 6) pa_nil))))
        pss_nil))))
    (pss_one (ps_ret (pe_callB cr_sorted (by rfl) T.m_sorted (by decide +kernel) (pa_cons (pe_lc (own := [("_law_code_here", 6)]) (g := gName 6) (by rfl) sc__law_codes.nd (pi_list (pv 4)) (blkOk_by (own := [("_law_code_here", 6)]) (N := ["_law_tape", "_law_many", "_law_count", "_law_known", "_law_found", "_law_k", "_law_code_here"]) (sc := defScope s__law_codes) (by decide +kernel)) (fun _ _ _ _ _ => (pg_name (i := 6) sc__law_codes.nd rfl (Or.inl rfl))) (fun _ _ _ _ _ => pts_nil) (fun _ _ _ _ _ => (pe_callTy (T := "int") call_int1 (by rfl) T.m_int (by decide +kernel) (pa_cons (pv 6) pa_nil)))) pa_nil)))))), ?_⟩
    refine ⟨Nat.zero_le _, fun o no => ?_⟩
    have hoe := hT.new no
    have s1 := sm_upd (o := .lst []) no
    walk_at "r"
    have hco : ∀ xs : List V, H o = none := fun _ => no
    refine flR (fun i σ H' => ∃ (z5 z6 : Option V) (ds : List Int), σ = [some (.ref τ.p), some (.int mm), some (.int ct), some kv, some (.ref o), z5, z6] ∧ H' o = some (.lst (iv ds)) ∧ ds.Nodup ∧ (∀ c ∈ ds, Dk m (B + 4 * i) (κ + 4 * i) c) ∧ ds.length ≤ i ∧ Tape H' τ (n + 12 * i) ∧ But τ.p H H')
      ⟨none, none, [], rfl, upd_same, List.nodup_nil, by simp, Nat.le_refl _, hT.up s1, But.of s1⟩ ?_ ?_
    · rintro i σ H2 hi ⟨z5, z6, ds, rfl, ho, hnd, hds, hdl, hT2, b2⟩ D' Bd'
      have hi2 : i < ct := by omega
      -- what is known, and the list found
      have goon : ∀ (a b : Addr) (H3 : Hp), H3 a = some (.lst (iv cs)) → H3 b = some (.lst (iv ds)) → Tape H3 τ (n + 12 * i) → But τ.p H H3 → H3 o = some (.lst (iv ds)) → ∀ (tail : V → Hp → Prop),
          (∀ (c : Int) (H4 : Hp), Dk m (B + 4 * i + 4) (κ + 4 * i + 4) c → Tape H4 τ (n + 12 * i + 12) → But τ.p H H4 → H4 o = some (.lst (iv ds)) → tail (.int c) H4) →
          rCat (.ref a) (.ref b) H3 (fun v H4 => sp_codeW K [.ref τ.p, .int mm, v] H4 tail E0) := fun a b H3 ha hb hT3 b3 ho3 tail ht => by
        refine ⟨a, b, _, _, rfl, rfl, ha, hb, ?_, fun l nl => ?_⟩
        · simp [iv]
          exact len_le (by omega)
        have s4 := sm_upd (o := .lst (iv cs ++ iv ds)) nl
        refine ⟨τ, n + 12 * i, m, mm, B + 4 * i, κ + 4 * i, l, cs ++ ds, rfl, hmm, hmm2, hm4, by omega, hT3.up s4, by rw [upd_same]; simp [iv], fun c hc => ?_, by omega, by simp; omega, fun c H5 hc hT5 b5 => ?_⟩
        · rcases List.mem_append.mp hc with hc | hc
          · exact (hcs c hc).mono (by omega) (by omega)
          · exact hds c hc
        · exact ht c H5 hc hT5 ((b3.trans (But.of s4)).trans b5) (b5 _ _ hoe.1 (s4 _ _ ho3))
      dsimp only [gName]
      refine cut (fun σ' H' => ∃ c : Int, σ' = [some (.ref τ.p), some (.int mm), some (.int ct), some kv, some (.ref o), some (.int (0 + (i : Nat))), some (.int c)] ∧ Dk m (B + 4 * i + 4) (κ + 4 * i + 4) c ∧ Tape H' τ (n + 12 * i + 12) ∧ But τ.p H H' ∧ H' o = some (.lst (iv ds))) (fun D1 J1 => ?_) ?_
      · have empty : cs = [] → ∀ (tail : V → Hp → Prop), (∀ (c : Int) (H4 : Hp), Dk m (B + 4 * i + 4) (κ + 4 * i + 4) c → Tape H4 τ (n + 12 * i + 12) → But τ.p H H4 → H4 o = some (.lst (iv ds)) → tail (.int c) H4) →
            ∀ e, H2 e = none → rCat (.ref e) (.ref o) (upd H2 e (.lst [])) (fun v H4 => sp_codeW K [.ref τ.p, .int mm, v] H4 tail E0) := fun ec tail ht e ne => by
          have s3 := sm_upd (o := .lst []) ne
          exact goon e o _ (by rw [upd_same, ec]; rfl) (s3 _ _ ho) (hT2.up s3) (b2.trans (But.of s3)) (s3 _ _ ho) tail ht
        have fin : ∀ (c : Int) (H4 : Hp), Dk m (B + 4 * i + 4) (κ + 4 * i + 4) c → Tape H4 τ (n + 12 * i + 12) → But τ.p H H4 → H4 o = some (.lst (iv ds)) →
            D1.nx [some (.ref τ.p), some (.int mm), some (.int ct), some kv, some (.ref o), some (.int (0 + (i : Nat))), some (.int c)] H4 := fun c H4 h1 h2 h3 h4 => J1.nx _ _ ⟨c, rfl, h1, h2, h3, h4⟩
        walk_at "r"
        rcases hk with ⟨rfl, ec⟩ | ⟨kn, rfl, hkn⟩
        · refine ⟨false, rfl, iteF ⟨Nat.zero_le _, fun e ne => ⟨_, rfl, empty ec (fun x H1 => D1.nx [some (.ref τ.p), some (.int mm), some (.int ct), some (.non), some (.ref o), some (.int (0 + (i : Nat))), some x] H1) fin e ne⟩⟩⟩
        · have hk2 := b2 _ _ (hT.ne hkn) hkn
          by_cases ec : cs = []
          · refine ⟨false, .inl ⟨_, .inl (.inl hk2), by rw [ec]; rfl⟩, iteF ⟨Nat.zero_le _, fun e ne => ⟨_, rfl, empty ec (fun x H1 => D1.nx [some (.ref τ.p), some (.int mm), some (.int ct), some (.ref kn), some (.ref o), some (.int (0 + (i : Nat))), some x] H1) fin e ne⟩⟩⟩
          · refine ⟨true, .inl ⟨_, .inl (.inl hk2), ?_⟩, iteT ⟨_, rfl, goon kn o H2 hk2 ho hT2 b2 ho (fun x H1 => D1.nx [some (.ref τ.p), some (.int mm), some (.int ct), some (.ref kn), some (.ref o), some (.int (0 + (i : Nat))), some x] H1) fin⟩⟩
            cases cs with
            | nil => exact absurd rfl ec
            | cons a r => rfl
      · rintro σ' H3 ⟨c, rfl, hc, hT3, b3, ho3⟩
        refine ⟨_, rfl, _, rfl, o, _, rfl, .inl (.inl (.inl ho3)), rfl, flat_iv ds, _, rfl, ?_⟩
        rw [inV_int]
        refine ifN (fun hnc => ?_) (fun hcc => ?_)
        · refine ⟨_, rfl, .inl ⟨rfl, _, .inl (.inl ho3)⟩, ?_⟩
          walk_at "r"
          refine ⟨o, _, _, rfl, rfl, ho3, ?_, ?_⟩
          · simp [iv]
            exact len_lt (by omega)
          refine Bd'.nx _ _ ⟨_, _, ds ++ [c], rfl, ?_, ?_, fun c' hc' => ?_, by simp; omega, (hT3.set hoe).le (by omega), but_new b3 no⟩
          · rw [upd_same]
            simp [iv]
          · rw [List.nodup_append]
            refine ⟨hnd, by simp, fun a ha b hb e => ?_⟩
            simp at hb
            subst hb e
            exact hnc ha
          · rcases List.mem_append.mp hc' with h | h
            · exact (hds c' h).mono (by omega) (by omega)
            · simp at h
              subst h
              exact hc.mono (by omega) (by omega)
        · exact Bd'.nx _ _ ⟨_, _, ds, rfl, ho3, hnd, fun c' hc' => (hds c' hc').mono (by omega) (by omega), by omega, hT3.le (by omega), b3⟩
    · rintro σ H2 ⟨z5, z6, ds, rfl, ho, hnd, hds, hdl, hT2, b2⟩
      have ect : ((ct : Int)).toNat = ct := by omega
      rw [ect] at hds hdl hT2
      refine ⟨_, rfl, o, rfl, ⟨_, .inl (.inl ho)⟩, fun D nD => lc_list (xs := iv ds) (fun i H' => Same H2 H' ∧ H' D = some (.lst (iv (ds.take i)))) ⟨sm_upd nD, by rw [upd_same]; rfl⟩ ?_ ?_ ?_⟩
      · rintro i H' _ ⟨sm, _⟩
        exact .inl (.inl (sm _ _ ho))
      · rintro i x H' hx ⟨sm, eD⟩
        have hx' : (iv ds)[i]? = some x := hx
        unfold iv at hx'
        rw [List.getElem?_map] at hx'
        cases e : ds[i]? with
        | none => rw [e] at hx'; cases hx'
        | some c =>
          rw [e] at hx'
          cases hx'
          refine ⟨rfl, ?_⟩
          walk_at "r"
          refine ⟨_, eD, ?_, sm_mut sm nD, ?_⟩
          · simp [iv]
            exact len_lt (by omega)
          · rw [upd_same, List.take_add_one, e]
            simp [iv]
      · rintro H3 ⟨sm3, eD⟩
        have el : ds.take (iv ds).length = ds := List.take_of_length_le (by simp [iv])
        rw [el] at eD
        refine ⟨D, ds, rfl, .inl (.inl eD), by omega, fun ds' l hperm hsort nl => ?_⟩
        have nD0 : H D = none := by
          have := hT2.new nD
          cases e : H D with
          | none => rfl
          | some u =>
            rw [b2 D u this.1 e] at nD
            cases nD
        have hle := (hT2.up sm3).new nl
        refine q l ds' _ ?_ (fun c hc => hds c (hperm.mem_iff.mp hc)) (by rw [hperm.length_eq]; exact hdl) ?_ upd_same ((hT2.up sm3).up (sm_upd nl)) ((b2.trans (But.of sm3)).trans (But.of (sm_upd nl)))
        · have hnd' : ds'.Nodup := hperm.nodup_iff.mpr hnd
          have := hsort.and hnd'
          exact this.imp fun h => by omega
        · cases e : H l with
          | none => rfl
          | some u =>
            rw [sm3 _ _ (b2 l u hle.1 e)] at nl
            cases nl
def sp_numberW (K : PySem.W.Frag) : Sp := fun vs H Q _ => ∃ (τ : Tp) (n m B κ ct : Nat) (l : Addr) (ws : List V) (kv : V) (cs : List Int), vs = [.ref τ.p, .ref l, .int ct, kv] ∧ H l = some (.lst ws) ∧ ws.length = m ∧ 1 ≤ m ∧ m ≤ 4 ∧ n < 700000 ∧ ct ≤ 30 ∧ Tape H τ n ∧ (kv = .non ∧ cs = [] ∨ ∃ kn, kv = .ref kn ∧ H kn = some (.lst (iv cs))) ∧ (∀ c ∈ cs, Dk m B κ c) ∧ 2 ^ 60 ≤ B ∧ cs.length ≤ 900 ∧
  ∀ (l : Addr) (ds : List Int) H', ds.Pairwise (· < ·) → (∀ c ∈ ds, Dk m (B + 4 * ct) (κ + 4 * ct) c) → ds.length ≤ ct → H l = none → H' l = some (.lst (iv ds)) → Tape H' τ (n + 3 + 12 * ct) → But τ.p H H' → Q (.ref l) H'
theorem ok__law_numberW (T : Top K mg) {k : Nat} : FnOk P w K mg base CX0 (k + 5) T.f__law_number T.fd__law_number ["_law_tape", "_law_fields_here", "_law_count", "_law_known"]  (sp_numberW K) := by
  have G__law_draw : FnOk P w K mg base CX0 (k + 1) T.f__law_draw T.fd__law_draw ["_law_tape", "_law_limit"]  sp_draw := ok__law_draw T
  have G__law_pick : FnOk P w K mg base CX0 (k + 2) T.f__law_pick T.fd__law_pick ["_law_tape", "_law_some"]  sp_pick := ok__law_pick T
  have G__law_codes : FnOk P w K mg base CX0 (k + 4) T.f__law_codes T.fd__law_codes ["_law_tape", "_law_many", "_law_count", "_law_known"]  (sp_codesW K) := ok__law_codesW T
  refine funD_ok0 T.F__law_number sc__law_number (fun vs H Q E h => ?_) (fun cdv A outer s H vs Q E hr h => ?_)
  · obtain ⟨τ, n, m, B, κ, ct, l, ws, kv, cs, rfl, _⟩ := h
    rfl
  · obtain ⟨τ, n, m, B, κ, ct, l, ws, kv, cs, rfl, hl, hwl, hm, hm4, hn, hct, hT, hk, hcs, hB, hcl, q⟩ := h
    refine ⟨_, (pss_cons (ps_set (i := 4) sc__law_number.nd rfl (Or.inl rfl) (pe_call G__law_pick (hr.mono (by omega)) (by rfl) T.g__law_pick T.F__law_pick.kp T.b__law_pick .nil pass0 (pa_cons (pv 0) (pa_cons (pe_lst (pa_cons pe_int (pa_cons (pe_callB call_len_seq (by rfl) T.m_len PySem.boot_len (pa_cons (pv 1) pa_nil)) (pa_cons (pe_callB call_len_seq (by rfl) T.m_len PySem.boot_len (pa_cons (pv 1) pa_nil)) (pa_cons (pe_callB call_len_seq (by rfl) T.m_len PySem.boot_len (pa_cons (pv 1) pa_nil)) pa_nil))))) pa_nil))))
    (pss_cons (ps_set (i := 5) sc__law_number.nd rfl (Or.inl rfl) (pe_call G__law_codes (hr.mono (by omega)) (by rfl) T.g__law_codes T.F__law_codes.kp T.b__law_codes .nil pass0 (pa_cons (pv 0) (pa_cons (pv 4) (pa_cons (pe_call G__law_draw (hr.mono (by omega)) (by rfl) T.g__law_draw T.F__law_draw.kp T.b__law_draw .nil pass0 (pa_cons (pv 0) (pa_cons (pe_op op_add (pv 2) pe_int) pa_nil))) (pa_cons (pv 3) pa_nil))))))
    (pss_cons (ps_if (pt_cmpR op_eq (pe_call G__law_draw (hr.mono (by omega)) (by rfl) T.g__law_draw T.F__law_draw.kp T.b__law_draw .nil pass0 (pa_cons (pv 0) (pa_cons pe_int pa_nil))) pe_int (nomark _))
      (pss_one (ps_setLc (i := 5) (own := [("_law_code_here", 6)]) (g := gName 6) (by rfl) sc__law_number.nd rfl rfl (sw_true rfl rfl rfl (by decide +kernel)) (pi_list (pv 5)) (blkOk_by (own := [("_law_code_here", 6)]) (N := ["_law_tape", "_law_fields_here", "_law_count", "_law_known", "_law_many", "_law_codes_here", "_law_code_here"]) (sc := defScope s__law_number) (by decide +kernel)) (fun _ _ _ _ _ => (pg_name (i := 6) sc__law_number.nd rfl (Or.inl rfl))) (fun _ _ _ _ _ => pts_one (pt_cmpR op_le (pv 6) pe_int (nomark _))) (fun _ _ _ _ _ => (pv 6))))
      pss_nil)
    (pss_one (ps_ret (pv 5)))))), ?_⟩
    refine ⟨_, rfl, _, rfl, l, ws, rfl, .inl (.inl (.inl hl)), _, rfl, l, ws, rfl, .inl (.inl (.inl hl)), _, rfl, l, ws, rfl, .inl (.inl (.inl hl)), ?_⟩
    rw [hwl]
    refine ⟨len_le (by show 4 ≤ _; decide), fun l2 nl2 => ?_⟩
    have s2 := sm_upd (o := .lst [V.int 1, .int (m : Nat), .int (m : Nat), .int (m : Nat)]) nl2
    refine ⟨τ, l2, n, _, rfl, by omega, hT.up s2, upd_same, by show 1 ≤ 4; decide, by show 4 ≤ _; decide, fun v H3 hv hT3 b3 => ?_⟩
    obtain ⟨mm, rfl, hmm, hmm2⟩ : ∃ mm : Nat, v = .int (mm : Nat) ∧ 1 ≤ mm ∧ mm ≤ m := by
      rcases mem_same hv with rfl | rfl
      · exact ⟨1, rfl, by omega, by omega⟩
      · exact ⟨m, rfl, by omega, by omega⟩
    replace b3 := (But.of s2).trans b3
    walk_at "r"
    refine ⟨τ, n + 1, ct + 1, rfl, by omega, by omega, by omega, hT3, fun d4 H4 hd4 hd4' hT4 b4 => ?_⟩
    obtain ⟨x4, rfl, hx4⟩ := nat_of (n := ct + 1) hd4 hd4'
    replace b4 := b3.trans b4
    walk_at "r"
    refine ⟨τ, n + 2, m, mm, B, κ, x4, kv, cs, rfl, hmm, hmm2, hm4, by omega, by omega, hT4, ?_, hcs, hB, hcl, fun lc ds H5 hp hds hdl nlc hlc hT5 b5 => ?_⟩
    · rcases hk with hk | ⟨kn, rfl, hkn⟩
      · exact .inl hk
      · exact .inr ⟨kn, rfl, b4 _ _ (hT.ne hkn) hkn⟩
    have nlH : ∀ {a : Addr}, a ≠ τ.p → H4 a = none → H a = none := fun {a} hne hna => by
      cases e : H a with
      | none => rfl
      | some u => rw [b4 a u hne e] at hna; cases hna
    replace b5 := b4.trans b5
    walk_at "r"
    refine ⟨τ, n + 2 + 12 * x4, 4, rfl, by decide, by decide, by omega, hT5, fun d6 H6 hd6 hd6' hT6 b6 => ?_⟩
    have hlc6 := b6 _ _ (hT5.ne hlc) hlc
    have hnlc : H lc = none := nlH (hT5.ne hlc) nlc
    replace b6 := b5.trans b6
    walk_at "r"
    refine ifE (fun _ => ?_) (fun _ => ?_)
    · refine ⟨_, rfl, lc, rfl, ⟨_, .inl (.inl hlc6)⟩, fun D nD => lc_list (xs := iv ds) (fun i H' => Same H6 H' ∧ H' D = some (.lst (iv ((ds.take i).filter fun c => decide (c ≤ 64))))) ⟨sm_upd nD, by rw [upd_same]; rfl⟩ ?_ ?_ ?_⟩
      · rintro i H' _ ⟨sm, _⟩
        exact .inl (.inl (sm _ _ hlc6))
      · rintro i x H' hx ⟨sm, eD⟩
        obtain ⟨c, hc, rfl⟩ := iv_get hx
        refine ⟨rfl, ?_⟩
        walk_at "r"
        rw [iv_take_filter hc]
        refine ite2 (fun hz => ?_) (fun hz => ?_)
        · walk_at "r"
          refine ⟨_, eD, ?_, sm_mut sm nD, ?_⟩
          · rw [iv_len]
            have h1 := List.length_filter_le (fun c => decide (c ≤ (64 : Int))) (ds.take i)
            have h2 := List.length_take_le i ds
            have h3 := List.length_take_le' i ds
            exact len_lt (by omega)
          · rw [upd_same, if_pos hz, iv_app]
        · rw [if_neg (by simpa using hz), List.append_nil]
          exact ⟨sm, eD⟩
      · rintro H7 ⟨sm7, eD⟩
        rw [iv_len, List.take_length] at eD
        have hDn := hT6.new nD
        have hDH : H D = none := by
          cases e : H D with
          | none => rfl
          | some u => rw [b6 D u hDn.1 e] at nD; cases nD
        walk_at "r"
        exact q D _ _ (hp.sublist List.filter_sublist) (fun c hc => (hds c (List.mem_filter.mp hc).1).mono (by omega) (by omega)) (Nat.le_trans (List.length_filter_le _ _) (by omega)) hDH eD ((hT6.up sm7).le (by omega)) (b6.trans (But.of sm7))
    · walk_at "r"
      exact q lc ds _ hp (fun c hc => (hds c hc).mono (by omega) (by omega)) (by omega) hnlc hlc6 (hT6.le (by omega)) b6
end
end K13
set_option Elab.async false
set_option linter.all false
set_option maxRecDepth 100000
set_option pp.deepTerms false
set_option pp.maxSteps 1500
namespace K13
open PySem PySem.Spec PyProof.Rows L2 HX TV FM DX FB FC FD MS PM
local macro_rules | `(tactic| walk_at "r") => `(tactic| (repeat (first | refine Exists.intro _ (And.intro rfl ?_) | refine And.intro rfl ?_ | refine Exists.intro _ (Exists.intro _ (And.intro rfl (And.intro rfl ?_))) | refine And.intro (by omega) ?_ | refine And.intro (Or.inl (And.intro (by omega) (by omega))) ?_ | refine And.intro (Or.inr (And.intro (by omega) (by omega))) ?_ | refine And.intro (And.intro (by omega) (by omega)) ?_ | refine And.intro (And.intro (by decide) (And.intro (by decide) (by decide))) ?_ | refine Or.inl (Exists.intro _ (And.intro rfl ?_)) | (dsimp only [gName]; first | with_reducible refine seqC ?_ | with_reducible refine asgC ?_))))
local macro_rules | `(tactic| walk_at "s") => `(tactic| (repeat (first | refine Exists.intro _ (And.intro rfl ?_) | refine And.intro rfl ?_ | refine Exists.intro _ (Exists.intro _ (And.intro rfl (And.intro rfl ?_))) | refine And.intro (by omega) ?_ | refine And.intro (Or.inl (And.intro (by omega) (by omega))) ?_ | refine And.intro (Or.inr (And.intro (by omega) (by omega))) ?_ | refine And.intro (And.intro (by omega) (by omega)) ?_ | refine And.intro (And.intro (by decide) (And.intro (by decide) (by decide))) ?_ | refine Or.inl (Exists.intro _ (And.intro rfl ?_)) | refine Exists.intro _ (Exists.intro _ (And.intro rfl ?_)) | (dsimp only [gName]; first | with_reducible refine seqC ?_ | with_reducible refine asgC ?_))))
section
variable {P : Program} {w : World} {K : PySem.W.Frag} {mg : Str → Option Value} {base : Heap}
/-- a term as data -/
def tD (t : Int × Int) : PyData := .tuple [.int t.1, .int t.2]
theorem im_terms : ∀ ts : List (Int × Int), ImAll (ts.map tD)
  | [] => imAll_nil
  | t :: r => by
    rw [List.map_cons, imAll_cons]
    refine ⟨?_, im_terms r⟩
    unfold tD
    rw [im_tuple, imAll_cons, imAll_cons]
    exact ⟨im_int _, im_int _, imAll_nil⟩
theorem imAll_take : ∀ {ds : List PyData} {i : Nat}, ImAll ds → ImAll (ds.take i)
  | [], i, h => by simpa using h
  | d :: r, 0, h => imAll_nil
  | d :: r, i + 1, h => by
    rw [imAll_cons] at h
    rw [List.take_succ_cons, imAll_cons]
    exact ⟨h.1, imAll_take h.2⟩
/-- the terms of a row of codes from number k on -/
def tmsF (n : Int) : Nat → List Int → List (Int × Int)
  | _, [] => []
  | k, c :: r => (c, ((k : Int) % 2 * 2 - 1) * n) :: tmsF n (k + 1) r
def tms (cs : List Int) (n : Int) : List (Int × Int) := tmsF n 0 cs
theorem tmsF_get (n : Int) : ∀ (cs : List Int) (k i : Nat) (c : Int), cs[i]? = some c → (tmsF n k cs)[i]? = some (c, (((k + i : Nat) : Int) % 2 * 2 - 1) * n)
  | [], k, i, c, h => by simp at h
  | a :: r, k, 0, c, h => by
    simp at h
    subst h
    rfl
  | a :: r, k, i + 1, c, h => by
    have := tmsF_get n r (k + 1) i c (by simpa using h)
    show (tmsF n (k + 1) r)[i]? = _
    rw [this, show k + 1 + i = k + (i + 1) by omega]
theorem tmsF_len (n : Int) : ∀ (cs : List Int) (k : Nat), (tmsF n k cs).length = cs.length
  | [], _ => rfl
  | a :: r, k => by
    show (tmsF n (k + 1) r).length + 1 = _
    rw [tmsF_len n r]
    rfl
theorem tms_take {n : Int} {cs : List Int} {i : Nat} {c : Int} (h : cs[i]? = some c) : (tms cs n).take (i + 1) = (tms cs n).take i ++ [(c, ((i : Int) % 2 * 2 - 1) * n)] := by
  have := tmsF_get n cs 0 i c h
  rw [Nat.zero_add] at this
  unfold tms
  rw [List.take_add_one, this]
  rfl
/-- what terms sum up to -/
noncomputable def tsum (fs : List PyData) (ts : List (Int × Int)) : Int := (ts.map fun t => t.2 * 2 ^ (Phi fs t.1).toNat).sum
theorem tsum_app (fs : List PyData) (a b : List (Int × Int)) : tsum fs (a ++ b) = tsum fs a + tsum fs b := by
  unfold tsum
  rw [List.map_append, List.sum_append]
theorem tsum_tmsF (fs : List PyData) (n : Int) : ∀ (cs : List Int) (k : Nat), tsum fs (tmsF n k cs) = (if k % 2 = 0 then n else -n) * tv (Phis fs cs)
  | [], k => by
    show 0 = _ * tv []
    rw [tv_nil, Int.mul_zero]
  | c :: r, k => by
    have ih := tsum_tmsF fs n r (k + 1)
    unfold tsum at *
    show (((k : Int) % 2 * 2 - 1) * n) * 2 ^ (Phi fs c).toNat + ((tmsF n (k + 1) r).map fun t => t.2 * 2 ^ (Phi fs t.1).toNat).sum = _ * tv ((Phi fs c).toNat :: Phis fs r)
    rw [ih, tv_cons, Int.mul_sub, Int.mul_neg]
    by_cases h : k % 2 = 0
    · rw [if_pos h, if_neg (by omega), show ((k : Int) % 2 * 2 - 1) = -1 by omega, Int.neg_mul, Int.one_mul, Int.neg_mul, Int.neg_mul]
      omega
    · rw [if_neg h, if_pos (by omega), show ((k : Int) % 2 * 2 - 1) = 1 by omega, Int.one_mul, Int.neg_mul, Int.neg_mul]
      omega
theorem tsum_tms (fs : List PyData) (cs : List Int) (n : Int) : tsum fs (tms cs n) = n * tv (Phis fs cs) := by
  have := tsum_tmsF fs n cs 0
  rw [if_pos rfl] at this
  exact this
theorem AbT_tmsF (n : Int) : ∀ (cs : List Int) (k : Nat), AbT (tmsF n k cs) ≤ cs.length * n.natAbs
  | [], k => Nat.zero_le _
  | c :: r, k => by
    have ih := AbT_tmsF n r (k + 1)
    unfold AbT at *
    show (((k : Int) % 2 * 2 - 1) * n).natAbs + ((tmsF n (k + 1) r).map fun t => t.2.natAbs).sum ≤ (r.length + 1) * n.natAbs
    rw [Int.natAbs_mul, Nat.add_mul, Nat.one_mul]
    have : ((k : Int) % 2 * 2 - 1).natAbs = 1 := by omega
    rw [this, Nat.one_mul]
    omega
theorem AbT_app (a b : List (Int × Int)) : AbT (a ++ b) = AbT a + AbT b := by
  unfold AbT
  rw [List.map_append, List.sum_append]
theorem tms_codes {n : Int} : ∀ {cs : List Int} {k : Nat} {t : Int × Int}, t ∈ tmsF n k cs → t.1 ∈ cs
  | [], k, t, h => by cases h
  | c :: r, k, t, h => by
    rcases List.mem_cons.mp h with rfl | h
    · simp
    · exact List.mem_cons_of_mem _ (tms_codes h)
def sp_terms (K : PySem.W.Frag) : Sp := fun vs H Q _ => ∃ (lc : Addr) (cs : List Int) (n : Int), vs = [.ref lc, .int n] ∧ H lc = some (.lst (iv cs)) ∧ cs.length ≤ 100000 ∧ -(2 ^ 60) < n ∧ n < 2 ^ 60 ∧
  ∀ (l : Addr) (us : List V) H', DpAll K H' us ((tms cs n).map tD) → H l = none → H' l = some (.lst us) → Same H H' → Q (.ref l) H'
theorem ok__law_terms (T : Top K mg) {k : Nat} : FnOk P w K mg base CX0 (k + 1) T.f__law_terms T.fd__law_terms ["_law_codes_here", "_law_times"]  (sp_terms K) := by
  refine funD_ok0 T.F__law_terms sc__law_terms (fun vs H Q E h => ?_) (fun cdv A outer s H vs Q E hr h => ?_)
  · obtain ⟨lc, cs, n, rfl, _⟩ := h
    rfl
  · obtain ⟨lc, cs, n, rfl, hlc, hlen, hn1, hn2, q⟩ := h
    refine ⟨_, (pss_one (ps_ret (pe_lc (own := [("_law_k", 2)]) (g := gName 2) (by rfl) sc__law_terms.nd (pi_range1 (by rfl) T.m_range (pa_cons (pe_callB call_len_seq (by rfl) T.m_len PySem.boot_len (pa_cons (pv 0) pa_nil)) pa_nil)) (blkOk_by (own := [("_law_k", 2)]) (N := ["_law_codes_here", "_law_times", "_law_k"]) (sc := defScope s__law_terms) (by decide +kernel)) (fun _ _ _ _ _ => (pg_name (i := 2) sc__law_terms.nd rfl (Or.inl rfl))) (fun _ _ _ _ _ => pts_nil) (fun _ _ _ _ _ => (pe_tup (pa_cons (pe_ix (r := rIxL K) ix_list (pv 0) (pv 2) (fun _ _ => rfl)) (pa_cons (pe_op op_mul (pe_op op_sub (pe_op op_mul (pe_op op_mod (pe_callTy (T := "int") call_int1 (by rfl) T.m_int (by decide +kernel) (pa_cons (pv 2) pa_nil)) pe_int) pe_int) pe_int) (pv 1)) pa_nil))))))), ?_⟩
    refine ⟨_, rfl, lc, _, rfl, .inl (.inl (.inl hlc)), ?_⟩
    rw [iv_len]
    walk_at "r"
    refine fun D nD => lc_range (fun i H' => ∃ us, Same H H' ∧ H' D = some (.lst us) ∧ DpAll K H' us (((tms cs n).take i).map tD)) ⟨[], sm_upd nD, upd_same, by simpa using DpAll.nil⟩ ?_ ?_
    · rintro i H' hi ⟨us, sm, eD, hD⟩
      have hi' : i < cs.length := by omega
      refine ⟨rfl, ?_⟩
      walk_at "r"
      have hg : (iv cs)[i]? = some (.int cs[i]) := by
        unfold iv
        rw [List.getElem?_map, List.getElem?_eq_getElem hi']
        rfl
      refine ⟨lc, _, _, _, rfl, rfl, .inl (.inl (sm _ _ hlc)), at_of (j := i) (by omega) hg, ?_⟩
      walk_at "r"
      refine ⟨len_le (by show 2 ≤ _; decide), fun l2 nl2 => ?_⟩
      have s2 := sm_upd (o := .tup [V.int cs[i], .int (((0 + ((i : Nat) : Int)) % 2 * 2 - 1) * n)]) nl2
      have hul := dpAll_len hD
      have hm : Mut (upd H' l2 (.tup [V.int cs[i], .int (((0 + ((i : Nat) : Int)) % 2 * 2 - 1) * n)]) D) := by rw [s2 _ _ eD]; trivial
      have hne : l2 ≠ D := fun e => by rw [e, eD] at nl2; cases nl2
      refine ⟨us, s2 _ _ eD, ?_, _, sm_mut (sm.trans s2) nD, upd_same, ?_⟩
      · rw [hul, List.length_map, List.length_take]
        exact len_lt (by omega)
      · rw [tms_take (List.getElem?_eq_getElem hi'), List.map_append]
        refine dpAll_app (dpAll_im ((tk_same s2).trans (tk_mut hm)) (by rw [List.map_take]; exact imAll_take (im_terms _)) hD) (.cons (.tup (.inl (.inl ?_)) (.cons (.int _) (.cons (.int _) .nil))) .nil)
        rw [upd_ne hne, upd_same, Int.zero_add]
    · rintro H' ⟨us, sm, eD, hD⟩
      have e : (tms cs n).take (((cs.length : Nat) : Int)).toNat = tms cs n := by
        rw [List.take_of_length_le]
        unfold tms
        rw [tmsF_len]
        omega
      rw [e] at hD
      exact q D us H' hD nD eD sm
end
end K13
set_option Elab.async false
set_option linter.all false
set_option maxRecDepth 100000
set_option pp.deepTerms false
set_option pp.maxSteps 1500
namespace K13
open PySem PySem.Spec PyProof.Rows L2 HX TV FM DX FB FC FD MS PM
local macro_rules | `(tactic| walk_at "r") => `(tactic| (repeat (first | refine Exists.intro _ (And.intro rfl ?_) | refine And.intro rfl ?_ | refine Exists.intro _ (Exists.intro _ (And.intro rfl (And.intro rfl ?_))) | refine And.intro (by omega) ?_ | refine And.intro (Or.inl (And.intro (by omega) (by omega))) ?_ | refine And.intro (Or.inr (And.intro (by omega) (by omega))) ?_ | refine And.intro (And.intro (by omega) (by omega)) ?_ | refine And.intro (And.intro (by decide) (And.intro (by decide) (by decide))) ?_ | refine Or.inl (Exists.intro _ (And.intro rfl ?_)) | (dsimp only [gName]; first | with_reducible refine seqC ?_ | with_reducible refine asgC ?_))))
local macro_rules | `(tactic| walk_at "s") => `(tactic| (repeat (first | refine Exists.intro _ (And.intro rfl ?_) | refine And.intro rfl ?_ | refine Exists.intro _ (Exists.intro _ (And.intro rfl (And.intro rfl ?_))) | refine And.intro (by omega) ?_ | refine And.intro (Or.inl (And.intro (by omega) (by omega))) ?_ | refine And.intro (Or.inr (And.intro (by omega) (by omega))) ?_ | refine And.intro (And.intro (by omega) (by omega)) ?_ | refine And.intro (And.intro (by decide) (And.intro (by decide) (by decide))) ?_ | refine Or.inl (Exists.intro _ (And.intro rfl ?_)) | refine Exists.intro _ (Exists.intro _ (And.intro rfl ?_)) | (dsimp only [gName]; first | with_reducible refine seqC ?_ | with_reducible refine asgC ?_))))
section
variable {P : Program} {w : World} {K : PySem.W.Frag} {mg : Str → Option Value} {base : Heap}
/-- which near place a turn belongs to -/
def AtR (n : Nat) (q : Nat → Nat) (t a : Nat) : Prop := a < n ∧ q a ≤ t ∧ (a + 1 = n ∨ t < q (a + 1))
noncomputable def atC (n : Nat) (q : Nat → Nat) (t : Nat) : Nat := @dite _ (∃ a, AtR n q t a) (Classical.propDecidable _) (fun h => Classical.choose h) (fun _ => 0)
theorem atC_spec {n : Nat} {q : Nat → Nat} {t a : Nat} (h : AtR n q t a) : At n q (atC n q) t := by
  have hx : ∃ a, AtR n q t a := ⟨a, h⟩
  have e : atC n q t = Classical.choose hx := dif_pos hx
  unfold At
  rw [e]
  exact Classical.choose_spec hx
theorem atC_eq {n : Nat} {q : Nat → Nat} (hq : ∀ i j, i ≤ j → j < n → q i ≤ q j) {t a : Nat} (h : AtR n q t a) : atC n q t = a := by
  obtain ⟨b1, b2, b3⟩ := atC_spec h
  obtain ⟨a1, a2, a3⟩ := h
  rcases Nat.lt_trichotomy (atC n q t) a with hlt | he | hgt
  · have := hq (atC n q t + 1) a (by omega) a1
    omega
  · exact he
  · have := hq (a + 1) (atC n q t) (by omega) b1
    omega
theorem qN_mono {cs : List Int} (hs : cs.Pairwise (· ≤ ·)) {i : Nat} : ∀ j, i ≤ j → j < cs.length → qN cs i ≤ qN cs j
  | 0, hij, hj => by
    rw [show i = 0 by omega]
    exact Nat.le_refl _
  | j + 1, hij, hj => by
    by_cases e : i = j + 1
    · rw [e]
      exact Nat.le_refl _
    · have := qN_mono hs (i := i) j (by omega) (by omega)
      have := (qN_step hs hj).1
      omega
theorem terms_get {K : PySem.W.Frag} {H : Hp} {us : List V} {ts : List (Int × Int)} {i : Nat} {x : V} (h : DpAll K H us (ts.map tD)) (hx : us[i]? = some x) : ∃ (t : Int × Int) (a : Addr), ts[i]? = some t ∧ x = .ref a ∧ SqT K H a [.int t.1, .int t.2] := by
  obtain ⟨d, hd, hD⟩ := dpAll_get h hx
  rw [List.getElem?_map] at hd
  cases e : ts[i]? with
  | none => rw [e] at hd; cases hd
  | some t =>
    rw [e] at hd
    cases hd
    unfold tD at hD
    cases hD with
    | @tup a xs _ h1 h2 =>
      cases h2 with
      | cons g1 g2 =>
        cases g2 with
        | cons g3 g4 =>
          cases g4
          cases g1
          cases g3
          exact ⟨t, a, rfl, rfl, h1⟩
def But2 (p r : Addr) (H H' : Hp) : Prop := ∀ b o, b ≠ p → b ≠ r → H b = some o → H' b = some o
theorem But2.refl {p r : Addr} (H : Hp) : But2 p r H H := fun _ _ _ _ h => h
theorem But2.left {p r : Addr} {H H' : Hp} {o : HO} (a : But2 p r H H') : But2 p r H (upd H' p o) := fun b x h1 h2 e => by
  rw [upd_ne h1]
  exact a b x h1 h2 e
theorem But2.right {p r : Addr} {H H' : Hp} {o : HO} (a : But2 p r H H') : But2 p r H (upd H' r o) := fun b x h1 h2 e => by
  rw [upd_ne h2]
  exact a b x h1 h2 e
/-- the near places of the first i codes -/
def qL (cs : List Int) (i : Nat) : List Nat := (List.range i).map (qN cs)
theorem qL_succ (cs : List Int) (i : Nat) : qL cs (i + 1) = qL cs i ++ [qN cs i] := by
  unfold qL
  rw [List.range_succ, List.map_append]
  rfl
theorem qL_len (cs : List Int) (i : Nat) : (qL cs i).length = i := by simp [qL]
theorem qL_get (cs : List Int) {i j : Nat} (h : j < i) : (nv (qL cs i))[j]? = some (.int (qN cs j : Nat)) := by
  unfold nv qL
  simp [h]
theorem iv_at {cs : List Int} {i : Nat} (h : i < cs.length) : (iv cs)[i]? = some (.int (cd cs i)) := by
  unfold iv
  rw [List.getElem?_map, cd_at h]
  rfl
def sp_summed (K : PySem.W.Frag) : Sp := fun vs H Q _ => ∃ (l : Addr) (us : List V) (ts : List (Int × Int)) (m B : Nat), vs = [.ref l] ∧ H l = some (.lst us) ∧ DpAll K H us (ts.map tD) ∧ (∀ t ∈ ts, Dw m B 8 t.1) ∧ 1 ≤ m ∧ m ≤ 4 ∧ B ≤ 2 ^ 80 ∧ AbT ts ≤ 10000 ∧ ts.length < 64 ∧
  ∀ (lr : Addr) (ds : List Int) H', ds.Pairwise (· < ·) → (∀ d ∈ ds, Dw m (B + 122) 8 d) → ds.length ≤ 2 * AbT ts → (∀ fs, Fields fs → tv (Phis fs ds) = tsum fs ts) → H lr = none → H' lr = some (.lst (iv ds)) → Same H H' → Q (.ref lr) H'
theorem AbT_mem : ∀ {ts : List (Int × Int)} {t : Int × Int}, t ∈ ts → t.2.natAbs ≤ AbT ts
  | a :: r, t, h => by
    unfold AbT
    rw [List.map_cons, List.sum_cons]
    rcases List.mem_cons.mp h with rfl | h
    · omega
    · have := AbT_mem h
      unfold AbT at this
      omega
theorem ok__law_summed (T : Top K mg) {k : Nat} : FnOk P w K mg base CX0 (k + 2) T.f__law_summed T.fd__law_summed ["_law_terms_here"]  (sp_summed K) := by
  have G__law_turns : FnOk P w K mg base CX0 (k + 1) T.f__law_turns T.fd__law_turns ["_law_number_here"]  (sp_turns K) := ok__law_turns T
  refine T.F__law_summed.ok sc__law_summed (fun vs H Q E h => ?_) (fun cdv A outer s H vs Q E hr h => ?_)
  · obtain ⟨l, us, ts, m, B, rfl, _⟩ := h
    rfl
  · obtain ⟨l, us, ts, m, B, rfl, hl, hD, hc, hm, hm4, hB, hAb, hlen, q⟩ := h
    have hul := dpAll_len hD
    rw [List.length_map] at hul
    refine ⟨_, (pss_cons (ps_asg (pe_tup (pa_cons (pe_callB cr_sorted (by rfl) T.m_sorted (by decide +kernel) (pa_cons (pe_lc (own := [("_law_code_here", 4), ("_law_times", 5)]) (g := gTup K 2 (gCons (gName 4) (gCons (gName 5) gNil))) (by rfl) sc__law_summed.nd (pi_list (pv 0)) (blkOk_by (own := [("_law_code_here", 4), ("_law_times", 5)]) (N := ["_law_terms_here", "_law_codes_here", "_law_spots", "_law_places", "_law_code_here", "_law_times", "_law_at", "_law_gap", "_law_total", "_law_found", "_law_turn"]) (sc := defScope s__law_summed) (by decide +kernel)) (fun _ _ _ _ _ => (pg_tup rfl (pgs_cons (pg_name (i := 4) sc__law_summed.nd rfl (Or.inl rfl)) (pgs_cons (pg_name (i := 5) sc__law_summed.nd rfl (Or.inl rfl)) pgs_nil)))) (fun _ _ _ _ _ => pts_nil) (fun _ _ _ _ _ => (pe_callTy (T := "int") call_int1 (by rfl) T.m_int (by decide +kernel) (pa_cons (pv 4) pa_nil)))) pa_nil)) (pa_cons pe_dnewK (pa_cons (pe_lst pa_nil) pa_nil)))) (pg_tup rfl (pgs_cons (pg_name (i := 1) sc__law_summed.nd rfl (Or.inl rfl)) (pgs_cons (pg_name (i := 2) sc__law_summed.nd rfl (Or.inr rfl)) (pgs_cons (pg_name (i := 3) sc__law_summed.nd rfl (Or.inl rfl)) pgs_nil)))))
    (pss_cons (ps_for PassesOwn.never rfl (pi_range1 (by rfl) T.m_range (pa_cons (pe_callB call_len_seq (by rfl) T.m_len PySem.boot_len (pa_cons (pv 1) pa_nil)) pa_nil)) (pg_name (i := 6) sc__law_summed.nd rfl (Or.inl rfl))
      (pss_cons (ps_if (pt_cmpR op_gt (pv 6) pe_int (nomark _))
        (pss_cons (ps_set (i := 7) sc__law_summed.nd rfl (Or.inl rfl) (pe_op op_sub (pe_ix ix_list (pv 1) (pv 6) (fun _ _ => rfl)) (pe_ix ix_list (pv 1) (pe_op op_sub (pv 6) pe_int) (fun _ _ => rfl))))
        (pss_one (ps_expr (pe_bm PySem.F.plainAttrs_list PySem.F.slot_list_append PySem.F.type_list_append mt_append (pv 3) (pa_cons (pe_op op_add (pe_ix ix_list (pv 3) (pe_un un_neg pe_int) (fun _ _ => rfl)) (pe_callB (call_min2 rfl) (by rfl) T.m_min (by decide +kernel) (pa_cons (pv 7) (pa_cons pe_int pa_nil)))) pa_nil)))))
        (pss_one (ps_expr (pe_bm PySem.F.plainAttrs_list PySem.F.slot_list_append PySem.F.type_list_append mt_append (pv 3) (pa_cons pe_int pa_nil)))))
      (pss_one (ps_dput (hu_of hr) (pv 2) (pe_ix ix_list (pv 1) (pv 6) (fun _ _ => rfl)) (pe_ix ix_list (pv 3) (pv 6) (fun _ _ => rfl)) rfl))))
    (pss_cons (ps_set (i := 8) sc__law_summed.nd rfl (Or.inl rfl) (pe_callB (cr_sum rfl) (by rfl) T.m_sum (by decide +kernel) (pa_cons (pe_lc (own := [("_law_code_here", 4), ("_law_times", 5)]) (g := gTup K 2 (gCons (gName 4) (gCons (gName 5) gNil))) (by rfl) sc__law_summed.nd (pi_list (pv 0)) (blkOk_by (own := [("_law_code_here", 4), ("_law_times", 5)]) (N := ["_law_terms_here", "_law_codes_here", "_law_spots", "_law_places", "_law_code_here", "_law_times", "_law_at", "_law_gap", "_law_total", "_law_found", "_law_turn"]) (sc := defScope s__law_summed) (by decide +kernel)) (fun _ _ _ _ _ => (pg_tup rfl (pgs_cons (pg_name (i := 4) sc__law_summed.nd rfl (Or.inl rfl)) (pgs_cons (pg_name (i := 5) sc__law_summed.nd rfl (Or.inl rfl)) pgs_nil)))) (fun _ _ _ _ _ => pts_nil) (fun _ _ _ _ _ => (pe_op op_mul (pv 5) (pe_op op_shl pe_int (pe_dget (hu_of hr) (pv 2) (pv 4) (fun _ _ => rfl)))))) pa_nil)))
    (pss_cons (ps_par (i := 9) (j := 6) rfl sc__law_summed.nd rfl rfl (by decide) rfl rfl (pa_cons (pe_lst pa_nil) (pa_cons pe_int pa_nil)) rfl)
    (pss_cons (ps_for PassesOwn.never rfl (pi_list (pe_call G__law_turns (hr.mono (by omega)) (by rfl) T.g__law_turns T.F__law_turns.kp T.b__law_turns .nil pass0 (pa_cons (pv 8) pa_nil))) (pg_name (i := 10) sc__law_summed.nd rfl (Or.inl rfl))
      (pss_cons (ps_while PassesOwn.never (PW.pt (pw_and (pt_cmpR op_lt (pe_op op_add (pv 6) pe_int) (pe_callB call_len_seq (by rfl) T.m_len PySem.boot_len (pa_cons (pv 3) pa_nil)) (nomark _)) (pw_and1 (pt_cmpR op_le (pe_ix ix_list (pv 3) (pe_op op_add (pv 6) pe_int) (fun _ _ => rfl)) (pv 10) (nomark _)))))
        (pss_one (ps_set (i := 6) sc__law_summed.nd rfl (Or.inl rfl) (pe_op op_add (pv 6) pe_int))))
      (pss_one (ps_expr (pe_bm PySem.F.plainAttrs_list PySem.F.slot_list_append PySem.F.type_list_append mt_append (pv 9) (pa_cons (pe_op op_sub (pe_op op_add (pe_ix ix_list (pv 1) (pv 6) (fun _ _ => rfl)) (pv 10)) (pe_ix ix_list (pv 3) (pv 6) (fun _ _ => rfl))) pa_nil))))))
    (pss_one (ps_ret (pv 9)))))))), ?_⟩
    refine ⟨_, rfl, l, rfl, ⟨_, .inl (.inl hl)⟩, fun D nD => lc_list (xs := us) (fun i H' => Same H H' ∧ H' D = some (.lst (iv ((ts.take i).map (·.1))))) ⟨sm_upd nD, by rw [upd_same]; rfl⟩ ?_ ?_ ?_⟩
    · rintro i H' _ ⟨sm, _⟩
      exact .inl (.inl (sm _ _ hl))
    · rintro i x H' hx ⟨sm, eD⟩
      obtain ⟨t, a, ht, rfl, hS⟩ := terms_get hD hx
      have hi := (List.getElem?_eq_some_iff.mp ht).1
      refine ⟨a, _, rfl, HX.Same.tup sm hS, rfl, _, _, rfl, _, _, rfl, rfl, ?_⟩
      refine ⟨rfl, ?_⟩
      walk_at "r"
      refine ⟨_, eD, ?_, sm_mut sm nD, ?_⟩
      · rw [iv_len, List.length_map, List.length_take]
        exact len_lt (by omega)
      · rw [upd_same, List.take_add_one, ht, iv_app]
        simp
    · rintro H1 ⟨sm1, eD⟩
      rw [hul, List.take_length] at eD
      refine ⟨D, _, rfl, .inl (.inl eD), by simpa using hlen, fun cs lc hperm hs nlc => ?_⟩
      have s2 := sm_upd (o := .lst (cs.map V.int)) nlc
      have hlc : upd H1 lc (.lst (cs.map V.int)) lc = some (.lst (iv cs)) := upd_same
      refine fun sp nsp => ?_
      have s3 := sm_upd (o := .dK []) nsp
      refine ⟨Nat.zero_le _, fun pl npl => ?_⟩
      have s4 := sm_upd (o := .lst []) npl
      refine ⟨len_le (by show 3 ≤ _; decide), fun tp ntp => ?_⟩
      have s5 := sm_upd (o := .tup [V.ref lc, .ref sp, .ref pl]) ntp
      refine ⟨tp, _, rfl, .inl (.inl upd_same), rfl, _, _, rfl, _, _, rfl, _, _, rfl, rfl, ?_⟩
      have hlc5 := s5 _ _ (s4 _ _ (s3 _ _ hlc))
      have hsp5 := s5 _ _ (s4 _ _ (upd_same (H := upd H1 lc (.lst (cs.map V.int))) (a := sp) (o := .dK [])))
      have hpl5 := s5 _ _ (upd_same (H := upd (upd H1 lc (.lst (cs.map V.int))) sp (.dK [])) (a := pl) (o := .lst []))
      have s05 := (((sm1.trans s2).trans s3).trans s4).trans s5
      have nlcsp : lc ≠ sp := ne_of_none hlc nsp
      have nlcpl : lc ≠ pl := ne_of_none (s3 _ _ hlc) npl
      have nsppl : sp ≠ pl := ne_of_none (upd_same (H := upd H1 lc (.lst (cs.map V.int))) (a := sp) (o := .dK [])) npl
      have nsp0 : H sp = none := by
        cases e : H sp with
        | none => rfl
        | some u => rw [s2 _ _ (sm1 _ _ e)] at nsp; cases nsp
      have npl0 : H pl = none := by
        cases e : H pl with
        | none => rfl
        | some u => rw [s3 _ _ (s2 _ _ (sm1 _ _ e))] at npl; cases npl
      revert hlc5 hsp5 hpl5 s05
      generalize upd (upd (upd (upd H1 lc _) sp _) pl _) tp _ = H5
      intro hlc5 hsp5 hpl5 s05
      have hcl : cs.length = ts.length := by rw [hperm.length_eq, List.length_map]
      have sm_of : ∀ {H'}, But2 sp pl H5 H' → Same H H' := fun {H'} b a o e => b a o (ne_of_none e nsp0) (ne_of_none e npl0) (s05 _ _ e)
      dsimp only
      with_reducible refine cut (fun σ H' => ∃ (z6 z7 : Option V) (kvs : List (Key × V)), σ = [some (.ref l), some (.ref lc), some (.ref sp), some (.ref pl), none, none, z6, z7, none, none, none] ∧ H' pl = some (.lst (nv (qL cs cs.length))) ∧ H' sp = some (.dK kvs) ∧ (∀ j, j < cs.length → valV kvs (.inl (cd cs j) : Key) = some (.int (qN cs j : Nat))) ∧ But2 sp pl H5 H') (fun D1 J1 => ?_) ?_
      · refine ⟨_, rfl, lc, _, rfl, .inl (.inl (.inl hlc5)), ?_⟩
        rw [iv_len]
        walk_at "r"
        refine flR (fun i σ H' => ∃ (z6 z7 : Option V) (kvs : List (Key × V)), σ = [some (.ref l), some (.ref lc), some (.ref sp), some (.ref pl), none, none, z6, z7, none, none, none] ∧ H' pl = some (.lst (nv (qL cs i))) ∧ H' sp = some (.dK kvs) ∧ kvs.length ≤ i ∧ (∀ j, j < i → valV kvs (.inl (cd cs j) : Key) = some (.int (qN cs j : Nat))) ∧ But2 sp pl H5 H')
          ⟨none, none, [], rfl, hpl5, hsp5, Nat.le_refl _, fun j hj => by omega, But2.refl _⟩ ?_ ?_
        · rintro i σ H6 hi ⟨z6, z7, kvs, rfl, hpl6, hsp6, hkl, hkv, b6⟩ D' B'
          have hi' : i < cs.length := by omega
          have hlc6 := b6 _ _ nlcsp nlcpl hlc5
          dsimp only [gName]
          with_reducible refine cut (fun σ' H7 => ∃ z7 : Option V, σ' = [some (.ref l), some (.ref lc), some (.ref sp), some (.ref pl), none, none, some (.int (0 + (i : Nat))), z7, none, none, none] ∧ H7 pl = some (.lst (nv (qL cs (i + 1)))) ∧ H7 sp = some (.dK kvs) ∧ But2 sp pl H5 H7) (fun D2 J2 => ?_) ?_
          · walk_at "r"
            have hlen6 : (nv (qL cs i)).length < sizeLine := by
              rw [nv_len, qL_len]
              exact len_lt (by omega)
            refine ifD (fun h0 => ?_) (fun h0 => ?_)
            · walk_at "r"
              refine ⟨lc, _, _, _, rfl, rfl, .inl (.inl hlc6), at_of (j := i) (by omega) (iv_at hi'), ?_⟩
              walk_at "r"
              refine ⟨lc, _, _, _, rfl, rfl, .inl (.inl hlc6), at_of (j := i - 1) (by omega) (iv_at (by omega)), ?_⟩
              walk_at "r"
              refine ⟨.inl ⟨rfl, _, .inl (.inl hpl6)⟩, ?_⟩
              walk_at "r"
              refine ⟨pl, _, _, _, rfl, rfl, .inl (.inl hpl6), atI_neg1 (by rw [nv_len, qL_len]; exact qL_get cs (by omega)), ?_⟩
              walk_at "r"
              refine ⟨_, _, rfl, ?_⟩
              walk_at "r"
              refine ⟨pl, _, _, rfl, rfl, hpl6, hlen6, J2.nx _ _ ⟨_, rfl, ?_, (upd_ne nsppl).trans hsp6, b6.right⟩⟩
              rw [upd_same, qL_succ, nv_app]
              obtain ⟨r, rfl⟩ : ∃ r, i = r + 1 := ⟨i - 1, by omega⟩
              rw [Nat.add_sub_cancel]
              have hle := cd_le hs (show r ≤ r + 1 by omega) hi'
              have e : ((qN cs r : Nat) : Int) + (if (120 : Int) < cd cs (r + 1) - cd cs r then 120 else cd cs (r + 1) - cd cs r) = ((qN cs (r + 1) : Nat) : Int) := by
                show _ = ((qN cs r + (min (cd cs (r + 1) - cd cs r) 120).toNat : Nat) : Int)
                split <;> omega
              rw [← e]
            · walk_at "r"
              refine ⟨.inl ⟨rfl, _, .inl (.inl hpl6)⟩, ?_⟩
              walk_at "r"
              refine ⟨pl, _, _, rfl, rfl, hpl6, hlen6, J2.nx _ _ ⟨_, rfl, ?_, (upd_ne nsppl).trans hsp6, b6.right⟩⟩
              rw [upd_same, qL_succ, nv_app, show i = 0 by omega]
              rfl
          · rintro σ' H7 ⟨z7, rfl, hpl7, hsp7, b7⟩
            have hlc7 := b7 _ _ nlcsp nlcpl hlc5
            walk_at "r"
            refine ⟨pl, _, _, _, rfl, rfl, .inl (.inl hpl7), at_of (j := i) (by omega) (qL_get cs (by omega)), ?_⟩
            walk_at "r"
            refine ⟨lc, _, _, _, rfl, rfl, .inl (.inl hlc7), at_of (j := i) (by omega) (iv_at hi'), ?_⟩
            refine ⟨sp, _, rfl, DPut.k (k := (.inl (cd cs i) : Key)) hsp7 (len_lt (by omega)), ?_⟩
            refine B'.nx _ _ ⟨_, _, putK kvs (.inl (cd cs i) : Key) (.int (qN cs i : Nat)), rfl, (upd_ne (Ne.symm nsppl)).trans hpl7, upd_same, Nat.le_trans (length_putK _ _ _) (by omega), fun j hj => ?_, b7.left⟩
            rw [valV_put]
            by_cases e : cd cs j = cd cs i
            · rw [if_pos (by rw [e]), qN_eq hs (show j ≤ i by omega) hi' e]
            · rw [if_neg fun z => e (Sum.inl.inj z)]
              refine hkv j ?_
              apply Classical.byContradiction
              intro hc
              exact e (by rw [show j = i by omega])
        · rintro σ H6 ⟨z6, z7, kvs, rfl, hpl6, hsp6, hkl, hkv, b6⟩
          have e : (((cs.length : Nat) : Int)).toNat = cs.length := by omega
          rw [e] at hpl6 hkv
          exact J1.nx _ _ ⟨z6, z7, kvs, rfl, hpl6, hsp6, hkv, b6⟩
      · rintro σ H6 ⟨z6, z7, kvs, rfl, hpl6, hsp6, hkv, b6⟩
        have sm6 := sm_of b6
        have hlc6 := b6 _ _ nlcsp nlcpl hlc5
        have hl6 := sm6 _ _ hl
        have hD6 := dpAll_im (tk_same sm6) (im_terms ts) hD
        have hmem : ∀ t ∈ ts, t.1 ∈ cs := fun t ht => hperm.mem_iff.mpr (List.mem_map.mpr ⟨t, ht, rfl⟩)
        refine ⟨_, rfl, l, rfl, ⟨_, .inl (.inl hl6)⟩, fun D7 nD7 => lc_list (xs := us) (fun i H' => Same H6 H' ∧ H' D7 = some (.lst (iv ((ts.take i).map fun t => t.2 * 2 ^ qN cs (cs.idxOf t.1))))) ⟨sm_upd nD7, by rw [upd_same]; rfl⟩ ?_ ?_ ?_⟩
        · rintro i H' _ ⟨sm, _⟩
          exact .inl (.inl (sm _ _ hl6))
        · rintro i x H' hx ⟨sm, eD⟩
          obtain ⟨t, a, ht, rfl, hS⟩ := terms_get hD6 hx
          have hi := (List.getElem?_eq_some_iff.mp ht).1
          obtain ⟨hx1, hx2⟩ := cd_ix (hmem t (List.mem_of_getElem? ht))
          have hk := hkv _ hx1
          rw [hx2] at hk
          have hg : DGet H' sp (.int t.1) (some (.int (qN cs (cs.idxOf t.1) : Nat))) := by
            have := DGet.k (k := (.inl t.1 : Key)) (sm _ _ hsp6)
            rw [hk] at this
            exact this
          have hq := qN_le cs (cs.idxOf t.1)
          have ha := AbT_mem (List.mem_of_getElem? ht)
          refine ⟨a, _, rfl, HX.Same.tup sm hS, rfl, _, _, rfl, _, _, rfl, rfl, ?_⟩
          refine ⟨rfl, ?_⟩
          walk_at "r"
          refine ⟨sp, _, rfl, hg, ?_⟩
          walk_at "r"
          refine ⟨_, eD, ?_, sm_mut sm nD7, ?_⟩
          · rw [iv_len, List.length_map, List.length_take]
            exact len_lt (by omega)
          · rw [upd_same, List.take_add_one, ht, iv_app]
            simp
        · rintro H7 ⟨sm7, eD⟩
          rw [hul, List.take_length] at eD
          refine ⟨D7, _, rfl, .inl (.inl eD), ?_⟩
          have etot := Sm_ix cs ts (qN cs)
          rw [← etot]
          dsimp only [gName]
          refine ⟨Nat.zero_le _, fun fo nfo => ⟨_, _, rfl, ?_⟩⟩
          have s8 := sm_upd (o := .lst []) nfo
          have hpl8 := s8 _ _ (sm7 _ _ hpl6)
          have hlc8 := s8 _ _ (sm7 _ _ hlc6)
          have sm08 := (sm6.trans sm7).trans s8
          have hfo8 : upd H7 fo (.lst []) fo = some (.lst (iv [])) := upd_same
          have nplfo : pl ≠ fo := ne_of_none (sm7 _ _ hpl6) nfo
          have nlcfo : lc ≠ fo := ne_of_none (sm7 _ _ hlc6) nfo
          have nfo0 : H fo = none := by
            cases e : H fo with
            | none => rfl
            | some u => rw [sm7 _ _ (sm6 _ _ e)] at nfo; cases nfo
          revert hpl8 hlc8 sm08 hfo8
          generalize upd H7 fo _ = H8
          intro hpl8 hlc8 sm08 hfo8
          have hqb : ∀ i, i < cs.length → qN cs i ≤ 7680 := fun i hi => by
            have := qN_le cs i
            omega
          have hrg : ∀ t ∈ turnsOf (Sm (ixT cs ts) (qN cs)), t ≤ 7680 + 100 + 1 := by
            have h1 := Sm_abs (π := qN cs) (b := 7680) (T := ixT cs ts) fun u hu => by
              obtain ⟨t, ht, rfl⟩ := List.mem_map.mp hu
              exact hqb _ (cd_ix (hmem t ht)).1
            refine turns_lt (Nat.le_trans h1 (Nat.mul_le_mul_right _ ?_))
            rw [Ab_ix]
            exact Nat.le_trans hAb (by decide)
          have hrg2 := (tv_range (turnsOf_asc _)).mp hrg
          rw [turnsOf_tv] at hrg2
          have hempty : cs = [] → Sm (ixT cs ts) (qN cs) = 0 := fun e => by
            have : ts = [] := by
              apply List.eq_nil_of_length_eq_zero
              rw [← hcl, e]
              rfl
            rw [this]
            rfl
          generalize hS : Sm (ixT cs ts) (qN cs) = S at *
          dsimp only
          refine ⟨_, rfl, S, 7680 + 100 + 1, rfl, by decide, hrg2.1, hrg2.2, fun tt lt H9 hA htv htk htl sm9 nlt hlt9 => ?_⟩
          have ett : turnsOf S = tt := turnsOf_is hA htv
          have hpl9 := sm9 _ _ hpl8
          have hlc9 := sm9 _ _ hlc8
          have hfo9 := sm9 _ _ hfo8
          have nltfo : lt ≠ fo := fun e => by rw [e, hfo8] at nlt; cases nlt
          have hpos : ∀ t ∈ tt, 0 < cs.length := fun t ht => by
            apply Nat.pos_of_ne_zero
            intro e
            have := hempty (List.eq_nil_of_length_eq_zero e)
            rw [this] at ett
            rw [← ett, show turnsOf 0 = [] from turnsOf_is (ts := []) trivial rfl] at ht
            cases ht
          have hqm := fun i j (h1 : i ≤ j) (h2 : j < cs.length) => qN_mono hs (i := i) j h1 h2
          refine ⟨lt, rfl, ⟨_, .inl (.inl hlt9)⟩, flL (xs := nv tt) (fun i σ H' => ∃ (a : Nat) (z10 : Option V), σ = [some (.ref l), some (.ref lc), some (.ref sp), some (.ref pl), none, none, some (.int (a : Nat)), z7, some (.int S), some (.ref fo), z10] ∧ H' fo = some (.lst (iv ((tt.take i).map fun t => cd cs (atC cs.length (qN cs) t) + (t : Nat) - (qN cs (atC cs.length (qN cs) t) : Nat)))) ∧ (∀ t ∈ tt.drop i, qN cs a ≤ t) ∧ (a < cs.length ∨ a = 0) ∧ (∀ t ∈ tt.take i, At cs.length (qN cs) (atC cs.length (qN cs)) t) ∧ But fo H9 H')
            ⟨0, none, rfl, hfo9, fun t _ => Nat.zero_le _, .inr rfl, by simp, But.refl _⟩ ?_ ?_ ?_⟩
          · rintro i σ H' _ ⟨_, _, _, _, _, _, _, b⟩
            exact .inl (.inl (b _ _ nltfo hlt9))
          · rintro i x σ H10 hx ⟨a, z10, rfl, hfo10, hdr, han, hat, b10⟩ D' B'
            obtain ⟨t, ht, rfl⟩ := nv_get hx
            have hi := (List.getElem?_eq_some_iff.mp ht).1
            have hn := hpos t (List.mem_of_getElem? ht)
            have han' : a < cs.length := by omega
            have hpl10 := b10 _ _ nplfo hpl9
            have hlc10 := b10 _ _ nlcfo hlc9
            have hdt : tt.drop i = t :: tt.drop (i + 1) := by
              obtain ⟨h1, h2⟩ := List.getElem?_eq_some_iff.mp ht
              rw [List.drop_eq_getElem_cons h1, h2]
            have hqt : qN cs a ≤ t := hdr t (by rw [hdt]; simp)
            dsimp only [gName]
            with_reducible refine cut (fun σ' H' => H' = H10 ∧ ∃ a : Nat, σ' = [some (.ref l), some (.ref lc), some (.ref sp), some (.ref pl), none, none, some (.int (a : Nat)), z7, some (.int S), some (.ref fo), some (.int (t : Nat))] ∧ AtR cs.length (qN cs) t a) (fun D2 J2 => ?_) ?_
            · refine ⟨fun m σ H' => H' = H10 ∧ ∃ a : Nat, σ = [some (.ref l), some (.ref lc), some (.ref sp), some (.ref pl), none, none, some (.int (a : Nat)), z7, some (.int S), some (.ref fo), some (.int (t : Nat))] ∧ a + m = cs.length ∧ a < cs.length ∧ qN cs a ≤ t, ⟨cs.length - a, rfl, a, rfl, by omega, han', hqt⟩, ?_⟩
              rintro m σ H' ⟨rfl, a, rfl, ham, hac, hqa⟩
              walk_at "r"
              refine ⟨pl, _, rfl, .inl (.inl (.inl hpl10)), ?_⟩
              rw [nv_len, qL_len]
              walk_at "r"
              refine ifBD (fun hc => ?_) (fun hc => ?_)
              · have hc : (a : Int) + 1 < (cs.length : Nat) := of_decide_eq_true hc
                walk_at "r"
                refine ⟨pl, _, _, _, rfl, rfl, .inl (.inl hpl10), at_of (j := a + 1) (by omega) (qL_get cs (by omega)), ?_⟩
                walk_at "r"
                refine ifD (fun hle => wb fun D3 B3 => ?_) (fun hgt => ?_)
                · walk_at "r"
                  exact B3.nx _ _ ⟨m - 1, by omega, rfl, a + 1, rfl, by omega, by omega, by omega⟩
                · exact J2.nx _ _ ⟨rfl, a, rfl, hac, hqa, .inr (by omega)⟩
              · have hc : ¬ (a : Int) + 1 < (cs.length : Nat) := of_decide_eq_false hc
                refine iteF ?_
                exact J2.nx _ _ ⟨rfl, a, rfl, hac, hqa, .inl (by omega)⟩
            · rintro σ' H' ⟨rfl, a, rfl, hA2⟩
              have eat := atC_eq hqm hA2
              walk_at "r"
              refine ⟨.inl ⟨rfl, _, .inl (.inl hfo10)⟩, ?_⟩
              walk_at "r"
              refine ⟨lc, _, _, _, rfl, rfl, .inl (.inl hlc10), at_of (j := a) rfl (iv_at hA2.1), ?_⟩
              walk_at "r"
              refine ⟨pl, _, _, _, rfl, rfl, .inl (.inl hpl10), at_of (j := a) rfl (qL_get cs hA2.1), ?_⟩
              walk_at "r"
              refine ⟨fo, _, _, rfl, rfl, hfo10, ?_, ?_⟩
              · rw [iv_len, List.length_map, List.length_take]
                exact len_lt (by omega)
              refine B'.nx _ _ ⟨a, _, rfl, ?_, fun u hu => ?_, .inl hA2.1, fun u hu => ?_, b10.upd⟩
              · rw [upd_same, List.take_add_one, ht, iv_app]
                simp [eat]
              · have h1 := hA2.2.1
                have h2 : t < u := by
                  have := asc_pairwise.mp hA
                  rw [← List.take_append_drop i tt, hdt] at this
                  exact (List.pairwise_cons.mp (List.pairwise_append.mp this).2.1).1 u hu
                omega
              · rw [List.take_add_one, ht] at hu
                rcases List.mem_append.mp hu with hu | hu
                · exact hat u hu
                · have : u = t := by simpa using hu
                  rw [this]
                  exact atC_spec hA2
          · rintro σ H' ⟨a, z10, rfl, hfo10, hdr, han, hat, b10⟩
            rw [nv_len, List.take_length] at hfo10 hat
            obtain ⟨r1, r2, r3, r4⟩ := summed (m := m) (B := B) (w := 8) (cs := cs) (ts := ts) (at_ := atC cs.length (qN cs)) hs (fun c h => by
              obtain ⟨t, ht, rfl⟩ := List.mem_map.mp (hperm.mem_iff.mp h)
              exact hc t ht) hm hm4 hB hmem (Nat.le_trans hAb (by decide)) (by rw [hS, ett]; exact hat) rfl
            rw [hS, ett] at r1 r2 r3 r4
            refine ⟨_, rfl, q fo _ H' r1 r2 r3 r4 nfo0 hfo10 ?_⟩
            exact fun b o e => b10 b o (ne_of_none e nfo0) (sm9 _ _ (sm08 _ _ e))
end
end K13
set_option Elab.async false
set_option linter.all false
set_option maxRecDepth 100000
set_option pp.deepTerms false
set_option pp.maxSteps 1500
namespace K13
open PySem PySem.Spec PyProof.Rows L2 HX TV FM DX FB FC FD MS PM
local macro_rules | `(tactic| walk_at "r") => `(tactic| (repeat (first | refine Exists.intro _ (And.intro rfl ?_) | refine And.intro rfl ?_ | refine Exists.intro _ (Exists.intro _ (And.intro rfl (And.intro rfl ?_))) | refine And.intro (by omega) ?_ | refine And.intro (Or.inl (And.intro (by omega) (by omega))) ?_ | refine And.intro (Or.inr (And.intro (by omega) (by omega))) ?_ | refine And.intro (And.intro (by omega) (by omega)) ?_ | refine And.intro (And.intro (by decide) (And.intro (by decide) (by decide))) ?_ | refine Or.inl (Exists.intro _ (And.intro rfl ?_)) | (dsimp only [gName]; first | with_reducible refine seqC ?_ | with_reducible refine asgC ?_))))
local macro_rules | `(tactic| walk_at "s") => `(tactic| (repeat (first | refine Exists.intro _ (And.intro rfl ?_) | refine And.intro rfl ?_ | refine Exists.intro _ (Exists.intro _ (And.intro rfl (And.intro rfl ?_))) | refine And.intro (by omega) ?_ | refine And.intro (Or.inl (And.intro (by omega) (by omega))) ?_ | refine And.intro (Or.inr (And.intro (by omega) (by omega))) ?_ | refine And.intro (And.intro (by omega) (by omega)) ?_ | refine And.intro (And.intro (by decide) (And.intro (by decide) (by decide))) ?_ | refine Or.inl (Exists.intro _ (And.intro rfl ?_)) | refine Exists.intro _ (Exists.intro _ (And.intro rfl ?_)) | (dsimp only [gName]; first | with_reducible refine seqC ?_ | with_reducible refine asgC ?_))))
section
variable {P : Program} {w : World} {K : PySem.W.Frag} {mg : Str → Option Value} {base : Heap}
/-- each once -/
def sp_once (K : PySem.W.Frag) : Sp := fun vs H Q _ => ∃ (l : Addr) (cs : List Int), vs = [.ref l] ∧ H l = some (.lst (iv cs)) ∧ cs.length ≤ 100000 ∧
  ∀ (lr : Addr) (ds : List Int) H', ds.Nodup → (∀ d ∈ ds, d ∈ cs) → ds.length ≤ cs.length → H lr = none → H' lr = some (.lst (iv ds)) → Same H H' → Q (.ref lr) H'
/-- a second row of codes -/
def sp_partner (K : PySem.W.Frag) : Sp := fun vs H Q _ => ∃ (τ : Tp) (n m B ct : Nat) (l lc : Addr) (ws : List V) (cs : List Int), vs = [.ref τ.p, .ref l, .ref lc, .int ct] ∧ H l = some (.lst ws) ∧ ws.length = m ∧ 1 ≤ m ∧ m ≤ 4 ∧ n < 600000 ∧ 1 ≤ ct ∧ ct ≤ 30 ∧ Tape H τ n ∧ H lc = some (.lst (iv cs)) ∧ (∀ c ∈ cs, Dw m B 8 c) ∧ 2 ^ 60 ≤ B ∧ cs.length ≤ 30 ∧
  ∀ (lr : Addr) (ds : List Int) H', ds.Pairwise (· < ·) → (∀ c ∈ ds, Dw m (B + 4 * ct) 8 c) → ds.length ≤ ct + cs.length + 2 → H lr = none → H' lr = some (.lst (iv ds)) → Tape H' τ (n + 30 + 12 * ct + cs.length) → But τ.p H H' → Q (.ref lr) H'
theorem ways_in : ∀ {d : Nat}, d < 4 → ∃ y : Nat, ([V.int 0, .int 0, .int 1, .int 2] : List V)[d]? = some (.int (y : Nat)) ∧ y < 4
  | 0, _ => ⟨0, rfl, by decide⟩
  | 1, _ => ⟨0, rfl, by decide⟩
  | 2, _ => ⟨1, rfl, by decide⟩
  | 3, _ => ⟨2, rfl, by decide⟩
end
end K13
set_option Elab.async false
set_option linter.all false
set_option maxRecDepth 100000
set_option pp.deepTerms false
set_option pp.maxSteps 1500
namespace K13
open PySem PySem.Spec PyProof.Rows L2 HX TV FM DX FB FC FD MS PM
local macro_rules | `(tactic| walk_at "r") => `(tactic| (repeat (first | refine Exists.intro _ (And.intro rfl ?_) | refine And.intro rfl ?_ | refine Exists.intro _ (Exists.intro _ (And.intro rfl (And.intro rfl ?_))) | refine And.intro (by omega) ?_ | refine And.intro (Or.inl (And.intro (by omega) (by omega))) ?_ | refine And.intro (Or.inr (And.intro (by omega) (by omega))) ?_ | refine And.intro (And.intro (by omega) (by omega)) ?_ | refine And.intro (And.intro (by decide) (And.intro (by decide) (by decide))) ?_ | refine Or.inl (Exists.intro _ (And.intro rfl ?_)) | (dsimp only [gName]; first | with_reducible refine seqC ?_ | with_reducible refine asgC ?_))))
local macro_rules | `(tactic| walk_at "s") => `(tactic| (repeat (first | refine Exists.intro _ (And.intro rfl ?_) | refine And.intro rfl ?_ | refine Exists.intro _ (Exists.intro _ (And.intro rfl (And.intro rfl ?_))) | refine And.intro (by omega) ?_ | refine And.intro (Or.inl (And.intro (by omega) (by omega))) ?_ | refine And.intro (Or.inr (And.intro (by omega) (by omega))) ?_ | refine And.intro (And.intro (by omega) (by omega)) ?_ | refine And.intro (And.intro (by decide) (And.intro (by decide) (by decide))) ?_ | refine Or.inl (Exists.intro _ (And.intro rfl ?_)) | refine Exists.intro _ (Exists.intro _ (And.intro rfl ?_)) | (dsimp only [gName]; first | with_reducible refine seqC ?_ | with_reducible refine asgC ?_))))
section
variable {P : Program} {w : World} {K : PySem.W.Frag} {mg : Str → Option Value} {base : Heap}
/-- what a call with this form as its result is due to tell -/
def judg (r : PyData) : PyData := if wt r ≤ 2000 ∧ r.depth ≤ 6 then .tuple [.str "form", r] else .tuple [.str "TooLarge", .int (wt r : Nat), .int (r.depth : Nat)]
theorem judg_in {r : PyData} (h : wt r ≤ 2000 ∧ r.depth ≤ 6) : judg r = .tuple [.str "form", r] := if_pos h
theorem judg_out {r : PyData} (h : ¬ (wt r ≤ 2000 ∧ r.depth ≤ 6)) : judg r = .tuple [.str "TooLarge", .int (wt r : Nat), .int (r.depth : Nat)] := if_neg h
theorem im_judg {r : PyData} (f : Fm r) : Im (judg r) := by
  unfold judg
  split
  · simp only [im_tuple, imAll_cons]
    exact ⟨im_str _, im_fm f, imAll_nil⟩
  · simp only [im_tuple, imAll_cons]
    exact ⟨im_str _, im_int _, im_int _, imAll_nil⟩
theorem rp_judg {r : PyData} (f : Fm r) (hw : wt r ≤ 12000000) (hd : r.depth ≤ 60) : Rp (judg r) 60000 10 := by
  unfold judg
  split
  · rename_i h
    have h1 : Rp (.str "form") 20 6 := (Rp.str (by decide +kernel)).mono (Nat.le_refl _) (by decide)
    have h2 := (rp_form f).mono (n' := 50000) (k' := 6) (by omega) h.2
    exact (Rp.tup (RpAll.cons h1 (RpAll.cons h2 (RpAll.nil.mono (Nat.le_refl _) (by decide))))).mono (by omega) (by omega)
  · have h1 : Rp (.str "TooLarge") 20 0 := Rp.str (by decide +kernel)
    have h2 : Rp (.int (wt r : Nat)) 21 0 := Rp.int (by omega)
    have h3 : Rp (.int (r.depth : Nat)) 21 0 := Rp.int (by omega)
    exact (Rp.tup (RpAll.cons h1 (RpAll.cons h2 (RpAll.cons h3 RpAll.nil)))).mono (by omega) (by omega)
def sp_judged (K : PySem.W.Frag) (n : Nat) : Sp := fun vs H Q _ => ∃ (x : V) (d : PyData), vs = [x] ∧ Dp K H x d ∧ Fm d ∧ d.depth ≤ n ∧ wt d ≤ 12000000 ∧ ∀ v H', Dp K H' v (judg d) → Same H H' → Q v H'
theorem ok__law_judged (T : Top K mg) (n : Nat) : FnOk P w K mg base CX0 (n + 2) T.f__law_judged T.fd__law_judged ["_law_form_here"]  (sp_judged K n) := by
  have G__law_size : FnOk P w K mg base CX0 (n + 1) T.f__law_size T.fd__law_size ["_law_form_here"]  (sp_size K n) := ok__law_size T n
  have G__law_height : FnOk P w K mg base CX0 (n + 1) T.f__law_height T.fd__law_height ["_law_form_here"]  (sp_height K n) := ok__law_height T n
  refine T.F__law_judged.ok sc__law_judged (fun vs H Q E h => ?_) (fun cdv A outer s H vs Q E hr h => ?_)
  · obtain ⟨x, d, rfl, _⟩ := h
    rfl
  · obtain ⟨x, d, rfl, hx, hd, hdd, hw, q⟩ := h
    refine ⟨_, (pss_cons (ps_par (i := 1) (j := 2) rfl sc__law_judged.nd rfl rfl (by decide) rfl rfl (pa_cons (pe_call G__law_size (hr.mono (by omega)) (by rfl) T.g__law_size T.F__law_size.kp T.b__law_size .nil pass0 (pa_cons (pv 0) pa_nil)) (pa_cons (pe_call G__law_height (hr.mono (by omega)) (by rfl) T.g__law_height T.F__law_height.kp T.b__law_height .nil pass0 (pa_cons (pv 0) pa_nil)) pa_nil)) rfl)
    (pss_one (ps_ret (pe_ifExp (PW.pt (pw_or (pt_cmpR op_gt (pv 1) pe_int (nomark _)) (pw_or1 (pt_cmpR op_gt (pv 2) pe_int (nomark _))))) (pe_tup (pa_cons pe_str (pa_cons (pv 1) (pa_cons (pv 2) pa_nil)))) (pe_tup (pa_cons pe_str (pa_cons (pv 0) pa_nil))))))), ?_⟩
    refine ⟨_, rfl, x, d, rfl, hx, hd, hdd, hw, fun H1 sm1 => ?_⟩
    refine ⟨_, rfl, x, d, rfl, dp_tk (tk_same sm1) hd hx, hd, hdd, hw, fun H2 sm2 => ?_⟩
    have sm12 := sm1.trans sm2
    refine ⟨_, _, rfl, ?_⟩
    have bad : ¬ (wt d ≤ 2000 ∧ d.depth ≤ 6) → ∀ t, H2 t = none → Q (.ref t) (upd H2 t (.tup [.str "TooLarge", .int (wt d : Nat), .int (d.depth : Nat)])) := fun hn t nt =>
      q _ _ (by rw [judg_out hn]; exact .tup (.inl (.inl upd_same)) (.cons (.str _) (.cons (.int _) (.cons (.int _) .nil)))) (sm12.trans (sm_upd nt))
    walk_at "r"
    refine ifOrQ (6 < ((d.depth : Nat) : Int)) (fun hb => ?_) (fun h1 hX => ?_)
    · walk_at "r"
      exact ⟨len_le (by show 3 ≤ _; decide), fun t nt => bad (by omega) t nt⟩
    · walk_at "r"
      refine ifD (fun h2 => ?_) (fun h2 => ?_)
      · exact hX (.inr h2)
      · walk_at "r"
        exact ⟨len_le (by show 2 ≤ _; decide), fun t nt => q _ _ (by rw [judg_in (by omega)]; exact .tup (.inl (.inl upd_same)) (.cons (.str _) (.cons (dp_tk (tk_same (sm12.trans (sm_upd nt))) hd hx) .nil))) (sm12.trans (sm_upd nt))⟩
def sp_due (K : PySem.W.Frag) : Sp := fun vs H Q _ => ∃ (l lf : Addr) (us ws : List V) (ts : List (Int × Int)) (fs : List PyData) (m B : Nat), vs = [.ref l, .ref lf] ∧ H l = some (.lst us) ∧ DpAll K H us (ts.map tD) ∧ (∀ t ∈ ts, Dw m B 8 t.1) ∧ 1 ≤ m ∧ m ≤ 4 ∧ B ≤ 2 ^ 80 ∧ AbT ts ≤ 400 ∧ ts.length < 64 ∧
  H lf = some (.lst (ws.take m)) ∧ Fields fs ∧ DpAll K H ws fs ∧ ∀ v d H', Fm d → val d = tsum fs ts → wt d ≤ 12000000 → d.depth ≤ 5 → Dp K H' v (judg d) → Same H H' → Q v H'
/-! ### what stays where tables grow -/
theorem tk_ext {H H' : Hp} (e : LamX.ExtN H H') : Tk H H' := fun a o h _ n => e a o h n
theorem ext_lst {H H' : Hp} {a : Addr} {xs : List V} (e : LamX.ExtN H H') (h : H a = some (.lst xs)) : H' a = some (.lst xs) := e _ _ h fun ps z => nomatch z
theorem Tape.ext {H H' : Hp} {τ : Tp} {n : Nat} (h : Tape H τ n) (e : LamX.ExtN H H') : Tape H' τ n := by
  obtain ⟨i, r, h1, h2, h3⟩ := h
  exact ⟨i, r, e _ _ h1 (fun ps z => nomatch z), ext_lst e h2, h3⟩
theorem Tape.tabs {T : List (Addr × Str)} {H H' : Hp} {τ : Tp} {n : Nat} (h : Tape H τ n) (t : LamX.Tabs T H) (e : But τ.p H H') : LamX.Tabs T H' := by
  obtain ⟨kvs, hk⟩ := h.dict
  exact tabs_but t hk e
/-! ### what a call tells -/
def toldQ (Q : VK) : VK := fun v H1 => ∀ t, H1 t = none → Q (.ref t) (upd H1 t (.tup [.str "form", v]))
def toldE (K : PySem.W.Frag) (C : Addr) (Q : VK) (E : XK) : XK := fun cls dd H1 =>
  (cls = .ref C ∧ ∃ (d : Addr) (p l : V), dd = some d ∧ H1 d = some (.xd [("levels", l), ("parts", p)]) ∧ ∀ t, H1 t = none → Q (.ref t) (upd H1 t (.tup [.str "TooLarge", p, l]))) ∨
  (PySem.W.exmOne K cls (.ref C) = some false ∧ E cls dd H1)
def TTtold (K : PySem.W.Frag) (C : Addr) : TTC := fun tl H Q E => tl (toldE K C Q E) H (toldQ Q)
theorem Outs.told {C : Addr} {F : PyData → Prop} {H : Hp} {Q : VK} {E : XK} (h : ∀ v r H', Fm r → F r → wt r ≤ 12000000 → r.depth ≤ 60 → Dp K H' v (judg r) → Same H H' → Q v H') : Outs K C F H (toldQ Q) (toldE K C Q E) := by
  refine ⟨fun v r H' f1 f2 w1 w2 D sm t nt => ?_, fun r dd H' f1 f2 nb w1 w2 nd sm e => .inl ⟨rfl, dd, _, _, rfl, e, fun t nt => ?_⟩⟩
  · exact h _ r _ f1 f2 (by omega) (by omega) (by rw [judg_in ⟨w1, w2⟩]; exact .tup (.inl (.inl upd_same)) (.cons (.str _) (.cons (dp_tk (tk_same (sm_upd nt)) f1 D) .nil))) (sm.trans (sm_upd nt))
  · exact h _ r _ f1 f2 w1 w2 (by rw [judg_out nb]; exact .tup (.inl (.inl upd_same)) (.cons (.str _) (.cons (.int _) (.cons (.int _) .nil)))) (sm.trans (sm_upd nt))
theorem ok__law_told (T : Top K mg) (kc : Nat) : FnC P w K mg base (kc + 2) kc T.f__law_told T.fd__law_told "_law_call" (TTtold K T.C_TooLarge) := by
  refine funC T.F__law_told sc__law_told (fun cdv A outer s H f c' q tl Q E hr C hc h => ?_)
  replace C := C.up
  refine ⟨_, (pss_cons (ps_try_as (i := 2) rfl rfl sc__law_told.nd rfl rfl ⟨rfl, by decide, .inl T.E_TooLarge.g⟩ (takes_of rfl rfl rfl rfl) (fun W pn xe tk _ => (pss_one (ps_set (i := 1) sc__law_told.nd rfl (Or.inl rfl) (pe_tup (pa_cons pe_str (pa_cons (pe_clo (i := 0) C rfl (hr.mono (by omega)) (fun σ => passAt tk σ) rfl (.inl rfl)) pa_nil))))))
      (fun a oe cls d pn hz hf => (pss_one (ps_set (i := 1) sc__law_told.nd rfl (Or.inl rfl) (pe_tup (pa_cons pe_str (pa_cons (pe_xf T.E_TooLarge.xf (T.E_TooLarge.noF "parts" (by simp)) hz hf (pv 2)) (pa_cons (pe_xf T.E_TooLarge.xf (T.E_TooLarge.noF "levels" (by simp)) hz hf (pv 2)) pa_nil))))))))
    (pss_one (ps_ret (pv 1)))), ?_⟩
  refine ⟨rfl, hc, toldE K T.C_TooLarge Q E, toldQ Q, fun cls dd H1 he => ?_, fun v H1 hv => ?_, h⟩
  · rcases he with ⟨rfl, d, p, l, rfl, e1, hq⟩ | ⟨hx, he⟩
    · refine ⟨true, T.E_TooLarge.te, fun _ a ha => ?_, fun z => Bool.noConfusion z⟩
      refine ⟨_, rfl, rfl, rfl, d, _, p, rfl, e1, rfl, ?_⟩
      refine ⟨_, rfl, rfl, rfl, d, _, l, rfl, e1, rfl, ?_⟩
      refine ⟨len_le (by show 3 ≤ _; decide), fun t nt => ?_⟩
      exact ⟨_, rfl, hq t nt⟩
    · exact ⟨false, hx, fun z => Bool.noConfusion z, fun _ => he⟩
  · exact ⟨len_le (by show 2 ≤ _; decide), fun t nt => ⟨_, rfl, hv t nt⟩⟩
end
end K13
set_option Elab.async false
set_option linter.all false
set_option maxRecDepth 100000
set_option pp.deepTerms false
set_option pp.maxSteps 1500
/-! sums of terms whose codes have up to 24 far turns (printed from FA12 and FA14) -/
namespace K13
open PySem PySem.Spec PyProof.Rows L2 HX TV FM DX FB FC FD MS PM
local macro_rules | `(tactic| walk_at "r") => `(tactic| (repeat (first | refine Exists.intro _ (And.intro rfl ?_) | refine And.intro rfl ?_ | refine Exists.intro _ (Exists.intro _ (And.intro rfl (And.intro rfl ?_))) | refine And.intro (by omega) ?_ | refine And.intro (Or.inl (And.intro (by omega) (by omega))) ?_ | refine And.intro (Or.inr (And.intro (by omega) (by omega))) ?_ | refine And.intro (And.intro (by omega) (by omega)) ?_ | refine And.intro (And.intro (by decide) (And.intro (by decide) (by decide))) ?_ | refine Or.inl (Exists.intro _ (And.intro rfl ?_)) | (dsimp only [gName]; first | with_reducible refine seqC ?_ | with_reducible refine asgC ?_))))
local macro_rules | `(tactic| walk_at "s") => `(tactic| (repeat (first | refine Exists.intro _ (And.intro rfl ?_) | refine And.intro rfl ?_ | refine Exists.intro _ (Exists.intro _ (And.intro rfl (And.intro rfl ?_))) | refine And.intro (by omega) ?_ | refine And.intro (Or.inl (And.intro (by omega) (by omega))) ?_ | refine And.intro (Or.inr (And.intro (by omega) (by omega))) ?_ | refine And.intro (And.intro (by omega) (by omega)) ?_ | refine And.intro (And.intro (by decide) (And.intro (by decide) (by decide))) ?_ | refine Or.inl (Exists.intro _ (And.intro rfl ?_)) | refine Exists.intro _ (Exists.intro _ (And.intro rfl ?_)) | (dsimp only [gName]; first | with_reducible refine seqC ?_ | with_reducible refine asgC ?_))))
section
variable {P : Program} {w : World} {K : PySem.W.Frag} {mg : Str → Option Value} {base : Heap}
def sp_summedW (K : PySem.W.Frag) : Sp := fun vs H Q _ => ∃ (l : Addr) (us : List V) (ts : List (Int × Int)) (m B : Nat), vs = [.ref l] ∧ H l = some (.lst us) ∧ DpAll K H us (ts.map tD) ∧ (∀ t ∈ ts, Dw m B 24 t.1) ∧ 1 ≤ m ∧ m ≤ 4 ∧ B ≤ 2 ^ 80 ∧ AbT ts ≤ 10000 ∧ ts.length < 64 ∧
  ∀ (lr : Addr) (ds : List Int) H', ds.Pairwise (· < ·) → (∀ d ∈ ds, Dw m (B + 122) 24 d) → ds.length ≤ 2 * AbT ts → (∀ fs, Fields fs → tv (Phis fs ds) = tsum fs ts) → H lr = none → H' lr = some (.lst (iv ds)) → Same H H' → Q (.ref lr) H'
theorem ok__law_summedW (T : Top K mg) {k : Nat} : FnOk P w K mg base CX0 (k + 2) T.f__law_summed T.fd__law_summed ["_law_terms_here"]  (sp_summedW K) := by
  have G__law_turns : FnOk P w K mg base CX0 (k + 1) T.f__law_turns T.fd__law_turns ["_law_number_here"]  (sp_turns K) := ok__law_turns T
  refine T.F__law_summed.ok sc__law_summed (fun vs H Q E h => ?_) (fun cdv A outer s H vs Q E hr h => ?_)
  · obtain ⟨l, us, ts, m, B, rfl, _⟩ := h
    rfl
  · obtain ⟨l, us, ts, m, B, rfl, hl, hD, hc, hm, hm4, hB, hAb, hlen, q⟩ := h
    have hul := dpAll_len hD
    rw [List.length_map] at hul
    refine ⟨_, (pss_cons (ps_asg (pe_tup (pa_cons (pe_callB cr_sorted (by rfl) T.m_sorted (by decide +kernel) (pa_cons (pe_lc (own := [("_law_code_here", 4), ("_law_times", 5)]) (g := gTup K 2 (gCons (gName 4) (gCons (gName 5) gNil))) (by rfl) sc__law_summed.nd (pi_list (pv 0)) (blkOk_by (own := [("_law_code_here", 4), ("_law_times", 5)]) (N := ["_law_terms_here", "_law_codes_here", "_law_spots", "_law_places", "_law_code_here", "_law_times", "_law_at", "_law_gap", "_law_total", "_law_found", "_law_turn"]) (sc := defScope s__law_summed) (by decide +kernel)) (fun _ _ _ _ _ => (pg_tup rfl (pgs_cons (pg_name (i := 4) sc__law_summed.nd rfl (Or.inl rfl)) (pgs_cons (pg_name (i := 5) sc__law_summed.nd rfl (Or.inl rfl)) pgs_nil)))) (fun _ _ _ _ _ => pts_nil) (fun _ _ _ _ _ => (pe_callTy (T := "int") call_int1 (by rfl) T.m_int (by decide +kernel) (pa_cons (pv 4) pa_nil)))) pa_nil)) (pa_cons pe_dnewK (pa_cons (pe_lst pa_nil) pa_nil)))) (pg_tup rfl (pgs_cons (pg_name (i := 1) sc__law_summed.nd rfl (Or.inl rfl)) (pgs_cons (pg_name (i := 2) sc__law_summed.nd rfl (Or.inr rfl)) (pgs_cons (pg_name (i := 3) sc__law_summed.nd rfl (Or.inl rfl)) pgs_nil)))))
    (pss_cons (ps_for PassesOwn.never rfl (pi_range1 (by rfl) T.m_range (pa_cons (pe_callB call_len_seq (by rfl) T.m_len PySem.boot_len (pa_cons (pv 1) pa_nil)) pa_nil)) (pg_name (i := 6) sc__law_summed.nd rfl (Or.inl rfl))
      (pss_cons (ps_if (pt_cmpR op_gt (pv 6) pe_int (nomark _))
        (pss_cons (ps_set (i := 7) sc__law_summed.nd rfl (Or.inl rfl) (pe_op op_sub (pe_ix ix_list (pv 1) (pv 6) (fun _ _ => rfl)) (pe_ix ix_list (pv 1) (pe_op op_sub (pv 6) pe_int) (fun _ _ => rfl))))
        (pss_one (ps_expr (pe_bm PySem.F.plainAttrs_list PySem.F.slot_list_append PySem.F.type_list_append mt_append (pv 3) (pa_cons (pe_op op_add (pe_ix ix_list (pv 3) (pe_un un_neg pe_int) (fun _ _ => rfl)) (pe_callB (call_min2 rfl) (by rfl) T.m_min (by decide +kernel) (pa_cons (pv 7) (pa_cons pe_int pa_nil)))) pa_nil)))))
        (pss_one (ps_expr (pe_bm PySem.F.plainAttrs_list PySem.F.slot_list_append PySem.F.type_list_append mt_append (pv 3) (pa_cons pe_int pa_nil)))))
      (pss_one (ps_dput (hu_of hr) (pv 2) (pe_ix ix_list (pv 1) (pv 6) (fun _ _ => rfl)) (pe_ix ix_list (pv 3) (pv 6) (fun _ _ => rfl)) rfl))))
    (pss_cons (ps_set (i := 8) sc__law_summed.nd rfl (Or.inl rfl) (pe_callB (cr_sum rfl) (by rfl) T.m_sum (by decide +kernel) (pa_cons (pe_lc (own := [("_law_code_here", 4), ("_law_times", 5)]) (g := gTup K 2 (gCons (gName 4) (gCons (gName 5) gNil))) (by rfl) sc__law_summed.nd (pi_list (pv 0)) (blkOk_by (own := [("_law_code_here", 4), ("_law_times", 5)]) (N := ["_law_terms_here", "_law_codes_here", "_law_spots", "_law_places", "_law_code_here", "_law_times", "_law_at", "_law_gap", "_law_total", "_law_found", "_law_turn"]) (sc := defScope s__law_summed) (by decide +kernel)) (fun _ _ _ _ _ => (pg_tup rfl (pgs_cons (pg_name (i := 4) sc__law_summed.nd rfl (Or.inl rfl)) (pgs_cons (pg_name (i := 5) sc__law_summed.nd rfl (Or.inl rfl)) pgs_nil)))) (fun _ _ _ _ _ => pts_nil) (fun _ _ _ _ _ => (pe_op op_mul (pv 5) (pe_op op_shl pe_int (pe_dget (hu_of hr) (pv 2) (pv 4) (fun _ _ => rfl)))))) pa_nil)))
    (pss_cons (ps_par (i := 9) (j := 6) rfl sc__law_summed.nd rfl rfl (by decide) rfl rfl (pa_cons (pe_lst pa_nil) (pa_cons pe_int pa_nil)) rfl)
    (pss_cons (ps_for PassesOwn.never rfl (pi_list (pe_call G__law_turns (hr.mono (by omega)) (by rfl) T.g__law_turns T.F__law_turns.kp T.b__law_turns .nil pass0 (pa_cons (pv 8) pa_nil))) (pg_name (i := 10) sc__law_summed.nd rfl (Or.inl rfl))
      (pss_cons (ps_while PassesOwn.never (PW.pt (pw_and (pt_cmpR op_lt (pe_op op_add (pv 6) pe_int) (pe_callB call_len_seq (by rfl) T.m_len PySem.boot_len (pa_cons (pv 3) pa_nil)) (nomark _)) (pw_and1 (pt_cmpR op_le (pe_ix ix_list (pv 3) (pe_op op_add (pv 6) pe_int) (fun _ _ => rfl)) (pv 10) (nomark _)))))
        (pss_one (ps_set (i := 6) sc__law_summed.nd rfl (Or.inl rfl) (pe_op op_add (pv 6) pe_int))))
      (pss_one (ps_expr (pe_bm PySem.F.plainAttrs_list PySem.F.slot_list_append PySem.F.type_list_append mt_append (pv 9) (pa_cons (pe_op op_sub (pe_op op_add (pe_ix ix_list (pv 1) (pv 6) (fun _ _ => rfl)) (pv 10)) (pe_ix ix_list (pv 3) (pv 6) (fun _ _ => rfl))) pa_nil))))))
    (pss_one (ps_ret (pv 9)))))))), ?_⟩
    refine ⟨_, rfl, l, rfl, ⟨_, .inl (.inl hl)⟩, fun D nD => lc_list (xs := us) (fun i H' => Same H H' ∧ H' D = some (.lst (iv ((ts.take i).map (·.1))))) ⟨sm_upd nD, by rw [upd_same]; rfl⟩ ?_ ?_ ?_⟩
    · rintro i H' _ ⟨sm, _⟩
      exact .inl (.inl (sm _ _ hl))
    · rintro i x H' hx ⟨sm, eD⟩
      obtain ⟨t, a, ht, rfl, hS⟩ := terms_get hD hx
      have hi := (List.getElem?_eq_some_iff.mp ht).1
      refine ⟨a, _, rfl, HX.Same.tup sm hS, rfl, _, _, rfl, _, _, rfl, rfl, ?_⟩
      refine ⟨rfl, ?_⟩
      walk_at "r"
      refine ⟨_, eD, ?_, sm_mut sm nD, ?_⟩
      · rw [iv_len, List.length_map, List.length_take]
        exact len_lt (by omega)
      · rw [upd_same, List.take_add_one, ht, iv_app]
        simp
    · rintro H1 ⟨sm1, eD⟩
      rw [hul, List.take_length] at eD
      refine ⟨D, _, rfl, .inl (.inl eD), by simpa using hlen, fun cs lc hperm hs nlc => ?_⟩
      have s2 := sm_upd (o := .lst (cs.map V.int)) nlc
      have hlc : upd H1 lc (.lst (cs.map V.int)) lc = some (.lst (iv cs)) := upd_same
      refine fun sp nsp => ?_
      have s3 := sm_upd (o := .dK []) nsp
      refine ⟨Nat.zero_le _, fun pl npl => ?_⟩
      have s4 := sm_upd (o := .lst []) npl
      refine ⟨len_le (by show 3 ≤ _; decide), fun tp ntp => ?_⟩
      have s5 := sm_upd (o := .tup [V.ref lc, .ref sp, .ref pl]) ntp
      refine ⟨tp, _, rfl, .inl (.inl upd_same), rfl, _, _, rfl, _, _, rfl, _, _, rfl, rfl, ?_⟩
      have hlc5 := s5 _ _ (s4 _ _ (s3 _ _ hlc))
      have hsp5 := s5 _ _ (s4 _ _ (upd_same (H := upd H1 lc (.lst (cs.map V.int))) (a := sp) (o := .dK [])))
      have hpl5 := s5 _ _ (upd_same (H := upd (upd H1 lc (.lst (cs.map V.int))) sp (.dK [])) (a := pl) (o := .lst []))
      have s05 := (((sm1.trans s2).trans s3).trans s4).trans s5
      have nlcsp : lc ≠ sp := ne_of_none hlc nsp
      have nlcpl : lc ≠ pl := ne_of_none (s3 _ _ hlc) npl
      have nsppl : sp ≠ pl := ne_of_none (upd_same (H := upd H1 lc (.lst (cs.map V.int))) (a := sp) (o := .dK [])) npl
      have nsp0 : H sp = none := by
        cases e : H sp with
        | none => rfl
        | some u => rw [s2 _ _ (sm1 _ _ e)] at nsp; cases nsp
      have npl0 : H pl = none := by
        cases e : H pl with
        | none => rfl
        | some u => rw [s3 _ _ (s2 _ _ (sm1 _ _ e))] at npl; cases npl
      revert hlc5 hsp5 hpl5 s05
      generalize upd (upd (upd (upd H1 lc _) sp _) pl _) tp _ = H5
      intro hlc5 hsp5 hpl5 s05
      have hcl : cs.length = ts.length := by rw [hperm.length_eq, List.length_map]
      have sm_of : ∀ {H'}, But2 sp pl H5 H' → Same H H' := fun {H'} b a o e => b a o (ne_of_none e nsp0) (ne_of_none e npl0) (s05 _ _ e)
      dsimp only
      with_reducible refine cut (fun σ H' => ∃ (z6 z7 : Option V) (kvs : List (Key × V)), σ = [some (.ref l), some (.ref lc), some (.ref sp), some (.ref pl), none, none, z6, z7, none, none, none] ∧ H' pl = some (.lst (nv (qL cs cs.length))) ∧ H' sp = some (.dK kvs) ∧ (∀ j, j < cs.length → valV kvs (.inl (cd cs j) : Key) = some (.int (qN cs j : Nat))) ∧ But2 sp pl H5 H') (fun D1 J1 => ?_) ?_
      · refine ⟨_, rfl, lc, _, rfl, .inl (.inl (.inl hlc5)), ?_⟩
        rw [iv_len]
        walk_at "r"
        refine flR (fun i σ H' => ∃ (z6 z7 : Option V) (kvs : List (Key × V)), σ = [some (.ref l), some (.ref lc), some (.ref sp), some (.ref pl), none, none, z6, z7, none, none, none] ∧ H' pl = some (.lst (nv (qL cs i))) ∧ H' sp = some (.dK kvs) ∧ kvs.length ≤ i ∧ (∀ j, j < i → valV kvs (.inl (cd cs j) : Key) = some (.int (qN cs j : Nat))) ∧ But2 sp pl H5 H')
          ⟨none, none, [], rfl, hpl5, hsp5, Nat.le_refl _, fun j hj => by omega, But2.refl _⟩ ?_ ?_
        · rintro i σ H6 hi ⟨z6, z7, kvs, rfl, hpl6, hsp6, hkl, hkv, b6⟩ D' B'
          have hi' : i < cs.length := by omega
          have hlc6 := b6 _ _ nlcsp nlcpl hlc5
          dsimp only [gName]
          with_reducible refine cut (fun σ' H7 => ∃ z7 : Option V, σ' = [some (.ref l), some (.ref lc), some (.ref sp), some (.ref pl), none, none, some (.int (0 + (i : Nat))), z7, none, none, none] ∧ H7 pl = some (.lst (nv (qL cs (i + 1)))) ∧ H7 sp = some (.dK kvs) ∧ But2 sp pl H5 H7) (fun D2 J2 => ?_) ?_
          · walk_at "r"
            have hlen6 : (nv (qL cs i)).length < sizeLine := by
              rw [nv_len, qL_len]
              exact len_lt (by omega)
            refine ifD (fun h0 => ?_) (fun h0 => ?_)
            · walk_at "r"
              refine ⟨lc, _, _, _, rfl, rfl, .inl (.inl hlc6), at_of (j := i) (by omega) (iv_at hi'), ?_⟩
              walk_at "r"
              refine ⟨lc, _, _, _, rfl, rfl, .inl (.inl hlc6), at_of (j := i - 1) (by omega) (iv_at (by omega)), ?_⟩
              walk_at "r"
              refine ⟨.inl ⟨rfl, _, .inl (.inl hpl6)⟩, ?_⟩
              walk_at "r"
              refine ⟨pl, _, _, _, rfl, rfl, .inl (.inl hpl6), atI_neg1 (by rw [nv_len, qL_len]; exact qL_get cs (by omega)), ?_⟩
              walk_at "r"
              refine ⟨_, _, rfl, ?_⟩
              walk_at "r"
              refine ⟨pl, _, _, rfl, rfl, hpl6, hlen6, J2.nx _ _ ⟨_, rfl, ?_, (upd_ne nsppl).trans hsp6, b6.right⟩⟩
              rw [upd_same, qL_succ, nv_app]
              obtain ⟨r, rfl⟩ : ∃ r, i = r + 1 := ⟨i - 1, by omega⟩
              rw [Nat.add_sub_cancel]
              have hle := cd_le hs (show r ≤ r + 1 by omega) hi'
              have e : ((qN cs r : Nat) : Int) + (if (120 : Int) < cd cs (r + 1) - cd cs r then 120 else cd cs (r + 1) - cd cs r) = ((qN cs (r + 1) : Nat) : Int) := by
                show _ = ((qN cs r + (min (cd cs (r + 1) - cd cs r) 120).toNat : Nat) : Int)
                split <;> omega
              rw [← e]
            · walk_at "r"
              refine ⟨.inl ⟨rfl, _, .inl (.inl hpl6)⟩, ?_⟩
              walk_at "r"
              refine ⟨pl, _, _, rfl, rfl, hpl6, hlen6, J2.nx _ _ ⟨_, rfl, ?_, (upd_ne nsppl).trans hsp6, b6.right⟩⟩
              rw [upd_same, qL_succ, nv_app, show i = 0 by omega]
              rfl
          · rintro σ' H7 ⟨z7, rfl, hpl7, hsp7, b7⟩
            have hlc7 := b7 _ _ nlcsp nlcpl hlc5
            walk_at "r"
            refine ⟨pl, _, _, _, rfl, rfl, .inl (.inl hpl7), at_of (j := i) (by omega) (qL_get cs (by omega)), ?_⟩
            walk_at "r"
            refine ⟨lc, _, _, _, rfl, rfl, .inl (.inl hlc7), at_of (j := i) (by omega) (iv_at hi'), ?_⟩
            refine ⟨sp, _, rfl, DPut.k (k := (.inl (cd cs i) : Key)) hsp7 (len_lt (by omega)), ?_⟩
            refine B'.nx _ _ ⟨_, _, putK kvs (.inl (cd cs i) : Key) (.int (qN cs i : Nat)), rfl, (upd_ne (Ne.symm nsppl)).trans hpl7, upd_same, Nat.le_trans (length_putK _ _ _) (by omega), fun j hj => ?_, b7.left⟩
            rw [valV_put]
            by_cases e : cd cs j = cd cs i
            · rw [if_pos (by rw [e]), qN_eq hs (show j ≤ i by omega) hi' e]
            · rw [if_neg fun z => e (Sum.inl.inj z)]
              refine hkv j ?_
              apply Classical.byContradiction
              intro hc
              exact e (by rw [show j = i by omega])
        · rintro σ H6 ⟨z6, z7, kvs, rfl, hpl6, hsp6, hkl, hkv, b6⟩
          have e : (((cs.length : Nat) : Int)).toNat = cs.length := by omega
          rw [e] at hpl6 hkv
          exact J1.nx _ _ ⟨z6, z7, kvs, rfl, hpl6, hsp6, hkv, b6⟩
      · rintro σ H6 ⟨z6, z7, kvs, rfl, hpl6, hsp6, hkv, b6⟩
        have sm6 := sm_of b6
        have hlc6 := b6 _ _ nlcsp nlcpl hlc5
        have hl6 := sm6 _ _ hl
        have hD6 := dpAll_im (tk_same sm6) (im_terms ts) hD
        have hmem : ∀ t ∈ ts, t.1 ∈ cs := fun t ht => hperm.mem_iff.mpr (List.mem_map.mpr ⟨t, ht, rfl⟩)
        refine ⟨_, rfl, l, rfl, ⟨_, .inl (.inl hl6)⟩, fun D7 nD7 => lc_list (xs := us) (fun i H' => Same H6 H' ∧ H' D7 = some (.lst (iv ((ts.take i).map fun t => t.2 * 2 ^ qN cs (cs.idxOf t.1))))) ⟨sm_upd nD7, by rw [upd_same]; rfl⟩ ?_ ?_ ?_⟩
        · rintro i H' _ ⟨sm, _⟩
          exact .inl (.inl (sm _ _ hl6))
        · rintro i x H' hx ⟨sm, eD⟩
          obtain ⟨t, a, ht, rfl, hS⟩ := terms_get hD6 hx
          have hi := (List.getElem?_eq_some_iff.mp ht).1
          obtain ⟨hx1, hx2⟩ := cd_ix (hmem t (List.mem_of_getElem? ht))
          have hk := hkv _ hx1
          rw [hx2] at hk
          have hg : DGet H' sp (.int t.1) (some (.int (qN cs (cs.idxOf t.1) : Nat))) := by
            have := DGet.k (k := (.inl t.1 : Key)) (sm _ _ hsp6)
            rw [hk] at this
            exact this
          have hq := qN_le cs (cs.idxOf t.1)
          have ha := AbT_mem (List.mem_of_getElem? ht)
          refine ⟨a, _, rfl, HX.Same.tup sm hS, rfl, _, _, rfl, _, _, rfl, rfl, ?_⟩
          refine ⟨rfl, ?_⟩
          walk_at "r"
          refine ⟨sp, _, rfl, hg, ?_⟩
          walk_at "r"
          refine ⟨_, eD, ?_, sm_mut sm nD7, ?_⟩
          · rw [iv_len, List.length_map, List.length_take]
            exact len_lt (by omega)
          · rw [upd_same, List.take_add_one, ht, iv_app]
            simp
        · rintro H7 ⟨sm7, eD⟩
          rw [hul, List.take_length] at eD
          refine ⟨D7, _, rfl, .inl (.inl eD), ?_⟩
          have etot := Sm_ix cs ts (qN cs)
          rw [← etot]
          dsimp only [gName]
          refine ⟨Nat.zero_le _, fun fo nfo => ⟨_, _, rfl, ?_⟩⟩
          have s8 := sm_upd (o := .lst []) nfo
          have hpl8 := s8 _ _ (sm7 _ _ hpl6)
          have hlc8 := s8 _ _ (sm7 _ _ hlc6)
          have sm08 := (sm6.trans sm7).trans s8
          have hfo8 : upd H7 fo (.lst []) fo = some (.lst (iv [])) := upd_same
          have nplfo : pl ≠ fo := ne_of_none (sm7 _ _ hpl6) nfo
          have nlcfo : lc ≠ fo := ne_of_none (sm7 _ _ hlc6) nfo
          have nfo0 : H fo = none := by
            cases e : H fo with
            | none => rfl
            | some u => rw [sm7 _ _ (sm6 _ _ e)] at nfo; cases nfo
          revert hpl8 hlc8 sm08 hfo8
          generalize upd H7 fo _ = H8
          intro hpl8 hlc8 sm08 hfo8
          have hqb : ∀ i, i < cs.length → qN cs i ≤ 7680 := fun i hi => by
            have := qN_le cs i
            omega
          have hrg : ∀ t ∈ turnsOf (Sm (ixT cs ts) (qN cs)), t ≤ 7680 + 100 + 1 := by
            have h1 := Sm_abs (π := qN cs) (b := 7680) (T := ixT cs ts) fun u hu => by
              obtain ⟨t, ht, rfl⟩ := List.mem_map.mp hu
              exact hqb _ (cd_ix (hmem t ht)).1
            refine turns_lt (Nat.le_trans h1 (Nat.mul_le_mul_right _ ?_))
            rw [Ab_ix]
            exact Nat.le_trans hAb (by decide)
          have hrg2 := (tv_range (turnsOf_asc _)).mp hrg
          rw [turnsOf_tv] at hrg2
          have hempty : cs = [] → Sm (ixT cs ts) (qN cs) = 0 := fun e => by
            have : ts = [] := by
              apply List.eq_nil_of_length_eq_zero
              rw [← hcl, e]
              rfl
            rw [this]
            rfl
          generalize hS : Sm (ixT cs ts) (qN cs) = S at *
          dsimp only
          refine ⟨_, rfl, S, 7680 + 100 + 1, rfl, by decide, hrg2.1, hrg2.2, fun tt lt H9 hA htv htk htl sm9 nlt hlt9 => ?_⟩
          have ett : turnsOf S = tt := turnsOf_is hA htv
          have hpl9 := sm9 _ _ hpl8
          have hlc9 := sm9 _ _ hlc8
          have hfo9 := sm9 _ _ hfo8
          have nltfo : lt ≠ fo := fun e => by rw [e, hfo8] at nlt; cases nlt
          have hpos : ∀ t ∈ tt, 0 < cs.length := fun t ht => by
            apply Nat.pos_of_ne_zero
            intro e
            have := hempty (List.eq_nil_of_length_eq_zero e)
            rw [this] at ett
            rw [← ett, show turnsOf 0 = [] from turnsOf_is (ts := []) trivial rfl] at ht
            cases ht
          have hqm := fun i j (h1 : i ≤ j) (h2 : j < cs.length) => qN_mono hs (i := i) j h1 h2
          refine ⟨lt, rfl, ⟨_, .inl (.inl hlt9)⟩, flL (xs := nv tt) (fun i σ H' => ∃ (a : Nat) (z10 : Option V), σ = [some (.ref l), some (.ref lc), some (.ref sp), some (.ref pl), none, none, some (.int (a : Nat)), z7, some (.int S), some (.ref fo), z10] ∧ H' fo = some (.lst (iv ((tt.take i).map fun t => cd cs (atC cs.length (qN cs) t) + (t : Nat) - (qN cs (atC cs.length (qN cs) t) : Nat)))) ∧ (∀ t ∈ tt.drop i, qN cs a ≤ t) ∧ (a < cs.length ∨ a = 0) ∧ (∀ t ∈ tt.take i, At cs.length (qN cs) (atC cs.length (qN cs)) t) ∧ But fo H9 H')
            ⟨0, none, rfl, hfo9, fun t _ => Nat.zero_le _, .inr rfl, by simp, But.refl _⟩ ?_ ?_ ?_⟩
          · rintro i σ H' _ ⟨_, _, _, _, _, _, _, b⟩
            exact .inl (.inl (b _ _ nltfo hlt9))
          · rintro i x σ H10 hx ⟨a, z10, rfl, hfo10, hdr, han, hat, b10⟩ D' B'
            obtain ⟨t, ht, rfl⟩ := nv_get hx
            have hi := (List.getElem?_eq_some_iff.mp ht).1
            have hn := hpos t (List.mem_of_getElem? ht)
            have han' : a < cs.length := by omega
            have hpl10 := b10 _ _ nplfo hpl9
            have hlc10 := b10 _ _ nlcfo hlc9
            have hdt : tt.drop i = t :: tt.drop (i + 1) := by
              obtain ⟨h1, h2⟩ := List.getElem?_eq_some_iff.mp ht
              rw [List.drop_eq_getElem_cons h1, h2]
            have hqt : qN cs a ≤ t := hdr t (by rw [hdt]; simp)
            dsimp only [gName]
            with_reducible refine cut (fun σ' H' => H' = H10 ∧ ∃ a : Nat, σ' = [some (.ref l), some (.ref lc), some (.ref sp), some (.ref pl), none, none, some (.int (a : Nat)), z7, some (.int S), some (.ref fo), some (.int (t : Nat))] ∧ AtR cs.length (qN cs) t a) (fun D2 J2 => ?_) ?_
            · refine ⟨fun m σ H' => H' = H10 ∧ ∃ a : Nat, σ = [some (.ref l), some (.ref lc), some (.ref sp), some (.ref pl), none, none, some (.int (a : Nat)), z7, some (.int S), some (.ref fo), some (.int (t : Nat))] ∧ a + m = cs.length ∧ a < cs.length ∧ qN cs a ≤ t, ⟨cs.length - a, rfl, a, rfl, by omega, han', hqt⟩, ?_⟩
              rintro m σ H' ⟨rfl, a, rfl, ham, hac, hqa⟩
              walk_at "r"
              refine ⟨pl, _, rfl, .inl (.inl (.inl hpl10)), ?_⟩
              rw [nv_len, qL_len]
              walk_at "r"
              refine ifBD (fun hc => ?_) (fun hc => ?_)
              · have hc : (a : Int) + 1 < (cs.length : Nat) := of_decide_eq_true hc
                walk_at "r"
                refine ⟨pl, _, _, _, rfl, rfl, .inl (.inl hpl10), at_of (j := a + 1) (by omega) (qL_get cs (by omega)), ?_⟩
                walk_at "r"
                refine ifD (fun hle => wb fun D3 B3 => ?_) (fun hgt => ?_)
                · walk_at "r"
                  exact B3.nx _ _ ⟨m - 1, by omega, rfl, a + 1, rfl, by omega, by omega, by omega⟩
                · exact J2.nx _ _ ⟨rfl, a, rfl, hac, hqa, .inr (by omega)⟩
              · have hc : ¬ (a : Int) + 1 < (cs.length : Nat) := of_decide_eq_false hc
                refine iteF ?_
                exact J2.nx _ _ ⟨rfl, a, rfl, hac, hqa, .inl (by omega)⟩
            · rintro σ' H' ⟨rfl, a, rfl, hA2⟩
              have eat := atC_eq hqm hA2
              walk_at "r"
              refine ⟨.inl ⟨rfl, _, .inl (.inl hfo10)⟩, ?_⟩
              walk_at "r"
              refine ⟨lc, _, _, _, rfl, rfl, .inl (.inl hlc10), at_of (j := a) rfl (iv_at hA2.1), ?_⟩
              walk_at "r"
              refine ⟨pl, _, _, _, rfl, rfl, .inl (.inl hpl10), at_of (j := a) rfl (qL_get cs hA2.1), ?_⟩
              walk_at "r"
              refine ⟨fo, _, _, rfl, rfl, hfo10, ?_, ?_⟩
              · rw [iv_len, List.length_map, List.length_take]
                exact len_lt (by omega)
              refine B'.nx _ _ ⟨a, _, rfl, ?_, fun u hu => ?_, .inl hA2.1, fun u hu => ?_, b10.upd⟩
              · rw [upd_same, List.take_add_one, ht, iv_app]
                simp [eat]
              · have h1 := hA2.2.1
                have h2 : t < u := by
                  have := asc_pairwise.mp hA
                  rw [← List.take_append_drop i tt, hdt] at this
                  exact (List.pairwise_cons.mp (List.pairwise_append.mp this).2.1).1 u hu
                omega
              · rw [List.take_add_one, ht] at hu
                rcases List.mem_append.mp hu with hu | hu
                · exact hat u hu
                · have : u = t := by simpa using hu
                  rw [this]
                  exact atC_spec hA2
          · rintro σ H' ⟨a, z10, rfl, hfo10, hdr, han, hat, b10⟩
            rw [nv_len, List.take_length] at hfo10 hat
            obtain ⟨r1, r2, r3, r4⟩ := summed (m := m) (B := B) (w := 24) (cs := cs) (ts := ts) (at_ := atC cs.length (qN cs)) hs (fun c h => by
              obtain ⟨t, ht, rfl⟩ := List.mem_map.mp (hperm.mem_iff.mp h)
              exact hc t ht) hm hm4 hB hmem (Nat.le_trans hAb (by decide)) (by rw [hS, ett]; exact hat) rfl
            rw [hS, ett] at r1 r2 r3 r4
            refine ⟨_, rfl, q fo _ H' r1 r2 r3 r4 nfo0 hfo10 ?_⟩
            exact fun b o e => b10 b o (ne_of_none e nfo0) (sm9 _ _ (sm08 _ _ e))
def sp_dueW (K : PySem.W.Frag) : Sp := fun vs H Q _ => ∃ (l lf : Addr) (us ws : List V) (ts : List (Int × Int)) (fs : List PyData) (m B : Nat), vs = [.ref l, .ref lf] ∧ H l = some (.lst us) ∧ DpAll K H us (ts.map tD) ∧ (∀ t ∈ ts, Dw m B 24 t.1) ∧ 1 ≤ m ∧ m ≤ 4 ∧ B ≤ 2 ^ 80 ∧ AbT ts ≤ 400 ∧ ts.length < 64 ∧
  H lf = some (.lst (ws.take m)) ∧ Fields fs ∧ DpAll K H ws fs ∧ ∀ v d H', Fm d → val d = tsum fs ts → wt d ≤ 12000000 → d.depth ≤ 5 → Dp K H' v (judg d) → Same H H' → Q v H'
end
end K13
set_option Elab.async false
set_option linter.all false
set_option maxRecDepth 100000
set_option pp.deepTerms false
set_option pp.maxSteps 1500
/-! sums of many terms whose codes have up to w far turns (turned from FA12w) -/
namespace K13
open PySem PySem.Spec PyProof.Rows L2 HX TV FM DX FB FC FD MS PM
local macro_rules | `(tactic| walk_at "r") => `(tactic| (repeat (first | refine Exists.intro _ (And.intro rfl ?_) | refine And.intro rfl ?_ | refine Exists.intro _ (Exists.intro _ (And.intro rfl (And.intro rfl ?_))) | refine And.intro (by omega) ?_ | refine And.intro (Or.inl (And.intro (by omega) (by omega))) ?_ | refine And.intro (Or.inr (And.intro (by omega) (by omega))) ?_ | refine And.intro (And.intro (by omega) (by omega)) ?_ | refine And.intro (And.intro (by decide) (And.intro (by decide) (by decide))) ?_ | refine Or.inl (Exists.intro _ (And.intro rfl ?_)) | (dsimp only [gName]; first | with_reducible refine seqC ?_ | with_reducible refine asgC ?_))))
local macro_rules | `(tactic| walk_at "s") => `(tactic| (repeat (first | refine Exists.intro _ (And.intro rfl ?_) | refine And.intro rfl ?_ | refine Exists.intro _ (Exists.intro _ (And.intro rfl (And.intro rfl ?_))) | refine And.intro (by omega) ?_ | refine And.intro (Or.inl (And.intro (by omega) (by omega))) ?_ | refine And.intro (Or.inr (And.intro (by omega) (by omega))) ?_ | refine And.intro (And.intro (by omega) (by omega)) ?_ | refine And.intro (And.intro (by decide) (And.intro (by decide) (by decide))) ?_ | refine Or.inl (Exists.intro _ (And.intro rfl ?_)) | refine Exists.intro _ (Exists.intro _ (And.intro rfl ?_)) | (dsimp only [gName]; first | with_reducible refine seqC ?_ | with_reducible refine asgC ?_))))
section
variable {P : Program} {w : World} {K : PySem.W.Frag} {mg : Str → Option Value} {base : Heap}
def sp_summedG (K : PySem.W.Frag) : Sp := fun vs H Q _ => ∃ (l : Addr) (us : List V) (ts : List (Int × Int)) (m B wf : Nat), vs = [.ref l] ∧ H l = some (.lst us) ∧ DpAll K H us (ts.map tD) ∧ (∀ t ∈ ts, Dw m B wf t.1) ∧ 1 ≤ m ∧ m ≤ 4 ∧ B ≤ 2 ^ 80 ∧ AbT ts ≤ 10000 ∧ ts.length ≤ 650 ∧
  ∀ (lr : Addr) (ds : List Int) H', ds.Pairwise (· < ·) → (∀ d ∈ ds, Dw m (B + 122) wf d) → ds.length ≤ 2 * AbT ts → (∀ fs, Fields fs → tv (Phis fs ds) = tsum fs ts) → H lr = none → H' lr = some (.lst (iv ds)) → Same H H' → Q (.ref lr) H'
theorem ok__law_summedG (T : Top K mg) {k : Nat} : FnOk P w K mg base CX0 (k + 2) T.f__law_summed T.fd__law_summed ["_law_terms_here"]  (sp_summedG K) := by
  have G__law_turns : FnOk P w K mg base CX0 (k + 1) T.f__law_turns T.fd__law_turns ["_law_number_here"]  (sp_turns K) := ok__law_turns T
  refine T.F__law_summed.ok sc__law_summed (fun vs H Q E h => ?_) (fun cdv A outer s H vs Q E hr h => ?_)
  · obtain ⟨l, us, ts, m, B, wf, rfl, _⟩ := h
    rfl
  · obtain ⟨l, us, ts, m, B, wf, rfl, hl, hD, hc, hm, hm4, hB, hAb, hlen, q⟩ := h
    have hul := dpAll_len hD
    rw [List.length_map] at hul
    refine ⟨_, (pss_cons (ps_asg (pe_tup (pa_cons (pe_callB cr_sortedI (by rfl) T.m_sorted (by decide +kernel) (pa_cons (pe_lc (own := [("_law_code_here", 4), ("_law_times", 5)]) (g := gTup K 2 (gCons (gName 4) (gCons (gName 5) gNil))) (by rfl) sc__law_summed.nd (pi_list (pv 0)) (blkOk_by (own := [("_law_code_here", 4), ("_law_times", 5)]) (N := ["_law_terms_here", "_law_codes_here", "_law_spots", "_law_places", "_law_code_here", "_law_times", "_law_at", "_law_gap", "_law_total", "_law_found", "_law_turn"]) (sc := defScope s__law_summed) (by decide +kernel)) (fun _ _ _ _ _ => (pg_tup rfl (pgs_cons (pg_name (i := 4) sc__law_summed.nd rfl (Or.inl rfl)) (pgs_cons (pg_name (i := 5) sc__law_summed.nd rfl (Or.inl rfl)) pgs_nil)))) (fun _ _ _ _ _ => pts_nil) (fun _ _ _ _ _ => (pe_callTy (T := "int") call_int1 (by rfl) T.m_int (by decide +kernel) (pa_cons (pv 4) pa_nil)))) pa_nil)) (pa_cons pe_dnewK (pa_cons (pe_lst pa_nil) pa_nil)))) (pg_tup rfl (pgs_cons (pg_name (i := 1) sc__law_summed.nd rfl (Or.inl rfl)) (pgs_cons (pg_name (i := 2) sc__law_summed.nd rfl (Or.inr rfl)) (pgs_cons (pg_name (i := 3) sc__law_summed.nd rfl (Or.inl rfl)) pgs_nil)))))
    (pss_cons (ps_for PassesOwn.never rfl (pi_range1 (by rfl) T.m_range (pa_cons (pe_callB call_len_seq (by rfl) T.m_len PySem.boot_len (pa_cons (pv 1) pa_nil)) pa_nil)) (pg_name (i := 6) sc__law_summed.nd rfl (Or.inl rfl))
      (pss_cons (ps_if (pt_cmpR op_gt (pv 6) pe_int (nomark _))
        (pss_cons (ps_set (i := 7) sc__law_summed.nd rfl (Or.inl rfl) (pe_op op_sub (pe_ix ix_list (pv 1) (pv 6) (fun _ _ => rfl)) (pe_ix ix_list (pv 1) (pe_op op_sub (pv 6) pe_int) (fun _ _ => rfl))))
        (pss_one (ps_expr (pe_bm PySem.F.plainAttrs_list PySem.F.slot_list_append PySem.F.type_list_append mt_append (pv 3) (pa_cons (pe_op op_add (pe_ix ix_list (pv 3) (pe_un un_neg pe_int) (fun _ _ => rfl)) (pe_callB (call_min2 rfl) (by rfl) T.m_min (by decide +kernel) (pa_cons (pv 7) (pa_cons pe_int pa_nil)))) pa_nil)))))
        (pss_one (ps_expr (pe_bm PySem.F.plainAttrs_list PySem.F.slot_list_append PySem.F.type_list_append mt_append (pv 3) (pa_cons pe_int pa_nil)))))
      (pss_one (ps_dput (hu_of hr) (pv 2) (pe_ix ix_list (pv 1) (pv 6) (fun _ _ => rfl)) (pe_ix ix_list (pv 3) (pv 6) (fun _ _ => rfl)) rfl))))
    (pss_cons (ps_set (i := 8) sc__law_summed.nd rfl (Or.inl rfl) (pe_callB (cr_sum rfl) (by rfl) T.m_sum (by decide +kernel) (pa_cons (pe_lc (own := [("_law_code_here", 4), ("_law_times", 5)]) (g := gTup K 2 (gCons (gName 4) (gCons (gName 5) gNil))) (by rfl) sc__law_summed.nd (pi_list (pv 0)) (blkOk_by (own := [("_law_code_here", 4), ("_law_times", 5)]) (N := ["_law_terms_here", "_law_codes_here", "_law_spots", "_law_places", "_law_code_here", "_law_times", "_law_at", "_law_gap", "_law_total", "_law_found", "_law_turn"]) (sc := defScope s__law_summed) (by decide +kernel)) (fun _ _ _ _ _ => (pg_tup rfl (pgs_cons (pg_name (i := 4) sc__law_summed.nd rfl (Or.inl rfl)) (pgs_cons (pg_name (i := 5) sc__law_summed.nd rfl (Or.inl rfl)) pgs_nil)))) (fun _ _ _ _ _ => pts_nil) (fun _ _ _ _ _ => (pe_op op_mul (pv 5) (pe_op op_shl pe_int (pe_dget (hu_of hr) (pv 2) (pv 4) (fun _ _ => rfl)))))) pa_nil)))
    (pss_cons (ps_par (i := 9) (j := 6) rfl sc__law_summed.nd rfl rfl (by decide) rfl rfl (pa_cons (pe_lst pa_nil) (pa_cons pe_int pa_nil)) rfl)
    (pss_cons (ps_for PassesOwn.never rfl (pi_list (pe_call G__law_turns (hr.mono (by omega)) (by rfl) T.g__law_turns T.F__law_turns.kp T.b__law_turns .nil pass0 (pa_cons (pv 8) pa_nil))) (pg_name (i := 10) sc__law_summed.nd rfl (Or.inl rfl))
      (pss_cons (ps_while PassesOwn.never (PW.pt (pw_and (pt_cmpR op_lt (pe_op op_add (pv 6) pe_int) (pe_callB call_len_seq (by rfl) T.m_len PySem.boot_len (pa_cons (pv 3) pa_nil)) (nomark _)) (pw_and1 (pt_cmpR op_le (pe_ix ix_list (pv 3) (pe_op op_add (pv 6) pe_int) (fun _ _ => rfl)) (pv 10) (nomark _)))))
        (pss_one (ps_set (i := 6) sc__law_summed.nd rfl (Or.inl rfl) (pe_op op_add (pv 6) pe_int))))
      (pss_one (ps_expr (pe_bm PySem.F.plainAttrs_list PySem.F.slot_list_append PySem.F.type_list_append mt_append (pv 9) (pa_cons (pe_op op_sub (pe_op op_add (pe_ix ix_list (pv 1) (pv 6) (fun _ _ => rfl)) (pv 10)) (pe_ix ix_list (pv 3) (pv 6) (fun _ _ => rfl))) pa_nil))))))
    (pss_one (ps_ret (pv 9)))))))), ?_⟩
    refine ⟨_, rfl, l, rfl, ⟨_, .inl (.inl hl)⟩, fun D nD => lc_list (xs := us) (fun i H' => Same H H' ∧ H' D = some (.lst (iv ((ts.take i).map (·.1))))) ⟨sm_upd nD, by rw [upd_same]; rfl⟩ ?_ ?_ ?_⟩
    · rintro i H' _ ⟨sm, _⟩
      exact .inl (.inl (sm _ _ hl))
    · rintro i x H' hx ⟨sm, eD⟩
      obtain ⟨t, a, ht, rfl, hS⟩ := terms_get hD hx
      have hi := (List.getElem?_eq_some_iff.mp ht).1
      refine ⟨a, _, rfl, HX.Same.tup sm hS, rfl, _, _, rfl, _, _, rfl, rfl, ?_⟩
      refine ⟨rfl, ?_⟩
      walk_at "r"
      refine ⟨_, eD, ?_, sm_mut sm nD, ?_⟩
      · rw [iv_len, List.length_map, List.length_take]
        exact len_lt (by omega)
      · rw [upd_same, List.take_add_one, ht, iv_app]
        simp
    · rintro H1 ⟨sm1, eD⟩
      rw [hul, List.take_length] at eD
      refine ⟨D, _, rfl, .inl (.inl eD), fun cs lc hperm hs nlc => ?_⟩
      have s2 := sm_upd (o := .lst (cs.map V.int)) nlc
      have hlc : upd H1 lc (.lst (cs.map V.int)) lc = some (.lst (iv cs)) := upd_same
      refine fun sp nsp => ?_
      have s3 := sm_upd (o := .dK []) nsp
      refine ⟨Nat.zero_le _, fun pl npl => ?_⟩
      have s4 := sm_upd (o := .lst []) npl
      refine ⟨len_le (by show 3 ≤ _; decide), fun tp ntp => ?_⟩
      have s5 := sm_upd (o := .tup [V.ref lc, .ref sp, .ref pl]) ntp
      refine ⟨tp, _, rfl, .inl (.inl upd_same), rfl, _, _, rfl, _, _, rfl, _, _, rfl, rfl, ?_⟩
      have hlc5 := s5 _ _ (s4 _ _ (s3 _ _ hlc))
      have hsp5 := s5 _ _ (s4 _ _ (upd_same (H := upd H1 lc (.lst (cs.map V.int))) (a := sp) (o := .dK [])))
      have hpl5 := s5 _ _ (upd_same (H := upd (upd H1 lc (.lst (cs.map V.int))) sp (.dK [])) (a := pl) (o := .lst []))
      have s05 := (((sm1.trans s2).trans s3).trans s4).trans s5
      have nlcsp : lc ≠ sp := ne_of_none hlc nsp
      have nlcpl : lc ≠ pl := ne_of_none (s3 _ _ hlc) npl
      have nsppl : sp ≠ pl := ne_of_none (upd_same (H := upd H1 lc (.lst (cs.map V.int))) (a := sp) (o := .dK [])) npl
      have nsp0 : H sp = none := by
        cases e : H sp with
        | none => rfl
        | some u => rw [s2 _ _ (sm1 _ _ e)] at nsp; cases nsp
      have npl0 : H pl = none := by
        cases e : H pl with
        | none => rfl
        | some u => rw [s3 _ _ (s2 _ _ (sm1 _ _ e))] at npl; cases npl
      revert hlc5 hsp5 hpl5 s05
      generalize upd (upd (upd (upd H1 lc _) sp _) pl _) tp _ = H5
      intro hlc5 hsp5 hpl5 s05
      have hcl : cs.length = ts.length := by rw [hperm.length_eq, List.length_map]
      have sm_of : ∀ {H'}, But2 sp pl H5 H' → Same H H' := fun {H'} b a o e => b a o (ne_of_none e nsp0) (ne_of_none e npl0) (s05 _ _ e)
      dsimp only
      with_reducible refine cut (fun σ H' => ∃ (z6 z7 : Option V) (kvs : List (Key × V)), σ = [some (.ref l), some (.ref lc), some (.ref sp), some (.ref pl), none, none, z6, z7, none, none, none] ∧ H' pl = some (.lst (nv (qL cs cs.length))) ∧ H' sp = some (.dK kvs) ∧ (∀ j, j < cs.length → valV kvs (.inl (cd cs j) : Key) = some (.int (qN cs j : Nat))) ∧ But2 sp pl H5 H') (fun D1 J1 => ?_) ?_
      · refine ⟨_, rfl, lc, _, rfl, .inl (.inl (.inl hlc5)), ?_⟩
        rw [iv_len]
        walk_at "r"
        refine flR (fun i σ H' => ∃ (z6 z7 : Option V) (kvs : List (Key × V)), σ = [some (.ref l), some (.ref lc), some (.ref sp), some (.ref pl), none, none, z6, z7, none, none, none] ∧ H' pl = some (.lst (nv (qL cs i))) ∧ H' sp = some (.dK kvs) ∧ kvs.length ≤ i ∧ (∀ j, j < i → valV kvs (.inl (cd cs j) : Key) = some (.int (qN cs j : Nat))) ∧ But2 sp pl H5 H')
          ⟨none, none, [], rfl, hpl5, hsp5, Nat.le_refl _, fun j hj => by omega, But2.refl _⟩ ?_ ?_
        · rintro i σ H6 hi ⟨z6, z7, kvs, rfl, hpl6, hsp6, hkl, hkv, b6⟩ D' B'
          have hi' : i < cs.length := by omega
          have hlc6 := b6 _ _ nlcsp nlcpl hlc5
          dsimp only [gName]
          with_reducible refine cut (fun σ' H7 => ∃ z7 : Option V, σ' = [some (.ref l), some (.ref lc), some (.ref sp), some (.ref pl), none, none, some (.int (0 + (i : Nat))), z7, none, none, none] ∧ H7 pl = some (.lst (nv (qL cs (i + 1)))) ∧ H7 sp = some (.dK kvs) ∧ But2 sp pl H5 H7) (fun D2 J2 => ?_) ?_
          · walk_at "r"
            have hlen6 : (nv (qL cs i)).length < sizeLine := by
              rw [nv_len, qL_len]
              exact len_lt (by omega)
            refine ifD (fun h0 => ?_) (fun h0 => ?_)
            · walk_at "r"
              refine ⟨lc, _, _, _, rfl, rfl, .inl (.inl hlc6), at_of (j := i) (by omega) (iv_at hi'), ?_⟩
              walk_at "r"
              refine ⟨lc, _, _, _, rfl, rfl, .inl (.inl hlc6), at_of (j := i - 1) (by omega) (iv_at (by omega)), ?_⟩
              walk_at "r"
              refine ⟨.inl ⟨rfl, _, .inl (.inl hpl6)⟩, ?_⟩
              walk_at "r"
              refine ⟨pl, _, _, _, rfl, rfl, .inl (.inl hpl6), atI_neg1 (by rw [nv_len, qL_len]; exact qL_get cs (by omega)), ?_⟩
              walk_at "r"
              refine ⟨_, _, rfl, ?_⟩
              walk_at "r"
              refine ⟨pl, _, _, rfl, rfl, hpl6, hlen6, J2.nx _ _ ⟨_, rfl, ?_, (upd_ne nsppl).trans hsp6, b6.right⟩⟩
              rw [upd_same, qL_succ, nv_app]
              obtain ⟨r, rfl⟩ : ∃ r, i = r + 1 := ⟨i - 1, by omega⟩
              rw [Nat.add_sub_cancel]
              have hle := cd_le hs (show r ≤ r + 1 by omega) hi'
              have e : ((qN cs r : Nat) : Int) + (if (120 : Int) < cd cs (r + 1) - cd cs r then 120 else cd cs (r + 1) - cd cs r) = ((qN cs (r + 1) : Nat) : Int) := by
                show _ = ((qN cs r + (min (cd cs (r + 1) - cd cs r) 120).toNat : Nat) : Int)
                split <;> omega
              rw [← e]
            · walk_at "r"
              refine ⟨.inl ⟨rfl, _, .inl (.inl hpl6)⟩, ?_⟩
              walk_at "r"
              refine ⟨pl, _, _, rfl, rfl, hpl6, hlen6, J2.nx _ _ ⟨_, rfl, ?_, (upd_ne nsppl).trans hsp6, b6.right⟩⟩
              rw [upd_same, qL_succ, nv_app, show i = 0 by omega]
              rfl
          · rintro σ' H7 ⟨z7, rfl, hpl7, hsp7, b7⟩
            have hlc7 := b7 _ _ nlcsp nlcpl hlc5
            walk_at "r"
            refine ⟨pl, _, _, _, rfl, rfl, .inl (.inl hpl7), at_of (j := i) (by omega) (qL_get cs (by omega)), ?_⟩
            walk_at "r"
            refine ⟨lc, _, _, _, rfl, rfl, .inl (.inl hlc7), at_of (j := i) (by omega) (iv_at hi'), ?_⟩
            refine ⟨sp, _, rfl, DPut.k (k := (.inl (cd cs i) : Key)) hsp7 (len_lt (by omega)), ?_⟩
            refine B'.nx _ _ ⟨_, _, putK kvs (.inl (cd cs i) : Key) (.int (qN cs i : Nat)), rfl, (upd_ne (Ne.symm nsppl)).trans hpl7, upd_same, Nat.le_trans (length_putK _ _ _) (by omega), fun j hj => ?_, b7.left⟩
            rw [valV_put]
            by_cases e : cd cs j = cd cs i
            · rw [if_pos (by rw [e]), qN_eq hs (show j ≤ i by omega) hi' e]
            · rw [if_neg fun z => e (Sum.inl.inj z)]
              refine hkv j ?_
              apply Classical.byContradiction
              intro hc
              exact e (by rw [show j = i by omega])
        · rintro σ H6 ⟨z6, z7, kvs, rfl, hpl6, hsp6, hkl, hkv, b6⟩
          have e : (((cs.length : Nat) : Int)).toNat = cs.length := by omega
          rw [e] at hpl6 hkv
          exact J1.nx _ _ ⟨z6, z7, kvs, rfl, hpl6, hsp6, hkv, b6⟩
      · rintro σ H6 ⟨z6, z7, kvs, rfl, hpl6, hsp6, hkv, b6⟩
        have sm6 := sm_of b6
        have hlc6 := b6 _ _ nlcsp nlcpl hlc5
        have hl6 := sm6 _ _ hl
        have hD6 := dpAll_im (tk_same sm6) (im_terms ts) hD
        have hmem : ∀ t ∈ ts, t.1 ∈ cs := fun t ht => hperm.mem_iff.mpr (List.mem_map.mpr ⟨t, ht, rfl⟩)
        refine ⟨_, rfl, l, rfl, ⟨_, .inl (.inl hl6)⟩, fun D7 nD7 => lc_list (xs := us) (fun i H' => Same H6 H' ∧ H' D7 = some (.lst (iv ((ts.take i).map fun t => t.2 * 2 ^ qN cs (cs.idxOf t.1))))) ⟨sm_upd nD7, by rw [upd_same]; rfl⟩ ?_ ?_ ?_⟩
        · rintro i H' _ ⟨sm, _⟩
          exact .inl (.inl (sm _ _ hl6))
        · rintro i x H' hx ⟨sm, eD⟩
          obtain ⟨t, a, ht, rfl, hS⟩ := terms_get hD6 hx
          have hi := (List.getElem?_eq_some_iff.mp ht).1
          obtain ⟨hx1, hx2⟩ := cd_ix (hmem t (List.mem_of_getElem? ht))
          have hk := hkv _ hx1
          rw [hx2] at hk
          have hg : DGet H' sp (.int t.1) (some (.int (qN cs (cs.idxOf t.1) : Nat))) := by
            have := DGet.k (k := (.inl t.1 : Key)) (sm _ _ hsp6)
            rw [hk] at this
            exact this
          have hq := qN_le cs (cs.idxOf t.1)
          have ha := AbT_mem (List.mem_of_getElem? ht)
          refine ⟨a, _, rfl, HX.Same.tup sm hS, rfl, _, _, rfl, _, _, rfl, rfl, ?_⟩
          refine ⟨rfl, ?_⟩
          walk_at "r"
          refine ⟨sp, _, rfl, hg, ?_⟩
          walk_at "r"
          refine ⟨_, eD, ?_, sm_mut sm nD7, ?_⟩
          · rw [iv_len, List.length_map, List.length_take]
            exact len_lt (by omega)
          · rw [upd_same, List.take_add_one, ht, iv_app]
            simp
        · rintro H7 ⟨sm7, eD⟩
          rw [hul, List.take_length] at eD
          refine ⟨D7, _, rfl, .inl (.inl eD), ?_⟩
          have etot := Sm_ix cs ts (qN cs)
          rw [← etot]
          dsimp only [gName]
          refine ⟨Nat.zero_le _, fun fo nfo => ⟨_, _, rfl, ?_⟩⟩
          have s8 := sm_upd (o := .lst []) nfo
          have hpl8 := s8 _ _ (sm7 _ _ hpl6)
          have hlc8 := s8 _ _ (sm7 _ _ hlc6)
          have sm08 := (sm6.trans sm7).trans s8
          have hfo8 : upd H7 fo (.lst []) fo = some (.lst (iv [])) := upd_same
          have nplfo : pl ≠ fo := ne_of_none (sm7 _ _ hpl6) nfo
          have nlcfo : lc ≠ fo := ne_of_none (sm7 _ _ hlc6) nfo
          have nfo0 : H fo = none := by
            cases e : H fo with
            | none => rfl
            | some u => rw [sm7 _ _ (sm6 _ _ e)] at nfo; cases nfo
          revert hpl8 hlc8 sm08 hfo8
          generalize upd H7 fo _ = H8
          intro hpl8 hlc8 sm08 hfo8
          have hqb : ∀ i, i < cs.length → qN cs i ≤ 78000 := fun i hi => by
            have := qN_le cs i
            omega
          have hrg : ∀ t ∈ turnsOf (Sm (ixT cs ts) (qN cs)), t ≤ 78000 + 100 + 1 := by
            have h1 := Sm_abs (π := qN cs) (b := 78000) (T := ixT cs ts) fun u hu => by
              obtain ⟨t, ht, rfl⟩ := List.mem_map.mp hu
              exact hqb _ (cd_ix (hmem t ht)).1
            refine turns_lt (Nat.le_trans h1 (Nat.mul_le_mul_right _ ?_))
            rw [Ab_ix]
            exact Nat.le_trans hAb (by decide)
          have hrg2 := (tv_range (turnsOf_asc _)).mp hrg
          rw [turnsOf_tv] at hrg2
          have hempty : cs = [] → Sm (ixT cs ts) (qN cs) = 0 := fun e => by
            have : ts = [] := by
              apply List.eq_nil_of_length_eq_zero
              rw [← hcl, e]
              rfl
            rw [this]
            rfl
          generalize hS : Sm (ixT cs ts) (qN cs) = S at *
          dsimp only
          refine ⟨_, rfl, S, 78000 + 100 + 1, rfl, by decide, hrg2.1, hrg2.2, fun tt lt H9 hA htv htk htl sm9 nlt hlt9 => ?_⟩
          have ett : turnsOf S = tt := turnsOf_is hA htv
          have hpl9 := sm9 _ _ hpl8
          have hlc9 := sm9 _ _ hlc8
          have hfo9 := sm9 _ _ hfo8
          have nltfo : lt ≠ fo := fun e => by rw [e, hfo8] at nlt; cases nlt
          have hpos : ∀ t ∈ tt, 0 < cs.length := fun t ht => by
            apply Nat.pos_of_ne_zero
            intro e
            have := hempty (List.eq_nil_of_length_eq_zero e)
            rw [this] at ett
            rw [← ett, show turnsOf 0 = [] from turnsOf_is (ts := []) trivial rfl] at ht
            cases ht
          have hqm := fun i j (h1 : i ≤ j) (h2 : j < cs.length) => qN_mono hs (i := i) j h1 h2
          refine ⟨lt, rfl, ⟨_, .inl (.inl hlt9)⟩, flL (xs := nv tt) (fun i σ H' => ∃ (a : Nat) (z10 : Option V), σ = [some (.ref l), some (.ref lc), some (.ref sp), some (.ref pl), none, none, some (.int (a : Nat)), z7, some (.int S), some (.ref fo), z10] ∧ H' fo = some (.lst (iv ((tt.take i).map fun t => cd cs (atC cs.length (qN cs) t) + (t : Nat) - (qN cs (atC cs.length (qN cs) t) : Nat)))) ∧ (∀ t ∈ tt.drop i, qN cs a ≤ t) ∧ (a < cs.length ∨ a = 0) ∧ (∀ t ∈ tt.take i, At cs.length (qN cs) (atC cs.length (qN cs)) t) ∧ But fo H9 H')
            ⟨0, none, rfl, hfo9, fun t _ => Nat.zero_le _, .inr rfl, by simp, But.refl _⟩ ?_ ?_ ?_⟩
          · rintro i σ H' _ ⟨_, _, _, _, _, _, _, b⟩
            exact .inl (.inl (b _ _ nltfo hlt9))
          · rintro i x σ H10 hx ⟨a, z10, rfl, hfo10, hdr, han, hat, b10⟩ D' B'
            obtain ⟨t, ht, rfl⟩ := nv_get hx
            have hi := (List.getElem?_eq_some_iff.mp ht).1
            have hn := hpos t (List.mem_of_getElem? ht)
            have han' : a < cs.length := by omega
            have hpl10 := b10 _ _ nplfo hpl9
            have hlc10 := b10 _ _ nlcfo hlc9
            have hdt : tt.drop i = t :: tt.drop (i + 1) := by
              obtain ⟨h1, h2⟩ := List.getElem?_eq_some_iff.mp ht
              rw [List.drop_eq_getElem_cons h1, h2]
            have hqt : qN cs a ≤ t := hdr t (by rw [hdt]; simp)
            dsimp only [gName]
            with_reducible refine cut (fun σ' H' => H' = H10 ∧ ∃ a : Nat, σ' = [some (.ref l), some (.ref lc), some (.ref sp), some (.ref pl), none, none, some (.int (a : Nat)), z7, some (.int S), some (.ref fo), some (.int (t : Nat))] ∧ AtR cs.length (qN cs) t a) (fun D2 J2 => ?_) ?_
            · refine ⟨fun m σ H' => H' = H10 ∧ ∃ a : Nat, σ = [some (.ref l), some (.ref lc), some (.ref sp), some (.ref pl), none, none, some (.int (a : Nat)), z7, some (.int S), some (.ref fo), some (.int (t : Nat))] ∧ a + m = cs.length ∧ a < cs.length ∧ qN cs a ≤ t, ⟨cs.length - a, rfl, a, rfl, by omega, han', hqt⟩, ?_⟩
              rintro m σ H' ⟨rfl, a, rfl, ham, hac, hqa⟩
              walk_at "r"
              refine ⟨pl, _, rfl, .inl (.inl (.inl hpl10)), ?_⟩
              rw [nv_len, qL_len]
              walk_at "r"
              refine ifBD (fun hc => ?_) (fun hc => ?_)
              · have hc : (a : Int) + 1 < (cs.length : Nat) := of_decide_eq_true hc
                walk_at "r"
                refine ⟨pl, _, _, _, rfl, rfl, .inl (.inl hpl10), at_of (j := a + 1) (by omega) (qL_get cs (by omega)), ?_⟩
                walk_at "r"
                refine ifD (fun hle => wb fun D3 B3 => ?_) (fun hgt => ?_)
                · walk_at "r"
                  exact B3.nx _ _ ⟨m - 1, by omega, rfl, a + 1, rfl, by omega, by omega, by omega⟩
                · exact J2.nx _ _ ⟨rfl, a, rfl, hac, hqa, .inr (by omega)⟩
              · have hc : ¬ (a : Int) + 1 < (cs.length : Nat) := of_decide_eq_false hc
                refine iteF ?_
                exact J2.nx _ _ ⟨rfl, a, rfl, hac, hqa, .inl (by omega)⟩
            · rintro σ' H' ⟨rfl, a, rfl, hA2⟩
              have eat := atC_eq hqm hA2
              walk_at "r"
              refine ⟨.inl ⟨rfl, _, .inl (.inl hfo10)⟩, ?_⟩
              walk_at "r"
              refine ⟨lc, _, _, _, rfl, rfl, .inl (.inl hlc10), at_of (j := a) rfl (iv_at hA2.1), ?_⟩
              walk_at "r"
              refine ⟨pl, _, _, _, rfl, rfl, .inl (.inl hpl10), at_of (j := a) rfl (qL_get cs hA2.1), ?_⟩
              walk_at "r"
              refine ⟨fo, _, _, rfl, rfl, hfo10, ?_, ?_⟩
              · rw [iv_len, List.length_map, List.length_take]
                exact len_lt (by omega)
              refine B'.nx _ _ ⟨a, _, rfl, ?_, fun u hu => ?_, .inl hA2.1, fun u hu => ?_, b10.upd⟩
              · rw [upd_same, List.take_add_one, ht, iv_app]
                simp [eat]
              · have h1 := hA2.2.1
                have h2 : t < u := by
                  have := asc_pairwise.mp hA
                  rw [← List.take_append_drop i tt, hdt] at this
                  exact (List.pairwise_cons.mp (List.pairwise_append.mp this).2.1).1 u hu
                omega
              · rw [List.take_add_one, ht] at hu
                rcases List.mem_append.mp hu with hu | hu
                · exact hat u hu
                · have : u = t := by simpa using hu
                  rw [this]
                  exact atC_spec hA2
          · rintro σ H' ⟨a, z10, rfl, hfo10, hdr, han, hat, b10⟩
            rw [nv_len, List.take_length] at hfo10 hat
            obtain ⟨r1, r2, r3, r4⟩ := summed (m := m) (B := B) (w := wf) (cs := cs) (ts := ts) (at_ := atC cs.length (qN cs)) hs (fun c h => by
              obtain ⟨t, ht, rfl⟩ := List.mem_map.mp (hperm.mem_iff.mp h)
              exact hc t ht) hm hm4 hB hmem (Nat.le_trans hAb (by decide)) (by rw [hS, ett]; exact hat) rfl
            rw [hS, ett] at r1 r2 r3 r4
            refine ⟨_, rfl, q fo _ H' r1 r2 r3 r4 nfo0 hfo10 ?_⟩
            exact fun b o e => b10 b o (ne_of_none e nfo0) (sm9 _ _ (sm08 _ _ e))
end
end K13
set_option Elab.async false
set_option linter.all false
set_option maxRecDepth 100000
set_option pp.deepTerms false
set_option pp.maxSteps 1500
/-! the forms of places and of sums of places, by their codes -/
namespace K13
open PySem PySem.Spec PyProof.Rows L2 HX TV FM DX FB FC FD MS PM FS FW
section
theorem row_ex {ds : List PyData} (fA : FmAll ds) (hA : Asc (vals ds)) : ∃ d, Fm d ∧ val d = tv (vals ds) ∧ wt d ≤ wtAll ds + 1 ∧ d.depth ≤ PyData.depthAll ds + 1 := by
  by_cases h : ∃ t ∈ vals ds, 64 < t
  · exact ⟨.tuple ds, (fm_tuple ds).mpr ⟨fA, hA, h⟩, val_tuple ds, by rw [wt_tuple]; omega, by rw [depth_tuple]; omega⟩
  · refine ⟨.int (tv (vals ds)), (fm_int _).mpr ((tv_range hA).mp fun t ht => ?_), val_int _, by rw [wt_int]; omega, by rw [depth_int]; omega⟩
    apply Nat.le_of_not_lt
    intro hc
    exact h ⟨t, ht, hc⟩
theorem place_form {fs : List PyData} (F : Fields fs) {t : Nat} (h : t / 200 < 4 ∧ t % 200 ≤ 101) : ∃ d, Fm d ∧ val d = ((phi fs t : Nat) : Int) ∧ wt d ≤ cw t ∧ d.depth ≤ 3 := by
  unfold phi
  rcases fields_get F (t / 200) h.1 with ⟨f, _, hf, eF, h0⟩ | ⟨h1, es, _, fe, hl, he0, hdep, eF, hn, hw⟩
  · rw [eF]
    by_cases hz : t / 200 = 0
    · have : f = 0 := h0 hz
      subst this
      refine ⟨.int ((0 + t % 200 : Nat) : Int), (fm_int _).mpr (by omega), val_int _, ?_, by rw [depth_int]; omega⟩
      rw [wt_int]
      unfold cw
      rw [if_pos (by omega)]
      exact Nat.le_refl _
    · obtain ⟨d, fd, ed, wd, dd⟩ := form_ex (m := ((f + t % 200 : Nat) : Int)) (k := 65) (by decide) (by omega) (by omega)
      refine ⟨d, fd, ed, ?_, by omega⟩
      have := near64 fd (by omega) (by omega)
      unfold cw
      rw [if_neg (by omega)]
      exact this
  · rw [eF]
    have hu : ∀ u ∈ turnsOf ((t % 200 : Nat) : Int), u ≤ 7 := by
      refine (tv_range (turnsOf_asc _)).mpr ?_
      rw [turnsOf_tv]
      omega
    have hl7 := asc_len (a := 0) (turnsOf_asc ((t % 200 : Nat) : Int)) fun u h => ⟨Nat.zero_le _, hu u h⟩
    obtain ⟨f1, v1⟩ := place_far (j := t % 200) fe hl he0 (turnsOf_asc _) (turnsOf_tv _) fun u h => by have := hu u h; omega
    refine ⟨_, f1, ?_, ?_, ?_⟩
    · rw [v1]
      omega
    · rw [wt_tuple, wtAll_app, wtAll_iD]
      unfold cw
      rw [if_neg (by omega)]
      omega
    · rw [depth_tuple]
      have : PyData.depthAll (iD (turnsOf ((t % 200 : Nat) : Int)) ++ es) ≤ 2 := by
        refine depthAll_le.mpr fun d hd => ?_
        rcases List.mem_append.mp hd with hd | hd
        · have := depthAll_le.mp (Nat.le_of_eq (depthAll_iD (turnsOf ((t % 200 : Nat) : Int)))) d hd
          omega
        · exact depthAll_le.mp hdep d hd
      omega
theorem places_ex {fs : List PyData} (F : Fields fs) : ∀ {ts : List Nat}, (∀ t ∈ ts, t / 200 < 4 ∧ t % 200 ≤ 101) → ∃ ds, FmAll ds ∧ vals ds = ts.map (phi fs) ∧ wtAll ds ≤ (ts.map cw).sum ∧ PyData.depthAll ds ≤ 3
  | [], _ => ⟨[], fmAll_nil, rfl, by rw [wtAll_nil]; exact Nat.zero_le _, by rw [depthAll_nil]; exact Nat.zero_le _⟩
  | t :: r, h => by
    obtain ⟨ds, h1, h2, h3, h4⟩ := places_ex F (ts := r) fun x hx => h x (by simp [hx])
    obtain ⟨d, g1, g2, g3, g4⟩ := place_form F (h t (by simp))
    refine ⟨d :: ds, (fmAll_cons _ _).mpr ⟨g1, by omega, h1⟩, ?_, ?_, ?_⟩
    · rw [vals_cons, List.map_cons, h2, g2]
      rfl
    · rw [wtAll_cons, List.map_cons, List.sum_cons]
      omega
    · rw [depthAll_cons]
      omega
theorem code_form {fs : List PyData} (F : Fields fs) {c : Int} (h : CodeOk 4 c) : ∃ d, Fm d ∧ val d = Phi fs c ∧ wt d ≤ FC.cwt c ∧ d.depth ≤ 4 := by
  obtain ⟨ds, h1, h2, h3, h4⟩ := places_ex F h.2
  have hA : Asc (vals ds) := by rw [h2]; exact phi_asc F (by decide) h
  obtain ⟨d, g1, g2, g3, g4⟩ := row_ex h1 hA
  refine ⟨d, g1, by rw [g2, h2]; rfl, ?_, by omega⟩
  unfold FC.cwt
  omega
/-- any form of the place of a code -/
theorem code_wt {fs : List PyData} (F : Fields fs) {c : Int} (h : CodeOk 4 c) {d : PyData} (f : Fm d) (e : val d = Phi fs c) : wt d ≤ FC.cwt c ∧ d.depth ≤ 4 := by
  obtain ⟨d', g1, g2, g3, g4⟩ := code_form F h
  have : d = d' := fm_inj f g1 (by rw [e, g2])
  subst this
  exact ⟨g3, g4⟩
end
end K13
set_option Elab.async false
set_option linter.all false
set_option maxRecDepth 100000
set_option pp.deepTerms false
set_option pp.maxSteps 1500
/-! helpers for laws with closures -/
namespace K13
open PySem PySem.Spec PyProof.Rows L2 HX TV FM DX FB FC FD MS PM LamX
local macro_rules | `(tactic| walk_at "r") => `(tactic| (repeat (first | refine Exists.intro _ (And.intro rfl ?_) | refine And.intro rfl ?_ | refine Exists.intro _ (Exists.intro _ (And.intro rfl (And.intro rfl ?_))) | refine And.intro (by omega) ?_ | refine And.intro (Or.inl (And.intro (by omega) (by omega))) ?_ | refine And.intro (Or.inr (And.intro (by omega) (by omega))) ?_ | refine And.intro (And.intro (by omega) (by omega)) ?_ | refine And.intro (And.intro (by decide) (And.intro (by decide) (by decide))) ?_ | refine Or.inl (Exists.intro _ (And.intro rfl ?_)) | (dsimp only [gName]; first | with_reducible refine seqC ?_ | with_reducible refine asgC ?_))))
local macro_rules | `(tactic| walk_at "s") => `(tactic| (repeat (first | refine Exists.intro _ (And.intro rfl ?_) | refine And.intro rfl ?_ | refine Exists.intro _ (Exists.intro _ (And.intro rfl (And.intro rfl ?_))) | refine And.intro (by omega) ?_ | refine And.intro (Or.inl (And.intro (by omega) (by omega))) ?_ | refine And.intro (Or.inr (And.intro (by omega) (by omega))) ?_ | refine And.intro (And.intro (by omega) (by omega)) ?_ | refine And.intro (And.intro (by decide) (And.intro (by decide) (by decide))) ?_ | refine Or.inl (Exists.intro _ (And.intro rfl ?_)) | refine Exists.intro _ (Exists.intro _ (And.intro rfl ?_)) | (dsimp only [gName]; first | with_reducible refine seqC ?_ | with_reducible refine asgC ?_))))
section
variable {P : Program} {w : World} {K : PySem.W.Frag} {mg : Str → Option Value} {base : Heap}
theorem tabs_butL {T : List (Addr × Str)} {p : Addr} {H H' : Hp} {xs : List V} (t : Tabs T H) (hp : H p = some (.lst xs)) (e : But p H H') : Tabs T H' := fun x hx => by
  obtain ⟨ps, h1, h2, h3⟩ := t x hx
  refine ⟨ps, e _ _ (ne_of h1 hp (by intro z; cases z)) h1, h2, fun pos cv hc => ?_⟩
  obtain ⟨c, e1, e2⟩ := h3 pos cv hc
  exact ⟨c, e1, e _ _ (ne_of e2 hp (by unfold CodeO; intro z; cases z)) e2⟩
theorem im_fms : ∀ {ds : List PyData}, (∀ d ∈ ds, Fm d) → ImAll ds
  | [], _ => imAll_nil
  | d :: r, h => (imAll_cons d r).mpr ⟨im_fm (h d (by simp)), im_fms fun x hx => h x (by simp [hx])⟩
/-- lists and what is not changed stay -/
structure Lk (H H' : Hp) : Prop where
  lst : ∀ a xs, H a = some (.lst xs) → H' a = some (.lst xs)
  tk : Tk H H'
theorem Lk.refl (H : Hp) : Lk H H := ⟨fun _ _ h => h, Tk.refl H⟩
theorem lk_same {H H' : Hp} (e : Same H H') : Lk H H' := ⟨fun _ _ h => e _ _ h, tk_same e⟩
theorem lk_ext {H H' : Hp} (e : ExtN H H') : Lk H H' := ⟨fun _ _ h => ext_lst e h, tk_ext e⟩
theorem lk_tape {H H' : Hp} {τ : Tp} {n : Nat} (h : Tape H τ n) (e : But τ.p H H') : Lk H H' := ⟨fun _ _ z => e _ _ (h.ne z) z, but_tk h e⟩
theorem Lk.trans {H H1 H2 : Hp} (a : Lk H H1) (b : Lk H1 H2) : Lk H H2 := ⟨fun _ _ h => b.lst _ _ (a.lst _ _ h), a.tk.trans b.tk⟩
theorem ixN_at {n j : Nat} (hj : j < n) : ixN n (j : Int) = some j := by
  unfold ixN
  rw [if_pos (by omega), if_pos (by omega)]
  rfl
theorem shw {r : PyData} {n k : Nat} (h : Rp r n k) (h1 : n ≤ 1000000) (h2 : k ≤ 60) : r.showable = true ∧ r.hasDict = false ∧ r.depth ≤ 60 ∧ r.shown.length ≤ sizeLine := ⟨h.sh, h.nd, Nat.le_trans h.dp h2, len_le (by have := h.ln; omega)⟩
theorem jsh {r : PyData} (f : Fm r) (h1 : wt r ≤ 12000000) (h2 : r.depth ≤ 60) : (judg r).showable = true ∧ (judg r).hasDict = false ∧ (judg r).depth ≤ 60 ∧ (judg r).shown.length ≤ sizeLine := shw (rp_judg f h1 h2) (by decide) (by decide)
/-- where all that is asked for is within the limits -/
theorem Outs.sure {C : Addr} {F : PyData → Prop} {H : Hp} {Q : VK} {E : XK} (hb : ∀ r, Fm r → F r → wt r ≤ 2000 ∧ r.depth ≤ 6) (h : ∀ (v : V) (r : PyData) H', Fm r → F r → Dp K H' v r → Same H H' → Q v H') : Outs K C F H Q E :=
  ⟨fun v r H' f1 f2 _ _ D sm => h v r H' f1 f2 D sm, fun r dd H' f1 f2 nb _ _ _ _ _ => absurd (hb r f1 f2) nb⟩
theorem dp_iv {H : Hp} : ∀ cs : List Int, DpAll K H (iv cs) (cs.map PyData.int)
  | [] => .nil
  | c :: r => .cons (.int c) (dp_iv r)
end
end K13
set_option Elab.async false
set_option linter.all false
set_option maxRecDepth 100000
set_option pp.deepTerms false
set_option pp.maxSteps 1500
/-! the terms of a product of codes -/
namespace K13
open PySem PySem.Spec PyProof.Rows L2 HX TV FM DX FB FC FD FS MS PM LamX
local macro_rules | `(tactic| walk_at "r") => `(tactic| (repeat (first | refine Exists.intro _ (And.intro rfl ?_) | refine And.intro rfl ?_ | refine Exists.intro _ (Exists.intro _ (And.intro rfl (And.intro rfl ?_))) | refine And.intro (by omega) ?_ | refine And.intro (Or.inl (And.intro (by omega) (by omega))) ?_ | refine And.intro (Or.inr (And.intro (by omega) (by omega))) ?_ | refine And.intro (And.intro (by omega) (by omega)) ?_ | refine And.intro (And.intro (by decide) (And.intro (by decide) (by decide))) ?_ | refine Or.inl (Exists.intro _ (And.intro rfl ?_)) | (dsimp only [gName]; first | with_reducible refine seqC ?_ | with_reducible refine asgC ?_))))
local macro_rules | `(tactic| walk_at "s") => `(tactic| (repeat (first | refine Exists.intro _ (And.intro rfl ?_) | refine And.intro rfl ?_ | refine Exists.intro _ (Exists.intro _ (And.intro rfl (And.intro rfl ?_))) | refine And.intro (by omega) ?_ | refine And.intro (Or.inl (And.intro (by omega) (by omega))) ?_ | refine And.intro (Or.inr (And.intro (by omega) (by omega))) ?_ | refine And.intro (And.intro (by omega) (by omega)) ?_ | refine And.intro (And.intro (by decide) (And.intro (by decide) (by decide))) ?_ | refine Or.inl (Exists.intro _ (And.intro rfl ?_)) | refine Exists.intro _ (Exists.intro _ (And.intro rfl ?_)) | (dsimp only [gName]; first | with_reducible refine seqC ?_ | with_reducible refine asgC ?_))))
section
variable {P : Program} {w : World} {K : PySem.W.Frag} {mg : Str → Option Value} {base : Heap}
/-- the product of two rows of few codes is no great work -/
theorem prh_codes2 {fs : List PyData} (F : Fields fs) {m B : Nat} {os ps : List Int} (hm : m ≤ 4) (hB : B + B + 12 ≤ 2 ^ 62) (ho : ∀ c ∈ os, Dw m B 8 c) (hp : ∀ c ∈ ps, Dw m B 8 c) (so : os.Pairwise (· < ·)) (sp : ps.Pairwise (· < ·)) (hl : os.length * ps.length ≤ 25) {d e : PyData} (ed : val d = tv (Phis fs os)) (ee : val e = tv (Phis fs ps)) :
    tau (val d) * tau (val e) ≤ 25 ∧ PrH d e 616 4 := by
  have b0 : B ≤ 2 ^ 100 := Nat.le_trans (by omega : B ≤ 2 ^ 62) (by decide)
  have b1 : B + B + 12 ≤ 2 ^ 100 := Nat.le_trans hB (by decide)
  have co : ∀ c ∈ os, CodeOk m c := fun c hc => (ho c hc).code b0
  have cp : ∀ c ∈ ps, CodeOk m c := fun c hc => (hp c hc).code b0
  have t1 : turnsOf (val d) = Phis fs os := by rw [ed]; exact turnsOf_eq (Phis_asc F hm so co)
  have t2 : turnsOf (val e) = Phis fs ps := by rw [ee]; exact turnsOf_eq (Phis_asc F hm sp cp)
  have n1 : tau (val d) = os.length := by unfold tau; rw [t1]; simp [Phis]
  have n2 : tau (val e) = ps.length := by unfold tau; rw [t2]; simp [Phis]
  have h25 : tau (val d) * tau (val e) ≤ 25 := by rw [n1, n2]; exact hl
  refine ⟨h25, .inr ⟨by omega, fun p hp' t ht j hj r f er => ?_, by omega⟩⟩
  rw [t1] at hp'
  rw [t2] at ht
  obtain ⟨c1, h1, rfl⟩ := List.mem_map.mp hp'
  obtain ⟨c2, h2, rfl⟩ := List.mem_map.mp ht
  have d1 := ho c1 h1
  have d2 := hp c2 h2
  have z1 := Phi_nonneg F hm (co c1 h1)
  have z2 := Phi_nonneg F hm (cp c2 h2)
  have ds1 : Ds m B c1 := ds_of d1.dg
  have ds2 : Ds m B c2 := ds_of d2.dg
  have m1 : 1 ≤ m := by
    obtain ⟨_, r, hr, _⟩ := d1
    omega
  have e1 : Phi fs (c1 + c2 + (j : Nat)) = Phi fs c1 + Phi fs c2 + (j : Nat) := by
    rw [Phi_add (C := 12) (ds1.add ds2) (Ds.low (x := (j : Nat)) m1 (by omega)) (by omega), Phi_add ds1 ds2 (by omega), Phi_low F (x := (j : Nat)) (by omega)]
  have dj := (d1.sum d2).add (y := j) (Y := 12) (by omega)
  have cj : CodeOk m (c1 + c2 + (j : Nat)) := dj.code b1
  have cj4 : CodeOk 4 (c1 + c2 + (j : Nat)) := ⟨cj.1, fun t ht => ⟨by have := (cj.2 t ht).1; omega, (cj.2 t ht).2⟩⟩
  obtain ⟨w1, w2⟩ := code_wt F cj4 f (by rw [er, e1]; omega)
  have := dj.wz (k := 62) hB (by decide)
  omega
theorem tms_len (cs : List Int) (n : Int) : (tms cs n).length = cs.length := tmsF_len n cs 0
theorem tms_one {n : Int} : ∀ {cs : List Int} {k : Nat} {t : Int × Int}, t ∈ tmsF n k cs → t.2.natAbs = n.natAbs
  | c :: r, k, t, h => by
    rcases List.mem_cons.mp h with rfl | h
    · show ((((k : Int) % 2 * 2 - 1)) * n).natAbs = n.natAbs
      rw [Int.natAbs_mul]
      have : ((k : Int) % 2 * 2 - 1).natAbs = 1 := by omega
      rw [this, Nat.one_mul]
    · exact tms_one h
/-- the terms of a product -/
def rowP (t : Int × Int) (us : List (Int × Int)) : List (Int × Int) := us.map fun u => (t.1 + u.1, t.2 * u.2)
def prsP (us : List (Int × Int)) : List (Int × Int) → List (Int × Int)
  | [] => []
  | t :: r => rowP t us ++ prsP us r
theorem prsP_len (us : List (Int × Int)) : ∀ ts : List (Int × Int), (prsP us ts).length = ts.length * us.length
  | [] => by simp [prsP]
  | t :: r => by
    show (rowP t us ++ prsP us r).length = _
    rw [List.length_append, prsP_len us r]
    simp [rowP, Nat.add_mul, Nat.add_comm]
theorem prsP_app (us : List (Int × Int)) : ∀ a b : List (Int × Int), prsP us (a ++ b) = prsP us a ++ prsP us b
  | [], b => rfl
  | t :: r, b => by
    show rowP t us ++ prsP us (r ++ b) = (rowP t us ++ prsP us r) ++ prsP us b
    rw [prsP_app us r b, List.append_assoc]
theorem prsP_step {us ts : List (Int × Int)} {i : Nat} {t : Int × Int} (h : ts[i]? = some t) : prsP us (ts.take (i + 1)) = prsP us (ts.take i) ++ rowP t us := by
  rw [take_snoc h, prsP_app]
  show prsP us (ts.take i) ++ (rowP t us ++ []) = _
  rw [List.append_nil]
theorem AbT_row (t : Int × Int) : ∀ us : List (Int × Int), AbT (rowP t us) = t.2.natAbs * AbT us
  | [] => by
    show 0 = _ * 0
    rw [Nat.mul_zero]
  | u :: r => by
    have ih := AbT_row t r
    unfold AbT rowP at *
    rw [List.map_cons, List.map_cons, List.sum_cons, List.map_cons, List.sum_cons, ih, Nat.mul_add, Int.natAbs_mul]
theorem AbT_prs (us : List (Int × Int)) : ∀ ts : List (Int × Int), AbT (prsP us ts) = AbT ts * AbT us
  | [] => by
    show 0 = 0 * _
    rw [Nat.zero_mul]
  | t :: r => by
    show AbT (rowP t us ++ prsP us r) = _
    rw [AbT_app, AbT_row, AbT_prs us r]
    unfold AbT
    rw [List.map_cons, List.sum_cons, Nat.add_mul]
theorem mem_prs {us : List (Int × Int)} : ∀ {ts : List (Int × Int)} {q : Int × Int}, q ∈ prsP us ts → ∃ t ∈ ts, ∃ u ∈ us, q.1 = t.1 + u.1
  | t :: r, q, h => by
    rcases List.mem_append.mp h with h | h
    · obtain ⟨u, hu, rfl⟩ := List.mem_map.mp h
      exact ⟨t, by simp, u, hu, rfl⟩
    · obtain ⟨t', h1, u, h2, h3⟩ := mem_prs h
      exact ⟨t', List.mem_cons_of_mem _ h1, u, h2, h3⟩
theorem tsum_row {fs : List PyData} {t : Int × Int} : ∀ {us : List (Int × Int)}, (∀ u ∈ us, Phi fs (t.1 + u.1) = Phi fs t.1 + Phi fs u.1 ∧ 0 ≤ Phi fs t.1 ∧ 0 ≤ Phi fs u.1) → tsum fs (rowP t us) = t.2 * 2 ^ (Phi fs t.1).toNat * tsum fs us
  | [], _ => by
    show (0 : Int) = _ * 0
    rw [Int.mul_zero]
  | u :: r, h => by
    have ih := tsum_row (us := r) fun x hx => h x (by simp [hx])
    obtain ⟨h1, h2, h3⟩ := h u (by simp)
    unfold tsum rowP at *
    rw [List.map_cons, List.map_cons, List.sum_cons, List.map_cons, List.sum_cons, ih, Int.mul_add]
    congr 1
    show t.2 * u.2 * 2 ^ (Phi fs (t.1 + u.1)).toNat = _
    rw [h1, show (Phi fs t.1 + Phi fs u.1).toNat = (Phi fs t.1).toNat + (Phi fs u.1).toNat by omega, Int.pow_add, Int.mul_assoc, Int.mul_assoc, ← Int.mul_assoc u.2, Int.mul_comm u.2, Int.mul_assoc (2 ^ _)]
theorem tsum_prs {fs : List PyData} {us : List (Int × Int)} : ∀ {ts : List (Int × Int)}, (∀ t ∈ ts, ∀ u ∈ us, Phi fs (t.1 + u.1) = Phi fs t.1 + Phi fs u.1 ∧ 0 ≤ Phi fs t.1 ∧ 0 ≤ Phi fs u.1) → tsum fs (prsP us ts) = tsum fs ts * tsum fs us
  | [], _ => by
    show (0 : Int) = 0 * _
    rw [Int.zero_mul]
  | t :: r, h => by
    show tsum fs (rowP t us ++ prsP us r) = _
    rw [tsum_app, tsum_row (h t (by simp)), tsum_prs fun x hx => h x (by simp [hx])]
    show _ = tsum fs ([t] ++ r) * _
    rw [tsum_app, Int.add_mul]
    congr 2
    unfold tsum
    simp
end
end K13
set_option Elab.async false
set_option linter.all false
set_option maxRecDepth 100000
set_option pp.deepTerms false
set_option pp.maxSteps 1500
set_option maxHeartbeats 1000000
/-! codes of sums and of powers (plain mathematics) -/
namespace K13
open PySem PySem.Spec PyProof.Rows L2 HX TV FM DX FB FC FD FS MS PM LamX
section
theorem atr_go {n : Nat} {q : Nat → Nat} {t : Nat} : ∀ k a : Nat, a + k + 1 = n → q a ≤ t → ∃ b, AtR n q t b
  | 0, a, h, h2 => ⟨a, by omega, h2, .inl (by omega)⟩
  | k + 1, a, h, h2 => by
    by_cases h3 : q (a + 1) ≤ t
    · exact atr_go k (a + 1) (by omega) h3
    · exact ⟨a, by omega, h2, .inr (by omega)⟩
theorem sort_ex (l : List Int) : ∃ cs : List Int, cs.Perm l ∧ cs.Pairwise (· ≤ ·) := by
  refine ⟨l.mergeSort (fun a b => decide (a ≤ b)), List.mergeSort_perm _ _, ?_⟩
  have h := List.pairwise_mergeSort (le := fun a b : Int => decide (a ≤ b)) (fun a b c h1 h2 => by simp at *; omega) (fun a b => by simp; omega) l
  exact h.imp fun {a b} h => by simpa using h
theorem sum_codes {m B wf : Nat} {ts : List (Int × Int)} (hc : ∀ t ∈ ts, Dw m B wf t.1) (hm : 1 ≤ m) (hm4 : m ≤ 4) (hB : B ≤ 2 ^ 80) (hb : AbT ts ≤ 2 ^ 100) :
    ∃ ds : List Int, ds.Pairwise (· < ·) ∧ (∀ d ∈ ds, Dw m (B + 122) wf d) ∧ (∀ fs, Fields fs → tv (Phis fs ds) = tsum fs ts) ∧ ds.length ≤ 2 * AbT ts := by
  obtain ⟨cs, hp, hs⟩ := sort_ex (ts.map (·.1))
  have hmem : ∀ t ∈ ts, t.1 ∈ cs := fun t ht => hp.mem_iff.mpr (List.mem_map.mpr ⟨t, ht, rfl⟩)
  obtain ⟨r1, r2, r3, r4⟩ := summed (m := m) (B := B) (w := wf) (cs := cs) (ts := ts) (at_ := atC cs.length (qN cs)) hs (fun c h => by
    obtain ⟨t, ht, rfl⟩ := List.mem_map.mp (hp.mem_iff.mp h)
    exact hc t ht) hm hm4 hB hmem hb (fun t ht => by
      by_cases e : cs.length = 0
      · exfalso
        have : ts = [] := by
          apply List.eq_nil_of_length_eq_zero
          have := hp.length_eq
          rw [List.length_map] at this
          omega
        rw [this] at ht
        have z : Sm (ixT cs []) (qN cs) = 0 := rfl
        rw [z, show turnsOf 0 = [] from turnsOf_is (ts := []) trivial rfl] at ht
        cases ht
      · obtain ⟨a, ha⟩ := atr_go (n := cs.length) (q := qN cs) (t := t) (cs.length - 1) 0 (by omega) (Nat.zero_le _)
        exact atC_spec ha) rfl
  exact ⟨_, r1, r2, r4, r3⟩
/-- what is known of the codes of a number -/
structure Cds (fs : List PyData) (m B wf : Nat) (n : Int) (cs : List Int) : Prop where
  asc : cs.Pairwise (· < ·)
  dw : ∀ c ∈ cs, Dw m B wf c
  eq : tv (Phis fs cs) = n
theorem Cds.len {fs : List PyData} (F : Fields fs) {m B wf : Nat} {n : Int} {cs : List Int} (h : Cds fs m B wf n cs) (hm : m ≤ 4) (hB : B ≤ 2 ^ 100) : cs.length = tau n ∧ turnsOf n = Phis fs cs := by
  have e : turnsOf n = Phis fs cs := by
    rw [← h.eq]
    exact turnsOf_eq (Phis_asc F hm h.asc fun c hc => (h.dw c hc).code hB)
  refine ⟨?_, e⟩
  unfold tau
  rw [e]
  simp [Phis]
theorem tau_zero' : tau 0 = 0 := tau_zero
/-- a product's codes -/
theorem Cds.mul {fs : List PyData} (F : Fields fs) {m B C u v : Nat} {a b : Int} {cs os : List Int} (h : Cds fs m B u a cs) (g : Cds fs m C v b os) (hm : 1 ≤ m) (hm4 : m ≤ 4) (hB : B + C ≤ 2 ^ 80) (hl : tau a * tau b ≤ 1000) :
    ∃ ds, Cds fs m (B + C + 122) (u + 2 * v) (a * b) ds ∧ ds.length ≤ 2 * (tau a * tau b) := by
  have hB2 : B + C ≤ 2 ^ 100 := Nat.le_trans hB (by decide)
  have l1 := (h.len F hm4 (by omega)).1
  have l2 := (g.len F hm4 (by omega)).1
  have hab : AbT (prsP (tms os 1) (tms cs 1)) ≤ tau a * tau b := by
    rw [AbT_prs]
    have a1 : AbT (tms cs 1) ≤ cs.length * (1 : Int).natAbs := AbT_tmsF 1 cs 0
    have a2 : AbT (tms os 1) ≤ os.length * (1 : Int).natAbs := AbT_tmsF 1 os 0
    rw [show (1 : Int).natAbs = 1 from rfl, Nat.mul_one] at a1 a2
    have := Nat.mul_le_mul a1 a2
    rwa [l1, l2] at this
  obtain ⟨ds, d1, d2, d3, d4⟩ := sum_codes (m := m) (B := B + C) (wf := u + 2 * v) (ts := prsP (tms os 1) (tms cs 1)) (fun t ht => by
    obtain ⟨t1, h1, t2, h2, e⟩ := mem_prs ht
    rw [e]
    exact (h.dw _ (tms_codes h1)).sum (g.dw _ (tms_codes h2))) hm hm4 hB (Nat.le_trans (Nat.le_trans hab hl) (by decide))
  refine ⟨ds, ⟨d1, d2, ?_⟩, by omega⟩
  rw [d3 fs F, tsum_prs fun t h1 u h2 => ?_, tsum_tms, tsum_tms, h.eq, g.eq, Int.one_mul, Int.one_mul]
  have c1 := h.dw _ (tms_codes h1)
  have c2 := g.dw _ (tms_codes h2)
  exact ⟨Phi_add (ds_of c1.dg) (ds_of c2.dg) hB2, Phi_nonneg F hm4 (c1.code (by omega)), Phi_nonneg F hm4 (c2.code (by omega))⟩
/-- the product of two numbers whose codes are known is no great work -/
theorem Cds.prh {fs : List PyData} (F : Fields fs) {m B C u v : Nat} {cs os : List Int} {d e : PyData} (h : Cds fs m B u (val d) cs) (g : Cds fs m C v (val e) os) (hm : 1 ≤ m) (hm4 : m ≤ 4) (hB : B + C + 12 ≤ 2 ^ 80) (hw : u + 2 * v ≤ 270) (hl : tau (val d) * tau (val e) ≤ 600) : PrH d e (82 + 23 * (u + 2 * v)) 4 := by
  have hB2 : B + C + 12 ≤ 2 ^ 100 := Nat.le_trans hB (by decide)
  have t1 := (h.len F hm4 (by omega)).2
  have t2 := (g.len F hm4 (by omega)).2
  refine .inr ⟨hl, fun p hp t ht j hj r f er => ?_, ?_⟩
  · rw [t1] at hp
    rw [t2] at ht
    obtain ⟨c1, h1, rfl⟩ := List.mem_map.mp hp
    obtain ⟨c2, h2, rfl⟩ := List.mem_map.mp ht
    have d1 := h.dw c1 h1
    have d2 := g.dw c2 h2
    have z1 := Phi_nonneg F hm4 (d1.code (by omega))
    have z2 := Phi_nonneg F hm4 (d2.code (by omega))
    have ds1 : Ds m B c1 := ds_of d1.dg
    have ds2 : Ds m C c2 := ds_of d2.dg
    have e1 : Phi fs (c1 + c2 + (j : Nat)) = Phi fs c1 + Phi fs c2 + (j : Nat) := by
      rw [Phi_add (C := 12) (ds1.add ds2) (Ds.low (x := (j : Nat)) hm (by omega)) (by omega), Phi_add ds1 ds2 (by omega), Phi_low F (x := (j : Nat)) (by
        have : (12 : Nat) ≤ 2 ^ 100 := by decide
        omega)]
    have dj := (d1.sum d2).add (y := j) (Y := 12) (by omega)
    have cj : CodeOk m (c1 + c2 + (j : Nat)) := dj.code hB2
    have cj4 : CodeOk 4 (c1 + c2 + (j : Nat)) := ⟨cj.1, fun t ht => ⟨by have := (cj.2 t ht).1; omega, (cj.2 t ht).2⟩⟩
    obtain ⟨w1, w2⟩ := code_wt F cj4 f (by rw [er, e1]; omega)
    have := dj.wz (k := 80) hB (by decide)
    omega
  · have h1 : 2 * (tau (val d) * tau (val e)) * (82 + 23 * (u + 2 * v)) ≤ 1200 * (82 + 23 * 270) := Nat.mul_le_mul (by omega) (by omega)
    exact Nat.le_trans h1 (by decide)
theorem cds_one {fs : List PyData} (F : Fields fs) {m : Nat} (hm : 1 ≤ m) (hm4 : m ≤ 4) : Cds fs m 2 0 1 [0, 1] := by
  have h0 : Dw m 2 0 0 := Dw.nat (x := 0) hm (by decide)
  have h1 : Dw m 2 0 1 := Dw.nat (x := 1) hm (by decide)
  refine ⟨by decide, fun c hc => ?_, ?_⟩
  · simp only [List.mem_cons, List.not_mem_nil, or_false] at hc
    rcases hc with rfl | rfl
    · exact h0
    · exact h1
  · show tv [(Phi fs 0).toNat, (Phi fs 1).toNat] = 1
    rw [Phi_low F (x := 0) (by decide), Phi_low F (x := 1) (by decide)]
    rfl
/-- the codes of the powers, while the products are of few turns -/
theorem pow_codes {fs : List PyData} (F : Fields fs) {m B v : Nat} {x : Int} {os : List Int} (g : Cds fs m B v x os) (hm : 1 ≤ m) (hm4 : m ≤ 4) {Z : Nat} (hZ : Z ≤ 2 ^ 80) (i : Nat) (hB : (i + 1) * (B + 122) + 2 ≤ Z) (hf : ∀ j, j < i → tau (x ^ j) * tau x ≤ 1000) : ∃ cs, Cds fs m (i * (B + 122) + 2) (2 * v * i) (x ^ i) cs := by
  induction i with
  | zero =>
    refine ⟨[0, 1], ?_⟩
    have h1 := cds_one F hm hm4
    rw [Nat.zero_mul, Nat.mul_zero, Int.pow_zero, Nat.zero_add]
    exact h1
  | succ i ih =>
    have e1 : (i + 1 + 1) * (B + 122) = i * (B + 122) + (B + 122) + (B + 122) := by rw [Nat.add_mul, Nat.add_mul, Nat.one_mul]
    have e2 : (i + 1) * (B + 122) = i * (B + 122) + (B + 122) := by rw [Nat.add_mul, Nat.one_mul]
    have e3 : 2 * v * (i + 1) = 2 * v * i + 2 * v := by rw [Nat.mul_add, Nat.mul_one]
    rw [e1] at hB
    rw [e2] at ih
    rw [e2, e3, Int.pow_succ]
    clear e1 e2 e3
    generalize i * (B + 122) = k at *
    obtain ⟨cs, h⟩ := ih (by omega) fun j hj => hf j (Nat.lt_succ_of_lt hj)
    have hz : k + 2 + B ≤ Z := by omega
    obtain ⟨ds, hd, _⟩ := h.mul F g hm hm4 (Nat.le_trans hz hZ) (hf i (Nat.lt_succ_self i))
    refine ⟨ds, ?_⟩
    have e4 : k + 2 + B + 122 = k + (B + 122) + 2 := by omega
    rw [e4] at hd
    exact hd
end
end K13
set_option Elab.async false
set_option linter.all false
set_option maxRecDepth 100000
set_option pp.deepTerms false
set_option pp.maxSteps 1500
set_option maxHeartbeats 2000000
namespace K13
open PySem PySem.Spec PyProof.Rows L2 HX TV FM DX FB FC FD FS FW MS PM LamX FI
local macro_rules | `(tactic| walk_at "r") => `(tactic| (repeat (first | refine Exists.intro _ (And.intro rfl ?_) | refine And.intro rfl ?_ | refine Exists.intro _ (Exists.intro _ (And.intro rfl (And.intro rfl ?_))) | refine And.intro (by omega) ?_ | refine And.intro (Or.inl (And.intro (by omega) (by omega))) ?_ | refine And.intro (Or.inr (And.intro (by omega) (by omega))) ?_ | refine And.intro (And.intro (by omega) (by omega)) ?_ | refine And.intro (And.intro (by decide) (And.intro (by decide) (by decide))) ?_ | refine Or.inl (Exists.intro _ (And.intro rfl ?_)) | (dsimp only [gName]; first | with_reducible refine seqC ?_ | with_reducible refine asgC ?_))))
local macro_rules | `(tactic| walk_at "s") => `(tactic| (repeat (first | refine Exists.intro _ (And.intro rfl ?_) | refine And.intro rfl ?_ | refine Exists.intro _ (Exists.intro _ (And.intro rfl (And.intro rfl ?_))) | refine And.intro (by omega) ?_ | refine And.intro (Or.inl (And.intro (by omega) (by omega))) ?_ | refine And.intro (Or.inr (And.intro (by omega) (by omega))) ?_ | refine And.intro (And.intro (by omega) (by omega)) ?_ | refine And.intro (And.intro (by decide) (And.intro (by decide) (by decide))) ?_ | refine Or.inl (Exists.intro _ (And.intro rfl ?_)) | refine Exists.intro _ (Exists.intro _ (And.intro rfl ?_)) | (dsimp only [gName]; first | with_reducible refine seqC ?_ | with_reducible refine asgC ?_))))
section
variable {P : Program} {w : World} {K : PySem.W.Frag} {mg : Str → Option Value} {base : Heap}
/-- what a power is due to tell -/
noncomputable def dueP (x : Int) (N : Nat) : PyData := match st x N with
  | none => .tuple [.str "form", fo (x ^ N)]
  | some (.inl t) => tmT t
  | some (.inr r) => .tuple [.str "TooLarge", .int (wt r : Nat), .int (r.depth : Nat)]
theorem dueP_none {x : Int} {N : Nat} (h : st x N = none) : dueP x N = .tuple [.str "form", fo (x ^ N)] := by
  unfold dueP
  rw [h]
theorem dueP_many {x : Int} {N : Nat} {t : Int} (h : st x N = some (.inl t)) : dueP x N = tmT t := by
  unfold dueP
  rw [h]
theorem dueP_large {x : Int} {N : Nat} {r : PyData} (h : st x N = some (.inr r)) : dueP x N = .tuple [.str "TooLarge", .int (wt r : Nat), .int (r.depth : Nat)] := by
  unfold dueP
  rw [h]
def noPw (e : PyData) : PyData := .tuple [.str "InvalidPower", e, .bool true]
def sp_raised (T : Top K mg) : Sp := fun vs H Q _ => ∃ (x y : V) (d e : PyData), vs = [x, y] ∧ Dp K H x d ∧ Dp K H y e ∧ Fm d ∧ Fm e ∧ d.depth ≤ 5 ∧ wt d ≤ 2000 ∧ Tabs (lamT T) H ∧
  (isX d e = false → ∀ v H', Dp K H' v (noPw e) → ExtN H H' → Tabs (lamT T) H' → Q v H') ∧
  (val d = 2 → 0 ≤ val e → e.depth ≤ 5 ∧ wt e ≤ 900 ∧ ∀ v r H', Fm r → val r = 2 ^ vl e → wt r ≤ 12000000 → r.depth ≤ 60 → Dp K H' v (judg r) → ExtN H H' → Tabs (lamT T) H' → Q v H') ∧
  (∀ N : Nat, val d ≠ 2 → e = .int (N : Nat) → N ≤ 64 → (∀ i, i < N → st (val d) i = none → few (val d) i → ∃ W, PrH (fo (val d ^ i)) d W 4) ∧ (∀ i, i ≤ N → st (val d) i = none → (fo (val d ^ i)).depth ≤ 5) ∧
    ∀ v H', Dp K H' v (dueP (val d) N) → ExtN H H' → Tabs (lamT T) H' → Q v H')
theorem ok__law_raised (T : Top K mg) (hP : HX.PF P) (TB__law_raised : TabB base mg T.c__law_raised T.P__law_raised) : FnOk P w K mg base (L2.CX P w) (19) T.f__law_raised T.fd__law_raised ["_law_x", "_law_n"]  (sp_raised T) := by
  have C__law_told : FnC P w K mg base (15 + 2) 15 T.f__law_told T.fd__law_told "_law_call" (TTtold K T.C_TooLarge) := ok__law_told T 15
  have GX_power : FnOk P w K mg base (L2.CX P w) (15) T.f_power T.fd_power ["x", "n"]  (sp_pow K T.C_TooLarge T.C_TooManyTerms T.C_InvalidPower) := ok_powerX T hP
  have hu__law_raised : ∀ p ∈ lamT T, p.1 = T.P__law_raised → p.2 = lamQ "_law_raised" := by simp [lamT]
  refine funXC T.F__law_raised T.cod__law_raised sc__law_raised (fun vs H Q E h => ?_) (fun A outer s H vs Q E hr h => ?_)
  · obtain ⟨x, y, d, e, rfl, _⟩ := h
    rfl
  · obtain ⟨x, y, d, e, rfl, hx, hy, hd, he, hdd, hwd, hTb, q0, q2, qN⟩ := h
    refine ⟨_, (pss_cons (ps_try_named rfl rfl sc__law_raised.nd (takes_of rfl rfl rfl rfl) (fun W pn xe tk _ => (pss_one (ps_set (i := 2) sc__law_raised.nd rfl (Or.inl rfl) (pe_lam1 (T := lamT T) C__law_told (hr.mono (by omega)) (by rfl) T.g__law_told T.F__law_told.kp T.b__law_told (fun σ => passAt tk σ) TB__law_raised rfl (by first | exact lm__law_raised T | (simp [lamT]; rfl)) hu__law_raised (LamX.lamS_by (sc := defScope s__law_raised) (by decide +kernel)) rfl (fun _ _ _ _ _ => rfl) (fun _ _ _ _ _ _ _ hr => (pe_call GX_power (hr.mono (by omega)) (by rfl) T.g_power T.F_power.kp T.b_power .nil (passes_call (takes_of rfl rfl rfl rfl) (fun _ _ _ _ h => h)) (pa_cons (pv 0) (pa_cons (pv 1) pa_nil))))))))
      (HdsN.named (i := 3) rfl rfl ⟨rfl, by decide, .inl T.E_TooManyTerms.g⟩ (fun a oe cls d pn hz hf => (pss_one (ps_set (i := 2) sc__law_raised.nd rfl (Or.inl rfl) (pe_tup (pa_cons pe_str (pa_cons (pe_xf T.E_TooManyTerms.xf (T.E_TooManyTerms.noF "terms" (by simp)) hz hf (pv 3)) pa_nil))))))
      (HdsN.named (i := 3) rfl rfl ⟨rfl, by decide, .inl T.E_InvalidPower.g⟩ (fun a oe cls d pn hz hf => (pss_one (ps_set (i := 2) sc__law_raised.nd rfl (Or.inl rfl) (pe_tup (pa_cons pe_str (pa_cons (pe_xf T.E_InvalidPower.xf (T.E_InvalidPower.noF "exponent" (by simp)) hz hf (pv 3)) (pa_cons (pe_and (pe_callB (id := "isinstance") (call_isF hz hf) (by rfl) T.m_isinstance (by decide +kernel) (pa_cons (pv 3) (pa_cons (pe_glob (v := .ref T.C_FarError) (by rfl) T.g_FarError rfl) pa_nil))) (pe_one (pe_callB (id := "isinstance") (call_isF hz hf) (by rfl) T.m_isinstance (by decide +kernel) (pa_cons (pv 3) (pa_cons (pe_bltn (v := .ty "ValueError") (by rfl) T.m_ValueError (by decide +kernel) rfl) pa_nil))))) pa_nil)))))))
      HdsN.nil)))
    (pss_one (ps_ret (pv 2)))), ?_⟩
    refine ⟨hTb, fun H1 e1 T1 => ?_⟩
    refine ⟨_, rfl, _, rfl, x, y, d, e, rfl, dp_tk (tk_ext e1) hd hx, dp_tk (tk_ext e1) he hy, hd, he, hdd, hwd, fun hX dd H2 nd sm2 ed => ?_, fun h2 h0 => ?_, fun N hn eN hN => ?_⟩
    · refine .inr ⟨T.xx_InvalidPower_TooLarge, ?_⟩
      refine ⟨false, T.xx_InvalidPower_TooManyTerms, fun z => Bool.noConfusion z, fun _ => ?_⟩
      refine ⟨true, T.E_InvalidPower.te, fun _ a ha => ?_, fun z => Bool.noConfusion z⟩
      refine ⟨_, rfl, rfl, rfl, dd, _, y, rfl, ed, rfl, ?_⟩
      refine ⟨_, rfl, T.C_InvalidPower, dd, _, .ref T.C_FarError, true, _, rfl, rfl, T.E_InvalidPower.ex, rfl, (fun u r => by cases r; rfl), T.kf_InvalidPower, ed, ?_⟩
      refine ⟨_, rfl, iteT ?_⟩
      refine ⟨_, rfl, T.C_InvalidPower, dd, _, .type "ValueError", true, _, rfl, rfl, T.E_InvalidPower.ex, rfl, (fun u r => by cases r; rfl), T.E_InvalidPower.kv, ed, ?_⟩
      refine ⟨len_le (by show 3 ≤ _; decide), fun t nt => ?_⟩
      have s3 := sm_upd (o := .tup [V.str "InvalidPower", y, .bl true]) nt
      have tk3 := (tk_ext e1).trans (tk_same (sm2.trans s3))
      exact ⟨_, rfl, q0 hX _ _ (.tup (.inl (.inl upd_same)) (.cons (.str _) (.cons (dp_tk tk3 he hy) (.cons (.bl _) .nil)))) (e1.trans (extN_same (sm2.trans s3))) (tabs_same T1 (sm2.trans s3))⟩
    · obtain ⟨e5, e9, q⟩ := q2 h2 h0
      refine ⟨e5, by omega, Outs.told fun v r H2 g1 g2 g3 g4 g5 sm2 => ?_⟩
      exact ⟨_, rfl, q v r H2 g1 (by rw [g2, Int.one_mul]) g3 g4 g5 (e1.trans (extN_same sm2)) (tabs_same T1 sm2)⟩
    · obtain ⟨hP1, hD, q⟩ := qN N hn eN hN
      refine ⟨hP1, hD, fun hst v H2 D sm2 t nt => ?_, fun t hst dd H2 nd sm2 ed => ?_, fun r hst dd H2 nd sm2 ed => ?_⟩
      · have s3 := sm_upd (o := .tup [V.str "form", v]) nt
        refine ⟨_, rfl, q _ _ ?_ (e1.trans (extN_same (sm2.trans s3))) (tabs_same T1 (sm2.trans s3))⟩
        rw [dueP_none hst]
        exact .tup (.inl (.inl upd_same)) (.cons (.str _) (.cons (dp_tk (tk_same s3) (fo_fm _) D) .nil))
      · refine .inr ⟨T.xx_TooManyTerms_TooLarge, ?_⟩
        refine ⟨true, T.E_TooManyTerms.te, fun _ a ha => ?_, fun z => Bool.noConfusion z⟩
        refine ⟨_, rfl, rfl, rfl, dd, _, _, rfl, ed, rfl, ?_⟩
        refine ⟨len_le (by show 2 ≤ _; decide), fun t2 nt => ?_⟩
        have s3 := sm_upd (o := .tup [V.str "TooManyTerms", .int t]) nt
        refine ⟨_, rfl, q _ _ ?_ (e1.trans (extN_same (sm2.trans s3))) (tabs_same T1 (sm2.trans s3))⟩
        rw [dueP_many hst]
        exact .tup (.inl (.inl upd_same)) (.cons (.str _) (.cons (.int _) .nil))
      · refine .inl ⟨rfl, dd, _, _, rfl, ed, fun t2 nt => ?_⟩
        have s3 := sm_upd (o := .tup [V.str "TooLarge", .int (wt r : Nat), .int (r.depth : Nat)]) nt
        refine ⟨_, rfl, q _ _ ?_ (e1.trans (extN_same (sm2.trans s3))) (tabs_same T1 (sm2.trans s3))⟩
        rw [dueP_large hst]
        exact .tup (.inl (.inl upd_same)) (.cons (.str _) (.cons (.int _) (.cons (.int _) .nil)))
end
end K13
set_option Elab.async false
set_option linter.all false
set_option maxRecDepth 100000
set_option pp.deepTerms false
set_option pp.maxSteps 1500
set_option maxHeartbeats 2000000
namespace K13
open PySem PySem.Spec PyProof.Rows L2 HX TV FM DX FB FC FD FS FW MS PM LamX FI
local macro_rules | `(tactic| walk_at "r") => `(tactic| (repeat (first | refine Exists.intro _ (And.intro rfl ?_) | refine And.intro rfl ?_ | refine Exists.intro _ (Exists.intro _ (And.intro rfl (And.intro rfl ?_))) | refine And.intro (by omega) ?_ | refine And.intro (Or.inl (And.intro (by omega) (by omega))) ?_ | refine And.intro (Or.inr (And.intro (by omega) (by omega))) ?_ | refine And.intro (And.intro (by omega) (by omega)) ?_ | refine And.intro (And.intro (by decide) (And.intro (by decide) (by decide))) ?_ | refine Or.inl (Exists.intro _ (And.intro rfl ?_)) | (dsimp only [gName]; first | with_reducible refine seqC ?_ | with_reducible refine asgC ?_))))
local macro_rules | `(tactic| walk_at "s") => `(tactic| (repeat (first | refine Exists.intro _ (And.intro rfl ?_) | refine And.intro rfl ?_ | refine Exists.intro _ (Exists.intro _ (And.intro rfl (And.intro rfl ?_))) | refine And.intro (by omega) ?_ | refine And.intro (Or.inl (And.intro (by omega) (by omega))) ?_ | refine And.intro (Or.inr (And.intro (by omega) (by omega))) ?_ | refine And.intro (And.intro (by omega) (by omega)) ?_ | refine And.intro (And.intro (by decide) (And.intro (by decide) (by decide))) ?_ | refine Or.inl (Exists.intro _ (And.intro rfl ?_)) | refine Exists.intro _ (Exists.intro _ (And.intro rfl ?_)) | (dsimp only [gName]; first | with_reducible refine seqC ?_ | with_reducible refine asgC ?_))))
section
variable {P : Program} {w : World} {K : PySem.W.Frag} {mg : Str → Option Value} {base : Heap}
/-- what is known of a power's base -/
structure Pwb (fs : List PyData) (m B v N : Nat) (x : Int) (os : List Int) : Prop where
  F : Fields fs
  c : Cds fs m B v x os
  m1 : 1 ≤ m
  m4 : m ≤ 4
  hN : N ≤ 64
  hv : 2 * v * (N + 1) ≤ 270
  l9 : os.length ≤ 9
  b : N * (B + 122) + (B + 122) + 500 ≤ 2 ^ 80
theorem p80b : 2 ^ 80 ≤ 2 ^ 100 := by decide
section
variable {fs : List PyData} {m B v N : Nat} {x : Int} {os : List Int}
theorem Pwb.b100 (h : Pwb fs m B v N x os) : B ≤ 2 ^ 100 := Nat.le_trans (by have := h.b; omega) p80b
theorem Pwb.at_ (h : Pwb fs m B v N x os) {i : Nat} (hi : i ≤ N) : i * (B + 122) ≤ N * (B + 122) ∧ 2 * v * i ≤ 2 * v * N ∧ 2 * v * N + 2 * v ≤ 270 := ⟨Nat.mul_le_mul_right _ hi, Nat.mul_le_mul_left _ hi, by have := h.hv; rw [Nat.mul_add, Nat.mul_one] at this; exact this⟩
theorem ints_mul {x y : Nat} (h1 : y ≤ 9) (h2 : x ≤ 65) : x * y ≤ 600 := Nat.le_trans (Nat.mul_le_mul h2 h1) (by decide)
theorem Pwb.tau (h : Pwb fs m B v N x os) : os.length = MS.tau x := (h.c.len h.F h.m4 h.b100).1
theorem Pwb.fw (h : Pwb fs m B v N x os) {i : Nat} (hf : few x i) : MS.tau (x ^ i) * MS.tau x ≤ 600 := by
  rcases hf with ⟨p1, p2⟩ | hf
  · have hl : (turnsOf (x ^ i)).length ≤ 65 := Bw.len (k := 64) p1
    have h9 := h.l9
    rw [h.tau] at h9
    exact ints_mul h9 hl
  · exact hf
theorem st_prev {x : Int} {i : Nat} (h : st x (i + 1) = none) : st x i = none := by
  cases e : st x i with
  | none => rfl
  | some r =>
    have := st_later e (show i ≤ i + 1 by omega)
    rw [h] at this
    cases this
theorem st_few {x : Int} : ∀ {i : Nat}, st x i = none → ∀ j, j < i → few x j
  | i + 1, h, j, hj => by
    have h0 := st_prev h
    by_cases e : j = i
    · subst e
      apply Classical.byContradiction
      intro hf
      rw [st_many h0 hf] at h
      cases h
    · exact st_few h0 j (by omega)
theorem within_one : within (.int 1) := ⟨by rw [wt_int]; decide, by rw [depth_int]; decide⟩
theorem st_within {x : Int} : ∀ {i : Nat}, st x i = none → within (fo (x ^ i))
  | 0, _ => by
    rw [Int.pow_zero, fo_int (by decide)]
    exact within_one
  | i + 1, h => by
    have h0 := st_prev h
    have hf := st_few h i (by omega)
    apply Classical.byContradiction
    intro hw
    rw [st_large h0 hf hw] at h
    cases h
theorem st_some {x : Int} {r : Int ⊕ PyData} : ∀ {N : Nat}, st x N = some r → ∃ i, i < N ∧ st x i = none ∧ ((¬ few x i ∧ r = .inl ((MS.tau (x ^ i) * MS.tau x : Nat) : Int)) ∨ (few x i ∧ ¬ within (fo (x ^ (i + 1))) ∧ r = .inr (fo (x ^ (i + 1)))))
  | N + 1, h => by
    cases e : st x N with
    | some r' =>
      have h1 := st_later e (show N ≤ N + 1 by omega)
      rw [h] at h1
      cases h1
      obtain ⟨i, hi, z⟩ := st_some e
      exact ⟨i, by omega, z⟩
    | none =>
      refine ⟨N, by omega, e, ?_⟩
      by_cases hf : few x N
      · by_cases hw : within (fo (x ^ (N + 1)))
        · rw [st_fine e hf hw] at h
          cases h
        · rw [st_large e hf hw] at h
          cases h
          exact .inr ⟨hf, hw, rfl⟩
      · rw [st_many e hf] at h
        cases h
        exact .inl ⟨hf, rfl⟩
theorem Pwb.codes (h : Pwb fs m B v N x os) {i : Nat} (hi : i ≤ N) (hs : st x i = none) : ∃ cs, Cds fs m (i * (B + 122) + 2) (2 * v * i) (x ^ i) cs := by
  have hb := h.b
  have h2 : N * (B + 122) + (B + 122) + 2 ≤ 2 ^ 80 := Nat.le_trans (by omega) hb
  have h1 := (h.at_ hi).1
  refine pow_codes h.F h.c h.m1 h.m4 (Z := N * (B + 122) + (B + 122) + 2) h2 i ?_ fun j hj => Nat.le_trans (h.fw (st_few hs j hj)) (by decide)
  rw [Nat.add_mul, Nat.one_mul]
  omega
/-- what the call of power asks -/
theorem Pwb.prh {d : PyData} (h : Pwb fs m B v N (val d) os) {i : Nat} (hi : i < N) (hs : st (val d) i = none) (hf : few (val d) i) : ∃ W, PrH (fo (val d ^ i)) d W 4 := by
  obtain ⟨cs, hc⟩ := h.codes (Nat.le_of_lt hi) hs
  obtain ⟨h1, h2, h3⟩ := h.at_ (Nat.le_of_lt hi)
  have hb := h.b
  have hc' : Cds fs m (i * (B + 122) + 2) (2 * v * i) (val (fo (val d ^ i))) cs := by rw [val_fo]; exact hc
  have h4 : i * (B + 122) + 2 + B + 12 ≤ 2 ^ 80 := Nat.le_trans (by omega) hb
  exact ⟨_, hc'.prh h.F h.c h.m1 h.m4 h4 (by omega) (by rw [val_fo]; exact h.fw hf)⟩
theorem sum_bd {c : Nat} {f : Int → Nat} : ∀ {cs : List Int}, (∀ x ∈ cs, f x ≤ c) → (cs.map f).sum ≤ c * cs.length
  | [], _ => Nat.le_refl _
  | x :: r, h => by
    have h1 := h x (by simp)
    have h2 := sum_bd (cs := r) fun y hy => h y (by simp [hy])
    rw [List.map_cons, List.sum_cons, List.length_cons, Nat.mul_add, Nat.mul_one]
    omega
theorem places_of {fs : List PyData} (F : Fields fs) : ∀ {cs : List Int}, (∀ c ∈ cs, CodeOk 4 c) → ∃ ds, FmAll ds ∧ vals ds = Phis fs cs ∧ PyData.depthAll ds ≤ 4 ∧ wtAll ds ≤ (cs.map FC.cwt).sum
  | [], _ => ⟨[], fmAll_nil, vals_nil, by rw [depthAll_nil]; decide, by rw [wtAll_nil]; exact Nat.zero_le _⟩
  | c :: r, h => by
    obtain ⟨d, f, e, wd, dd⟩ := code_form F (h c (by simp))
    obtain ⟨ds, F2, e2, dd2, wd2⟩ := places_of F (cs := r) fun x hx => h x (by simp [hx])
    have h0 := Phi_nonneg F (by decide) (h c (by simp))
    refine ⟨d :: ds, (fmAll_cons d ds).mpr ⟨f, by omega, F2⟩, ?_, ?_, ?_⟩
    · rw [vals_cons, e2, e]
      rfl
    · rw [depthAll_cons]
      omega
    · rw [wtAll_cons, List.map_cons, List.sum_cons]
      omega
/-- the form of a number with known codes -/
theorem Cds.form {fs : List PyData} (F : Fields fs) {m B u : Nat} {n : Int} {cs : List Int} (h : Cds fs m B u n cs) (hm4 : m ≤ 4) (hB : B ≤ 2 ^ 80) : (fo n).depth ≤ 5 ∧ wt (fo n) ≤ (82 + 23 * u) * cs.length + 1 := by
  have hB2 : B ≤ 2 ^ 100 := Nat.le_trans hB p80b
  have hC : ∀ c ∈ cs, CodeOk 4 c := fun c hx => by
    have cj := (h.dw c hx).code hB2
    exact ⟨cj.1, fun t ht => ⟨by have := (cj.2 t ht).1; omega, (cj.2 t ht).2⟩⟩
  obtain ⟨ds, f1, e1, d1, w1⟩ := places_of F hC
  obtain ⟨d, f, e, wd, dd⟩ := row_ex f1 (by rw [e1]; exact Phis_asc F (by decide) h.asc hC)
  have hs := sum_bd (c := 82 + 23 * u) (f := FC.cwt) (cs := cs) fun c hx => by
    have := (h.dw c hx).wz (k := 80) hB (by decide)
    omega
  rw [← fo_is f (by rw [e, e1, h.eq])]
  omega
theorem Pwb.depth (h : Pwb fs m B v N x os) {i : Nat} (hi : i ≤ N) (hs : st x i = none) : (fo (x ^ i)).depth ≤ 5 := by
  obtain ⟨cs, hc⟩ := h.codes hi hs
  have h1 := (h.at_ hi).1
  have hb := h.b
  exact (hc.form h.F h.m4 (Nat.le_trans (by omega) hb)).1
theorem wtAll_len : ∀ ds : List PyData, ds.length ≤ wtAll ds
  | [] => Nat.zero_le _
  | d :: r => by
    have := wtAll_len r
    have := wt_pos d
    rw [List.length_cons, wtAll_cons]
    omega
theorem vals_len : ∀ ds : List PyData, (vals ds).length = ds.length
  | [] => by rw [vals_nil]; rfl
  | a :: r => by rw [vals_cons, List.length_cons, List.length_cons, vals_len r]
theorem tau_wt {d : PyData} (f : Fm d) : MS.tau (val d) ≤ 65 + wt d := by
  rcases fm_cases f with ⟨i, rfl⟩ | ⟨ds, rfl⟩
  · rw [val_int]
    have hl : (turnsOf i).length ≤ 65 := Bw.len (k := 64) ((fm_int i).mp f)
    exact Nat.le_trans hl (by omega)
  · obtain ⟨f1, f2, _⟩ := (fm_tuple ds).mp f
    have hl := wtAll_len ds
    rw [val_tuple, wt_tuple]
    unfold MS.tau
    rw [turnsOf_eq f2]
    have := vals_len ds
    omega
/-- what is due may be shown -/
theorem Pwb.rp (h : Pwb fs m B v N x os) : Rp (dueP x N) 60000 10 := by
  cases e : st x N with
  | none =>
    rw [dueP_none e]
    have hw := st_within e
    have h1 := rp_judg (fo_fm (x ^ N)) (by have := hw.1; omega) (by have := hw.2; omega)
    rw [judg_in hw] at h1
    exact h1
  | some r =>
    obtain ⟨i, hi, hs, z⟩ := st_some e
    rcases z with ⟨hf, rfl⟩ | ⟨hf, hin, rfl⟩
    · rw [dueP_many e]
      have h1 := tau_wt (fo_fm (x ^ i))
      rw [val_fo] at h1
      have h2 := (st_within hs).1
      have h3 := h.l9
      rw [h.tau] at h3
      have h4 : MS.tau (x ^ i) * MS.tau x ≤ 2065 * 9 := Nat.mul_le_mul (by omega) h3
      have r1 : Rp (.str "TooManyTerms") 30 0 := Rp.str (by decide +kernel)
      have r2 : Rp (.int ((MS.tau (x ^ i) * MS.tau x : Nat) : Int)) 21 0 := Rp.int (by omega)
      exact (Rp.tup (RpAll.cons r1 (RpAll.cons r2 RpAll.nil))).mono (by omega) (by omega)
    · rw [dueP_large e]
      obtain ⟨cs, hc⟩ := h.codes (Nat.le_of_lt hi) hs
      obtain ⟨h1, h2, h3⟩ := h.at_ (Nat.le_of_lt hi)
      have hb := h.b
      obtain ⟨ds, hd, hl⟩ := hc.mul h.F h.c h.m1 h.m4 (Nat.le_trans (by omega) hb) (Nat.le_trans (h.fw hf) (by decide))
      have hd' : Cds fs m (i * (B + 122) + 2 + B + 122) (2 * v * i + 2 * v) (x ^ (i + 1)) ds := by
        rw [Int.pow_succ]
        exact hd
      obtain ⟨d1, w1⟩ := hd'.form h.F h.m4 (Nat.le_trans (by omega) hb)
      have h6 := h.fw hf
      have hw : wt (fo (x ^ (i + 1))) ≤ 12000000 := by
        have h7 : (82 + 23 * (2 * v * i + 2 * v)) * ds.length ≤ 6292 * 1200 := Nat.mul_le_mul (by omega) (by omega)
        omega
      have h8 := rp_judg (fo_fm (x ^ (i + 1))) hw (by omega)
      rw [judg_out hin] at h8
      exact h8
end
end
end K13
set_option Elab.async false
set_option linter.all false
set_option maxRecDepth 100000
set_option pp.deepTerms false
set_option pp.maxSteps 1500
set_option maxHeartbeats 2000000
namespace K13
open PySem PySem.Spec PyProof.Rows L2 HX TV FM DX FB FC FD FS FW MS PM LamX FI
local macro_rules | `(tactic| walk_at "r") => `(tactic| (repeat (first | refine Exists.intro _ (And.intro rfl ?_) | refine And.intro rfl ?_ | refine Exists.intro _ (Exists.intro _ (And.intro rfl (And.intro rfl ?_))) | refine And.intro (by omega) ?_ | refine And.intro (Or.inl (And.intro (by omega) (by omega))) ?_ | refine And.intro (Or.inr (And.intro (by omega) (by omega))) ?_ | refine And.intro (And.intro (by omega) (by omega)) ?_ | refine And.intro (And.intro (by decide) (And.intro (by decide) (by decide))) ?_ | refine Or.inl (Exists.intro _ (And.intro rfl ?_)) | (dsimp only [gName]; first | with_reducible refine seqC ?_ | with_reducible refine asgC ?_))))
local macro_rules | `(tactic| walk_at "s") => `(tactic| (repeat (first | refine Exists.intro _ (And.intro rfl ?_) | refine And.intro rfl ?_ | refine Exists.intro _ (Exists.intro _ (And.intro rfl (And.intro rfl ?_))) | refine And.intro (by omega) ?_ | refine And.intro (Or.inl (And.intro (by omega) (by omega))) ?_ | refine And.intro (Or.inr (And.intro (by omega) (by omega))) ?_ | refine And.intro (And.intro (by omega) (by omega)) ?_ | refine And.intro (And.intro (by decide) (And.intro (by decide) (by decide))) ?_ | refine Or.inl (Exists.intro _ (And.intro rfl ?_)) | refine Exists.intro _ (Exists.intro _ (And.intro rfl ?_)) | (dsimp only [gName]; first | with_reducible refine seqC ?_ | with_reducible refine asgC ?_))))
section
variable {P : Program} {w : World} {K : PySem.W.Frag} {mg : Str → Option Value} {base : Heap}
theorem bndE (i B : Nat) : i * (B + 122) + 2 + B + 122 = (i + 1) * (B + 122) + 2 := by
  rw [Nat.add_mul, Nat.one_mul]
  generalize i * (B + 122) = k
  omega
theorem Cds.next {fs : List PyData} {m B B' u u' : Nat} {n : Int} {cs : List Int} (h1 : cs.Pairwise (· < ·)) (h2 : ∀ c ∈ cs, Dw m B u c) (h3 : tv (Phis fs cs) = n) (e1 : B = B') (e2 : u = u') : Cds fs m B' u' n cs := by
  subst e1 e2
  exact ⟨h1, h2, h3⟩
def sp_duep (K : PySem.W.Frag) : Sp := fun vs H Q _ => ∃ (lc lf : Addr) (os : List Int) (us : List V) (fs : List PyData) (m B v N : Nat) (x : Int), vs = [.ref lc, .int (N : Nat), .ref lf] ∧ H lc = some (.lst (iv os)) ∧ H lf = some (.lst (us.take m)) ∧ DpAll K H us fs ∧ Pwb fs m B v N x os ∧
  ∀ v H', Dp K H' v (dueP x N) → Same H H' → Q v H'
theorem ok__law_due_power (T : Top K mg) {k : Nat} : FnOk P w K mg base CX0 (8) T.f__law_due_power T.fd__law_due_power ["_law_codes_here", "_law_n", "_law_fields_here"]  (sp_duep K) := by
  have G__law_form_of_codes : FnOk P w K mg base CX0 (4) T.f__law_form_of_codes T.fd__law_form_of_codes ["_law_codes_here", "_law_fields_here"]  (sp_foc K) := ok__law_form_of_codes T
  have G__law_judged : FnOk P w K mg base CX0 (7) T.f__law_judged T.fd__law_judged ["_law_form_here"]  (sp_judged K 5) := ok__law_judged T 5
  have G__law_terms : FnOk P w K mg base CX0 (1) T.f__law_terms T.fd__law_terms ["_law_codes_here", "_law_times"]  (sp_terms K) := ok__law_terms T
  have G__law_summed : FnOk P w K mg base CX0 (2) T.f__law_summed T.fd__law_summed ["_law_terms_here"]  (sp_summedG K) := ok__law_summedG T
  refine T.F__law_due_power.ok sc__law_due_power (fun vs H Q E h => ?_) (fun cdv A outer s H vs Q E hr h => ?_)
  · obtain ⟨lc, lf, os, us, fs, m, B, v, N, x, rfl, _⟩ := h
    rfl
  · obtain ⟨lc, lf, os, us, fs, m, B, v, N, x, rfl, hlc, hlf, hD, W, q⟩ := h
    refine ⟨_, (pss_cons (ps_par3 (i := 3) (j := 4) (l := 5) rfl sc__law_due_power.nd rfl rfl rfl (by decide) (by decide) (by decide) rfl rfl rfl (pa_cons (pe_lst (pa_cons pe_int (pa_cons pe_int pa_nil))) (pa_cons (pe_tup (pa_cons pe_str (pa_cons pe_int pa_nil))) (pa_cons (pe_callB call_isi (by rfl) T.m_isinstance (by decide +kernel) (pa_cons (pe_call G__law_form_of_codes (hr.mono (by omega)) (by rfl) T.g__law_form_of_codes T.F__law_form_of_codes.kp T.b__law_form_of_codes .nil pass0 (pa_cons (pv 0) (pa_cons (pv 2) pa_nil))) (pa_cons (pe_bltn (v := .ty "int") (by rfl) T.m_int (by decide +kernel) rfl) pa_nil))) pa_nil))) (by rfl))
    (pss_cons (ps_for PassesOwn.never rfl (pi_range1 (by rfl) T.m_range (pa_cons (pv 1) pa_nil)) (pg_name (i := 6) sc__law_due_power.nd rfl (Or.inl rfl))
      (pss_cons (ps_if (PW.pt (pw_and (pt_cmpR op_gt (pe_op op_mul (pe_callB call_len_seq (by rfl) T.m_len PySem.boot_len (pa_cons (pv 3) pa_nil)) (pe_callB call_len_seq (by rfl) T.m_len PySem.boot_len (pa_cons (pv 0) pa_nil))) pe_int (nomark _)) (pw_and1 (pt_not (PW.pt (pw_and (pt_val (pv 5) (fun _ => rfl)) (pw_and1 (pt_val (pe_callB call_isi (by rfl) T.m_isinstance (by decide +kernel) (pa_cons (pe_ix ix_tup (pv 4) pe_int (fun _ _ => rfl)) (pa_cons (pe_bltn (v := .ty "int") (by rfl) T.m_int (by decide +kernel) rfl) pa_nil))) (fun _ => rfl)))))))))
        (pss_one (ps_ret (pe_tup (pa_cons pe_str (pa_cons (pe_op op_mul (pe_callB call_len_seq (by rfl) T.m_len PySem.boot_len (pa_cons (pv 3) pa_nil)) (pe_callB call_len_seq (by rfl) T.m_len PySem.boot_len (pa_cons (pv 0) pa_nil))) pa_nil)))))
        pss_nil)
      (pss_cons (ps_set (i := 7) sc__law_due_power.nd rfl (Or.inl rfl) (pe_lst pa_nil))
      (pss_cons (ps_for PassesOwn.never rfl (pi_list (pe_call G__law_terms (hr.mono (by omega)) (by rfl) T.g__law_terms T.F__law_terms.kp T.bd__law_terms T.dv__law_terms pass0 (pa_cons (pv 3) pa_nil))) (pg_tup rfl (pgs_cons (pg_name (i := 8) sc__law_due_power.nd rfl (Or.inr rfl)) (pgs_cons (pg_name (i := 9) sc__law_due_power.nd rfl (Or.inr rfl)) pgs_nil)))
        (pss_one (ps_set (i := 7) sc__law_due_power.nd rfl (Or.inl rfl) (pe_op op_cat (pv 7) (pe_lc (own := [("_law_more", 10), ("_law_many", 11)]) (g := gTup K 2 (gCons (gName 10) (gCons (gName 11) gNil))) (by rfl) sc__law_due_power.nd (pi_list (pe_call G__law_terms (hr.mono (by omega)) (by rfl) T.g__law_terms T.F__law_terms.kp T.bd__law_terms T.dv__law_terms pass0 (pa_cons (pv 0) pa_nil))) (blkOk_by (own := [("_law_more", 10), ("_law_many", 11)]) (N := ["_law_codes_here", "_law_n", "_law_fields_here", "_law_found", "_law_form_here", "_law_plain", "_law_step", "_law_pairs", "_law_code_here", "_law_times", "_law_more", "_law_many"]) (sc := defScope s__law_due_power) (by decide +kernel)) (fun _ _ _ _ _ => (pg_tup rfl (pgs_cons (pg_name (i := 10) sc__law_due_power.nd rfl (Or.inl rfl)) (pgs_cons (pg_name (i := 11) sc__law_due_power.nd rfl (Or.inl rfl)) pgs_nil)))) (fun _ _ _ _ _ => pts_nil) (fun _ _ _ _ _ => (pe_tup (pa_cons (pe_op op_add (pv 8) (pv 10)) (pa_cons (pe_op op_mul (pv 9) (pv 11)) pa_nil)))))))))
      (pss_cons (ps_set (i := 3) sc__law_due_power.nd rfl (Or.inl rfl) (pe_call G__law_summed (hr.mono (by omega)) (by rfl) T.g__law_summed T.F__law_summed.kp T.b__law_summed .nil pass0 (pa_cons (pv 7) pa_nil)))
      (pss_cons (ps_set (i := 4) sc__law_due_power.nd rfl (Or.inl rfl) (pe_call G__law_judged (hr.mono (by omega)) (by rfl) T.g__law_judged T.F__law_judged.kp T.b__law_judged .nil pass0 (pa_cons (pe_call G__law_form_of_codes (hr.mono (by omega)) (by rfl) T.g__law_form_of_codes T.F__law_form_of_codes.kp T.b__law_form_of_codes .nil pass0 (pa_cons (pv 3) (pa_cons (pv 2) pa_nil))) pa_nil)))
      (pss_one (ps_if (pt_cmpR op_eq (pe_ix ix_tup (pv 4) pe_int (fun _ _ => rfl)) pe_str (nomark _))
        (pss_one (ps_ret (pv 4)))
        pss_nil))))))))
    (pss_one (ps_ret (pv 4))))), ?_⟩
    --MARK
    refine ⟨len_le (by show 2 ≤ _; decide), fun l0 nl0 => ?_⟩
    have s0 := sm_upd (o := .lst [V.int 0, .int 1]) nl0
    have hl0 := upd_at (o := .lst [V.int 0, .int 1]) nl0
    revert s0 hl0
    generalize upd H l0 (.lst [V.int 0, .int 1]) = H1
    intro s0 hl0
    refine ⟨len_le (by show 2 ≤ _; decide), fun t0 nt0 => ?_⟩
    have s1 := sm_upd (o := .tup [V.str "form", .int 1]) nt0
    have ht0 := upd_at (o := .tup [V.str "form", .int 1]) nt0
    revert s1 ht0
    generalize upd H1 t0 (.tup [V.str "form", .int 1]) = H2
    intro s1 ht0
    have s02 := s0.trans s1
    have hB0 : B ≤ 2 ^ 100 := W.b100
    have hb9 := W.b
    have hosC : ∀ c ∈ os, CodeOk m c := fun c hc => (W.c.dw c hc).code hB0
    have hl9 := W.l9
    have hN64 := W.hN
    have hFA := fields_fm W.F
    refine ⟨_, rfl, _, rfl, lc, lf, os, us, fs, m, rfl, s02 _ _ hlc, s02 _ _ hlf, W.m4, W.F, dpAll_tk (tk_same s02) hFA hD, W.c.asc, hosC, by omega, fun vx d H3 fd ed depd wd Dd sm3 => ?_⟩
    rw [W.c.eq] at ed
    refine ⟨_, _, _, _, isI d, rfl, .ty "int", ty_f Dd fd, kit_fi fd, ?_⟩
    refine ⟨_, _, _, rfl, ?_⟩
    have s03 := s02.trans sm3
    dsimp only [gName]
    walk_at "r"
    refine flR (fun i σ H' => ∃ (lF tF : Addr) (vF : V) (cs : List Int) (z6 z7 z8 z9 z10 z11 : Option V), σ = [some (.ref lc), some (.int (N : Nat)), some (.ref lf), some (.ref lF), some (.ref tF), some (.bl (isI d)), z6, z7, z8, z9, z10, z11] ∧ H' lF = some (.lst (iv cs)) ∧ Cds fs m (i * (B + 122) + 2) (2 * v * i) (x ^ i) cs ∧ SqT K H' tF [.str "form", vF] ∧ Dp K H' vF (fo (x ^ i)) ∧ st x i = none ∧ Same H H') ⟨l0, t0, .int 1, [0, 1], none, none, none, none, none, none, rfl, sm3 _ _ (s1 _ _ hl0), ?_, .inl (.inl (sm3 _ _ ht0)), ?_, rfl, s03⟩ ?_ ?_
    · have h1 := cds_one W.F W.m1 W.m4
      rw [Int.pow_zero, Nat.zero_mul, Nat.mul_zero, Nat.zero_add]
      exact h1
    · rw [Int.pow_zero, fo_int (by decide)]
      exact .int 1
    · rintro i σ H4 hi ⟨lF, tF, vF, cs, z6, z7, z8, z9, z10, z11, rfl, hlF, hc, htF, DF, hst, sm4⟩ D' Bn
      have hi' : i < N := by omega
      have htau := W.tau
      have hBi : i * (B + 122) + 2 ≤ 2 ^ 100 := by
        have h1 := (W.at_ (Nat.le_of_lt hi')).1
        exact Nat.le_trans (Nat.add_le_add_right h1 2) (Nat.le_trans (by omega) p80b)
      have hcl := (hc.len W.F W.m4 hBi).1
      have hlc4 := sm4 _ _ hlc
      dsimp only [gName]
      have hfew : cs.length * os.length ≤ 600 ↔ few x i := ⟨fun h => .inr (by rw [← hcl, ← htau]; exact h), fun h => by rw [hcl, htau]; exact W.fw h⟩
      have ecl : ((cs.length : Int) * (os.length : Int)) = ((MS.tau (x ^ i) * MS.tau x : Nat) : Int) := by rw [hcl, htau, Int.natCast_mul]
      have ecl2 : ((cs.length : Int) * (os.length : Int)) = ((cs.length * os.length : Nat) : Int) := (Int.natCast_mul _ _).symm
      with_reducible refine cut (fun σ' H' => σ' = [some (.ref lc), some (.int (N : Nat)), some (.ref lf), some (.ref lF), some (.ref tF), some (.bl (isI d)), some (.int (0 + (i : Nat))), z7, z8, z9, z10, z11] ∧ H' = H4 ∧ few x i) (fun D1 J1 => ?_) ?_
      · refine ⟨_, rfl, lF, _, rfl, .inl (.inl (.inl hlF)), ?_⟩
        rw [iv_len]
        refine ⟨_, rfl, lc, _, rfl, .inl (.inl (.inl hlc4)), ?_⟩
        rw [iv_len]
        refine ⟨_, _, rfl, rfl, .inr ⟨by omega, by omega⟩, ?_⟩
        refine ⟨_, _, rfl, rfl, _, rfl, ?_⟩
        refine ifD (fun hbig => ?_) (fun hbig => ?_)
        · have hf : ¬ few x i := fun z => by
            have := hfew.mpr z
            omega
          refine ⟨_, rfl, isI d, rfl, ?_⟩
          refine ite2 (fun h1 => ?_) (fun h1 => ?_)
          · refine ⟨_, rfl, tF, _, _, vF, rfl, rfl, htF, at_of (j := 1) rfl rfl, _, _, _, _, isI (fo (x ^ i)), rfl, .ty "int", ty_f DF (fo_fm _), kit_fi (fo_fm _), _, rfl, ?_⟩
            refine ite2 (fun h2 => ?_) (fun h2 => ?_)
            · refine ⟨_, rfl, lF, _, rfl, .inl (.inl (.inl hlF)), ?_⟩
              rw [iv_len]
              refine ⟨_, rfl, lc, _, rfl, .inl (.inl (.inl hlc4)), ?_⟩
              rw [iv_len]
              refine ⟨_, _, rfl, rfl, .inr ⟨by omega, by omega⟩, ?_⟩
              refine ⟨len_le (by show 2 ≤ _; decide), fun t nt => J1.rt _ _ (Bn.rt _ _ ?_)⟩
              refine q _ _ ?_ (sm4.trans (sm_upd nt))
              show Dp K (upd H4 t (.tup [.str "TooManyTerms", .int ((cs.length : Int) * (os.length : Int))])) _ _
              rw [dueP_many (st_later (st_many hst hf) (by omega)), ecl]
              exact .tup (.inl (.inl upd_same)) (.cons (.str _) (.cons (.int _) .nil))
            · exfalso
              have h3 : isI (fo (x ^ i)) = true := by simpa using h2
              exact hf (.inl ⟨by have := (isI_pl (fo_fm _)).mp h3; rwa [val_fo] at this, by have := (isI_pl fd).mp h1; rwa [ed] at this⟩)
          · refine iteT ?_
            refine ⟨_, rfl, lF, _, rfl, .inl (.inl (.inl hlF)), ?_⟩
            rw [iv_len]
            refine ⟨_, rfl, lc, _, rfl, .inl (.inl (.inl hlc4)), ?_⟩
            rw [iv_len]
            refine ⟨_, _, rfl, rfl, .inr ⟨by omega, by omega⟩, ?_⟩
            refine ⟨len_le (by show 2 ≤ _; decide), fun t nt => J1.rt _ _ (Bn.rt _ _ ?_)⟩
            refine q _ _ ?_ (sm4.trans (sm_upd nt))
            show Dp K (upd H4 t (.tup [.str "TooManyTerms", .int ((cs.length : Int) * (os.length : Int))])) _ _
            rw [dueP_many (st_later (st_many hst hf) (by omega)), ecl]
            exact .tup (.inl (.inl upd_same)) (.cons (.str _) (.cons (.int _) .nil))
        · refine iteF ?_
          exact J1.nx _ _ ⟨rfl, rfl, hfew.mp (by omega)⟩
      rintro σ' H' ⟨rfl, rfl, hf⟩
      have h600 := hfew.mpr hf
      have hcs : cs.length ≤ 600 := by
        by_cases h0 : os.length = 0
        · have ho := List.eq_nil_of_length_eq_zero h0
          have hx0 : x = 0 := by
            have := W.c.eq
            rw [ho] at this
            exact this.symm
          rw [hcl, hx0]
          cases i with
          | zero =>
            rw [Int.pow_zero, tau_one]
            decide
          | succ i =>
            rw [Int.pow_succ, Int.mul_zero, tau_zero]
            decide
        · have := Nat.mul_le_mul_left cs.length (show 1 ≤ os.length by omega)
          omega
      refine ⟨Nat.zero_le _, fun fo_ nfo => ?_⟩
      have sfo := sm_upd (o := .lst []) nfo
      have hfo := upd_at (o := .lst []) nfo
      revert sfo hfo
      generalize upd H' fo_ (.lst []) = H5
      intro sfo hfo
      dsimp only [gName]
      refine ⟨_, rfl, lF, cs, 1, rfl, sfo _ _ hlF, by omega, by decide, by decide, fun lt us2 H6 D2 nlt hlt sm6 => ?_⟩
      have hul := dpAll_len D2
      rw [List.length_map, tms_len] at hul
      have hfo6 := sm6 _ _ hfo
      have s46 := sfo.trans sm6
      have hlc6 := s46 _ _ hlc4
      refine ⟨lt, rfl, ⟨_, .inl (.inl hlt)⟩, flL (xs := us2) (fun j σ H7 => ∃ (l : Addr) (vs : List V) (z8 z9 z10 z11 : Option V), σ = [some (.ref lc), some (.int (N : Nat)), some (.ref lf), some (.ref lF), some (.ref tF), some (.bl (isI d)), some (.int (0 + (i : Nat))), some (.ref l), z8, z9, z10, z11] ∧ H7 l = some (.lst vs) ∧ Same H6 H7 ∧ DpAll K H7 vs ((prsP (tms os 1) ((tms cs 1).take j)).map tD)) ⟨fo_, [], _, _, _, _, rfl, hfo6, Same.refl _, .nil⟩ ?_ ?_ ?_⟩
      · rintro j σ H7 _ ⟨l, vs, z8, z9, z10, z11, _, _, sm, _⟩
        exact .inl (.inl (sm _ _ hlt))
      · rintro j y σ H7 hy ⟨l, vs, z8, z9, z10, z11, rfl, hl, sm, D⟩ D3 B3
        obtain ⟨t, at_, ht, rfl, hS⟩ := terms_get D2 hy
        have hti := (List.getElem?_eq_some_iff.mp ht).1
        rw [tms_len] at hti
        have hone : t.2.natAbs = 1 := tms_one (List.mem_of_getElem? ht)
        refine ⟨at_, _, rfl, HX.Same.tup sm hS, rfl, _, _, rfl, _, _, rfl, rfl, ?_⟩
        walk_at "r"
        refine ⟨lc, os, 1, rfl, sm _ _ hlc6, by omega, by decide, by decide, fun lu ws H8 D4 nlu hlu sm8 => ?_⟩
        have hwl := dpAll_len D4
        rw [List.length_map, tms_len] at hwl
        refine ⟨lu, rfl, ⟨_, .inl (.inl hlu)⟩, fun R nR => lc_list (xs := ws) (fun j H' => ∃ qs, Same H8 H' ∧ H' R = some (.lst qs) ∧ DpAll K H' qs ((rowP t ((tms os 1).take j)).map tD)) ⟨[], sm_upd nR, upd_same, .nil⟩ ?_ ?_ ?_⟩
        · rintro j H' _ ⟨_, sm, _⟩
          exact .inl (.inl (sm _ _ hlu))
        · rintro j y2 H9 hy ⟨qs, sm5, hR, D5⟩
          obtain ⟨u, b, hu, rfl, hS2⟩ := terms_get D4 hy
          refine ⟨b, _, rfl, HX.Same.tup sm5 hS2, rfl, _, _, rfl, _, _, rfl, rfl, ?_⟩
          refine ⟨rfl, ?_⟩
          walk_at "r"
          refine ⟨len_le (Nat.le_of_ble_eq_true rfl), fun tp ntp => ?_⟩
          generalize eH10 : upd H9 tp _ = H10
          obtain ⟨stp, htp⟩ := new_step ntp eH10
          clear eH10
          have hqs := dpAll_len D5
          rw [List.length_map] at hqs
          have hju := (List.getElem?_eq_some_iff.mp hu).1
          rw [tms_len] at hju
          have nRt : tp ≠ R := fun z => by rw [z, hR] at ntp; cases ntp
          have mR : Mut (H10 R) := by rw [stp _ _ hR]; trivial
          refine ⟨qs, stp _ _ hR, ?_, _, sm_mut (sm5.trans stp) nR, upd_same, ?_⟩
          · rw [hqs]
            unfold rowP
            rw [List.length_map, List.length_take]
            exact len_lt (by omega)
          · rw [take_snoc hu]
            unfold rowP
            rw [List.map_append, List.map_append]
            refine dpAll_app (dpAll_im ((tk_same stp).trans (tk_mut mR)) (im_terms _) D5) (.cons (.tup (.inl (.inl ?_)) (.cons (.int _) (.cons (.int _) .nil))) .nil)
            rw [upd_ne nRt]
            exact htp
        · rintro H9 ⟨qs, sm5, hR, D5⟩
          rw [hwl, ← tms_len os 1, List.take_length] at D5
          have sm25 := (sm.trans sm8).trans sm5
          have hl5 := sm5 _ _ (sm8 _ _ hl)
          have hvl := dpAll_len D
          have hql := dpAll_len D5
          rw [List.length_map, prsP_len, tms_len, List.length_take, tms_len] at hvl
          unfold rowP at hql
          rw [List.length_map, List.length_map, tms_len] at hql
          have hsz : vs.length ≤ cs.length * os.length := by
            rw [hvl]
            exact Nat.mul_le_mul_right _ (by omega)
          refine ⟨l, R, vs, qs, rfl, rfl, hl5, hR, len_le (by omega), fun r nr => ?_⟩
          have sr := sm_upd (o := .lst (vs ++ qs)) nr
          refine B3.nx _ _ ⟨r, vs ++ qs, _, _, _, _, rfl, upd_same, sm25.trans sr, ?_⟩
          rw [prsP_step ht, List.map_append]
          exact dpAll_app (dpAll_im (tk_same ((sm8.trans sm5).trans sr)) (im_terms _) D) (dpAll_im (tk_same sr) (im_terms _) D5)
      · rintro σ H7 ⟨l, vs, z8', z9', z10', z11', rfl, hl, sm, D⟩
        rw [hul, ← tms_len cs 1, List.take_length] at D
        replace sm := s46.trans sm
        have hln : (prsP (tms os 1) (tms cs 1)).length = cs.length * os.length := by rw [prsP_len, tms_len, tms_len]
        have hab : AbT (prsP (tms os 1) (tms cs 1)) ≤ 600 := by
          rw [AbT_prs]
          have a1 : AbT (tms cs 1) ≤ cs.length * (1 : Int).natAbs := AbT_tmsF 1 cs 0
          have a2 : AbT (tms os 1) ≤ os.length * (1 : Int).natAbs := AbT_tmsF 1 os 0
          rw [show (1 : Int).natAbs = 1 from rfl, Nat.mul_one] at a1 a2
          exact Nat.le_trans (Nat.mul_le_mul a1 a2) h600
        obtain ⟨BB, eBB⟩ : ∃ BB, BB = i * (B + 122) + 2 + B := ⟨_, rfl⟩
        obtain ⟨wf, ewf⟩ : ∃ wf, wf = 2 * v * i + 2 * v := ⟨_, rfl⟩
        have hBB : BB + 122 ≤ 2 ^ 80 := by
          have h1 := (W.at_ (Nat.le_of_lt hi')).1
          rw [eBB]
          exact Nat.le_trans (by omega) hb9
        have hmem : ∀ t ∈ prsP (tms os 1) (tms cs 1), Dw m BB wf t.1 := fun t ht => by
          obtain ⟨t1, h1, t2, h2, e12⟩ := mem_prs ht
          rw [e12, eBB, ewf]
          exact (hc.dw _ (tms_codes h1)).sum (W.c.dw _ (tms_codes h2))
        have hsum0 : tsum fs (prsP (tms os 1) (tms cs 1)) = x ^ (i + 1) := by
          rw [tsum_prs fun t h1 u h2 => ?_, tsum_tms, tsum_tms, hc.eq, W.c.eq, Int.one_mul, Int.one_mul, Int.pow_succ]
          have c1 := hc.dw _ (tms_codes h1)
          have c2 := W.c.dw _ (tms_codes h2)
          refine ⟨Phi_add (ds_of c1.dg) (ds_of c2.dg) ?_, Phi_nonneg W.F W.m4 (c1.code hBi), Phi_nonneg W.F W.m4 (c2.code hB0)⟩
          rw [← eBB]
          exact Nat.le_trans (Nat.le_add_right _ 122) (Nat.le_trans hBB p80b)
        have hw8 : wf ≤ 270 := by
          obtain ⟨_, k1, k2⟩ := W.at_ (Nat.le_of_lt hi')
          omega
        have eBB2 : BB + 122 = (i + 1) * (B + 122) + 2 := by
          rw [eBB]
          exact bndE i B
        have ewf2 : wf = 2 * v * (i + 1) := by rw [ewf, Nat.mul_add, Nat.mul_one]
        clear eBB ewf hBi
        refine ⟨_, rfl, l, vs, _, m, BB, wf, rfl, hl, D, hmem, W.m1, W.m4, Nat.le_trans (Nat.le_add_right _ 122) hBB, by omega, by omega, fun lr ds H8 hp8 hds hdl hsum nlr hlr sm8 => ?_⟩
        have hdC : ∀ c ∈ ds, CodeOk m c := fun c hc => (hds c hc).code (Nat.le_trans hBB p80b)
        have s48 := sm.trans sm8
        have s08 := sm4.trans s48
        dsimp only [gName]
        refine ⟨_, rfl, _, rfl, lr, lf, ds, us, fs, m, rfl, hlr, s08 _ _ hlf, W.m4, W.F, dpAll_tk (tk_same s08) hFA hD, hp8, hdC, by omega, fun vr r H9 fr er depr wr Dr sm9 => ?_⟩
        have hwr : wt r ≤ 12000000 := by
          have h1 := sum_bd (c := 6292) (f := FC.cwt) (cs := ds) fun c hc => by
            have := (hds c hc).wz (k := 80) hBB (by decide)
            omega
          omega
        rw [hsum fs W.F, hsum0] at er
        have e9 := fo_is fr er
        refine ⟨vr, r, rfl, Dr, fr, depr, hwr, fun vj H10 Dj sm10 => ?_⟩
        have s010 := (s08.trans sm9).trans sm10
        dsimp only [gName]
        by_cases hw : within r
        · rw [judg_in hw] at Dj
          cases Dj with
          | tup hsq hall =>
            cases hall with
            | cons h1 hall =>
              cases hall with
              | cons h2 hall =>
                cases hall
                cases h1
                rename_i tj vX
                refine ⟨_, rfl, tj, _, _, .str "form", rfl, rfl, hsq, at_of (j := 0) rfl rfl, ?_⟩
                walk_at "r"
                refine ifZ (by decide +kernel) ?_
                exact Bn.nx _ _ ⟨lr, tj, vX, ds, _, _, _, _, _, _, rfl, (sm9.trans sm10) _ _ hlr, Cds.next hp8 hds (by rw [hsum fs W.F, hsum0]) eBB2 ewf2, hsq, by rw [← e9]; exact h2, st_fine hst hf (by rw [← e9]; exact hw), s010⟩
        · have hst1 := st_large hst hf (by rw [← e9]; exact hw)
          rw [judg_out hw] at Dj
          cases Dj with
          | tup hsq hall =>
            cases hall with
            | cons h1 hall =>
              cases h1
              rename_i tj vX
              refine ⟨_, rfl, tj, _, _, .str "TooLarge", rfl, rfl, hsq, at_of (j := 0) rfl rfl, ?_⟩
              walk_at "r"
              refine Bn.rt _ _ (q _ _ ?_ s010)
              rw [dueP_large (st_later hst1 (by omega)), ← e9]
              exact .tup hsq (.cons (.str _) hall)
    · rintro σ H4 ⟨lF, tF, vF, cs, z6, z7, z8, z9, z10, z11, rfl, hlF, hc, htF, DF, hst, sm4⟩
      rw [show ((N : Nat) : Int).toNat = N by omega] at hst DF
      refine ⟨_, rfl, q _ _ ?_ sm4⟩
      rw [dueP_none hst]
      exact .tup htF (.cons (.str _) (.cons DF .nil))
end
end K13
set_option Elab.async false
set_option linter.all false
set_option maxRecDepth 100000
set_option pp.deepTerms false
set_option pp.maxSteps 1500
set_option maxHeartbeats 2000000
namespace K13
open PySem PySem.Spec PyProof.Rows L2 HX TV FM DX FB FC FD FS FW MS PM LamX FI
local macro_rules | `(tactic| walk_at "r") => `(tactic| (repeat (first | refine Exists.intro _ (And.intro rfl ?_) | refine And.intro rfl ?_ | refine Exists.intro _ (Exists.intro _ (And.intro rfl (And.intro rfl ?_))) | refine And.intro (by omega) ?_ | refine And.intro (Or.inl (And.intro (by omega) (by omega))) ?_ | refine And.intro (Or.inr (And.intro (by omega) (by omega))) ?_ | refine And.intro (And.intro (by omega) (by omega)) ?_ | refine And.intro (And.intro (by decide) (And.intro (by decide) (by decide))) ?_ | refine Or.inl (Exists.intro _ (And.intro rfl ?_)) | (dsimp only [gName]; first | with_reducible refine seqC ?_ | with_reducible refine asgC ?_))))
local macro_rules | `(tactic| walk_at "s") => `(tactic| (repeat (first | refine Exists.intro _ (And.intro rfl ?_) | refine And.intro rfl ?_ | refine Exists.intro _ (Exists.intro _ (And.intro rfl (And.intro rfl ?_))) | refine And.intro (by omega) ?_ | refine And.intro (Or.inl (And.intro (by omega) (by omega))) ?_ | refine And.intro (Or.inr (And.intro (by omega) (by omega))) ?_ | refine And.intro (And.intro (by omega) (by omega)) ?_ | refine And.intro (And.intro (by decide) (And.intro (by decide) (by decide))) ?_ | refine Or.inl (Exists.intro _ (And.intro rfl ?_)) | refine Exists.intro _ (Exists.intro _ (And.intro rfl ?_)) | (dsimp only [gName]; first | with_reducible refine seqC ?_ | with_reducible refine asgC ?_))))
section
variable {P : Program} {w : World} {K : PySem.W.Frag} {mg : Str → Option Value} {base : Heap}
theorem st_none {x : Int} : ∀ {N : Nat}, (∀ i, i < N → few x i) → (∀ i, i ≤ N → within (fo (x ^ i))) → st x N = none
  | 0, _, _ => rfl
  | N + 1, h1, h2 => st_fine (st_none (fun i hi => h1 i (by omega)) fun i hi => h2 i (by omega)) (h1 N (by omega)) (h2 (N + 1) (by omega))
/-- what raised tells of an int exponent -/
theorem Pwb.raised {T : Top K mg} {fs : List PyData} {m B v N : Nat} {x : V} {d : PyData} {os : List Int} {H : Hp} {Q : VK} {E : XK} (W : Pwb fs m B v N (val d) os) (hx : Dp K H x d) (hd : Fm d) (hdd : d.depth ≤ 5) (hw : wt d ≤ 2000) (hT : Tabs (lamT T) H)
    (q : ∀ vr H', Dp K H' vr (dueP (val d) N) → ExtN H H' → Tabs (lamT T) H' → Q vr H') : sp_raised T [x, .int (N : Nat)] H Q E := by
  have hN := W.hN
  have fN : Fm (.int (N : Nat)) := (fm_int _).mpr (by omega)
  refine ⟨x, .int (N : Nat), d, .int (N : Nat), rfl, hx, .int _, hd, fN, hdd, hw, hT, fun hX => ?_, fun h2 h0 => ⟨by rw [depth_int]; decide, by rw [wt_int]; decide, fun vr r H' f1 e1 w1 d1 D1 e T1 => ?_⟩, fun M h2 hM hM64 => ⟨fun i hi hs hf => ?_, fun i hi hs => ?_, fun vr H' D e T1 => ?_⟩⟩
  · exfalso
    unfold isX at hX
    split at hX
    · rw [val_int, decide_eq_true (by omega)] at hX
      cases hX
    · rw [show isI (.int ((N : Nat) : Int)) = true from rfl, val_int, decide_eq_true (by omega), decide_eq_true (by omega)] at hX
      cases hX
  · have e2 : vl (.int ((N : Nat) : Int)) = N := by
      unfold vl
      rw [val_int]
      rfl
    rw [e2] at e1
    have hp : ∀ i, i ≤ 64 → within (fo ((2 : Int) ^ i)) := fun i hi => by
      have h1 := fo_lim (k := i + 1) (by omega) (bw_pow i)
      exact ⟨by omega, by omega⟩
    have hs : st (val d) N = none := by
      rw [h2]
      refine st_none (fun i hi => .inr ?_) fun i hi => hp i (by omega)
      have t1 := (tau_pow i 0).1
      have t2 := (tau_pow 1 0).1
      rw [tau_zero, Int.zero_add] at t1 t2
      have t3 : MS.tau 2 ≤ 0 + 2 := by
        have : (2 : Int) ^ 1 = 2 := by decide
        rw [this] at t2
        omega
      exact Nat.le_trans (Nat.mul_le_mul (show MS.tau (2 ^ i) ≤ 2 by omega) (show MS.tau 2 ≤ 2 by omega)) (by decide)
    have er : r = fo (val d ^ N) := fo_is f1 (by rw [e1, h2])
    refine q _ _ ?_ e T1
    rw [dueP_none hs, ← er, ← judg_in (by rw [er, h2]; exact hp N hN)]
    exact D1
  · have : M = N := by
      injection hM with h
      omega
    subst this
    exact W.prh hi hs hf
  · have : M = N := by
      injection hM with h
      omega
    subst this
    exact W.depth hi hs
  · have : M = N := by
      injection hM with h
      omega
    subst this
    exact q _ _ D e T1
theorem nv_iv (ts : List Nat) : nv ts = iv (ts.map fun t => ((t : Nat) : Int)) := by
  unfold nv iv
  rw [List.map_map]
  rfl
theorem im_dueP (x : Int) (N : Nat) : Im (dueP x N) := by
  cases e : st x N with
  | none =>
    rw [dueP_none e]
    simp only [im_tuple, imAll_cons]
    exact ⟨im_str _, im_fm (fo_fm _), imAll_nil⟩
  | some r =>
    cases r with
    | inl t =>
      rw [dueP_many e]
      unfold tmT
      simp only [im_tuple, imAll_cons]
      exact ⟨im_str _, im_int _, imAll_nil⟩
    | inr r =>
      rw [dueP_large e]
      simp only [im_tuple, imAll_cons]
      exact ⟨im_str _, im_int _, im_int _, imAll_nil⟩
/-- low codes are their own places -/
theorem phis_low {fs : List PyData} (F : Fields fs) {B : Nat} (hB : B ≤ 2 ^ 100) : ∀ {ts : List Nat}, (∀ t ∈ ts, t < B) → Phis fs (ts.map fun t => ((t : Nat) : Int)) = ts
  | [], _ => rfl
  | t :: r, h => by
    have h1 := h t (by simp)
    have ih := phis_low F hB (ts := r) fun x hx => h x (by simp [hx])
    have hb : ((t : Nat) : Int).natAbs < 2 ^ 100 := Nat.lt_of_lt_of_le (by omega) hB
    show (Phi fs ((t : Nat) : Int)).toNat :: Phis fs (r.map fun t => ((t : Nat) : Int)) = _
    rw [ih, Phi_low F hb]
    rfl
theorem pwb_int {fs : List PyData} (F : Fields fs) {ts : List Nat} (hA : Asc ts) {B N : Nat} (hb : ∀ t ∈ ts, t < B) (hN : N ≤ 64) (hl : ts.length ≤ 9) (hB : N * (B + 122) + (B + 122) + 500 ≤ 2 ^ 80) : Pwb fs 1 B 0 N (tv ts) (ts.map fun t => ((t : Nat) : Int)) := by
  have hB2 : B ≤ 2 ^ 100 := Nat.le_trans (by omega) (Nat.le_trans hB p80b)
  refine ⟨F, ⟨?_, fun c hc => ?_, by rw [phis_low F hB2 hb]⟩, Nat.le_refl _, by decide, hN, by omega, by rw [List.length_map]; exact hl, hB⟩
  · rw [List.pairwise_map]
    exact ((asc_pairwise).mp hA).imp fun {x y} h => by omega
  · obtain ⟨t, ht, rfl⟩ := List.mem_map.mp hc
    exact Dw.nat (x := t) (Nat.le_refl _) (hb t ht)
theorem pwb_far {fs : List PyData} (F : Fields fs) {m B N : Nat} {x : Int} {cs : List Int} (hp : cs.Pairwise (· < ·)) (hc : ∀ c ∈ cs, Dw m B 8 c) (m1 : 1 ≤ m) (m4 : m ≤ 4) (ex : tv (Phis fs cs) = x) (hN : N ≤ 7) (hl : cs.length ≤ 9) (hB : B ≤ 2 ^ 61) : Pwb fs m B 8 N x cs := by
  refine ⟨F, ⟨hp, hc, ex⟩, m1, m4, by omega, by omega, hl, ?_⟩
  have : N * (B + 122) ≤ 7 * (B + 122) := Nat.mul_le_mul_right _ hN
  omega
theorem dw_low {B u : Nat} {c : Int} (h : Dw 1 B u c) : ∃ t : Nat, c = (t : Nat) ∧ t < B := by
  obtain ⟨a, r, h1, h2, h3, h4, h5⟩ := h
  have : r = [] := List.eq_nil_of_length_eq_zero (by omega)
  subst this
  refine ⟨a, ?_, h2⟩
  rw [h4]
  show (a : Int) + 2 ^ 200 * 0 = a
  omega
theorem tvP (p : Nat) : tv [p, p + 1] = 2 ^ p := by
  rw [tv_cons, tv_cons, tv_nil, Int.pow_succ]
  omega
theorem ascP (p : Nat) : Asc [p, p + 1] := asc_pairwise.mpr (List.pairwise_cons.mpr ⟨fun a h => by rw [List.mem_singleton] at h; omega, List.pairwise_singleton _ _⟩)
/-- the form of a power of two at a low place -/
theorem within_pow {fs : List PyData} (F : Fields fs) {p : Nat} (hp : p + 700 ≤ 2 ^ 80) : within (fo ((2 : Int) ^ p)) := by
  have hb : 0 * (p + 2 + 122) + (p + 2 + 122) + 500 ≤ 2 ^ 80 := by omega
  have W := pwb_int F (ascP p) (B := p + 2) (N := 0) (fun t ht => by
    simp only [List.mem_cons, List.not_mem_nil, or_false] at ht
    omega) (by decide) (by show 2 ≤ 9; decide) hb
  have h1 := W.c.form F (by decide) (by omega)
  rw [tvP, List.length_map] at h1
  have h2 : (82 + 23 * 0) * [p, p + 1].length + 1 = 165 := rfl
  exact ⟨by omega, by omega⟩
theorem st_pow {fs : List PyData} (F : Fields fs) {t N : Nat} (hN : N ≤ 64) (ht : t * N + 1000 ≤ 2 ^ 80) : st ((2 : Int) ^ t) N = none := by
  refine st_none (fun i hi => .inr ?_) fun i hi => ?_
  · rw [← Int.pow_mul]
    have t1 := (tau_pow (t * i) 0).1
    have t2 := (tau_pow t 0).1
    rw [tau_zero, Int.zero_add] at t1 t2
    exact Nat.le_trans (Nat.mul_le_mul t1 t2) (by decide)
  · rw [← Int.pow_mul]
    have := Nat.mul_le_mul_left t hi
    exact within_pow F (by omega)
theorem pow3 {x : Int} (hx : x = 0 ∨ x = 1 ∨ x = -1) (i : Nat) : x ^ i = 0 ∨ x ^ i = 1 ∨ x ^ i = -1 := by
  induction i with
  | zero => exact .inr (.inl (Int.pow_zero x))
  | succ i ih =>
    rw [Int.pow_succ]
    rcases hx with rfl | rfl | rfl <;> rcases ih with h | h | h <;> rw [h] <;> decide
theorem pl3 {x : Int} (hx : x = 0 ∨ x = 1 ∨ x = -1) : PlI x := by
  unfold PlI
  omega
theorem fo3 {x : Int} (hx : x = 0 ∨ x = 1 ∨ x = -1) (i : Nat) : fo (x ^ i) = .int (x ^ i) := fo_int (pl3 (pow3 hx i))
theorem small3 {fs : List PyData} (F : Fields fs) {x : Int} (hx : x = 0 ∨ x = 1 ∨ x = -1) {N : Nat} (hN : N ≤ 64) : (∃ cs, Pwb fs 1 2 0 N (val (.int x)) cs) ∧ st x N = none ∧ fo (x ^ N) = .int (x ^ N) := by
  refine ⟨?_, st_none (fun i _ => .inl ⟨pl3 (pow3 hx i), pl3 hx⟩) fun i _ => ?_, fo3 hx N⟩
  · rw [val_int]
    have hB : N * (2 + 122) + (2 + 122) + 500 ≤ 2 ^ 80 := by omega
    rcases hx with rfl | rfl | rfl
    · exact ⟨_, pwb_int F (ts := []) trivial (fun t h => by cases h) hN (by decide) hB⟩
    · exact ⟨_, pwb_int F (ts := [0, 1]) (ascP 0) (fun t h => by simp at h; omega) hN (by decide) hB⟩
    · exact ⟨_, pwb_int F (ts := [0]) trivial (fun t h => by simp at h; omega) hN (by decide) hB⟩
  · rw [fo3 hx i]
    exact ⟨by rw [wt_int]; decide, by rw [depth_int]; decide⟩
theorem neg1_pow (N : Nat) : (-1 : Int) ^ N = 1 - 2 * ((N : Int) % 2) := by
  induction N with
  | zero => rfl
  | succ k ih =>
    rw [Int.pow_succ, ih]
    omega
/-- a row of two codes, one behind the other -/
theorem powO {fs : List PyData} (F : Fields fs) {m B : Nat} {c : Int} (m1 : 1 ≤ m) (m4 : m ≤ 4) (h : Ds m B c) (h0 : 0 ≤ c) (hB : B + 2 ≤ 2 ^ 100) : tv (Phis fs [c, c + 1]) = 2 ^ (Phi fs c).toNat := by
  show tv [(Phi fs c).toNat, (Phi fs (c + 1)).toNat] = _
  have n0 := Phi_nonneg F m4 (h.code (by omega) h0)
  rw [Phi_add h (Ds.low (x := 1) m1 (show (1 : Int).natAbs < 2 by decide)) hB, Phi_low F (x := 1) (by decide), show (Phi fs c + 1).toNat = (Phi fs c).toNat + 1 by omega]
  exact tvP _
theorem fm100 : Fm (.tuple [.int 100]) ∧ val (.tuple [.int 100]) = -(2 ^ 100) := by
  have h := fm_small (ts := [100]) trivial (by decide) ⟨100, by decide, by decide⟩
  exact ⟨h.1, by rw [show (PyData.tuple [.int 100]) = .tuple (iD [100]) from rfl, h.2]; decide +kernel⟩
theorem turns300 : turnsOf (1 * 2 ^ (300 : Int).toNat) = [300, 301] := turnsOf_is (ascP 300) (by rw [tvP]; decide +kernel)
theorem c300 : CodeOk 3 (1 * 2 ^ (300 : Int).toNat) := by
  refine ⟨by decide +kernel, fun t ht => ?_⟩
  rw [turns300] at ht
  simp only [List.mem_cons, List.not_mem_nil, or_false] at ht
  rcases ht with rfl | rfl <;> decide
theorem p300 {fs : List PyData} (F : Fields fs) : 64 < Phi fs (1 * 2 ^ (300 : Int).toNat) := by
  have e : Phi fs (1 * 2 ^ (300 : Int).toNat) = 2 ^ (phi fs 300) := by
    unfold Phi
    rw [turns300]
    show tv [phi fs 300, phi fs 301] = _
    have : phi fs 301 = phi fs 300 + 1 := rfl
    rw [this, tvP]
  rw [e]
  have h1 : 100 ≤ phi fs 300 := by
    show 100 ≤ Fi fs 1 + 100
    omega
  have h2 : (2 : Int) ^ 100 ≤ 2 ^ phi fs 300 := by
    have := Nat.pow_le_pow_right (n := 2) (by decide) h1
    have e1 : ((2 ^ 100 : Nat) : Int) = 2 ^ 100 := by simp
    have e2 : ((2 ^ phi fs 300 : Nat) : Int) = 2 ^ phi fs 300 := by simp
    omega
  have h3 : (64 : Int) < 2 ^ 100 := by decide
  omega
theorem fm1 {d : PyData} (f : Fm d) (h : 64 < val d) : Fm (.tuple [d]) ∧ val (.tuple [d]) < 0 := by
  rw [fm_tuple, fmAll_cons, val_tuple, vals_cons, vals_nil]
  refine ⟨⟨⟨f, by omega, fmAll_nil⟩, asc_cons (by simp) trivial, _, List.mem_singleton.mpr rfl, by omega⟩, ?_⟩
  rw [tv_cons]
  have : (0 : Int) < 2 ^ (val d).toNat := Int.pow_pos (by decide)
  show -(2 ^ (val d).toNat) - 0 < (0 : Int)
  omega
theorem lay_fm {d : PyData} (f : Fm d) (h : d.depth ≤ 6) : PyData.canLay0 d = true := by
  have h1 := shaped_fm f (by omega)
  unfold SeqAt.shaped at h1
  simp only [Bool.and_eq_true] at h1
  exact h1.1
theorem lay_noPw {d : PyData} (f : Fm d) (h : d.depth ≤ 6) : PyData.canLay0 (noPw d) = true := by
  have h1 := lay_fm f h
  simp [noPw, PyData.canLay0, PyData.canLayAll0, h1]
  decide +kernel
theorem sh_noPw {d : PyData} (f : Fm d) (h : d.depth ≤ 6) : SeqAt.shaped (noPw d) = true := by
  unfold SeqAt.shaped
  rw [lay_noPw f h]
  have : (noPw d).depth ≤ 8 := by
    unfold noPw
    rw [depth_tuple, depthAll_cons, depthAll_cons, depthAll_cons, depthAll_nil]
    have h1 : PyData.depth (.str "InvalidPower") = 0 := rfl
    have h2 : PyData.depth (.bool true) = 0 := rfl
    omega
  simp
  omega
theorem im_noPw {d : PyData} (f : Fm d) : Im (noPw d) := by
  unfold noPw
  simp only [im_tuple, imAll_cons]
  exact ⟨im_str _, im_fm f, im_bool _, imAll_nil⟩
theorem fm192 : Fm (.tuple [.int 192, .int 193]) ∧ val (.tuple [.int 192, .int 193]) = 2 ^ (64 * 3) := by
  have h := fm_small (ts := [192, 193]) ⟨by decide, trivial⟩ (by intro t ht; simp at ht; omega) ⟨193, by simp, by decide⟩
  exact ⟨h.1, by rw [show (PyData.tuple [.int 192, .int 193]) = .tuple (iD [192, 193]) from rfl, h.2]; decide +kernel⟩
def spLaw (T : Top K mg) : Sp := fun vs H Q _ => ∃ (a : Addr) (ns : List Int), vs = [.ref a] ∧ SqL K H a (ns.map V.int) ∧ ns.length ≤ 63 ∧ Tabs (lamT T) H ∧ ∀ H', Q (.bl true) H'
theorem ok_law (T : Top K mg) (hP : HX.PF P) (TBs : ∀ p ∈ [(T.c__law_raised, T.P__law_raised)], TabB base mg p.1 p.2) : FnG P w K mg base 22 T.f_law T.fd_law ["_law_script"] (spLaw T) := by
  have G__law_begin : FnOk P w K mg base CX0 (1) T.f__law_begin T.fd__law_begin ["_law_script"]  (sp_begin K) := ok__law_begin T
  have G__law_draw : FnOk P w K mg base CX0 (1) T.f__law_draw T.fd__law_draw ["_law_tape", "_law_limit"]  sp_draw := ok__law_draw T
  have G__law_pick : FnOk P w K mg base CX0 (2) T.f__law_pick T.fd__law_pick ["_law_tape", "_law_some"]  sp_pick := ok__law_pick T
  have G__law_fields : FnOk P w K mg base CX0 (3) T.f__law_fields T.fd__law_fields ["_law_tape", "_law_many"]  (sp_fields K) := ok__law_fields T
  have G__law_few : FnOk P w K mg base CX0 (3) T.f__law_few T.fd__law_few ["_law_tape", "_law_most"]  (sp_few K) := ok__law_few T
  have G__law_turns : FnOk P w K mg base CX0 (1) T.f__law_turns T.fd__law_turns ["_law_number_here"]  (sp_turns K) := ok__law_turns T
  have G__law_form : FnOk P w K mg base CX0 (2) T.f__law_form T.fd__law_form ["_law_number_here"]  (sp_form K) := ok__law_form T
  have G__law_number : FnOk P w K mg base CX0 (5) T.f__law_number T.fd__law_number ["_law_tape", "_law_fields_here", "_law_count", "_law_known"]  (sp_numberW K) := ok__law_numberW T
  have G__law_code : FnOk P w K mg base CX0 (3) T.f__law_code T.fd__law_code ["_law_tape", "_law_many", "_law_known"]  (sp_codeW K) := ok__law_codeW T
  have G__law_moved : FnOk P w K mg base CX0 (3) T.f__law_moved T.fd__law_moved ["_law_code_here", "_law_fields_here"]  (sp_moved K) := ok__law_moved T
  have G__law_form_of_codes : FnOk P w K mg base CX0 (4) T.f__law_form_of_codes T.fd__law_form_of_codes ["_law_codes_here", "_law_fields_here"]  (sp_foc K) := ok__law_form_of_codes T
  have G__law_judged : FnOk P w K mg base CX0 (7) T.f__law_judged T.fd__law_judged ["_law_form_here"]  (sp_judged K 5) := ok__law_judged T 5
  have G__law_due_power : FnOk P w K mg base CX0 (8) T.f__law_due_power T.fd__law_due_power ["_law_codes_here", "_law_n", "_law_fields_here"]  (sp_duep K) := ok__law_due_power T (k := 0)
  have GX__law_raised : FnOk P w K mg base (L2.CX P w) (19) T.f__law_raised T.fd__law_raised ["_law_x", "_law_n"]  (sp_raised T) := ok__law_raised T hP (TBs (T.c__law_raised, T.P__law_raised) (by simp))
  refine funG T.F_law sc_law (fun vs H Q E h => ?_) (fun cdv A outer s H vs Q E hg hr h => ?_)
  · obtain ⟨a, ns, rfl, _⟩ := h
    rfl
  · obtain ⟨a, ns, rfl, hS, hl, hTb, q⟩ := h
    refine ⟨_, (pss_cons (ps_set (i := 1) sc_law.nd rfl (Or.inl rfl) (pe_call G__law_begin (hr.mono (by omega)) (by rfl) T.g__law_begin T.F__law_begin.kp T.b__law_begin .nil pass0 (pa_cons (pv 0) pa_nil)))
    (pss_cons (ps_set (i := 2) sc_law.nd rfl (Or.inl rfl) (pe_call G__law_fields (hr.mono (by omega)) (by rfl) T.g__law_fields T.F__law_fields.kp T.b__law_fields .nil pass0 (pa_cons (pv 1) (pa_cons pe_int pa_nil))))
    (pss_cons (ps_for PassesOwn.never rfl (pi_range1 (by rfl) T.m_range (pa_cons pe_int pa_nil)) (pg_name (i := 3) sc_law.nd rfl (Or.inl rfl))
      (pss_cons (ps_par (i := 4) (j := 5) rfl sc_law.nd rfl rfl (by decide) rfl rfl (pa_cons (pe_call G__law_few (hr.mono (by omega)) (by rfl) T.g__law_few T.F__law_few.kp T.b__law_few .nil pass0 (pa_cons (pv 1) (pa_cons (pe_op op_add pe_int (pe_op op_mul pe_int (pe_call G__law_draw (hr.mono (by omega)) (by rfl) T.g__law_draw T.F__law_draw.kp T.b__law_draw .nil pass0 (pa_cons (pv 1) (pa_cons pe_int pa_nil))))) pa_nil))) (pa_cons (pe_call G__law_draw (hr.mono (by omega)) (by rfl) T.g__law_draw T.F__law_draw.kp T.b__law_draw .nil pass0 (pa_cons (pv 1) (pa_cons pe_int pa_nil))) pa_nil)) rfl)
      (pss_cons (ps_set (i := 6) sc_law.nd rfl (Or.inl rfl) (pe_call G__law_due_power (hr.mono (by omega)) (by rfl) T.g__law_due_power T.F__law_due_power.kp T.b__law_due_power .nil pass0 (pa_cons (pe_call G__law_turns (hr.mono (by omega)) (by rfl) T.g__law_turns T.F__law_turns.kp T.b__law_turns .nil pass0 (pa_cons (pv 4) pa_nil)) (pa_cons (pv 5) (pa_cons (pe_lst (pa_cons pe_int pa_nil)) pa_nil)))))
      (pss_cons (ps_if (pt_cmpR op_ne (pe_callB (call_repr_data hg hr.units) (by rfl) T.m_repr (by decide +kernel) (pa_cons (pe_callS GX__law_raised (hr.mono (by omega)) (by rfl) T.g__law_raised T.F__law_raised.kp T.b__law_raised (fun σ => passF σ) (pa_cons (pe_call G__law_form (hr.mono (by omega)) (by rfl) T.g__law_form T.F__law_form.kp T.b__law_form .nil pass0 (pa_cons (pv 4) pa_nil)) (pa_cons (pv 5) pa_nil))) pa_nil)) (pe_callB (call_repr_data hg hr.units) (by rfl) T.m_repr (by decide +kernel) (pa_cons (pv 6) pa_nil)) (nomark _))
        (pss_one (ps_ret pe_bl))
        pss_nil)
      (pss_cons (ps_set (i := 7) sc_law.nd rfl (Or.inl rfl) (pe_call G__law_number (hr.mono (by omega)) (by rfl) T.g__law_number T.F__law_number.kp T.bd__law_number T.dv__law_number pass0 (pa_cons (pv 1) (pa_cons (pv 2) (pa_cons pe_int pa_nil)))))
      (pss_cons (ps_set (i := 5) sc_law.nd rfl (Or.inl rfl) (pe_ifExp (pt_cmpR op_gt (pe_callB call_len_seq (by rfl) T.m_len PySem.boot_len (pa_cons (pv 7) pa_nil)) pe_int (nomark _)) (pe_call G__law_draw (hr.mono (by omega)) (by rfl) T.g__law_draw T.F__law_draw.kp T.b__law_draw .nil pass0 (pa_cons (pv 1) (pa_cons pe_int pa_nil))) (pe_call G__law_draw (hr.mono (by omega)) (by rfl) T.g__law_draw T.F__law_draw.kp T.b__law_draw .nil pass0 (pa_cons (pv 1) (pa_cons pe_int pa_nil)))))
      (pss_one (ps_if (pt_cmpR op_ne (pe_callB (call_repr_data hg hr.units) (by rfl) T.m_repr (by decide +kernel) (pa_cons (pe_callS GX__law_raised (hr.mono (by omega)) (by rfl) T.g__law_raised T.F__law_raised.kp T.b__law_raised (fun σ => passF σ) (pa_cons (pe_call G__law_form_of_codes (hr.mono (by omega)) (by rfl) T.g__law_form_of_codes T.F__law_form_of_codes.kp T.b__law_form_of_codes .nil pass0 (pa_cons (pv 7) (pa_cons (pv 2) pa_nil))) (pa_cons (pv 5) pa_nil))) pa_nil)) (pe_callB (call_repr_data hg hr.units) (by rfl) T.m_repr (by decide +kernel) (pa_cons (pe_call G__law_due_power (hr.mono (by omega)) (by rfl) T.g__law_due_power T.F__law_due_power.kp T.b__law_due_power .nil pass0 (pa_cons (pv 7) (pa_cons (pv 5) (pa_cons (pv 2) pa_nil)))) pa_nil)) (nomark _))
        (pss_one (ps_ret pe_bl))
        pss_nil))))))))
    (pss_cons (ps_par (i := 8) (j := 5) rfl sc_law.nd rfl rfl (by decide) rfl rfl (pa_cons (pe_call G__law_code (hr.mono (by omega)) (by rfl) T.g__law_code T.F__law_code.kp T.b__law_code .nil pass0 (pa_cons (pv 1) (pa_cons pe_int (pa_cons (pe_lst pa_nil) pa_nil)))) (pa_cons (pe_call G__law_draw (hr.mono (by omega)) (by rfl) T.g__law_draw T.F__law_draw.kp T.b__law_draw .nil pass0 (pa_cons (pv 1) (pa_cons pe_int pa_nil))) pa_nil)) rfl)
    (pss_cons (ps_set (i := 6) sc_law.nd rfl (Or.inl rfl) (pe_tup (pa_cons pe_str (pa_cons (pe_call G__law_form_of_codes (hr.mono (by omega)) (by rfl) T.g__law_form_of_codes T.F__law_form_of_codes.kp T.b__law_form_of_codes .nil pass0 (pa_cons (pe_lst (pa_cons (pe_op op_mul (pv 8) (pv 5)) (pa_cons (pe_op op_add (pe_op op_mul (pv 8) (pv 5)) pe_int) pa_nil))) (pa_cons (pe_lst (pa_cons pe_int pa_nil)) pa_nil))) pa_nil))))
    (pss_cons (ps_if (pt_cmpR op_ne (pe_callB (call_repr_data hg hr.units) (by rfl) T.m_repr (by decide +kernel) (pa_cons (pe_callS GX__law_raised (hr.mono (by omega)) (by rfl) T.g__law_raised T.F__law_raised.kp T.b__law_raised (fun σ => passF σ) (pa_cons (pe_call G__law_form_of_codes (hr.mono (by omega)) (by rfl) T.g__law_form_of_codes T.F__law_form_of_codes.kp T.b__law_form_of_codes .nil pass0 (pa_cons (pe_lst (pa_cons (pv 8) (pa_cons (pe_op op_add (pv 8) pe_int) pa_nil))) (pa_cons (pe_lst (pa_cons pe_int pa_nil)) pa_nil))) (pa_cons (pv 5) pa_nil))) pa_nil)) (pe_callB (call_repr_data hg hr.units) (by rfl) T.m_repr (by decide +kernel) (pa_cons (pv 6) pa_nil)) (nomark _))
      (pss_one (ps_ret pe_bl))
      pss_nil)
    (pss_cons (ps_for PassesOwn.never rfl (pi_list (pe_lst (pa_cons pe_int (pa_cons pe_int (pa_cons (pe_un un_neg pe_int) pa_nil))))) (pg_name (i := 4) sc_law.nd rfl (Or.inl rfl))
      (pss_one (ps_if (pt_cmpR op_ne (pe_callB (call_repr_data hg hr.units) (by rfl) T.m_repr (by decide +kernel) (pa_cons (pe_callS GX__law_raised (hr.mono (by omega)) (by rfl) T.g__law_raised T.F__law_raised.kp T.b__law_raised (fun σ => passF σ) (pa_cons (pv 4) (pa_cons (pv 5) pa_nil))) pa_nil)) (pe_callB (call_repr_data hg hr.units) (by rfl) T.m_repr (by decide +kernel) (pa_cons (pe_tup (pa_cons pe_str (pa_cons (pe_ix ix_list (pe_lst (pa_cons (pe_callTy call_int1 (by rfl) T.m_int (by decide +kernel) (pa_cons (pe_cmpR op_eq (pv 5) pe_int (nomark _)) pa_nil)) (pa_cons pe_int (pa_cons (pe_op op_sub pe_int (pe_op op_mul pe_int (pe_op op_mod (pe_callTy call_int1 (by rfl) T.m_int (by decide +kernel) (pa_cons (pv 5) pa_nil)) pe_int))) pa_nil)))) (pv 4) (fun _ _ => rfl)) pa_nil))) pa_nil)) (nomark _))
        (pss_one (ps_ret pe_bl))
        pss_nil)))
    (pss_cons (ps_set (i := 9) sc_law.nd rfl (Or.inl rfl) (pe_call G__law_code (hr.mono (by omega)) (by rfl) T.g__law_code T.F__law_code.kp T.b__law_code .nil pass0 (pa_cons (pv 1) (pa_cons pe_int (pa_cons (pe_lst pa_nil) pa_nil)))))
    (pss_cons (ps_if (pt_cmpR op_ne (pe_callB (call_repr_data hg hr.units) (by rfl) T.m_repr (by decide +kernel) (pa_cons (pe_callS GX__law_raised (hr.mono (by omega)) (by rfl) T.g__law_raised T.F__law_raised.kp T.b__law_raised (fun σ => passF σ) (pa_cons pe_int (pa_cons (pe_call G__law_moved (hr.mono (by omega)) (by rfl) T.g__law_moved T.F__law_moved.kp T.b__law_moved .nil pass0 (pa_cons (pv 9) (pa_cons (pv 2) pa_nil))) pa_nil))) pa_nil)) (pe_callB (call_repr_data hg hr.units) (by rfl) T.m_repr (by decide +kernel) (pa_cons (pe_call G__law_judged (hr.mono (by omega)) (by rfl) T.g__law_judged T.F__law_judged.kp T.b__law_judged .nil pass0 (pa_cons (pe_call G__law_form_of_codes (hr.mono (by omega)) (by rfl) T.g__law_form_of_codes T.F__law_form_of_codes.kp T.b__law_form_of_codes .nil pass0 (pa_cons (pe_lst (pa_cons (pv 9) (pa_cons (pe_op op_add (pv 9) pe_int) pa_nil))) (pa_cons (pv 2) pa_nil))) pa_nil)) pa_nil)) (nomark _))
      (pss_one (ps_ret pe_bl))
      pss_nil)
    (pss_cons (ps_set (i := 10) sc_law.nd rfl (Or.inl rfl) (pe_call G__law_pick (hr.mono (by omega)) (by rfl) T.g__law_pick T.F__law_pick.kp T.b__law_pick .nil pass0 (pa_cons (pv 1) (pa_cons (pe_lst (pa_cons pe_int (pa_cons pe_int (pa_cons (pe_un un_neg pe_int) (pa_cons pe_int (pa_cons (pe_tup (pa_cons pe_int (pa_cons pe_int pa_nil))) (pa_cons (pe_un un_neg pe_int) (pa_cons (pe_tup (pa_cons pe_int pa_nil)) pa_nil)))))))) pa_nil))))
    (pss_cons (ps_set (i := 11) sc_law.nd rfl (Or.inl rfl) (pe_call G__law_pick (hr.mono (by omega)) (by rfl) T.g__law_pick T.F__law_pick.kp T.b__law_pick .nil pass0 (pa_cons (pv 1) (pa_cons (pe_lst (pa_cons pe_int (pa_cons pe_int (pa_cons (pe_op op_add pe_int (pe_call G__law_draw (hr.mono (by omega)) (by rfl) T.g__law_draw T.F__law_draw.kp T.b__law_draw .nil pass0 (pa_cons (pv 1) (pa_cons (pe_op op_pow pe_int pe_int) pa_nil)))) (pa_cons (pe_op op_sub (pe_op op_pow pe_int pe_int) pe_int) (pa_cons (pe_tup (pa_cons pe_int (pa_cons pe_int pa_nil))) (pa_cons (pe_tup (pa_cons (pe_call G__law_moved (hr.mono (by omega)) (by rfl) T.g__law_moved T.F__law_moved.kp T.b__law_moved .nil pass0 (pa_cons (pe_op op_shl pe_int pe_int) (pa_cons (pv 2) pa_nil))) pa_nil)) (pa_cons (pe_un un_neg pe_int) pa_nil)))))))) pa_nil))))
    (pss_cons (ps_if (PW.pt (pw_or (pt_cmpR (op_neD hr.units) (pe_callS GX__law_raised (hr.mono (by omega)) (by rfl) T.g__law_raised T.F__law_raised.kp T.b__law_raised (fun σ => passF σ) (pa_cons (pv 10) (pa_cons (pv 11) pa_nil))) (pe_tup (pa_cons pe_str (pa_cons (pv 11) (pa_cons pe_bl pa_nil)))) (nomark _)) (pw_or1 (pt_cmpR (op_neD hr.units) (pe_callS GX__law_raised (hr.mono (by omega)) (by rfl) T.g__law_raised T.F__law_raised.kp T.b__law_raised (fun σ => passF σ) (pa_cons pe_int (pa_cons (pe_un un_neg pe_int) pa_nil))) (pe_tup (pa_cons pe_str (pa_cons (pe_un un_neg pe_int) (pa_cons pe_bl pa_nil)))) (nomark _)))))
      (pss_one (ps_ret pe_bl))
      pss_nil)
    (pss_one (ps_ret (pe_and (pe_cmpR (op_eqD hr.units) (pe_callS GX__law_raised (hr.mono (by omega)) (by rfl) T.g__law_raised T.F__law_raised.kp T.b__law_raised (fun σ => passF σ) (pa_cons (pe_tup (pa_cons pe_int (pa_cons pe_int pa_nil))) (pa_cons pe_int pa_nil))) (pe_tup (pa_cons pe_str (pa_cons (pe_tup (pa_cons pe_int (pa_cons pe_int pa_nil))) pa_nil))) (nomark _)) (pe_one (pe_cmpR (op_eqD hr.units) (pe_callS GX__law_raised (hr.mono (by omega)) (by rfl) T.g__law_raised T.F__law_raised.kp T.b__law_raised (fun σ => passF σ) (pa_cons (pe_un un_neg pe_int) (pa_cons pe_int pa_nil))) (pe_tup (pa_cons pe_str (pa_cons pe_int pa_nil))) (nomark _)))))))))))))))))), ?_⟩
    refine ⟨_, rfl, a, ns, rfl, hS, hl, fun τ H1 sm1 np hT => ?_⟩
    replace hTb := tabs_same hTb sm1
    dsimp only [gName]
    --MARK
    refine ⟨_, rfl, τ, 0, 3, rfl, by omega, by decide, hT, fun l us fs H3 F hD3 nl hl3 hT3 b3 => ?_⟩
    replace hTb := hT.tabs hTb b3
    have hFA := fields_fm F
    have hul := dpAll_len hD3
    have hfl : fs.length = 4 := by
      obtain ⟨f1, es2, es3, rfl, _⟩ := F.ex
      rfl
    have hut : (us.take 3).length = 3 := by rw [List.length_take]; omega
    have hus : us.take 1 = [V.int 0] := by
      obtain ⟨f1, es2, es3, rfl, _⟩ := F.ex
      cases hD3 with
      | cons h1 h2 =>
        cases h1
        rfl
    dsimp only [gName]
    with_reducible refine cut (fun σ H' => ∃ (z3 z4 z5 z6 z7 z8 z9 z10 z11 : Option V), σ = [some (.ref a), some (.ref τ.p), some (.ref l), z3, z4, z5, z6, z7, z8, z9, z10, z11] ∧ Tape H' τ 700 ∧ Tabs (lamT T) H' ∧ H' l = some (.lst (us.take 3)) ∧ DpAll K H' us fs) (fun D0 J0 => ?_) ?_
    · refine ⟨3, rfl, by decide, by decide, ?_⟩
      refine flR (fun i σ H' => ∃ (z3 z4 z5 z6 z7 z8 z9 z10 z11 : Option V), σ = [some (.ref a), some (.ref τ.p), some (.ref l), z3, z4, z5, z6, z7, z8, z9, z10, z11] ∧ Tape H' τ (12 + 200 * i) ∧ Tabs (lamT T) H' ∧ H' l = some (.lst (us.take 3)) ∧ DpAll K H' us fs) ⟨none, none, none, none, none, none, none, none, none, rfl, hT3.le (by omega), hTb, hl3, hD3⟩ ?_ ?_
      · rintro i σ H4 hi ⟨z3, z4, z5, z6, z7, z8, z9, z10, z11, rfl, hT4, hTb4, hl4, hD4⟩ D' Bn
        have hi3 : i < 3 := by
          have : ((3 : Int)).toNat = 3 := rfl
          omega
        dsimp only [gName]
        refine ⟨_, rfl, ?_⟩
        walk_at "r"
        refine ⟨τ, 12 + 200 * i, 2, rfl, by decide, by decide, by omega, hT4, fun y H5 y0 y1 hT5 b5 => ?_⟩
        obtain ⟨x2, rfl⟩ := Int.eq_ofNat_of_zero_le y0
        refine ⟨_, _, rfl, rfl, .inl ⟨by decide, by decide⟩, ?_⟩
        refine ⟨_, _, rfl, rfl, ?_⟩
        obtain ⟨most, em⟩ : ∃ m : Nat, m = 64 + 200 * x2 := ⟨_, rfl⟩
        refine ⟨τ, 13 + 200 * i, most, by rw [em]; rfl, by omega, by omega, by omega, hT5.le (by omega), fun ts H6 hA hb hl9 hT6 b6 => ?_⟩
        refine ⟨_, rfl, τ, 59 + 200 * i, 5, rfl, by decide, by decide, by omega, hT6.le (by omega), fun y H7 y0 y1 hT7 b7 => ?_⟩
        obtain ⟨N, rfl⟩ := Int.eq_ofNat_of_zero_le y0
        refine ⟨_, _, rfl, ?_⟩
        dsimp only [gName]
        have b47 := (b5.trans b6).trans b7
        have hl7 := b47 _ _ (hT4.ne hl4) hl4
        have hD7 := dpAll_tk (but_tk hT4 b47) hFA hD4
        have hTb7 := hT6.tabs (hT5.tabs (hT4.tabs hTb4 b5) b6) b7
        have htv := (tv_range hA).mp hb
        refine ⟨_, rfl, tv ts, most, rfl, by omega, htv.1, htv.2, fun ts2 l8 H8 hA2 etv _ _ sm8 nl8 hl8 => ?_⟩
        have ets : ts2 = ts := tv_inj hA2 hA etv
        subst ets
        rw [nv_iv] at hl8
        refine ⟨_, rfl, len_le (by show 1 ≤ _; decide), fun l9 nl9 => ?_⟩
        have s9 := sm_upd (o := .lst [V.int 0]) nl9
        have s79 := sm8.trans s9
        have W := pwb_int F hA (B := 300) (fun t ht => by have := hb t ht; omega) (N := N) (by omega) hl9 (by
          have : N * (300 + 122) ≤ 64 * (300 + 122) := Nat.mul_le_mul_right _ (by omega)
          omega)
        refine ⟨l8, l9, _, us, fs, 1, _, _, N, _, rfl, s9 _ _ hl8, by rw [hus]; exact upd_same, dpAll_tk (tk_same s79) hFA hD7, W, fun vd H10 Dd s10 => ?_⟩
        have s710 := s79.trans s10
        dsimp only [gName]
        refine ⟨_, rfl, tv ts2, most, rfl, by omega, htv.1, htv.2, fun vf d H11 fd ed depd wd Df s11 => ?_⟩
        have s711 := s710.trans s11
        have W' : Pwb fs 1 300 0 N (val d) (ts2.map fun t => ((t : Nat) : Int)) := by rw [ed]; exact W
        refine ⟨_, rfl, W'.raised (E := E0) Df fd (by omega) (by omega) (tabs_same hTb7 s711) fun vr H12 Dr e12 T12 => ?_⟩
        rw [ed] at Dr
        obtain ⟨c1, c2, c3, c4⟩ := shw W.rp (by decide) (by decide)
        refine ⟨_, _, rfl, Dr, c1, c2, c3, c4, ?_⟩
        refine ⟨_, rfl, _, _, rfl, dp_im ((tk_same s11).trans (tk_ext e12)) (im_dueP _ _) Dd, c1, c2, c3, c4, rfl, _, rfl, ?_⟩
        refine iteNS rfl ?_
        dsimp only [tNext]
        have e712 := (extN_same s711).trans e12
        have hT12 := hT7.ext e712
        have hl12 := ext_lst e712 hl7
        have hD12 := dpAll_tk (tk_ext e712) hFA hD7
        clear Dr Dd c1 c2 c3 c4 W' W
        refine ⟨_, rfl, _, rfl, τ, 60 + 200 * i, 3, 2 ^ 60, 0, 3, l, us.take 3, .non, [], rfl, hl12, hut, by decide, by decide, by omega, by decide, hT12.le (by omega), .inl ⟨rfl, rfl⟩, by simp, Nat.le_refl _, by decide, fun lc cs H13 hp hcs hcl nlc hlc hT13 b13 => ?_⟩
        have hTb13 := hT12.tabs T12 b13
        have hl13 := b13 _ _ (hT12.ne hl12) hl12
        have hD13 := dpAll_tk (but_tk hT12 b13) hFA hD12
        dsimp only [gName]
        with_reducible refine cut (fun σ' H' => ∃ N2 : Nat, σ' = [some (.ref a), some (.ref τ.p), some (.ref l), some (.int (0 + (i : Nat))), some (.int (tv ts2)), some (.int (N2 : Nat)), some vd, some (.ref lc), z8, z9, z10, z11] ∧ N2 ≤ 7 ∧ Tape H' τ (200 + 200 * i) ∧ But τ.p H13 H') (fun D1 J1 => ?_) ?_
        · refine ⟨_, rfl, lc, _, rfl, .inl (.inl (.inl hlc)), ?_⟩
          rw [iv_len]
          walk_at "r"
          refine ifD (fun h => ?_) (fun h => ?_)
          · refine ⟨_, rfl, τ, _, 4, rfl, by decide, by decide, by omega, hT13, fun y H14 y0 y1 hT14 b14 => ?_⟩
            obtain ⟨N2, rfl⟩ := Int.eq_ofNat_of_zero_le y0
            exact J1.nx _ _ ⟨N2, rfl, by omega, hT14.le (by omega), b14⟩
          · refine ⟨_, rfl, τ, _, 8, rfl, by decide, by decide, by omega, hT13, fun y H14 y0 y1 hT14 b14 => ?_⟩
            obtain ⟨N2, rfl⟩ := Int.eq_ofNat_of_zero_le y0
            exact J1.nx _ _ ⟨N2, rfl, by omega, hT14.le (by omega), b14⟩
        rintro σ' H14 ⟨N2, rfl, hN2, hT14, b14⟩
        have hTb14 := hT13.tabs hTb13 b14
        have hl14 := b14 _ _ (hT13.ne hl13) hl13
        have hlc14 := b14 _ _ (hT13.ne hlc) hlc
        have hD14 := dpAll_tk (but_tk hT13 b14) hFA hD13
        have cw1 := cwts_dk (by decide) hcs
        have hcok : ∀ c ∈ cs, CodeOk 3 c := fun c hc => (hcs c hc).1.code (by decide)
        refine ⟨_, rfl, _, rfl, lc, l, cs, us, fs, 3, rfl, hlc14, hl14, by decide, F, hD14, hp, hcok, by omega, fun vx dx H15 fx ex depx wx Dx s15 => ?_⟩
        have W2 : Pwb fs 3 (2 ^ 60 + 4 * 3) 8 N2 (val dx) cs := pwb_far F hp (fun c hc => (hcs c hc).1) (by decide) (by decide) ex.symm hN2 (by omega) (by decide)
        refine ⟨_, rfl, W2.raised (E := E0) Dx fx (by omega) (by omega) (tabs_same hTb14 s15) fun vr H16 Dr e16 T16 => ?_⟩
        obtain ⟨c1, c2, c3, c4⟩ := shw W2.rp (by decide) (by decide)
        refine ⟨_, _, rfl, Dr, c1, c2, c3, c4, ?_⟩
        have e1416 := (extN_same s15).trans e16
        refine ⟨_, rfl, _, rfl, _, rfl, lc, l, cs, us, fs, 3, _, _, N2, _, rfl, ext_lst e1416 hlc14, ext_lst e1416 hl14, dpAll_tk (tk_ext e1416) hFA hD14, W2, fun vq H17 Dq s17 => ?_⟩
        refine ⟨_, _, rfl, Dq, c1, c2, c3, c4, rfl, _, rfl, ?_⟩
        refine iteNS rfl ?_
        have e1417 := e1416.trans (extN_same s17)
        exact Bn.nx _ _ ⟨_, _, _, _, _, _, _, _, _, rfl, (hT14.ext e1417).le (by omega), tabs_same T16 s17, ext_lst e1417 hl14, dpAll_tk (tk_ext e1417) hFA hD14⟩
      · rintro σ H4 ⟨z3, z4, z5, z6, z7, z8, z9, z10, z11, rfl, hT4, hTb4, hl4, hD4⟩
        exact J0.nx _ _ ⟨_, _, _, _, _, _, _, _, _, rfl, hT4.le (by decide), hTb4, hl4, hD4⟩
    · rintro σ H4 ⟨z3, z4, z5, z6, z7, z8, z9, z10, z11, rfl, hT4, hTb4, hl4, hD4⟩
      clear G__law_few G__law_number G__law_due_power G__law_turns G__law_form
      refine ⟨_, rfl, Nat.zero_le _, fun lz nlz => ?_⟩
      have sz := sm_upd (o := .lst []) nlz
      refine ⟨τ, 700, 1, 1, 2 ^ 60, 0, lz, [], rfl, by decide, by decide, by decide, by omega, hT4.up sz, upd_same, by simp, Nat.le_refl _, by decide, fun c H5 hc hT5 b5 => ?_⟩
      obtain ⟨t, rfl, ht⟩ := dw_low hc.1
      refine ⟨_, rfl, τ, 712, 65, rfl, by decide, by decide, by omega, hT5, fun y H6 y0 y1 hT6 b6 => ?_⟩
      obtain ⟨N, rfl⟩ := Int.eq_ofNat_of_zero_le y0
      have hN : N ≤ 64 := by omega
      refine ⟨_, _, rfl, ?_⟩
      dsimp only [gName]
      have b46 := ((But.of sz).trans b5).trans b6
      have hl6 := b46 _ _ (hT4.ne hl4) hl4
      have hD6 := dpAll_tk (but_tk hT4 b46) hFA hD4
      have T6 := (hT5.tabs ((hT4.up sz).tabs (tabs_same hTb4 sz) b5) b6)
      have htN : ((t : Nat) : Int) * ((N : Nat) : Int) = ((t * N : Nat) : Int) := (Int.natCast_mul _ _).symm
      have htNb : t * N < 2 ^ 70 := by
        have h1 : t * N ≤ (2 ^ 60 + 4) * 64 := Nat.mul_le_mul (Nat.le_of_lt ht) hN
        exact Nat.lt_of_le_of_lt h1 (by decide)
      walk_at "r"
      have two : ∀ (p : Nat) (H : Hp) (u : Addr), (([(p : Int), (p : Int) + 1] : List Int)).Pairwise (· < ·) ∧ iv [((p : Nat) : Int), ((p : Nat) : Int) + 1] = iv (([p, p + 1] : List Nat).map fun x => ((x : Nat) : Int)) := fun p H u => by
        refine ⟨by simp; omega, ?_⟩
        show [V.int (p : Nat), V.int (((p : Nat) : Int) + 1)] = [V.int (p : Nat), V.int ((p + 1 : Nat) : Int)]
        rfl
      have cok : ∀ p : Nat, p + 1 < 2 ^ 90 → ∀ c ∈ ([p, p + 1] : List Nat).map (fun x => ((x : Nat) : Int)), CodeOk 1 c := fun p hp c hc => by
        obtain ⟨x, hx, rfl⟩ := List.mem_map.mp hc
        simp only [List.mem_cons, List.not_mem_nil, or_false] at hx
        exact (Dw.nat (m := 1) (B := 2 ^ 90) (x := x) (Nat.le_refl _) (by rcases hx with rfl | rfl <;> omega)).code (by decide)
      have asc2 : ∀ p : Nat, (([p, p + 1] : List Nat).map (fun x => ((x : Nat) : Int))).Pairwise (· < ·) := fun p => by simp; omega
      have phi2 : ∀ p : Nat, p + 1 < 2 ^ 90 → tv (Phis fs (([p, p + 1] : List Nat).map fun x => ((x : Nat) : Int))) = 2 ^ p := fun p hp => by
        rw [phis_low F (B := 2 ^ 90) (by decide) fun x hx => by
          simp only [List.mem_cons, List.not_mem_nil, or_false] at hx
          omega, tvP]
      refine ⟨len_le (by show 2 ≤ _; decide), fun l7 nl7 => ?_⟩
      have s7 := sm_upd (o := .lst [V.int (((t : Nat) : Int) * ((N : Nat) : Int)), .int (((t : Nat) : Int) * ((N : Nat) : Int) + 1)]) nl7
      have h7 : upd H6 l7 (.lst [V.int (((t : Nat) : Int) * ((N : Nat) : Int)), .int (((t : Nat) : Int) * ((N : Nat) : Int) + 1)]) l7 = some (.lst (iv (([t * N, t * N + 1] : List Nat).map fun x => ((x : Nat) : Int)))) := by
        rw [upd_same, ← (two (t * N) H6 l7).2, ← htN]
        rfl
      refine ⟨len_le (by show 1 ≤ _; decide), fun l8 nl8 => ?_⟩
      have s8 := sm_upd (o := .lst [V.int 0]) nl8
      have s68 := s7.trans s8
      refine ⟨l7, l8, _, us, fs, 1, rfl, s8 _ _ h7, by rw [hus]; exact upd_same, by decide, F, dpAll_tk (tk_same s68) hFA hD6, asc2 _, cok _ (by omega), by show 2 ≤ 100000; decide, fun v0 r0 H9 f0 e0 dep0 w0 D0 s9 => ?_⟩
      rw [phi2 _ (by omega)] at e0
      refine ⟨len_le (by show 2 ≤ _; decide), fun t10 nt10 => ?_⟩
      have s10 := sm_upd (o := .tup [V.str "form", v0]) nt10
      have ht10 := upd_at (o := .tup [V.str "form", v0]) nt10
      have s610 := (s68.trans s9).trans s10
      have D10 : Dp K (upd H9 t10 (.tup [V.str "form", v0])) (.ref t10) (.tuple [.str "form", r0]) := .tup (.inl (.inl ht10)) (.cons (.str _) (.cons (dp_tk (tk_same s10) f0 D0) .nil))
      revert s610 D10
      generalize upd H9 t10 _ = H10
      intro s610 D10
      dsimp only [gName]
      walk_at "r"
      refine ⟨len_le (by show 2 ≤ _; decide), fun l11 nl11 => ?_⟩
      have s11 := sm_upd (o := .lst [V.int ((t : Nat) : Int), .int (((t : Nat) : Int) + 1)]) nl11
      have h11 : upd H10 l11 (.lst [V.int ((t : Nat) : Int), .int (((t : Nat) : Int) + 1)]) l11 = some (.lst (iv (([t, t + 1] : List Nat).map fun x => ((x : Nat) : Int)))) := by
        rw [upd_same, ← (two t H10 l11).2]
        rfl
      refine ⟨len_le (by show 1 ≤ _; decide), fun l12 nl12 => ?_⟩
      have s12 := sm_upd (o := .lst [V.int 0]) nl12
      have s612 := (s610.trans s11).trans s12
      refine ⟨l11, l12, _, us, fs, 1, rfl, s12 _ _ h11, by rw [hus]; exact upd_same, by decide, F, dpAll_tk (tk_same s612) hFA hD6, asc2 _, cok _ (by omega), by show 2 ≤ 100000; decide, fun vx dx H13 fx ex depx wx Dx s13 => ?_⟩
      rw [phi2 _ (by omega)] at ex
      have hNt : N * (t + 2 + 122) ≤ 64 * (t + 2 + 122) := Nat.mul_le_mul_right _ hN
      have W0 := pwb_int F (ascP t) (B := t + 2) (N := N) (fun x hx => by
        simp only [List.mem_cons, List.not_mem_nil, or_false] at hx
        omega) hN (by show 2 ≤ 9; decide) (by omega)
      rw [tvP] at W0
      have W1 : Pwb fs 1 (t + 2) 0 N (val dx) (([t, t + 1] : List Nat).map fun x => ((x : Nat) : Int)) := by rw [ex]; exact W0
      have s613 := s612.trans s13
      have hwx : wt dx ≤ 2000 := by
        have := within_pow F (p := t) (by omega)
        rw [← fo_is fx ex] at this
        exact this.1
      refine ⟨_, rfl, W1.raised (E := fun _ _ _ => False) Dx fx (by omega) hwx (tabs_same T6 s613) fun vr H14 Dr e14 T14 => ?_⟩
      have hst := st_pow F hN (t := t) (by omega)
      rw [ex, dueP_none hst, ← Int.pow_mul, ← fo_is f0 e0] at Dr
      obtain ⟨c1, c2, c3, c4⟩ := shw W0.rp (by decide) (by decide)
      rw [dueP_none hst, ← Int.pow_mul, ← fo_is f0 e0] at c1 c2 c3 c4
      refine ⟨_, _, rfl, Dr, c1, c2, c3, c4, ?_⟩
      have e1014 := (extN_same ((s11.trans s12).trans s13)).trans e14
      have im0 : Im (.tuple [.str "form", r0]) := by
        simp only [im_tuple, imAll_cons]
        exact ⟨im_str _, im_fm f0, imAll_nil⟩
      refine ⟨_, rfl, _, _, rfl, dp_im (tk_ext e1014) im0 D10, c1, c2, c3, c4, rfl, _, rfl, ?_⟩
      refine iteNS rfl ?_
      dsimp only [tNext]
      have e614 := (extN_same s610).trans e1014
      have hT14 := hT6.ext e614
      have hl14 := ext_lst e614 hl6
      have hD14 := dpAll_tk (tk_ext e614) hFA hD6
      clear Dr D10 c1 c2 c3 c4 W0 W1 D0
      with_reducible refine cut (fun σ H' => ∃ z4' : Option V, σ = [some (.ref a), some (.ref τ.p), some (.ref l), z3, z4', some (.int (N : Nat)), some (.ref t10), z7, some (.int (t : Nat)), z9, z10, z11] ∧ ExtN H14 H' ∧ Tabs (lamT T) H') (fun D1 J1 => ?_) ?_
      · refine ⟨_, rfl, len_le (by show 3 ≤ _; decide), fun l15 nl15 => ?_⟩
        have s15 := sm_upd (o := .lst [V.int 0, .int 1, .int (-1)]) nl15
        refine ⟨l15, rfl, ⟨_, .inl (.inl upd_same)⟩, flL (xs := [V.int 0, .int 1, .int (-1)]) (fun i σ H' => ∃ z4' : Option V, σ = [some (.ref a), some (.ref τ.p), some (.ref l), z3, z4', some (.int (N : Nat)), some (.ref t10), z7, some (.int (t : Nat)), z9, z10, z11] ∧ ExtN (upd H14 l15 (.lst [V.int 0, .int 1, .int (-1)])) H' ∧ Tabs (lamT T) H') ⟨_, rfl, ExtN.refl _, tabs_same T14 s15⟩ ?_ ?_ ?_⟩
        · rintro i σ H' _ ⟨_, _, e, _⟩
          exact .inl (.inl (ext_lst e upd_same))
        · rintro i y σ H' hy ⟨z4', rfl, e15, T15⟩ D2 B2
          obtain ⟨x, rfl, hx⟩ : ∃ x : Int, y = .int x ∧ (x = 0 ∨ x = 1 ∨ x = -1) := by
            have hm := List.mem_of_getElem? hy
            simp only [List.mem_cons, List.not_mem_nil, or_false] at hm
            rcases hm with rfl | rfl | rfl
            · exact ⟨0, rfl, .inl rfl⟩
            · exact ⟨1, rfl, .inr (.inl rfl)⟩
            · exact ⟨-1, rfl, .inr (.inr rfl)⟩
          have fx : Fm (.int x) := (fm_int x).mpr (by omega)
          obtain ⟨⟨_, W2⟩, hs2, hf2⟩ := small3 F hx hN
          dsimp only [gName]
          refine ⟨_, rfl, _, rfl, W2.raised (E := fun _ _ _ => False) (.int x) fx (by rw [depth_int]; decide) (by rw [wt_int]; decide) T15 fun vr H16 Dr e16 T16 => ?_⟩
          rw [val_int, dueP_none hs2, hf2] at Dr
          obtain ⟨c1, c2, c3, c4⟩ := shw W2.rp (by decide) (by decide)
          rw [val_int, dueP_none hs2, hf2] at c1 c2 c3 c4
          refine ⟨_, _, rfl, Dr, c1, c2, c3, c4, ?_⟩
          walk_at "r"
          refine .inr ⟨_, rfl, ?_⟩
          walk_at "r"
          refine ⟨len_le (by show 3 ≤ _; decide), fun l17 nl17 => ?_⟩
          have s17 := sm_upd (o := .lst [V.int (if decide (V.int (N : Nat) = V.int 0) = true then 1 else 0), .int 1, .int (1 - 2 * ((N : Int) % 2))]) nl17
          have h17 := upd_at (o := .lst [V.int (if decide (V.int (N : Nat) = V.int 0) = true then 1 else 0), .int 1, .int (1 - 2 * ((N : Int) % 2))]) nl17
          have T17 := tabs_same T16 s17
          have e17 := (e15.trans e16).trans (extN_same s17)
          obtain ⟨vx3, ev3, hat⟩ : ∃ v : Int, v = x ^ N ∧ atI [V.int (if decide (V.int (N : Nat) = V.int 0) = true then 1 else 0), .int 1, .int (1 - 2 * ((N : Int) % 2))] x = some (.int v) := by
            rcases hx with rfl | rfl | rfl
            · refine ⟨_, ?_, at_of (j := 0) rfl rfl⟩
              cases N with
              | zero => rfl
              | succ k =>
                rw [Int.pow_succ, Int.mul_zero, decide_eq_false (fun z => by injection z with z; omega)]
                rfl
            · exact ⟨1, Int.one_pow.symm, at_of (j := 1) rfl rfl⟩
            · exact ⟨_, (neg1_pow N).symm, atI_neg1 rfl⟩
          refine ⟨_, rfl, l17, _, _, .int vx3, rfl, rfl, .inl (.inl h17), hat, ?_⟩
          refine ⟨len_le (by show 2 ≤ _; decide), fun t18 nt18 => ?_⟩
          have s18 := sm_upd (o := .tup [V.str "form", .int vx3]) nt18
          refine ⟨_, .tuple [.str "form", .int (x ^ N)], rfl, .tup (.inl (.inl upd_same)) (.cons (.str _) (.cons (by rw [← ev3]; exact .int _) .nil)), c1, c2, c3, c4, rfl, _, rfl, ?_⟩
          refine iteNS rfl ?_
          exact B2.nx _ _ ⟨_, rfl, e17.trans (extN_same s18), tabs_same T17 s18⟩
        · rintro σ H' ⟨z4', rfl, e15, T15⟩
          exact J1.nx _ _ ⟨_, rfl, (extN_same s15).trans e15, T15⟩
      rintro σ H15 ⟨z4', rfl, e15, T15⟩
      have hT15 := hT14.ext e15
      have hl15 := ext_lst e15 hl14
      have hD15 := dpAll_tk (tk_ext e15) hFA hD14
      refine ⟨_, rfl, Nat.zero_le _, fun ly nly => ?_⟩
      have sy := sm_upd (o := .lst []) nly
      refine ⟨τ, 713, 3, 3, 2 ^ 60, 0, ly, [], rfl, by decide, by decide, by decide, by omega, (hT15.up sy).le (by omega), upd_same, by simp, Nat.le_refl _, by decide, fun c H16 hc16 hT16 b16 => ?_⟩
      have b1516 := (But.of sy).trans b16
      have hl16 := b1516 _ _ (hT15.ne hl15) hl15
      have hD16 := dpAll_tk (but_tk hT15 b1516) hFA hD15
      have T16 := (hT15.up sy).tabs (tabs_same T15 sy) b16
      dsimp only [gName]
      have cok16 : CodeOk 3 c := hc16.1.code (by decide)
      have w16 := hc16.2.cwt (by decide)
      have ds16 : Ds 3 (2 ^ 60 + 4) c := ds_of hc16.1.dg
      have c0 : 0 ≤ c := hc16.1.nonneg
      refine ⟨_, rfl, _, rfl, c, l, us, fs, 3, rfl, hl16, by decide, F, hD16, cok16, fun ve e H17 fe ee depe we De s17 => ?_⟩
      have e0' : 0 ≤ val e := by rw [ee]; exact Phi_nonneg F (by decide) cok16
      have f2 : Fm (.int 2) := (fm_int 2).mpr (by decide)
      have v2 : val (.int 2) = 2 := val_int 2
      refine ⟨.int 2, ve, .int 2, e, rfl, .int 2, De, f2, fe, by rw [depth_int]; decide, by rw [wt_int]; decide, tabs_same T16 s17, fun hX => ?_, fun _ _ => ⟨by omega, by omega, fun vr r H18 f1 er w1 d1 Dr e18 T18 => ?_⟩, fun M h2 => absurd v2 h2⟩
      · exfalso
        unfold isX at hX
        rw [if_pos v2, decide_eq_true e0'] at hX
        cases hX
      obtain ⟨c1, c2, c3, c4⟩ := jsh f1 w1 d1
      refine ⟨_, _, rfl, Dr, c1, c2, c3, c4, ?_⟩
      have e1618 := (extN_same s17).trans e18
      walk_at "r"
      refine ⟨len_le (by show 2 ≤ _; decide), fun l19 nl19 => ?_⟩
      have s19 := sm_upd (o := .lst [V.int c, .int (c + 1)]) nl19
      have e1619 := e1618.trans (extN_same s19)
      have c1k : CodeOk 3 (c + 1) := (hc16.add (y := 1) (Y := 2) (by decide)).1.code (by decide)
      refine ⟨_, rfl, l19, l, [c, c + 1], us, fs, 3, rfl, upd_same, s19 _ _ (ext_lst e1618 hl16), by decide, F, dpAll_tk (tk_ext e1619) hFA hD16, by simp; omega, fun x hx => ?_, by show 2 ≤ _; decide, fun vd d H20 fd ed depd wd Dd s20 => ?_⟩
      · simp only [List.mem_cons, List.not_mem_nil, or_false] at hx
        rcases hx with rfl | rfl
        · exact cok16
        · exact c1k
      rw [powO F (by decide) (by decide) ds16 c0 (B := 2 ^ 60 + 4) (by decide)] at ed
      have hwd : wt d ≤ 12000000 := by
        have h2 := (hc16.add (y := 1) (Y := 2) (by decide)).2.cwt (by decide)
        have h3 : ([c, c + 1].map FC.cwt).sum = FC.cwt c + (FC.cwt (c + 1) + 0) := rfl
        have h4 : FC.cwt (c + ((1 : Nat) : Int)) = FC.cwt (c + 1) := rfl
        rw [h3] at wd
        rw [h4] at h2
        omega
      have edr : d = r := fm_inj fd f1 (by rw [ed, er]; unfold vl; rw [ee])
      subst edr
      refine ⟨vd, d, rfl, Dd, fd, depd, hwd, fun vj H21 Dj s21 => ?_⟩
      refine ⟨_, _, rfl, Dj, c1, c2, c3, c4, rfl, _, rfl, ?_⟩
      refine iteNS rfl ?_
      dsimp only [tNext]
      have s1821 := (s19.trans s20).trans s21
      have e1621 := e1618.trans (extN_same s1821)
      have hT21 := hT16.ext e1621
      have T21 := tabs_same T18 s1821
      have hl21 := ext_lst e1621 hl16
      have hD21 := dpAll_tk (tk_ext e1621) hFA hD16
      clear Dj Dr Dd c1 c2 c3 c4
      refine ⟨_, rfl, ?_⟩
      walk_at "r"
      refine ⟨len_le (by show 2 ≤ _; decide), fun ta nta => ?_⟩
      have sa := sm_upd (o := .tup [V.int 64, .int 65]) nta
      have hta := upd_at (o := .tup [V.int 64, .int 65]) nta
      walk_at "r"
      refine ⟨len_le (by show 1 ≤ _; decide), fun tb ntb => ?_⟩
      have sb := sm_upd (o := .tup [V.int 100]) ntb
      have htb := upd_at (o := .tup [V.int 100]) ntb
      refine ⟨len_le (by show 7 ≤ _; decide), fun lk nlk => ?_⟩
      have sk := sm_upd (o := .lst [V.int 0, .int 1, .int (-1), .int 3, .ref ta, .int (-2), .ref tb]) nlk
      have s2 := (sa.trans sb).trans sk
      have hta2 := sk _ _ (sb _ _ hta)
      have htb2 := sk _ _ htb
      refine ⟨τ, lk, 725, _, rfl, by omega, (hT21.up s2).le (by omega), upd_same, by show 1 ≤ 7; decide, by show 7 ≤ _; decide, fun vx H22 hvx hT22 b22 => ?_⟩
      have k22 := (lk_same s2).trans (lk_tape (hT21.up s2) b22)
      have T22 := (hT21.up s2).tabs (tabs_same T21 s2) b22
      have tk22 := (lk_tape (hT21.up s2) b22).tk
      obtain ⟨dx2, Dx2, fx2, nx2, wx2, depx2⟩ : ∃ d, Dp K H22 vx d ∧ Fm d ∧ val d ≠ 2 ∧ wt d ≤ 3 ∧ d.depth ≤ 1 := by
        have fi : ∀ i : Int, -3 ≤ i ∧ i ≤ 3 → i ≠ 2 → ∃ d, Dp K H22 (.int i) d ∧ Fm d ∧ val d ≠ 2 ∧ wt d ≤ 3 ∧ d.depth ≤ 1 := fun i h1 h2 => ⟨.int i, .int i, (fm_int i).mpr (by omega), by rw [val_int]; exact h2, by rw [wt_int]; decide, by rw [depth_int]; decide⟩
        simp only [List.mem_cons, List.not_mem_nil, or_false] at hvx
        rcases hvx with rfl | rfl | rfl | rfl | rfl | rfl | rfl
        · exact fi 0 (by decide) (by decide)
        · exact fi 1 (by decide) (by decide)
        · exact fi (-1) (by decide) (by decide)
        · exact fi 3 (by decide) (by decide)
        · exact ⟨.tuple [.int 64, .int 65], dp_tk tk22 fm6465.1 (.tup (.inl (.inl hta2)) (.cons (.int _) (.cons (.int _) .nil))), fm6465.1, by rw [fm6465.2]; decide, by decide +kernel, by decide +kernel⟩
        · exact fi (-2) (by decide) (by decide)
        · exact ⟨.tuple [.int 100], dp_tk tk22 fm100.1 (.tup (.inl (.inl htb2)) (.cons (.int _) .nil)), fm100.1, by rw [fm100.2]; decide, by decide +kernel, by decide +kernel⟩
      have hl22 := k22.lst _ _ hl21
      have hD22 := dpAll_tk k22.tk hFA hD21
      dsimp only [gName]
      refine ⟨_, rfl, ?_⟩
      walk_at "r"
      refine ⟨τ, 726, 10 ^ (9 : Int).toNat, rfl, by decide, by decide, by decide, hT22.le (by decide), fun y H23 y0 y1 hT23 b23 => ?_⟩
      have tk23 := but_tk hT22 b23
      have hl23 := b23 _ _ (hT22.ne hl22) hl22
      have hD23 := dpAll_tk tk23 hFA hD22
      have T23 := hT22.tabs T22 b23
      have y9 : (10 : Int) ^ (9 : Int).toNat = 1000000000 := by decide
      rw [y9] at y1
      walk_at "r"
      refine ⟨len_le (by show 2 ≤ _; decide), fun tc ntc => ?_⟩
      have sc := sm_upd (o := .tup [V.int 64, .int 65]) ntc
      have htc := upd_at (o := .tup [V.int 64, .int 65]) ntc
      walk_at "r"
      refine ⟨_, l, us, fs, 3, rfl, sc _ _ hl23, by decide, F, dpAll_tk (tk_same sc) hFA hD23, c300, fun vm dm H25 fm em depm wm Dm s25 => ?_⟩
      have hm64 : 64 < val dm := by rw [em]; exact p300 F
      refine ⟨len_le (by show 1 ≤ _; decide), fun td ntd => ?_⟩
      have sd := sm_upd (o := .tup [vm]) ntd
      have htd := upd_at (o := .tup [vm]) ntd
      walk_at "r"
      refine ⟨len_le (by show 7 ≤ _; decide), fun le_ nle => ?_⟩
      have h64 : (2 : Int) ^ (64 : Int).toNat - 1 = 18446744073709551615 := by decide
      have se := sm_upd (o := .lst [V.int 65, .int 66, .int (65 + y), .int (2 ^ (64 : Int).toNat - 1), .ref tc, .ref td, .int (-1)]) nle
      have s3 := ((sc.trans s25).trans sd).trans se
      have htc3 := ((s25.trans sd).trans se) _ _ htc
      have htd3 := se _ _ htd
      have tkm := tk_same se
      refine ⟨τ, le_, 727, _, rfl, by omega, (hT23.up s3).le (by omega), upd_same, by show 1 ≤ 7; decide, by show 7 ≤ _; decide, fun vo H26 hvo hT26 b26 => ?_⟩
      have tk26 := but_tk (hT23.up s3) b26
      have T26 := (hT23.up s3).tabs (tabs_same T23 s3) b26
      obtain ⟨eo, Do, fo_, no, depo⟩ : ∃ e, Dp K H26 vo e ∧ Fm e ∧ (isI e && decide (0 ≤ val e) && decide (val e ≤ 64)) = false ∧ e.depth ≤ 6 := by
        have big : ∀ i : Int, 64 < i → i < 2 ^ 64 → ∃ e, Dp K H26 (.int i) e ∧ Fm e ∧ (isI e && decide (0 ≤ val e) && decide (val e ≤ 64)) = false ∧ e.depth ≤ 6 := fun i h1 h2 =>
          ⟨.int i, .int i, (fm_int i).mpr (by omega), by rw [val_int, decide_eq_false (show ¬ i ≤ 64 by omega), Bool.and_false], by rw [depth_int]; decide⟩
        simp only [List.mem_cons, List.not_mem_nil, or_false] at hvo
        rcases hvo with rfl | rfl | rfl | rfl | rfl | rfl | rfl
        · exact big 65 (by decide) (by decide)
        · exact big 66 (by decide) (by decide)
        · exact big _ (by omega) (by omega)
        · rw [h64]
          exact big _ (by decide) (by decide)
        · exact ⟨.tuple [.int 64, .int 65], dp_tk tk26 fm6465.1 (.tup (.inl (.inl htc3)) (.cons (.int _) (.cons (.int _) .nil))), fm6465.1, rfl, by decide +kernel⟩
        · obtain ⟨f1, v1⟩ := fm1 fm hm64
          refine ⟨.tuple [dm], dp_tk (tkm.trans tk26) f1 (.tup (.inl (.inl htd)) (.cons (dp_tk (tk_same sd) fm Dm) .nil)), f1, rfl, ?_⟩
          rw [depth_tuple, depthAll_cons, depthAll_nil]
          omega
        · exact ⟨.int (-1), .int _, (fm_int _).mpr (by decide), by rw [val_int]; rfl, by rw [depth_int]; decide⟩
      have Dx26 := dp_tk ((tk23.trans (tk_same s3)).trans tk26) fx2 Dx2
      dsimp only [gName]
      refine ⟨_, rfl, _, rfl, vx, vo, dx2, eo, rfl, Dx26, Do, fx2, fo_, by omega, by omega, T26, fun _ vr H27 Dr e27 T27 => ?_, fun h2 => absurd h2 nx2, fun M _ eM hM => ?_⟩
      case refine_2 =>
        exfalso
        rw [eM, show isI (.int ((M : Nat) : Int)) = true from rfl, val_int, decide_eq_true (by omega), decide_eq_true (by omega)] at no
        cases no
      refine ⟨_, rfl, len_le (by show 3 ≤ _; decide), fun t28 nt28 => ?_⟩
      have s28 := sm_upd (o := .tup [V.str "InvalidPower", vo, .bl true]) nt28
      have ht28 := upd_at (o := .tup [V.str "InvalidPower", vo, .bl true]) nt28
      have DR := dp_tk ((tk_ext e27).trans (tk_same s28)) fo_ Do
      refine ⟨noPw eo, noPw eo, dp_im (tk_same s28) (im_noPw fo_) Dr, .tup (.inl (.inl ht28)) (.cons (.str _) (.cons DR (.cons (.bl _) .nil))), sh_noPw fo_ depo, sh_noPw fo_ depo, ?_⟩
      rw [SeqAt.eqv_refl _ (lay_noPw fo_ depo)]
      have T28 := tabs_same T27 s28
      revert T28
      generalize upd H27 t28 _ = H28
      intro T28
      refine ⟨_, rfl, ?_⟩
      refine iteF ?_
      have f5 : Fm (.int (-5)) := (fm_int _).mpr (by decide)
      have d5 : (PyData.int (-5)).depth ≤ 6 := by rw [depth_int]; decide
      refine ⟨_, rfl, .int 2, .int (-5), .int 2, .int (-5), rfl, .int 2, .int _, f2, f5, by rw [depth_int]; decide, by rw [wt_int]; decide, T28, fun _ vr H29 Dr e29 T29 => ?_, fun _ h0 => absurd h0 (by rw [val_int]; decide), fun M h2 => absurd v2 h2⟩
      refine ⟨_, rfl, len_le (by show 3 ≤ _; decide), fun t30 nt30 => ?_⟩
      have s30 := sm_upd (o := .tup [V.str "InvalidPower", .int (-5), .bl true]) nt30
      refine ⟨noPw (.int (-5)), noPw (.int (-5)), dp_im (tk_same s30) (im_noPw f5) Dr, .tup (.inl (.inl upd_same)) (.cons (.str _) (.cons (.int _) (.cons (.bl _) .nil))), sh_noPw f5 d5, sh_noPw f5 d5, ?_⟩
      rw [SeqAt.eqv_refl _ (lay_noPw f5 d5)]
      have T30 := tabs_same T29 s30
      revert T30
      generalize upd H29 t30 _ = H30
      intro T30
      refine ⟨_, rfl, ?_⟩
      refine iteF ?_
      dsimp only [tNext]
      -- the last two
      refine ⟨len_le (by show 2 ≤ _; decide), fun t31 nt31 => ?_⟩
      have s31 := sm_upd (o := .tup [V.int 64, .int 65]) nt31
      have W3 := pwb_int F (ascP 64) (B := 66) (N := 3) (fun x hx => by
        simp only [List.mem_cons, List.not_mem_nil, or_false] at hx
        omega) (by decide) (by show 2 ≤ 9; decide) (by decide)
      have e64 : val (.tuple [.int 64, .int 65]) = tv [64, 64 + 1] := by rw [fm6465.2]; decide
      rw [← e64] at W3
      dsimp only [tNil, tCons, tC, List.append_nil, List.cons_append, List.nil_append]
      refine W3.raised (E := fun _ _ _ => False) (.tup (.inl (.inl upd_same)) (.cons (.int _) (.cons (.int _) .nil))) fm6465.1 (by decide +kernel) (by decide +kernel) (tabs_same T30 s31) fun vr H32 Dr e32 T32 => ?_
      have hs3 := st_pow F (t := 64) (N := 3) (by decide) (by decide)
      have e64' : val (.tuple [.int 64, .int 65]) = 2 ^ 64 := by rw [fm6465.2]; decide
      rw [e64', dueP_none hs3, ← Int.pow_mul, ← fo_is fm192.1 fm192.2] at Dr
      refine ⟨len_le (by show 2 ≤ _; decide), fun t33 nt33 => ?_⟩
      have s33 := sm_upd (o := .tup [V.int 192, .int 193]) nt33
      have ht33 := upd_at (o := .tup [V.int 192, .int 193]) nt33
      refine ⟨len_le (by show 2 ≤ _; decide), fun t34 nt34 => ?_⟩
      have s34 := sm_upd (o := .tup [V.str "form", .ref t33]) nt34
      have ht34 := upd_at (o := .tup [V.str "form", .ref t33]) nt34
      have sf : SeqAt.shaped (.tuple [.str "form", .tuple [.int 192, .int 193]]) = true := by decide +kernel
      have im192 : Im (.tuple [.str "form", .tuple [.int 192, .int 193]]) := by
        simp only [im_tuple, imAll_cons]
        exact ⟨im_str _, im_fm fm192.1, imAll_nil⟩
      refine ⟨_, .tuple [.str "form", .tuple [.int 192, .int 193]], dp_im (tk_same (s33.trans s34)) im192 Dr, .tup (.inl (.inl ht34)) (.cons (.str _) (.cons (.tup (.inl (.inl (s34 _ _ ht33))) (.cons (.int _) (.cons (.int _) .nil))) .nil)), sf, sf, ?_⟩
      have ee : PyData.eqv (.tuple [.str "form", .tuple [.int 192, .int 193]]) (.tuple [.str "form", .tuple [.int 192, .int 193]]) = true := by decide +kernel
      rw [ee]
      have T34 := tabs_same T32 (s33.trans s34)
      revert T34
      generalize upd (upd H32 t33 _) t34 _ = H34
      intro T34
      refine ⟨_, rfl, ?_⟩
      rw [if_pos rfl]
      obtain ⟨⟨_, W4⟩, hs4, hf4⟩ := small3 F (x := -1) (.inr (.inr rfl)) (N := 64) (by decide)
      have fm1' : Fm (.int (-1)) := (fm_int _).mpr (by decide)
      refine ⟨_, rfl, ?_⟩
      dsimp only [tNil, tCons, tC, List.append_nil, List.cons_append, List.nil_append]
      refine W4.raised (E := fun _ _ _ => False) (.int (-1)) fm1' (by rw [depth_int]; decide) (by rw [wt_int]; decide) T34 fun vr H35 Dr e35 T35 => ?_
      rw [val_int, dueP_none hs4, hf4, show (-1 : Int) ^ 64 = 1 by decide] at Dr
      refine ⟨len_le (by show 2 ≤ _; decide), fun t36 nt36 => ?_⟩
      have s36 := sm_upd (o := .tup [V.str "form", .int 1]) nt36
      have im1 : Im (.tuple [.str "form", .int 1]) := by
        simp only [im_tuple, imAll_cons]
        exact ⟨im_str _, im_int _, imAll_nil⟩
      have sf1 : SeqAt.shaped (.tuple [.str "form", .int 1]) = true := by decide +kernel
      refine ⟨_, .tuple [.str "form", .int 1], dp_im (tk_same s36) im1 Dr, .tup (.inl (.inl upd_same)) (.cons (.str _) (.cons (.int _) .nil)), sf1, sf1, ?_⟩
      have ee1 : PyData.eqv (.tuple [.str "form", .int 1]) (.tuple [.str "form", .int 1]) = true := by decide +kernel
      rw [ee1]
      exact q _
end
end K13
set_option Elab.async false
set_option linter.all false
set_option maxRecDepth 100000
namespace K13
open PySem PySem.Spec PyProof.Rows L2
set_option maxHeartbeats 4000000 in
theorem all_mk {l : PySem.W.OpenLaw} {w : World} {K : PySem.W.Frag} {h : Heap} {mg : Str → Option Value} {q : Program} {fa a_turns_of_int a_turns a_made a_of_int a_negative a_order a_merged a_toggled a_plus_one a_inverted a_total a_minus a_shifted a_product a_size a_height a_kept a_shift_left a_multiply a_is_exponent a_power a__law_begin a__law_draw a__law_pick a__law_turns a__law_int a__law_form a__law_row_form a__law_size a__law_height a__law_judged a__law_fields a__law_moved a__law_form_of_codes a__law_summed a__law_terms a__law_code a__law_codes a__law_few a__law_told a__law_number a__law_raised a__law_due_power a_law : Addr} (X : K.In h) (G : h.Ns mainGlobals mg) (hfa : mg "law" = some (.ref fa)) (Tb : ∀ (y : Str) (c P : Addr), ((recsOf q).any fun e => e.name == y) = true → PySem.W.tabIn K y = some (c, P) → PySem.W.CodeHd h c P ∧ h.get? P = some HX.empT)
    {od0 an0 : Option Addr} {sl0 : Array (Option Value)} {oc0 kV0 dc0 pm0 cd0 ct0 : Value}
    (p0 : PySem.W.nsIn K mainGlobals "turns_of_int" = some (some (.ref a_turns_of_int))) (l0 : K.lookup a_turns_of_int = some ⟨oc0, od0, .func (PySem.W.fnOf "turns_of_int" "turns_of_int" (defArgs s_turns_of_int) (defBody s_turns_of_int) (defScope s_turns_of_int) .none kV0 dc0 pm0 an0 cd0 ct0), sl0⟩) (c0 : PySem.W.codeIn K cd0 "turns_of_int" = true) (k0 : PySem.W.keepIn K (.ref a_turns_of_int) = true)
    {od1 an1 : Option Addr} {sl1 : Array (Option Value)} {oc1 kV1 dc1 pm1 cd1 ct1 : Value}
    (p1 : PySem.W.nsIn K mainGlobals "turns" = some (some (.ref a_turns))) (l1 : K.lookup a_turns = some ⟨oc1, od1, .func (PySem.W.fnOf "turns" "turns" (defArgs s_turns) (defBody s_turns) (defScope s_turns) .none kV1 dc1 pm1 an1 cd1 ct1), sl1⟩) (c1 : PySem.W.codeIn K cd1 "turns" = true) (k1 : PySem.W.keepIn K (.ref a_turns) = true)
    {od2 an2 : Option Addr} {sl2 : Array (Option Value)} {oc2 kV2 dc2 pm2 cd2 ct2 : Value}
    (p2 : PySem.W.nsIn K mainGlobals "made" = some (some (.ref a_made))) (l2 : K.lookup a_made = some ⟨oc2, od2, .func (PySem.W.fnOf "made" "made" (defArgs s_made) (defBody s_made) (defScope s_made) .none kV2 dc2 pm2 an2 cd2 ct2), sl2⟩) (c2 : PySem.W.codeIn K cd2 "made" = true) (k2 : PySem.W.keepIn K (.ref a_made) = true)
    {od3 an3 : Option Addr} {sl3 : Array (Option Value)} {oc3 kV3 dc3 pm3 cd3 ct3 : Value}
    (p3 : PySem.W.nsIn K mainGlobals "of_int" = some (some (.ref a_of_int))) (l3 : K.lookup a_of_int = some ⟨oc3, od3, .func (PySem.W.fnOf "of_int" "of_int" (defArgs s_of_int) (defBody s_of_int) (defScope s_of_int) .none kV3 dc3 pm3 an3 cd3 ct3), sl3⟩) (c3 : PySem.W.codeIn K cd3 "of_int" = true) (k3 : PySem.W.keepIn K (.ref a_of_int) = true)
    {od4 an4 : Option Addr} {sl4 : Array (Option Value)} {oc4 kV4 dc4 pm4 cd4 ct4 : Value}
    (p4 : PySem.W.nsIn K mainGlobals "negative" = some (some (.ref a_negative))) (l4 : K.lookup a_negative = some ⟨oc4, od4, .func (PySem.W.fnOf "negative" "negative" (defArgs s_negative) (defBody s_negative) (defScope s_negative) .none kV4 dc4 pm4 an4 cd4 ct4), sl4⟩) (c4 : PySem.W.codeIn K cd4 "negative" = true) (k4 : PySem.W.keepIn K (.ref a_negative) = true)
    {od5 an5 : Option Addr} {sl5 : Array (Option Value)} {oc5 kV5 dc5 pm5 cd5 ct5 : Value}
    (p5 : PySem.W.nsIn K mainGlobals "order" = some (some (.ref a_order))) (l5 : K.lookup a_order = some ⟨oc5, od5, .func (PySem.W.fnOf "order" "order" (defArgs s_order) (defBody s_order) (defScope s_order) .none kV5 dc5 pm5 an5 cd5 ct5), sl5⟩) (c5 : PySem.W.codeIn K cd5 "order" = true) (k5 : PySem.W.keepIn K (.ref a_order) = true)
    {od6 an6 : Option Addr} {sl6 : Array (Option Value)} {oc6 kV6 dc6 pm6 cd6 ct6 : Value}
    (p6 : PySem.W.nsIn K mainGlobals "merged" = some (some (.ref a_merged))) (l6 : K.lookup a_merged = some ⟨oc6, od6, .func (PySem.W.fnOf "merged" "merged" (defArgs s_merged) (defBody s_merged) (defScope s_merged) .none kV6 dc6 pm6 an6 cd6 ct6), sl6⟩) (c6 : PySem.W.codeIn K cd6 "merged" = true) (k6 : PySem.W.keepIn K (.ref a_merged) = true)
    {od7 an7 : Option Addr} {sl7 : Array (Option Value)} {oc7 kV7 dc7 pm7 cd7 ct7 : Value}
    (p7 : PySem.W.nsIn K mainGlobals "toggled" = some (some (.ref a_toggled))) (l7 : K.lookup a_toggled = some ⟨oc7, od7, .func (PySem.W.fnOf "toggled" "toggled" (defArgs s_toggled) (defBody s_toggled) (defScope s_toggled) .none kV7 dc7 pm7 an7 cd7 ct7), sl7⟩) (c7 : PySem.W.codeIn K cd7 "toggled" = true) (k7 : PySem.W.keepIn K (.ref a_toggled) = true)
    {od8 an8 : Option Addr} {sl8 : Array (Option Value)} {oc8 kV8 dc8 pm8 cd8 ct8 : Value}
    (p8 : PySem.W.nsIn K mainGlobals "plus_one" = some (some (.ref a_plus_one))) (l8 : K.lookup a_plus_one = some ⟨oc8, od8, .func (PySem.W.fnOf "plus_one" "plus_one" (defArgs s_plus_one) (defBody s_plus_one) (defScope s_plus_one) .none kV8 dc8 pm8 an8 cd8 ct8), sl8⟩) (c8 : PySem.W.codeIn K cd8 "plus_one" = true) (k8 : PySem.W.keepIn K (.ref a_plus_one) = true)
    {od9 an9 : Option Addr} {sl9 : Array (Option Value)} {oc9 kV9 dc9 pm9 cd9 ct9 : Value}
    (p9 : PySem.W.nsIn K mainGlobals "inverted" = some (some (.ref a_inverted))) (l9 : K.lookup a_inverted = some ⟨oc9, od9, .func (PySem.W.fnOf "inverted" "inverted" (defArgs s_inverted) (defBody s_inverted) (defScope s_inverted) .none kV9 dc9 pm9 an9 cd9 ct9), sl9⟩) (c9 : PySem.W.codeIn K cd9 "inverted" = true) (k9 : PySem.W.keepIn K (.ref a_inverted) = true)
    {od10 an10 : Option Addr} {sl10 : Array (Option Value)} {oc10 kV10 dc10 pm10 cd10 ct10 : Value}
    (p10 : PySem.W.nsIn K mainGlobals "total" = some (some (.ref a_total))) (l10 : K.lookup a_total = some ⟨oc10, od10, .func (PySem.W.fnOf "total" "total" (defArgs s_total) (defBody s_total) (defScope s_total) .none kV10 dc10 pm10 an10 cd10 ct10), sl10⟩) (c10 : PySem.W.codeIn K cd10 "total" = true) (k10 : PySem.W.keepIn K (.ref a_total) = true)
    {od11 an11 : Option Addr} {sl11 : Array (Option Value)} {oc11 kV11 dc11 pm11 cd11 ct11 : Value}
    (p11 : PySem.W.nsIn K mainGlobals "minus" = some (some (.ref a_minus))) (l11 : K.lookup a_minus = some ⟨oc11, od11, .func (PySem.W.fnOf "minus" "minus" (defArgs s_minus) (defBody s_minus) (defScope s_minus) .none kV11 dc11 pm11 an11 cd11 ct11), sl11⟩) (c11 : PySem.W.codeIn K cd11 "minus" = true) (k11 : PySem.W.keepIn K (.ref a_minus) = true)
    {od12 an12 : Option Addr} {sl12 : Array (Option Value)} {oc12 kV12 dc12 pm12 cd12 ct12 : Value}
    (p12 : PySem.W.nsIn K mainGlobals "shifted" = some (some (.ref a_shifted))) (l12 : K.lookup a_shifted = some ⟨oc12, od12, .func (PySem.W.fnOf "shifted" "shifted" (defArgs s_shifted) (defBody s_shifted) (defScope s_shifted) .none kV12 dc12 pm12 an12 cd12 ct12), sl12⟩) (c12 : PySem.W.codeIn K cd12 "shifted" = true) (k12 : PySem.W.keepIn K (.ref a_shifted) = true)
    {od13 an13 : Option Addr} {sl13 : Array (Option Value)} {oc13 kV13 dc13 pm13 cd13 ct13 : Value}
    (p13 : PySem.W.nsIn K mainGlobals "product" = some (some (.ref a_product))) (l13 : K.lookup a_product = some ⟨oc13, od13, .func (PySem.W.fnOf "product" "product" (defArgs s_product) (defBody s_product) (defScope s_product) .none kV13 dc13 pm13 an13 cd13 ct13), sl13⟩) (c13 : PySem.W.codeIn K cd13 "product" = true) (k13 : PySem.W.keepIn K (.ref a_product) = true)
    {od14 an14 : Option Addr} {sl14 : Array (Option Value)} {oc14 kV14 dc14 pm14 cd14 ct14 : Value}
    (p14 : PySem.W.nsIn K mainGlobals "size" = some (some (.ref a_size))) (l14 : K.lookup a_size = some ⟨oc14, od14, .func (PySem.W.fnOf "size" "size" (defArgs s_size) (defBody s_size) (defScope s_size) .none kV14 dc14 pm14 an14 cd14 ct14), sl14⟩) (c14 : PySem.W.codeIn K cd14 "size" = true) (k14 : PySem.W.keepIn K (.ref a_size) = true)
    {od15 an15 : Option Addr} {sl15 : Array (Option Value)} {oc15 kV15 dc15 pm15 cd15 ct15 : Value}
    (p15 : PySem.W.nsIn K mainGlobals "height" = some (some (.ref a_height))) (l15 : K.lookup a_height = some ⟨oc15, od15, .func (PySem.W.fnOf "height" "height" (defArgs s_height) (defBody s_height) (defScope s_height) .none kV15 dc15 pm15 an15 cd15 ct15), sl15⟩) (c15 : PySem.W.codeIn K cd15 "height" = true) (k15 : PySem.W.keepIn K (.ref a_height) = true)
    {od16 an16 : Option Addr} {sl16 : Array (Option Value)} {oc16 kV16 dc16 pm16 cd16 ct16 : Value}
    (p16 : PySem.W.nsIn K mainGlobals "kept" = some (some (.ref a_kept))) (l16 : K.lookup a_kept = some ⟨oc16, od16, .func (PySem.W.fnOf "kept" "kept" (defArgs s_kept) (defBody s_kept) (defScope s_kept) .none kV16 dc16 pm16 an16 cd16 ct16), sl16⟩) (c16 : PySem.W.codeIn K cd16 "kept" = true) (k16 : PySem.W.keepIn K (.ref a_kept) = true)
    {od17 an17 : Option Addr} {sl17 : Array (Option Value)} {oc17 kV17 dc17 pm17 cd17 ct17 : Value}
    (p17 : PySem.W.nsIn K mainGlobals "shift_left" = some (some (.ref a_shift_left))) (l17 : K.lookup a_shift_left = some ⟨oc17, od17, .func (PySem.W.fnOf "shift_left" "shift_left" (defArgs s_shift_left) (defBody s_shift_left) (defScope s_shift_left) .none kV17 dc17 pm17 an17 cd17 ct17), sl17⟩) (c17 : PySem.W.codeIn K cd17 "shift_left" = true) (k17 : PySem.W.keepIn K (.ref a_shift_left) = true)
    {od18 an18 : Option Addr} {sl18 : Array (Option Value)} {oc18 kV18 dc18 pm18 cd18 ct18 : Value}
    (p18 : PySem.W.nsIn K mainGlobals "multiply" = some (some (.ref a_multiply))) (l18 : K.lookup a_multiply = some ⟨oc18, od18, .func (PySem.W.fnOf "multiply" "multiply" (defArgs s_multiply) (defBody s_multiply) (defScope s_multiply) .none kV18 dc18 pm18 an18 cd18 ct18), sl18⟩) (c18 : PySem.W.codeIn K cd18 "multiply" = true) (k18 : PySem.W.keepIn K (.ref a_multiply) = true)
    {od19 an19 : Option Addr} {sl19 : Array (Option Value)} {oc19 kV19 dc19 pm19 cd19 ct19 : Value}
    (p19 : PySem.W.nsIn K mainGlobals "is_exponent" = some (some (.ref a_is_exponent))) (l19 : K.lookup a_is_exponent = some ⟨oc19, od19, .func (PySem.W.fnOf "is_exponent" "is_exponent" (defArgs s_is_exponent) (defBody s_is_exponent) (defScope s_is_exponent) .none kV19 dc19 pm19 an19 cd19 ct19), sl19⟩) (c19 : PySem.W.codeIn K cd19 "is_exponent" = true) (k19 : PySem.W.keepIn K (.ref a_is_exponent) = true)
    {od20 an20 : Option Addr} {sl20 : Array (Option Value)} {oc20 kV20 dc20 pm20 cd20 ct20 : Value}
    (p20 : PySem.W.nsIn K mainGlobals "power" = some (some (.ref a_power))) (l20 : K.lookup a_power = some ⟨oc20, od20, .func (PySem.W.fnOf "power" "power" (defArgs s_power) (defBody s_power) (defScope s_power) .none kV20 dc20 pm20 an20 cd20 ct20), sl20⟩) (c20 : PySem.W.codeIn K cd20 "power" = true) (k20 : PySem.W.keepIn K (.ref a_power) = true)
    {od21 an21 : Option Addr} {sl21 : Array (Option Value)} {oc21 kV21 dc21 pm21 cd21 ct21 : Value}
    (p21 : PySem.W.nsIn K mainGlobals "_law_begin" = some (some (.ref a__law_begin))) (l21 : K.lookup a__law_begin = some ⟨oc21, od21, .func (PySem.W.fnOf "_law_begin" "_law_begin" (defArgs s__law_begin) (defBody s__law_begin) (defScope s__law_begin) .none kV21 dc21 pm21 an21 cd21 ct21), sl21⟩) (c21 : PySem.W.codeIn K cd21 "_law_begin" = true) (k21 : PySem.W.keepIn K (.ref a__law_begin) = true)
    {od22 an22 : Option Addr} {sl22 : Array (Option Value)} {oc22 kV22 dc22 pm22 cd22 ct22 : Value}
    (p22 : PySem.W.nsIn K mainGlobals "_law_draw" = some (some (.ref a__law_draw))) (l22 : K.lookup a__law_draw = some ⟨oc22, od22, .func (PySem.W.fnOf "_law_draw" "_law_draw" (defArgs s__law_draw) (defBody s__law_draw) (defScope s__law_draw) .none kV22 dc22 pm22 an22 cd22 ct22), sl22⟩) (c22 : PySem.W.codeIn K cd22 "_law_draw" = true) (k22 : PySem.W.keepIn K (.ref a__law_draw) = true)
    {od23 an23 : Option Addr} {sl23 : Array (Option Value)} {oc23 kV23 dc23 pm23 cd23 ct23 : Value}
    (p23 : PySem.W.nsIn K mainGlobals "_law_pick" = some (some (.ref a__law_pick))) (l23 : K.lookup a__law_pick = some ⟨oc23, od23, .func (PySem.W.fnOf "_law_pick" "_law_pick" (defArgs s__law_pick) (defBody s__law_pick) (defScope s__law_pick) .none kV23 dc23 pm23 an23 cd23 ct23), sl23⟩) (c23 : PySem.W.codeIn K cd23 "_law_pick" = true) (k23 : PySem.W.keepIn K (.ref a__law_pick) = true)
    {od24 an24 : Option Addr} {sl24 : Array (Option Value)} {oc24 kV24 dc24 pm24 cd24 ct24 : Value}
    (p24 : PySem.W.nsIn K mainGlobals "_law_turns" = some (some (.ref a__law_turns))) (l24 : K.lookup a__law_turns = some ⟨oc24, od24, .func (PySem.W.fnOf "_law_turns" "_law_turns" (defArgs s__law_turns) (defBody s__law_turns) (defScope s__law_turns) .none kV24 dc24 pm24 an24 cd24 ct24), sl24⟩) (c24 : PySem.W.codeIn K cd24 "_law_turns" = true) (k24 : PySem.W.keepIn K (.ref a__law_turns) = true)
    {od25 an25 : Option Addr} {sl25 : Array (Option Value)} {oc25 kV25 dc25 pm25 cd25 ct25 : Value}
    (p25 : PySem.W.nsIn K mainGlobals "_law_int" = some (some (.ref a__law_int))) (l25 : K.lookup a__law_int = some ⟨oc25, od25, .func (PySem.W.fnOf "_law_int" "_law_int" (defArgs s__law_int) (defBody s__law_int) (defScope s__law_int) .none kV25 dc25 pm25 an25 cd25 ct25), sl25⟩) (c25 : PySem.W.codeIn K cd25 "_law_int" = true) (k25 : PySem.W.keepIn K (.ref a__law_int) = true)
    {od26 an26 : Option Addr} {sl26 : Array (Option Value)} {oc26 kV26 dc26 pm26 cd26 ct26 : Value}
    (p26 : PySem.W.nsIn K mainGlobals "_law_form" = some (some (.ref a__law_form))) (l26 : K.lookup a__law_form = some ⟨oc26, od26, .func (PySem.W.fnOf "_law_form" "_law_form" (defArgs s__law_form) (defBody s__law_form) (defScope s__law_form) .none kV26 dc26 pm26 an26 cd26 ct26), sl26⟩) (c26 : PySem.W.codeIn K cd26 "_law_form" = true) (k26 : PySem.W.keepIn K (.ref a__law_form) = true)
    {od27 an27 : Option Addr} {sl27 : Array (Option Value)} {oc27 kV27 dc27 pm27 cd27 ct27 : Value}
    (p27 : PySem.W.nsIn K mainGlobals "_law_row_form" = some (some (.ref a__law_row_form))) (l27 : K.lookup a__law_row_form = some ⟨oc27, od27, .func (PySem.W.fnOf "_law_row_form" "_law_row_form" (defArgs s__law_row_form) (defBody s__law_row_form) (defScope s__law_row_form) .none kV27 dc27 pm27 an27 cd27 ct27), sl27⟩) (c27 : PySem.W.codeIn K cd27 "_law_row_form" = true) (k27 : PySem.W.keepIn K (.ref a__law_row_form) = true)
    {od28 an28 : Option Addr} {sl28 : Array (Option Value)} {oc28 kV28 dc28 pm28 cd28 ct28 : Value}
    (p28 : PySem.W.nsIn K mainGlobals "_law_size" = some (some (.ref a__law_size))) (l28 : K.lookup a__law_size = some ⟨oc28, od28, .func (PySem.W.fnOf "_law_size" "_law_size" (defArgs s__law_size) (defBody s__law_size) (defScope s__law_size) .none kV28 dc28 pm28 an28 cd28 ct28), sl28⟩) (c28 : PySem.W.codeIn K cd28 "_law_size" = true) (k28 : PySem.W.keepIn K (.ref a__law_size) = true)
    {od29 an29 : Option Addr} {sl29 : Array (Option Value)} {oc29 kV29 dc29 pm29 cd29 ct29 : Value}
    (p29 : PySem.W.nsIn K mainGlobals "_law_height" = some (some (.ref a__law_height))) (l29 : K.lookup a__law_height = some ⟨oc29, od29, .func (PySem.W.fnOf "_law_height" "_law_height" (defArgs s__law_height) (defBody s__law_height) (defScope s__law_height) .none kV29 dc29 pm29 an29 cd29 ct29), sl29⟩) (c29 : PySem.W.codeIn K cd29 "_law_height" = true) (k29 : PySem.W.keepIn K (.ref a__law_height) = true)
    {od30 an30 : Option Addr} {sl30 : Array (Option Value)} {oc30 kV30 dc30 pm30 cd30 ct30 : Value}
    (p30 : PySem.W.nsIn K mainGlobals "_law_judged" = some (some (.ref a__law_judged))) (l30 : K.lookup a__law_judged = some ⟨oc30, od30, .func (PySem.W.fnOf "_law_judged" "_law_judged" (defArgs s__law_judged) (defBody s__law_judged) (defScope s__law_judged) .none kV30 dc30 pm30 an30 cd30 ct30), sl30⟩) (c30 : PySem.W.codeIn K cd30 "_law_judged" = true) (k30 : PySem.W.keepIn K (.ref a__law_judged) = true)
    {od31 an31 : Option Addr} {sl31 : Array (Option Value)} {oc31 kV31 dc31 pm31 cd31 ct31 : Value}
    (p31 : PySem.W.nsIn K mainGlobals "_law_fields" = some (some (.ref a__law_fields))) (l31 : K.lookup a__law_fields = some ⟨oc31, od31, .func (PySem.W.fnOf "_law_fields" "_law_fields" (defArgs s__law_fields) (defBody s__law_fields) (defScope s__law_fields) .none kV31 dc31 pm31 an31 cd31 ct31), sl31⟩) (c31 : PySem.W.codeIn K cd31 "_law_fields" = true) (k31 : PySem.W.keepIn K (.ref a__law_fields) = true)
    {od32 an32 : Option Addr} {sl32 : Array (Option Value)} {oc32 kV32 dc32 pm32 cd32 ct32 : Value}
    (p32 : PySem.W.nsIn K mainGlobals "_law_moved" = some (some (.ref a__law_moved))) (l32 : K.lookup a__law_moved = some ⟨oc32, od32, .func (PySem.W.fnOf "_law_moved" "_law_moved" (defArgs s__law_moved) (defBody s__law_moved) (defScope s__law_moved) .none kV32 dc32 pm32 an32 cd32 ct32), sl32⟩) (c32 : PySem.W.codeIn K cd32 "_law_moved" = true) (k32 : PySem.W.keepIn K (.ref a__law_moved) = true)
    {od33 an33 : Option Addr} {sl33 : Array (Option Value)} {oc33 kV33 dc33 pm33 cd33 ct33 : Value}
    (p33 : PySem.W.nsIn K mainGlobals "_law_form_of_codes" = some (some (.ref a__law_form_of_codes))) (l33 : K.lookup a__law_form_of_codes = some ⟨oc33, od33, .func (PySem.W.fnOf "_law_form_of_codes" "_law_form_of_codes" (defArgs s__law_form_of_codes) (defBody s__law_form_of_codes) (defScope s__law_form_of_codes) .none kV33 dc33 pm33 an33 cd33 ct33), sl33⟩) (c33 : PySem.W.codeIn K cd33 "_law_form_of_codes" = true) (k33 : PySem.W.keepIn K (.ref a__law_form_of_codes) = true)
    {od34 an34 : Option Addr} {sl34 : Array (Option Value)} {oc34 kV34 dc34 pm34 cd34 ct34 : Value}
    (p34 : PySem.W.nsIn K mainGlobals "_law_summed" = some (some (.ref a__law_summed))) (l34 : K.lookup a__law_summed = some ⟨oc34, od34, .func (PySem.W.fnOf "_law_summed" "_law_summed" (defArgs s__law_summed) (defBody s__law_summed) (defScope s__law_summed) .none kV34 dc34 pm34 an34 cd34 ct34), sl34⟩) (c34 : PySem.W.codeIn K cd34 "_law_summed" = true) (k34 : PySem.W.keepIn K (.ref a__law_summed) = true)
    {od35 an35 : Option Addr} {sl35 : Array (Option Value)} {oc35 kV35 dc35 pm35 cd35 ct35 : Value}
    {T35 : Addr} {oT35 : Value} {dT35 : Option Addr} {nT35 : Nat} {sT35 : Array (Option Value)} {tk35 : Tok} 
    (p35 : PySem.W.nsIn K mainGlobals "_law_terms" = some (some (.ref a__law_terms))) (l35 : K.lookup a__law_terms = some ⟨oc35, od35, .func (PySem.W.fnOf "_law_terms" "_law_terms" (defArgs s__law_terms) (defBody s__law_terms) (defScope s__law_terms) (.ref T35) kV35 dc35 pm35 an35 cd35 ct35), sl35⟩) (c35 : PySem.W.codeIn K cd35 "_law_terms" = true) (k35 : PySem.W.keepIn K (.ref a__law_terms) = true)
    (lT35 : K.lookup T35 = some ⟨oT35, dT35, .seq #[(.int (1) tk35)] nT35, sT35⟩)
    {od36 an36 : Option Addr} {sl36 : Array (Option Value)} {oc36 kV36 dc36 pm36 cd36 ct36 : Value}
    (p36 : PySem.W.nsIn K mainGlobals "_law_code" = some (some (.ref a__law_code))) (l36 : K.lookup a__law_code = some ⟨oc36, od36, .func (PySem.W.fnOf "_law_code" "_law_code" (defArgs s__law_code) (defBody s__law_code) (defScope s__law_code) .none kV36 dc36 pm36 an36 cd36 ct36), sl36⟩) (c36 : PySem.W.codeIn K cd36 "_law_code" = true) (k36 : PySem.W.keepIn K (.ref a__law_code) = true)
    {od37 an37 : Option Addr} {sl37 : Array (Option Value)} {oc37 kV37 dc37 pm37 cd37 ct37 : Value}
    {T37 : Addr} {oT37 : Value} {dT37 : Option Addr} {nT37 : Nat} {sT37 : Array (Option Value)} 
    (p37 : PySem.W.nsIn K mainGlobals "_law_codes" = some (some (.ref a__law_codes))) (l37 : K.lookup a__law_codes = some ⟨oc37, od37, .func (PySem.W.fnOf "_law_codes" "_law_codes" (defArgs s__law_codes) (defBody s__law_codes) (defScope s__law_codes) (.ref T37) kV37 dc37 pm37 an37 cd37 ct37), sl37⟩) (c37 : PySem.W.codeIn K cd37 "_law_codes" = true) (k37 : PySem.W.keepIn K (.ref a__law_codes) = true)
    (lT37 : K.lookup T37 = some ⟨oT37, dT37, .seq #[.none] nT37, sT37⟩)
    {od38 an38 : Option Addr} {sl38 : Array (Option Value)} {oc38 kV38 dc38 pm38 cd38 ct38 : Value}
    (p38 : PySem.W.nsIn K mainGlobals "_law_few" = some (some (.ref a__law_few))) (l38 : K.lookup a__law_few = some ⟨oc38, od38, .func (PySem.W.fnOf "_law_few" "_law_few" (defArgs s__law_few) (defBody s__law_few) (defScope s__law_few) .none kV38 dc38 pm38 an38 cd38 ct38), sl38⟩) (c38 : PySem.W.codeIn K cd38 "_law_few" = true) (k38 : PySem.W.keepIn K (.ref a__law_few) = true)
    {od39 an39 : Option Addr} {sl39 : Array (Option Value)} {oc39 kV39 dc39 pm39 cd39 ct39 : Value}
    (p39 : PySem.W.nsIn K mainGlobals "_law_told" = some (some (.ref a__law_told))) (l39 : K.lookup a__law_told = some ⟨oc39, od39, .func (PySem.W.fnOf "_law_told" "_law_told" (defArgs s__law_told) (defBody s__law_told) (defScope s__law_told) .none kV39 dc39 pm39 an39 cd39 ct39), sl39⟩) (c39 : PySem.W.codeIn K cd39 "_law_told" = true) (k39 : PySem.W.keepIn K (.ref a__law_told) = true)
    {od40 an40 : Option Addr} {sl40 : Array (Option Value)} {oc40 kV40 dc40 pm40 cd40 ct40 : Value}
    {T40 : Addr} {oT40 : Value} {dT40 : Option Addr} {nT40 : Nat} {sT40 : Array (Option Value)} 
    (p40 : PySem.W.nsIn K mainGlobals "_law_number" = some (some (.ref a__law_number))) (l40 : K.lookup a__law_number = some ⟨oc40, od40, .func (PySem.W.fnOf "_law_number" "_law_number" (defArgs s__law_number) (defBody s__law_number) (defScope s__law_number) (.ref T40) kV40 dc40 pm40 an40 cd40 ct40), sl40⟩) (c40 : PySem.W.codeIn K cd40 "_law_number" = true) (k40 : PySem.W.keepIn K (.ref a__law_number) = true)
    (lT40 : K.lookup T40 = some ⟨oT40, dT40, .seq #[.none] nT40, sT40⟩)
    {od41 an41 : Option Addr} {sl41 : Array (Option Value)} {oc41 kV41 dc41 pm41 ct41 kk41 : Value} {cA41 P41 : Addr} {kd41 : Option Addr} {ks41 : Array (Option Value)} {kv41 : Array Value}
    (p41 : PySem.W.nsIn K mainGlobals "_law_raised" = some (some (.ref a__law_raised))) (l41 : K.lookup a__law_raised = some ⟨oc41, od41, .func (PySem.W.fnOf "_law_raised" "_law_raised" (defArgs s__law_raised) (defBody s__law_raised) (defScope s__law_raised) .none kV41 dc41 pm41 an41 (.ref cA41) ct41), sl41⟩) (c41 : PySem.W.codeIn K (.ref cA41) "_law_raised" = true) (k41 : PySem.W.keepIn K (.ref a__law_raised) = true)
    (lk41 : K.lookup cA41 = some ⟨kk41, kd41, .fields kv41, ks41⟩) (kv11_41 : kv41[11]? = some (.ref P41)) (kn41 : K.lookup P41 = none) (hrec41 : ((recsOf q).any fun e => e.name == ("_law_raised" : Str)) = true)
    {od42 an42 : Option Addr} {sl42 : Array (Option Value)} {oc42 kV42 dc42 pm42 cd42 ct42 : Value}
    (p42 : PySem.W.nsIn K mainGlobals "_law_due_power" = some (some (.ref a__law_due_power))) (l42 : K.lookup a__law_due_power = some ⟨oc42, od42, .func (PySem.W.fnOf "_law_due_power" "_law_due_power" (defArgs s__law_due_power) (defBody s__law_due_power) (defScope s__law_due_power) .none kV42 dc42 pm42 an42 cd42 ct42), sl42⟩) (c42 : PySem.W.codeIn K cd42 "_law_due_power" = true) (k42 : PySem.W.keepIn K (.ref a__law_due_power) = true)
    {od43 an43 : Option Addr} {sl43 : Array (Option Value)} {oc43 kV43 dc43 pm43 cd43 ct43 : Value}
    (p43 : PySem.W.nsIn K mainGlobals "law" = some (some (.ref a_law))) (l43 : K.lookup a_law = some ⟨oc43, od43, .func (PySem.W.fnOf "law" "law" (defArgs s_law) (defBody s_law) (defScope s_law) .none kV43 dc43 pm43 an43 cd43 ct43), sl43⟩) (c43 : PySem.W.codeIn K cd43 "law" = true) (k43 : PySem.W.keepIn K (.ref a_law) = true)
    {t_LAST_PLAIN_TURN : Tok} (e_LAST_PLAIN_TURN : PySem.W.nsIn K mainGlobals "LAST_PLAIN_TURN" = some (some (.int (64) t_LAST_PLAIN_TURN)))
    {t_PLAIN_LEAST : Tok} (e_PLAIN_LEAST : PySem.W.nsIn K mainGlobals "PLAIN_LEAST" = some (some (.int (-18446744073709551616) t_PLAIN_LEAST)))
    {t_PLAIN_MOST : Tok} (e_PLAIN_MOST : PySem.W.nsIn K mainGlobals "PLAIN_MOST" = some (some (.int (18446744073709551615) t_PLAIN_MOST)))
    {t_MOST_HEIGHT : Tok} (e_MOST_HEIGHT : PySem.W.nsIn K mainGlobals "MOST_HEIGHT" = some (some (.int (6) t_MOST_HEIGHT)))
    {t_MOST_SIZE : Tok} (e_MOST_SIZE : PySem.W.nsIn K mainGlobals "MOST_SIZE" = some (some (.int (2000) t_MOST_SIZE)))
    {t_MOST_TERMS : Tok} (e_MOST_TERMS : PySem.W.nsIn K mainGlobals "MOST_TERMS" = some (some (.int (600) t_MOST_TERMS)))
    {t_MOST_POWER : Tok} (e_MOST_POWER : PySem.W.nsIn K mainGlobals "MOST_POWER" = some (some (.int (64) t_MOST_POWER)))
    (hP : HX.PF l.prog) {C_FarError : Addr} (e_FarError : PySem.W.nsIn K mainGlobals "FarError" = some (some (.ref C_FarError))) (z_any : PySem.W.nsIn K cStatics "thirdparty.any" = some none) (z_super : PySem.W.nsIn K mainGlobals "super" = some none) (x_n : PySem.W.specialIn K (.builtin "object.__class__") "__get__" = some (some (.builtin "getset_descriptor.__get__"))) (x_t : PySem.W.takesIn K (.builtin "object.__class__") = some true)
    {C_TooLarge fI_TooLarge cc_TooLarge cda_TooLarge : Addr} {x0_nm x0_q : Str} {x0_N : Addr} {x0_bs : List Value} {x0_sn : List Str} {x0_sub : List Value} {x0_ab : Bool} {x0_col : Option Bool} {x0_dd : Option Addr} {x0_m0 x0_m1 x0_m2 x0_m3 x0_m5 : Option Value}
    {x0_oc x0_dc x0_pm x0_ct x0_ccl x0_cl : Value} {x0_od x0_cdd x0_cld : Option Addr} {x0_sl x0_ccs x0_csl : Array (Option Value)} {x0_vs : Array Value} {x0_tf : Tok}
    (x0_g : PySem.W.nsIn K mainGlobals "TooLarge" = some (some (.ref C_TooLarge)))
    (x0_xL : K.lookup C_TooLarge = some (PySem.excClassObj x0_nm x0_q C_TooLarge x0_N x0_bs [.ref C_FarError, .type "ValueError", .type "Exception", .type "BaseException", .type "object"] true x0_sn x0_sub x0_ab x0_col x0_dd x0_m0 x0_m1 x0_m2 x0_m3 x0_m5 "ValueError.__new__"))
    (x0_sa : PySem.W.findIn K (.ref C_TooLarge) "__setattr__" = some (some (.builtin "object.__setattr__"))) (x0_ga : PySem.W.findIn K (.ref C_TooLarge) "__getattribute__" = some (some (.builtin "BaseException.__getattribute__"))) (x0_gg : PySem.W.findIn K (.ref C_TooLarge) "__getattr__" = some none) (x0_nf0 : PySem.W.findIn K (.ref C_TooLarge) "parts" = some none) (x0_nf1 : PySem.W.findIn K (.ref C_TooLarge) "levels" = some none)
    (x0_iC : PySem.W.findIn K (.ref C_TooLarge) "__init__" = some (some (.ref fI_TooLarge))) (x0_tI : PySem.W.typeIn K (.ref fI_TooLarge) = some (.type "function"))
    (x0_l : K.lookup fI_TooLarge = some ⟨x0_oc, x0_od, .func ((nf_TooLarge cc_TooLarge cda_TooLarge).fd x0_dc x0_pm x0_ct), x0_sl⟩) (x0_c : PySem.W.codeIn K (.ref cda_TooLarge) "TooLarge.__init__" = true)
    (x0_fi : K.lookup cda_TooLarge = some ⟨x0_ccl, x0_cdd, .fields x0_vs, x0_ccs⟩) (x0_fv : x0_vs[2]? = some (.str "/claim/cut.py" x0_tf)) (x0_ce : K.lookup cc_TooLarge = some ⟨x0_cl, x0_cld, .cell (some (.ref C_TooLarge)), x0_csl⟩)
    (x0_kC : PySem.W.keepIn K (.ref C_TooLarge) = true) (x0_eC : PySem.W.subIn K (.ref C_TooLarge) (.type "BaseException") = some true) (x0_tC : PySem.W.typeIn K (.ref C_TooLarge) = some (.type "type")) (x0_hC : PySem.W.hasDictIn K C_TooLarge = true) (x0_sC : PySem.W.subIn K (.ref C_TooLarge) (.ref C_TooLarge) = some true)
    (x0_mr : PySem.W.mroIn K C_TooLarge (.ref C_TooLarge) = some true) (x0_ve : PySem.W.subIn K (.ref C_TooLarge) (.type "ValueError") = some true) (x0_su : PySem.W.ks_superIn K C_TooLarge C_TooLarge "__init__" = some (some (.builtin "ValueError.__init__")))
    (x0_xa : PySem.W.findIn K (.ref C_TooLarge) "__class__" = some (some (.builtin "object.__class__"))) (x0_xm : PySem.W.mroIn K C_TooLarge (.type "object") = some true) (x0_kv : PySem.W.kitOne K (.ref C_TooLarge) (.type "ValueError") = some true) (x0_kf : PySem.W.kitOne K (.ref C_TooLarge) (.ref C_FarError) = some true)
    {C_TooManyTerms fI_TooManyTerms cc_TooManyTerms cda_TooManyTerms : Addr} {x1_nm x1_q : Str} {x1_N : Addr} {x1_bs : List Value} {x1_sn : List Str} {x1_sub : List Value} {x1_ab : Bool} {x1_col : Option Bool} {x1_dd : Option Addr} {x1_m0 x1_m1 x1_m2 x1_m3 x1_m5 : Option Value}
    {x1_oc x1_dc x1_pm x1_ct x1_ccl x1_cl : Value} {x1_od x1_cdd x1_cld : Option Addr} {x1_sl x1_ccs x1_csl : Array (Option Value)} {x1_vs : Array Value} {x1_tf : Tok}
    (x1_g : PySem.W.nsIn K mainGlobals "TooManyTerms" = some (some (.ref C_TooManyTerms)))
    (x1_xL : K.lookup C_TooManyTerms = some (PySem.excClassObj x1_nm x1_q C_TooManyTerms x1_N x1_bs [.ref C_FarError, .type "ValueError", .type "Exception", .type "BaseException", .type "object"] true x1_sn x1_sub x1_ab x1_col x1_dd x1_m0 x1_m1 x1_m2 x1_m3 x1_m5 "ValueError.__new__"))
    (x1_sa : PySem.W.findIn K (.ref C_TooManyTerms) "__setattr__" = some (some (.builtin "object.__setattr__"))) (x1_ga : PySem.W.findIn K (.ref C_TooManyTerms) "__getattribute__" = some (some (.builtin "BaseException.__getattribute__"))) (x1_gg : PySem.W.findIn K (.ref C_TooManyTerms) "__getattr__" = some none) (x1_nf0 : PySem.W.findIn K (.ref C_TooManyTerms) "terms" = some none)
    (x1_iC : PySem.W.findIn K (.ref C_TooManyTerms) "__init__" = some (some (.ref fI_TooManyTerms))) (x1_tI : PySem.W.typeIn K (.ref fI_TooManyTerms) = some (.type "function"))
    (x1_l : K.lookup fI_TooManyTerms = some ⟨x1_oc, x1_od, .func ((nf_TooManyTerms cc_TooManyTerms cda_TooManyTerms).fd x1_dc x1_pm x1_ct), x1_sl⟩) (x1_c : PySem.W.codeIn K (.ref cda_TooManyTerms) "TooManyTerms.__init__" = true)
    (x1_fi : K.lookup cda_TooManyTerms = some ⟨x1_ccl, x1_cdd, .fields x1_vs, x1_ccs⟩) (x1_fv : x1_vs[2]? = some (.str "/claim/cut.py" x1_tf)) (x1_ce : K.lookup cc_TooManyTerms = some ⟨x1_cl, x1_cld, .cell (some (.ref C_TooManyTerms)), x1_csl⟩)
    (x1_kC : PySem.W.keepIn K (.ref C_TooManyTerms) = true) (x1_eC : PySem.W.subIn K (.ref C_TooManyTerms) (.type "BaseException") = some true) (x1_tC : PySem.W.typeIn K (.ref C_TooManyTerms) = some (.type "type")) (x1_hC : PySem.W.hasDictIn K C_TooManyTerms = true) (x1_sC : PySem.W.subIn K (.ref C_TooManyTerms) (.ref C_TooManyTerms) = some true)
    (x1_mr : PySem.W.mroIn K C_TooManyTerms (.ref C_TooManyTerms) = some true) (x1_ve : PySem.W.subIn K (.ref C_TooManyTerms) (.type "ValueError") = some true) (x1_su : PySem.W.ks_superIn K C_TooManyTerms C_TooManyTerms "__init__" = some (some (.builtin "ValueError.__init__")))
    (x1_xa : PySem.W.findIn K (.ref C_TooManyTerms) "__class__" = some (some (.builtin "object.__class__"))) (x1_xm : PySem.W.mroIn K C_TooManyTerms (.type "object") = some true) (x1_kv : PySem.W.kitOne K (.ref C_TooManyTerms) (.type "ValueError") = some true) (x1_kf : PySem.W.kitOne K (.ref C_TooManyTerms) (.ref C_FarError) = some true)
    {C_InvalidPower fI_InvalidPower cc_InvalidPower cda_InvalidPower : Addr} {x2_nm x2_q : Str} {x2_N : Addr} {x2_bs : List Value} {x2_sn : List Str} {x2_sub : List Value} {x2_ab : Bool} {x2_col : Option Bool} {x2_dd : Option Addr} {x2_m0 x2_m1 x2_m2 x2_m3 x2_m5 : Option Value}
    {x2_oc x2_dc x2_pm x2_ct x2_ccl x2_cl : Value} {x2_od x2_cdd x2_cld : Option Addr} {x2_sl x2_ccs x2_csl : Array (Option Value)} {x2_vs : Array Value} {x2_tf : Tok}
    (x2_g : PySem.W.nsIn K mainGlobals "InvalidPower" = some (some (.ref C_InvalidPower)))
    (x2_xL : K.lookup C_InvalidPower = some (PySem.excClassObj x2_nm x2_q C_InvalidPower x2_N x2_bs [.ref C_FarError, .type "ValueError", .type "Exception", .type "BaseException", .type "object"] true x2_sn x2_sub x2_ab x2_col x2_dd x2_m0 x2_m1 x2_m2 x2_m3 x2_m5 "ValueError.__new__"))
    (x2_sa : PySem.W.findIn K (.ref C_InvalidPower) "__setattr__" = some (some (.builtin "object.__setattr__"))) (x2_ga : PySem.W.findIn K (.ref C_InvalidPower) "__getattribute__" = some (some (.builtin "BaseException.__getattribute__"))) (x2_gg : PySem.W.findIn K (.ref C_InvalidPower) "__getattr__" = some none) (x2_nf0 : PySem.W.findIn K (.ref C_InvalidPower) "exponent" = some none)
    (x2_iC : PySem.W.findIn K (.ref C_InvalidPower) "__init__" = some (some (.ref fI_InvalidPower))) (x2_tI : PySem.W.typeIn K (.ref fI_InvalidPower) = some (.type "function"))
    (x2_l : K.lookup fI_InvalidPower = some ⟨x2_oc, x2_od, .func ((nf_InvalidPower cc_InvalidPower cda_InvalidPower).fd x2_dc x2_pm x2_ct), x2_sl⟩) (x2_c : PySem.W.codeIn K (.ref cda_InvalidPower) "InvalidPower.__init__" = true)
    (x2_fi : K.lookup cda_InvalidPower = some ⟨x2_ccl, x2_cdd, .fields x2_vs, x2_ccs⟩) (x2_fv : x2_vs[2]? = some (.str "/claim/cut.py" x2_tf)) (x2_ce : K.lookup cc_InvalidPower = some ⟨x2_cl, x2_cld, .cell (some (.ref C_InvalidPower)), x2_csl⟩)
    (x2_kC : PySem.W.keepIn K (.ref C_InvalidPower) = true) (x2_eC : PySem.W.subIn K (.ref C_InvalidPower) (.type "BaseException") = some true) (x2_tC : PySem.W.typeIn K (.ref C_InvalidPower) = some (.type "type")) (x2_hC : PySem.W.hasDictIn K C_InvalidPower = true) (x2_sC : PySem.W.subIn K (.ref C_InvalidPower) (.ref C_InvalidPower) = some true)
    (x2_mr : PySem.W.mroIn K C_InvalidPower (.ref C_InvalidPower) = some true) (x2_ve : PySem.W.subIn K (.ref C_InvalidPower) (.type "ValueError") = some true) (x2_su : PySem.W.ks_superIn K C_InvalidPower C_InvalidPower "__init__" = some (some (.builtin "ValueError.__init__")))
    (x2_xa : PySem.W.findIn K (.ref C_InvalidPower) "__class__" = some (some (.builtin "object.__class__"))) (x2_xm : PySem.W.mroIn K C_InvalidPower (.type "object") = some true) (x2_kv : PySem.W.kitOne K (.ref C_InvalidPower) (.type "ValueError") = some true) (x2_kf : PySem.W.kitOne K (.ref C_InvalidPower) (.ref C_FarError) = some true)
    {C_NegativeShift fI_NegativeShift cc_NegativeShift cda_NegativeShift : Addr} {x3_nm x3_q : Str} {x3_N : Addr} {x3_bs : List Value} {x3_sn : List Str} {x3_sub : List Value} {x3_ab : Bool} {x3_col : Option Bool} {x3_dd : Option Addr} {x3_m0 x3_m1 x3_m2 x3_m3 x3_m5 : Option Value}
    {x3_oc x3_dc x3_pm x3_ct x3_ccl x3_cl : Value} {x3_od x3_cdd x3_cld : Option Addr} {x3_sl x3_ccs x3_csl : Array (Option Value)} {x3_vs : Array Value} {x3_tf : Tok}
    (x3_g : PySem.W.nsIn K mainGlobals "NegativeShift" = some (some (.ref C_NegativeShift)))
    (x3_xL : K.lookup C_NegativeShift = some (PySem.excClassObj x3_nm x3_q C_NegativeShift x3_N x3_bs [.ref C_FarError, .type "ValueError", .type "Exception", .type "BaseException", .type "object"] true x3_sn x3_sub x3_ab x3_col x3_dd x3_m0 x3_m1 x3_m2 x3_m3 x3_m5 "ValueError.__new__"))
    (x3_sa : PySem.W.findIn K (.ref C_NegativeShift) "__setattr__" = some (some (.builtin "object.__setattr__"))) (x3_ga : PySem.W.findIn K (.ref C_NegativeShift) "__getattribute__" = some (some (.builtin "BaseException.__getattribute__"))) (x3_gg : PySem.W.findIn K (.ref C_NegativeShift) "__getattr__" = some none) (x3_nf0 : PySem.W.findIn K (.ref C_NegativeShift) "amount" = some none)
    (x3_iC : PySem.W.findIn K (.ref C_NegativeShift) "__init__" = some (some (.ref fI_NegativeShift))) (x3_tI : PySem.W.typeIn K (.ref fI_NegativeShift) = some (.type "function"))
    (x3_l : K.lookup fI_NegativeShift = some ⟨x3_oc, x3_od, .func ((nf_NegativeShift cc_NegativeShift cda_NegativeShift).fd x3_dc x3_pm x3_ct), x3_sl⟩) (x3_c : PySem.W.codeIn K (.ref cda_NegativeShift) "NegativeShift.__init__" = true)
    (x3_fi : K.lookup cda_NegativeShift = some ⟨x3_ccl, x3_cdd, .fields x3_vs, x3_ccs⟩) (x3_fv : x3_vs[2]? = some (.str "/claim/cut.py" x3_tf)) (x3_ce : K.lookup cc_NegativeShift = some ⟨x3_cl, x3_cld, .cell (some (.ref C_NegativeShift)), x3_csl⟩)
    (x3_kC : PySem.W.keepIn K (.ref C_NegativeShift) = true) (x3_eC : PySem.W.subIn K (.ref C_NegativeShift) (.type "BaseException") = some true) (x3_tC : PySem.W.typeIn K (.ref C_NegativeShift) = some (.type "type")) (x3_hC : PySem.W.hasDictIn K C_NegativeShift = true) (x3_sC : PySem.W.subIn K (.ref C_NegativeShift) (.ref C_NegativeShift) = some true)
    (x3_mr : PySem.W.mroIn K C_NegativeShift (.ref C_NegativeShift) = some true) (x3_ve : PySem.W.subIn K (.ref C_NegativeShift) (.type "ValueError") = some true) (x3_su : PySem.W.ks_superIn K C_NegativeShift C_NegativeShift "__init__" = some (some (.builtin "ValueError.__init__")))
    (x3_xa : PySem.W.findIn K (.ref C_NegativeShift) "__class__" = some (some (.builtin "object.__class__"))) (x3_xm : PySem.W.mroIn K C_NegativeShift (.type "object") = some true) (x3_kv : PySem.W.kitOne K (.ref C_NegativeShift) (.type "ValueError") = some true) (x3_kf : PySem.W.kitOne K (.ref C_NegativeShift) (.ref C_FarError) = some true)
    (x0_1_sC : PySem.W.subIn K (.ref C_TooLarge) (.ref C_TooManyTerms) = some false)
    (x0_2_sC : PySem.W.subIn K (.ref C_TooLarge) (.ref C_InvalidPower) = some false)
    (x0_3_sC : PySem.W.subIn K (.ref C_TooLarge) (.ref C_NegativeShift) = some false)
    (x1_0_sC : PySem.W.subIn K (.ref C_TooManyTerms) (.ref C_TooLarge) = some false)
    (x1_2_sC : PySem.W.subIn K (.ref C_TooManyTerms) (.ref C_InvalidPower) = some false)
    (x1_3_sC : PySem.W.subIn K (.ref C_TooManyTerms) (.ref C_NegativeShift) = some false)
    (x2_0_sC : PySem.W.subIn K (.ref C_InvalidPower) (.ref C_TooLarge) = some false)
    (x2_1_sC : PySem.W.subIn K (.ref C_InvalidPower) (.ref C_TooManyTerms) = some false)
    (x2_3_sC : PySem.W.subIn K (.ref C_InvalidPower) (.ref C_NegativeShift) = some false)
    (x3_0_sC : PySem.W.subIn K (.ref C_NegativeShift) (.ref C_TooLarge) = some false)
    (x3_1_sC : PySem.W.subIn K (.ref C_NegativeShift) (.ref C_TooManyTerms) = some false)
    (x3_2_sC : PySem.W.subIn K (.ref C_NegativeShift) (.ref C_InvalidPower) = some false)
    (z_ValueError : PySem.W.nsIn K mainGlobals "ValueError" = some none)
    (z_enumerate : PySem.W.nsIn K mainGlobals "enumerate" = some none)
    (z_int : PySem.W.nsIn K mainGlobals "int" = some none)
    (z_isinstance : PySem.W.nsIn K mainGlobals "isinstance" = some none)
    (z_len : PySem.W.nsIn K mainGlobals "len" = some none)
    (z_max : PySem.W.nsIn K mainGlobals "max" = some none)
    (z_min : PySem.W.nsIn K mainGlobals "min" = some none)
    (z_range : PySem.W.nsIn K mainGlobals "range" = some none)
    (z_repr : PySem.W.nsIn K mainGlobals "repr" = some none)
    (z_sorted : PySem.W.nsIn K mainGlobals "sorted" = some none)
    (z_sum : PySem.W.nsIn K mainGlobals "sum" = some none)
    (z_tuple : PySem.W.nsIn K mainGlobals "tuple" = some none)
    : ∃ fd cs sp, HX.LawG l w K 22 63 "_law_script" mg fa h fd cs sp := by
  have e := hfa.symm.trans (PySem.W.mg_of X G p43)
  cases e
  have F0 := fun_mk (st := s_turns_of_int) l0 c0 k0
  have b0 := F0.binds (ps := ["number"]) fun _ _ _ _ _ _ us hl => match us, hl with | [_], _ => rfl
  have F1 := fun_mk (st := s_turns) l1 c1 k1
  have b1 := F1.binds (ps := ["x"]) fun _ _ _ _ _ _ us hl => match us, hl with | [_], _ => rfl
  have F2 := fun_mk (st := s_made) l2 c2 k2
  have b2 := F2.binds (ps := ["found"]) fun _ _ _ _ _ _ us hl => match us, hl with | [_], _ => rfl
  have F3 := fun_mk (st := s_of_int) l3 c3 k3
  have b3 := F3.binds (ps := ["number"]) fun _ _ _ _ _ _ us hl => match us, hl with | [_], _ => rfl
  have F4 := fun_mk (st := s_negative) l4 c4 k4
  have b4 := F4.binds (ps := ["x"]) fun _ _ _ _ _ _ us hl => match us, hl with | [_], _ => rfl
  have F5 := fun_mk (st := s_order) l5 c5 k5
  have b5 := F5.binds (ps := ["x", "y"]) fun _ _ _ _ _ _ us hl => match us, hl with | [_, _], _ => rfl
  have F6 := fun_mk (st := s_merged) l6 c6 k6
  have b6 := F6.binds (ps := ["ours", "theirs"]) fun _ _ _ _ _ _ us hl => match us, hl with | [_, _], _ => rfl
  have F7 := fun_mk (st := s_toggled) l7 c7 k7
  have b7 := F7.binds (ps := ["found", "place"]) fun _ _ _ _ _ _ us hl => match us, hl with | [_, _], _ => rfl
  have F8 := fun_mk (st := s_plus_one) l8 c8 k8
  have b8 := F8.binds (ps := ["x"]) fun _ _ _ _ _ _ us hl => match us, hl with | [_], _ => rfl
  have F9 := fun_mk (st := s_inverted) l9 c9 k9
  have b9 := F9.binds (ps := ["x"]) fun _ _ _ _ _ _ us hl => match us, hl with | [_], _ => rfl
  have F10 := fun_mk (st := s_total) l10 c10 k10
  have b10 := F10.binds (ps := ["x", "y", "carry"]) fun _ _ _ _ _ _ us hl => match us, hl with | [_, _, _], _ => rfl
  have F11 := fun_mk (st := s_minus) l11 c11 k11
  have b11 := F11.binds (ps := ["x", "y"]) fun _ _ _ _ _ _ us hl => match us, hl with | [_, _], _ => rfl
  have F12 := fun_mk (st := s_shifted) l12 c12 k12
  have b12 := F12.binds (ps := ["x", "amount"]) fun _ _ _ _ _ _ us hl => match us, hl with | [_, _], _ => rfl
  have F13 := fun_mk (st := s_product) l13 c13 k13
  have b13 := F13.binds (ps := ["x", "y"]) fun _ _ _ _ _ _ us hl => match us, hl with | [_, _], _ => rfl
  have F14 := fun_mk (st := s_size) l14 c14 k14
  have b14 := F14.binds (ps := ["x"]) fun _ _ _ _ _ _ us hl => match us, hl with | [_], _ => rfl
  have F15 := fun_mk (st := s_height) l15 c15 k15
  have b15 := F15.binds (ps := ["x"]) fun _ _ _ _ _ _ us hl => match us, hl with | [_], _ => rfl
  have F16 := fun_mk (st := s_kept) l16 c16 k16
  have b16 := F16.binds (ps := ["x"]) fun _ _ _ _ _ _ us hl => match us, hl with | [_], _ => rfl
  have F17 := fun_mk (st := s_shift_left) l17 c17 k17
  have b17 := F17.binds (ps := ["x", "s"]) fun _ _ _ _ _ _ us hl => match us, hl with | [_, _], _ => rfl
  have F18 := fun_mk (st := s_multiply) l18 c18 k18
  have b18 := F18.binds (ps := ["x", "y"]) fun _ _ _ _ _ _ us hl => match us, hl with | [_, _], _ => rfl
  have F19 := fun_mk (st := s_is_exponent) l19 c19 k19
  have b19 := F19.binds (ps := ["x", "n"]) fun _ _ _ _ _ _ us hl => match us, hl with | [_, _], _ => rfl
  have F20 := fun_mk (st := s_power) l20 c20 k20
  have b20 := F20.binds (ps := ["x", "n"]) fun _ _ _ _ _ _ us hl => match us, hl with | [_, _], _ => rfl
  have F21 := fun_mk (st := s__law_begin) l21 c21 k21
  have b21 := F21.binds (ps := ["_law_script"]) fun _ _ _ _ _ _ us hl => match us, hl with | [_], _ => rfl
  have F22 := fun_mk (st := s__law_draw) l22 c22 k22
  have b22 := F22.binds (ps := ["_law_tape", "_law_limit"]) fun _ _ _ _ _ _ us hl => match us, hl with | [_, _], _ => rfl
  have F23 := fun_mk (st := s__law_pick) l23 c23 k23
  have b23 := F23.binds (ps := ["_law_tape", "_law_some"]) fun _ _ _ _ _ _ us hl => match us, hl with | [_, _], _ => rfl
  have F24 := fun_mk (st := s__law_turns) l24 c24 k24
  have b24 := F24.binds (ps := ["_law_number_here"]) fun _ _ _ _ _ _ us hl => match us, hl with | [_], _ => rfl
  have F25 := fun_mk (st := s__law_int) l25 c25 k25
  have b25 := F25.binds (ps := ["_law_places"]) fun _ _ _ _ _ _ us hl => match us, hl with | [_], _ => rfl
  have F26 := fun_mk (st := s__law_form) l26 c26 k26
  have b26 := F26.binds (ps := ["_law_number_here"]) fun _ _ _ _ _ _ us hl => match us, hl with | [_], _ => rfl
  have F27 := fun_mk (st := s__law_row_form) l27 c27 k27
  have b27 := F27.binds (ps := ["_law_places"]) fun _ _ _ _ _ _ us hl => match us, hl with | [_], _ => rfl
  have F28 := fun_mk (st := s__law_size) l28 c28 k28
  have b28 := F28.binds (ps := ["_law_form_here"]) fun _ _ _ _ _ _ us hl => match us, hl with | [_], _ => rfl
  have F29 := fun_mk (st := s__law_height) l29 c29 k29
  have b29 := F29.binds (ps := ["_law_form_here"]) fun _ _ _ _ _ _ us hl => match us, hl with | [_], _ => rfl
  have F30 := fun_mk (st := s__law_judged) l30 c30 k30
  have b30 := F30.binds (ps := ["_law_form_here"]) fun _ _ _ _ _ _ us hl => match us, hl with | [_], _ => rfl
  have F31 := fun_mk (st := s__law_fields) l31 c31 k31
  have b31 := F31.binds (ps := ["_law_tape", "_law_many"]) fun _ _ _ _ _ _ us hl => match us, hl with | [_, _], _ => rfl
  have F32 := fun_mk (st := s__law_moved) l32 c32 k32
  have b32 := F32.binds (ps := ["_law_code_here", "_law_fields_here"]) fun _ _ _ _ _ _ us hl => match us, hl with | [_, _], _ => rfl
  have F33 := fun_mk (st := s__law_form_of_codes) l33 c33 k33
  have b33 := F33.binds (ps := ["_law_codes_here", "_law_fields_here"]) fun _ _ _ _ _ _ us hl => match us, hl with | [_, _], _ => rfl
  have F34 := fun_mk (st := s__law_summed) l34 c34 k34
  have b34 := F34.binds (ps := ["_law_terms_here"]) fun _ _ _ _ _ _ us hl => match us, hl with | [_], _ => rfl
  have F35 := HX.funD_mk (st := s__law_terms) (dv := .int (1)) l35 c35 k35 lT35 rfl ⟨_, rfl⟩
  have b35 := HX.binds_nil (F35.binds1 (ps := ["_law_codes_here", "_law_times"]) 2 1 (by simp) rfl fun _ _ _ _ _ _ _ us its hl hl2 => match us, hl, its, hl2 with | [_, _], _, [_], _ => ⟨_, rfl, rfl⟩)
  obtain ⟨ds35, dv35, bd35⟩ := F35.binds1 (ps := ["_law_codes_here", "_law_times"]) 1 0 (by simp) rfl fun _ _ _ _ _ _ _ us its hl hl2 => match us, hl, its, hl2 with | [_], _, [_], _ => ⟨_, rfl, rfl⟩
  have F36 := fun_mk (st := s__law_code) l36 c36 k36
  have b36 := F36.binds (ps := ["_law_tape", "_law_many", "_law_known"]) fun _ _ _ _ _ _ us hl => match us, hl with | [_, _, _], _ => rfl
  have F37 := HX.funD_mk (st := s__law_codes) (dv := .non) l37 c37 k37 lT37 rfl rfl
  have b37 := HX.binds_nil (F37.binds1 (ps := ["_law_tape", "_law_many", "_law_count", "_law_known"]) 4 1 (by simp) rfl fun _ _ _ _ _ _ _ us its hl hl2 => match us, hl, its, hl2 with | [_, _, _, _], _, [_], _ => ⟨_, rfl, rfl⟩)
  obtain ⟨ds37, dv37, bd37⟩ := F37.binds1 (ps := ["_law_tape", "_law_many", "_law_count", "_law_known"]) 3 0 (by simp) rfl fun _ _ _ _ _ _ _ us its hl hl2 => match us, hl, its, hl2 with | [_, _, _], _, [_], _ => ⟨_, rfl, rfl⟩
  have F38 := fun_mk (st := s__law_few) l38 c38 k38
  have b38 := F38.binds (ps := ["_law_tape", "_law_most"]) fun _ _ _ _ _ _ us hl => match us, hl with | [_, _], _ => rfl
  have F39 := fun_mk (st := s__law_told) l39 c39 k39
  have b39 := F39.binds (ps := ["_law_call"]) fun _ _ _ _ _ _ us hl => match us, hl with | [_], _ => rfl
  have F40 := HX.funD_mk (st := s__law_number) (dv := .non) l40 c40 k40 lT40 rfl rfl
  have b40 := HX.binds_nil (F40.binds1 (ps := ["_law_tape", "_law_fields_here", "_law_count", "_law_known"]) 4 1 (by simp) rfl fun _ _ _ _ _ _ _ us its hl hl2 => match us, hl, its, hl2 with | [_, _, _, _], _, [_], _ => ⟨_, rfl, rfl⟩)
  obtain ⟨ds40, dv40, bd40⟩ := F40.binds1 (ps := ["_law_tape", "_law_fields_here", "_law_count", "_law_known"]) 3 0 (by simp) rfl fun _ _ _ _ _ _ _ us its hl hl2 => match us, hl, its, hl2 with | [_, _, _], _, [_], _ => ⟨_, rfl, rfl⟩
  have F41 := fun_mk (st := s__law_raised) l41 c41 k41
  have b41 := F41.binds (ps := ["_law_x", "_law_n"]) fun _ _ _ _ _ _ us hl => match us, hl with | [_, _], _ => rfl
  have F42 := fun_mk (st := s__law_due_power) l42 c42 k42
  have b42 := F42.binds (ps := ["_law_codes_here", "_law_n", "_law_fields_here"]) fun _ _ _ _ _ _ us hl => match us, hl with | [_, _, _], _ => rfl
  have F43 := fun_mk (st := s_law) l43 c43 k43
  have b43 := F43.binds (ps := ["_law_script"]) fun _ _ _ _ _ _ us hl => match us, hl with | [_], _ => rfl
  let T : Top K mg := ⟨_, _, F0, PySem.W.mg_of X G p0, b0, _, _, F1, PySem.W.mg_of X G p1, b1, _, _, F2, PySem.W.mg_of X G p2, b2, _, _, F3, PySem.W.mg_of X G p3, b3, _, _, F4, PySem.W.mg_of X G p4, b4, _, _, F5, PySem.W.mg_of X G p5, b5, _, _, F6, PySem.W.mg_of X G p6, b6, _, _, F7, PySem.W.mg_of X G p7, b7, _, _, F8, PySem.W.mg_of X G p8, b8, _, _, F9, PySem.W.mg_of X G p9, b9, _, _, F10, PySem.W.mg_of X G p10, b10, _, _, F11, PySem.W.mg_of X G p11, b11, _, _, F12, PySem.W.mg_of X G p12, b12, _, _, F13, PySem.W.mg_of X G p13, b13, _, _, F14, PySem.W.mg_of X G p14, b14, _, _, F15, PySem.W.mg_of X G p15, b15, _, _, F16, PySem.W.mg_of X G p16, b16, _, _, F17, PySem.W.mg_of X G p17, b17, _, _, F18, PySem.W.mg_of X G p18, b18, _, _, F19, PySem.W.mg_of X G p19, b19, _, _, F20, PySem.W.mg_of X G p20, b20, _, _, F21, PySem.W.mg_of X G p21, b21, _, _, F22, PySem.W.mg_of X G p22, b22, _, _, F23, PySem.W.mg_of X G p23, b23, _, _, F24, PySem.W.mg_of X G p24, b24, _, _, F25, PySem.W.mg_of X G p25, b25, _, _, F26, PySem.W.mg_of X G p26, b26, _, _, F27, PySem.W.mg_of X G p27, b27, _, _, F28, PySem.W.mg_of X G p28, b28, _, _, F29, PySem.W.mg_of X G p29, b29, _, _, F30, PySem.W.mg_of X G p30, b30, _, _, F31, PySem.W.mg_of X G p31, b31, _, _, F32, PySem.W.mg_of X G p32, b32, _, _, F33, PySem.W.mg_of X G p33, b33, _, _, F34, PySem.W.mg_of X G p34, b34, _, _, F35, ds35, dv35, bd35, PySem.W.mg_of X G p35, b35, _, _, F36, PySem.W.mg_of X G p36, b36, _, _, F37, ds37, dv37, bd37, PySem.W.mg_of X G p37, b37, _, _, F38, PySem.W.mg_of X G p38, b38, _, _, F39, PySem.W.mg_of X G p39, b39, _, _, F40, ds40, dv40, bd40, PySem.W.mg_of X G p40, b40, _, _, F41, cA41, P41, rfl, PySem.W.mg_of X G p41, b41, _, _, F42, PySem.W.mg_of X G p42, b42, _, _, F43, PySem.W.mg_of X G p43, b43, t_LAST_PLAIN_TURN, PySem.W.mg_of X G e_LAST_PLAIN_TURN, t_PLAIN_LEAST, PySem.W.mg_of X G e_PLAIN_LEAST, t_PLAIN_MOST, PySem.W.mg_of X G e_PLAIN_MOST, t_MOST_HEIGHT, PySem.W.mg_of X G e_MOST_HEIGHT, t_MOST_SIZE, PySem.W.mg_of X G e_MOST_SIZE, t_MOST_TERMS, PySem.W.mg_of X G e_MOST_TERMS, t_MOST_POWER, PySem.W.mg_of X G e_MOST_POWER, C_FarError, PySem.W.mg_of X G e_FarError, C_TooLarge, fI_TooLarge, cc_TooLarge, cda_TooLarge, ⟨PySem.W.mg_of X G x0_g, ⟨⟨_, _, _, _, _, _, _, _, _, _, _, _, _, _, _, x0_xL, rfl⟩, x0_sa, x0_eC, x0_tC, x0_kC⟩, x0_iC, x0_tI, (by intro f hf; simp only [List.mem_cons, List.not_mem_nil, or_false] at hf; rcases hf with rfl | rfl; exact x0_nf0; exact x0_nf1), ⟨_, _, _, _, _, _, x0_l⟩, x0_c, ⟨_, _, _, _, _, x0_fi, x0_fv⟩, rfl, ⟨_, _, _, x0_ce⟩, x0_mr, x0_ve, z_any, x0_su, PySem.W.mg_none_of X G z_super, ⟨x0_ga, x0_gg, x0_eC, x0_hC⟩, ⟨x0_ga, x0_gg, x0_eC, x0_hC, x0_xa, x_n, x_t, x0_xm⟩, PySem.W.exm_ref x0_eC x0_hC x0_tC x0_sC, x0_kv⟩, x0_kf, C_TooManyTerms, fI_TooManyTerms, cc_TooManyTerms, cda_TooManyTerms, ⟨PySem.W.mg_of X G x1_g, ⟨⟨_, _, _, _, _, _, _, _, _, _, _, _, _, _, _, x1_xL, rfl⟩, x1_sa, x1_eC, x1_tC, x1_kC⟩, x1_iC, x1_tI, (by intro f hf; simp only [List.mem_cons, List.not_mem_nil, or_false] at hf; subst hf; exact x1_nf0), ⟨_, _, _, _, _, _, x1_l⟩, x1_c, ⟨_, _, _, _, _, x1_fi, x1_fv⟩, rfl, ⟨_, _, _, x1_ce⟩, x1_mr, x1_ve, z_any, x1_su, PySem.W.mg_none_of X G z_super, ⟨x1_ga, x1_gg, x1_eC, x1_hC⟩, ⟨x1_ga, x1_gg, x1_eC, x1_hC, x1_xa, x_n, x_t, x1_xm⟩, PySem.W.exm_ref x1_eC x1_hC x1_tC x1_sC, x1_kv⟩, x1_kf, C_InvalidPower, fI_InvalidPower, cc_InvalidPower, cda_InvalidPower, ⟨PySem.W.mg_of X G x2_g, ⟨⟨_, _, _, _, _, _, _, _, _, _, _, _, _, _, _, x2_xL, rfl⟩, x2_sa, x2_eC, x2_tC, x2_kC⟩, x2_iC, x2_tI, (by intro f hf; simp only [List.mem_cons, List.not_mem_nil, or_false] at hf; subst hf; exact x2_nf0), ⟨_, _, _, _, _, _, x2_l⟩, x2_c, ⟨_, _, _, _, _, x2_fi, x2_fv⟩, rfl, ⟨_, _, _, x2_ce⟩, x2_mr, x2_ve, z_any, x2_su, PySem.W.mg_none_of X G z_super, ⟨x2_ga, x2_gg, x2_eC, x2_hC⟩, ⟨x2_ga, x2_gg, x2_eC, x2_hC, x2_xa, x_n, x_t, x2_xm⟩, PySem.W.exm_ref x2_eC x2_hC x2_tC x2_sC, x2_kv⟩, x2_kf, C_NegativeShift, fI_NegativeShift, cc_NegativeShift, cda_NegativeShift, ⟨PySem.W.mg_of X G x3_g, ⟨⟨_, _, _, _, _, _, _, _, _, _, _, _, _, _, _, x3_xL, rfl⟩, x3_sa, x3_eC, x3_tC, x3_kC⟩, x3_iC, x3_tI, (by intro f hf; simp only [List.mem_cons, List.not_mem_nil, or_false] at hf; subst hf; exact x3_nf0), ⟨_, _, _, _, _, _, x3_l⟩, x3_c, ⟨_, _, _, _, _, x3_fi, x3_fv⟩, rfl, ⟨_, _, _, x3_ce⟩, x3_mr, x3_ve, z_any, x3_su, PySem.W.mg_none_of X G z_super, ⟨x3_ga, x3_gg, x3_eC, x3_hC⟩, ⟨x3_ga, x3_gg, x3_eC, x3_hC, x3_xa, x_n, x_t, x3_xm⟩, PySem.W.exm_ref x3_eC x3_hC x3_tC x3_sC, x3_kv⟩, x3_kf, PySem.W.exm_ref x1_eC x1_hC x1_tC x0_1_sC, PySem.W.exm_ref x2_eC x2_hC x2_tC x0_2_sC, PySem.W.exm_ref x3_eC x3_hC x3_tC x0_3_sC, PySem.W.exm_ref x0_eC x0_hC x0_tC x1_0_sC, PySem.W.exm_ref x2_eC x2_hC x2_tC x1_2_sC, PySem.W.exm_ref x3_eC x3_hC x3_tC x1_3_sC, PySem.W.exm_ref x0_eC x0_hC x0_tC x2_0_sC, PySem.W.exm_ref x1_eC x1_hC x1_tC x2_1_sC, PySem.W.exm_ref x3_eC x3_hC x3_tC x2_3_sC, PySem.W.exm_ref x0_eC x0_hC x0_tC x3_0_sC, PySem.W.exm_ref x1_eC x1_hC x1_tC x3_1_sC, PySem.W.exm_ref x2_eC x2_hC x2_tC x3_2_sC, PySem.W.mg_none_of X G z_ValueError, PySem.W.mg_none_of X G z_enumerate, PySem.W.mg_none_of X G z_int, PySem.W.mg_none_of X G z_isinstance, PySem.W.mg_none_of X G z_len, PySem.W.mg_none_of X G z_max, PySem.W.mg_none_of X G z_min, PySem.W.mg_none_of X G z_range, PySem.W.mg_none_of X G z_repr, PySem.W.mg_none_of X G z_sorted, PySem.W.mg_none_of X G z_sum, PySem.W.mg_none_of X G z_tuple⟩
  have tb41 : PySem.W.tabIn K "_law_raised" = some (cA41, P41) := by
    unfold PySem.W.tabIn
    rw [p41]
    dsimp only
    rw [l41]
    dsimp only [PySem.W.fnOf]
    rw [lk41]
    dsimp only
    rw [kv11_41]
  obtain ⟨hd41, ht41⟩ := Tb _ _ _ hrec41 tb41
  exact ⟨PySem.W.fnOf "law" "law" (defArgs s_law) (defBody s_law) (defScope s_law) .none kV43 dc43 pm43 an43 cd43 ct43, [(cA41, P41)], spLaw T,
    ⟨(fun p hp => by
    simp only [List.mem_cons, List.not_mem_nil, or_false] at hp
    rcases hp with rfl
    · exact ht41), (fun p hp => by
    simp only [List.mem_cons, List.not_mem_nil, or_false] at hp
    rcases hp with rfl
    · exact kn41), (fun p hp => by
    simp only [List.mem_cons, List.not_mem_nil, or_false] at hp
    rcases hp with rfl
    · exact hd41), fun s v => .of_eq rfl, fun H a ns hl hT hS => ⟨a, ns, rfl, hS, hl, (fun p hp => by
    simp only [lamT, List.mem_cons, List.not_mem_nil, or_false] at hp
    rcases hp with rfl
    · exact LamX.TabS.nil (hT (cA41, P41) (by simp))), fun _ => rfl⟩, fun base _ _ TBs => ok_law T hP TBs⟩⟩
end K13
open PySem PySem.W PyProof.Rows
set_option maxHeartbeats 0 in
theorem PySem.Challenge.cw_farbits_k13_powers_holds : PySem.Challenge.rw_farbits_k13_powers.Holds := by
  w_on; o_law; k_head; (case hw => w_witness2)
  k_fill
  refine HX.walk_ofTG (l := PySem.Challenge.rw_farbits_k13_powers) (n := 63) (k := 22) (x := "_law_script") rfl (by decide) rfl ⟨rfl, by decide, by decide⟩ (fun w h Y => PySem.W.km_in_of Y) ?F
  case F =>
    intro w mg fa h Y KX G hmg Tb
    refine' K13.all_mk KX G hmg Tb ?p0 ?l0 ?c0 ?k0 ?p1 ?l1 ?c1 ?k1 ?p2 ?l2 ?c2 ?k2 ?p3 ?l3 ?c3 ?k3 ?p4 ?l4 ?c4 ?k4 ?p5 ?l5 ?c5 ?k5 ?p6 ?l6 ?c6 ?k6 ?p7 ?l7 ?c7 ?k7 ?p8 ?l8 ?c8 ?k8 ?p9 ?l9 ?c9 ?k9 ?p10 ?l10 ?c10 ?k10 ?p11 ?l11 ?c11 ?k11 ?p12 ?l12 ?c12 ?k12 ?p13 ?l13 ?c13 ?k13 ?p14 ?l14 ?c14 ?k14 ?p15 ?l15 ?c15 ?k15 ?p16 ?l16 ?c16 ?k16 ?p17 ?l17 ?c17 ?k17 ?p18 ?l18 ?c18 ?k18 ?p19 ?l19 ?c19 ?k19 ?p20 ?l20 ?c20 ?k20 ?p21 ?l21 ?c21 ?k21 ?p22 ?l22 ?c22 ?k22 ?p23 ?l23 ?c23 ?k23 ?p24 ?l24 ?c24 ?k24 ?p25 ?l25 ?c25 ?k25 ?p26 ?l26 ?c26 ?k26 ?p27 ?l27 ?c27 ?k27 ?p28 ?l28 ?c28 ?k28 ?p29 ?l29 ?c29 ?k29 ?p30 ?l30 ?c30 ?k30 ?p31 ?l31 ?c31 ?k31 ?p32 ?l32 ?c32 ?k32 ?p33 ?l33 ?c33 ?k33 ?p34 ?l34 ?c34 ?k34 ?p35 ?l35 ?c35 ?k35 ?lT35 ?p36 ?l36 ?c36 ?k36 ?p37 ?l37 ?c37 ?k37 ?lT37 ?p38 ?l38 ?c38 ?k38 ?p39 ?l39 ?c39 ?k39 ?p40 ?l40 ?c40 ?k40 ?lT40 ?p41 ?l41 ?c41 ?k41 ?lk41 ?kv11_41 ?kn41 ?hrec41 ?p42 ?l42 ?c42 ?k42 ?p43 ?l43 ?c43 ?k43 ?e_LAST_PLAIN_TURN ?e_PLAIN_LEAST ?e_PLAIN_MOST ?e_MOST_HEIGHT ?e_MOST_SIZE ?e_MOST_TERMS ?e_MOST_POWER ?hP ?e_FarError ?z_any ?z_super ?x_n ?x_t ?x0_g ?x0_xL ?x0_sa ?x0_ga ?x0_gg ?x0_nf0 ?x0_nf1 ?x0_iC ?x0_tI ?x0_l ?x0_c ?x0_fi ?x0_fv ?x0_ce ?x0_kC ?x0_eC ?x0_tC ?x0_hC ?x0_sC ?x0_mr ?x0_ve ?x0_su ?x0_xa ?x0_xm ?x0_kv ?x0_kf ?x1_g ?x1_xL ?x1_sa ?x1_ga ?x1_gg ?x1_nf0 ?x1_iC ?x1_tI ?x1_l ?x1_c ?x1_fi ?x1_fv ?x1_ce ?x1_kC ?x1_eC ?x1_tC ?x1_hC ?x1_sC ?x1_mr ?x1_ve ?x1_su ?x1_xa ?x1_xm ?x1_kv ?x1_kf ?x2_g ?x2_xL ?x2_sa ?x2_ga ?x2_gg ?x2_nf0 ?x2_iC ?x2_tI ?x2_l ?x2_c ?x2_fi ?x2_fv ?x2_ce ?x2_kC ?x2_eC ?x2_tC ?x2_hC ?x2_sC ?x2_mr ?x2_ve ?x2_su ?x2_xa ?x2_xm ?x2_kv ?x2_kf ?x3_g ?x3_xL ?x3_sa ?x3_ga ?x3_gg ?x3_nf0 ?x3_iC ?x3_tI ?x3_l ?x3_c ?x3_fi ?x3_fv ?x3_ce ?x3_kC ?x3_eC ?x3_tC ?x3_hC ?x3_sC ?x3_mr ?x3_ve ?x3_su ?x3_xa ?x3_xm ?x3_kv ?x3_kf ?x0_1_sC ?x0_2_sC ?x0_3_sC ?x1_0_sC ?x1_2_sC ?x1_3_sC ?x2_0_sC ?x2_1_sC ?x2_3_sC ?x3_0_sC ?x3_1_sC ?x3_2_sC ?z_ValueError ?z_enumerate ?z_int ?z_isinstance ?z_len ?z_max ?z_min ?z_range ?z_repr ?z_sorted ?z_sum ?z_tuple
    (case p0 => k_is); (case l0 => k_is); (case c0 => k_is); (case k0 => k_is); (case p1 => k_is); (case l1 => k_is); (case c1 => k_is); (case k1 => k_is)
    (case p2 => k_is); (case l2 => k_is); (case c2 => k_is); (case k2 => k_is); (case p3 => k_is); (case l3 => k_is); (case c3 => k_is); (case k3 => k_is)
    (case p4 => k_is); (case l4 => k_is); (case c4 => k_is); (case k4 => k_is); (case p5 => k_is); (case l5 => k_is); (case c5 => k_is); (case k5 => k_is)
    (case p6 => k_is); (case l6 => k_is); (case c6 => k_is); (case k6 => k_is); (case p7 => k_is); (case l7 => k_is); (case c7 => k_is); (case k7 => k_is)
    (case p8 => k_is); (case l8 => k_is); (case c8 => k_is); (case k8 => k_is); (case p9 => k_is); (case l9 => k_is); (case c9 => k_is); (case k9 => k_is)
    (case p10 => k_is); (case l10 => k_is); (case c10 => k_is); (case k10 => k_is); (case p11 => k_is); (case l11 => k_is); (case c11 => k_is); (case k11 => k_is)
    (case p12 => k_is); (case l12 => k_is); (case c12 => k_is); (case k12 => k_is); (case p13 => k_is); (case l13 => k_is); (case c13 => k_is); (case k13 => k_is)
    (case p14 => k_is); (case l14 => k_is); (case c14 => k_is); (case k14 => k_is); (case p15 => k_is); (case l15 => k_is); (case c15 => k_is); (case k15 => k_is)
    (case p16 => k_is); (case l16 => k_is); (case c16 => k_is); (case k16 => k_is); (case p17 => k_is); (case l17 => k_is); (case c17 => k_is); (case k17 => k_is)
    (case p18 => k_is); (case l18 => k_is); (case c18 => k_is); (case k18 => k_is); (case p19 => k_is); (case l19 => k_is); (case c19 => k_is); (case k19 => k_is)
    (case p20 => k_is); (case l20 => k_is); (case c20 => k_is); (case k20 => k_is); (case p21 => k_is); (case l21 => k_is); (case c21 => k_is); (case k21 => k_is)
    (case p22 => k_is); (case l22 => k_is); (case c22 => k_is); (case k22 => k_is); (case p23 => k_is); (case l23 => k_is); (case c23 => k_is); (case k23 => k_is)
    (case p24 => k_is); (case l24 => k_is); (case c24 => k_is); (case k24 => k_is); (case p25 => k_is); (case l25 => k_is); (case c25 => k_is); (case k25 => k_is)
    (case p26 => k_is); (case l26 => k_is); (case c26 => k_is); (case k26 => k_is); (case p27 => k_is); (case l27 => k_is); (case c27 => k_is); (case k27 => k_is)
    (case p28 => k_is); (case l28 => k_is); (case c28 => k_is); (case k28 => k_is); (case p29 => k_is); (case l29 => k_is); (case c29 => k_is); (case k29 => k_is)
    (case p30 => k_is); (case l30 => k_is); (case c30 => k_is); (case k30 => k_is); (case p31 => k_is); (case l31 => k_is); (case c31 => k_is); (case k31 => k_is)
    (case p32 => k_is); (case l32 => k_is); (case c32 => k_is); (case k32 => k_is); (case p33 => k_is); (case l33 => k_is); (case c33 => k_is); (case k33 => k_is)
    (case p34 => k_is); (case l34 => k_is); (case c34 => k_is); (case k34 => k_is); (case p35 => k_is); (case l35 => k_is); (case c35 => k_is); (case k35 => k_is)
    (case lT35 => k_is); (case p36 => k_is); (case l36 => k_is); (case c36 => k_is); (case k36 => k_is); (case p37 => k_is); (case l37 => k_is); (case c37 => k_is)
    (case k37 => k_is); (case lT37 => k_is); (case p38 => k_is); (case l38 => k_is); (case c38 => k_is); (case k38 => k_is); (case p39 => k_is); (case l39 => k_is)
    (case c39 => k_is); (case k39 => k_is); (case p40 => k_is); (case l40 => k_is); (case c40 => k_is); (case k40 => k_is); (case lT40 => k_is); (case p41 => k_is)
    (case l41 => k_is); (case c41 => k_is); (case k41 => k_is); (case lk41 => k_is); (case kv11_41 => first | rfl | k_is); (case kn41 => first | kernel_rfl | rfl | decide +kernel); (case hrec41 => first | rfl | decide +kernel | kernel_rfl); (case p42 => k_is)
    (case l42 => k_is); (case c42 => k_is); (case k42 => k_is); (case p43 => k_is); (case l43 => k_is); (case c43 => k_is); (case k43 => k_is); (case e_LAST_PLAIN_TURN => k_is)
    (case e_PLAIN_LEAST => k_is); (case e_PLAIN_MOST => k_is); (case e_MOST_HEIGHT => k_is); (case e_MOST_SIZE => k_is); (case e_MOST_TERMS => k_is); (case e_MOST_POWER => k_is); (case hP => exact ⟨by decide +kernel, by decide +kernel⟩); (case e_FarError => k_is)
    (case z_any => k_is); (case z_super => k_is); (case x_n => k_is); (case x_t => k_is); (case x0_g => k_is); (case x0_xL => k_is); (case x0_sa => k_is); (case x0_ga => k_is)
    (case x0_gg => k_is); (case x0_nf0 => k_is); (case x0_nf1 => k_is); (case x0_iC => k_is); (case x0_tI => k_is); (case x0_l => k_is); (case x0_c => k_is); (case x0_fi => k_is)
    (case x0_fv => first | rfl | k_is); (case x0_ce => k_is); (case x0_kC => k_is); (case x0_eC => k_is); (case x0_tC => k_is); (case x0_hC => k_is); (case x0_sC => first | rfl | k_is); (case x0_mr => k_is)
    (case x0_ve => k_is); (case x0_su => first | k_is | ks_is | kernel_rfl); (case x0_xa => k_is); (case x0_xm => k_is); (case x0_kv => first | k_is | ks_is | kernel_rfl); (case x0_kf => first | k_is | ks_is | kernel_rfl); (case x1_g => k_is); (case x1_xL => k_is)
    (case x1_sa => k_is); (case x1_ga => k_is); (case x1_gg => k_is); (case x1_nf0 => k_is); (case x1_iC => k_is); (case x1_tI => k_is); (case x1_l => k_is); (case x1_c => k_is)
    (case x1_fi => k_is); (case x1_fv => first | rfl | k_is); (case x1_ce => k_is); (case x1_kC => k_is); (case x1_eC => k_is); (case x1_tC => k_is); (case x1_hC => k_is); (case x1_sC => first | rfl | k_is)
    (case x1_mr => k_is); (case x1_ve => k_is); (case x1_su => first | k_is | ks_is | kernel_rfl); (case x1_xa => k_is); (case x1_xm => k_is); (case x1_kv => first | k_is | ks_is | kernel_rfl); (case x1_kf => first | k_is | ks_is | kernel_rfl); (case x2_g => k_is)
    (case x2_xL => k_is); (case x2_sa => k_is); (case x2_ga => k_is); (case x2_gg => k_is); (case x2_nf0 => k_is); (case x2_iC => k_is); (case x2_tI => k_is); (case x2_l => k_is)
    (case x2_c => k_is); (case x2_fi => k_is); (case x2_fv => first | rfl | k_is); (case x2_ce => k_is); (case x2_kC => k_is); (case x2_eC => k_is); (case x2_tC => k_is); (case x2_hC => k_is)
    (case x2_sC => first | rfl | k_is); (case x2_mr => k_is); (case x2_ve => k_is); (case x2_su => first | k_is | ks_is | kernel_rfl); (case x2_xa => k_is); (case x2_xm => k_is); (case x2_kv => first | k_is | ks_is | kernel_rfl); (case x2_kf => first | k_is | ks_is | kernel_rfl)
    (case x3_g => k_is); (case x3_xL => k_is); (case x3_sa => k_is); (case x3_ga => k_is); (case x3_gg => k_is); (case x3_nf0 => k_is); (case x3_iC => k_is); (case x3_tI => k_is)
    (case x3_l => k_is); (case x3_c => k_is); (case x3_fi => k_is); (case x3_fv => first | rfl | k_is); (case x3_ce => k_is); (case x3_kC => k_is); (case x3_eC => k_is); (case x3_tC => k_is)
    (case x3_hC => k_is); (case x3_sC => first | rfl | k_is); (case x3_mr => k_is); (case x3_ve => k_is); (case x3_su => first | k_is | ks_is | kernel_rfl); (case x3_xa => k_is); (case x3_xm => k_is); (case x3_kv => first | k_is | ks_is | kernel_rfl)
    (case x3_kf => first | k_is | ks_is | kernel_rfl); (case x0_1_sC => first | rfl | k_is); (case x0_2_sC => first | rfl | k_is); (case x0_3_sC => first | rfl | k_is); (case x1_0_sC => first | rfl | k_is); (case x1_2_sC => first | rfl | k_is); (case x1_3_sC => first | rfl | k_is); (case x2_0_sC => first | rfl | k_is)
    (case x2_1_sC => first | rfl | k_is); (case x2_3_sC => first | rfl | k_is); (case x3_0_sC => first | rfl | k_is); (case x3_1_sC => first | rfl | k_is); (case x3_2_sC => first | rfl | k_is); (case z_ValueError => k_is); (case z_enumerate => k_is); (case z_int => k_is)
    (case z_isinstance => k_is); (case z_len => k_is); (case z_max => k_is); (case z_min => k_is); (case z_range => k_is); (case z_repr => k_is); (case z_sorted => k_is); (case z_sum => k_is)
    (case z_tuple => k_is)
