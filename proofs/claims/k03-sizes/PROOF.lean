import PyProof.Rows.All
import Wide.All
import OpenK.AllK
import Wide.FinOn
import HandS.ForMost
import HandS.WideBits
import HandS.Style
import HandS.IsInst
import HandS.TupAny
import HandS.Defaults
import HandS.Wide
import HandS.Small
import HandS.Flow
import HandS.RaiseMore
import KE.KBits
import KE.BitLaws
import PySem.PyData
import PyProof.Claim2
import PySem.Challenge.RW_farbits_k03_sizes_and_heights
set_option Elab.async false
set_option linter.all false
set_option maxRecDepth 100000
/-! small helpers over the hand layer, for every law -/
namespace HX
open PySem PySem.Spec PyProof.Rows L2

/-- ends that take P behind, and else what D takes -/
structure Jn (D : Ends) (P : L2.St → Hp → Prop) (D' : Ends) : Prop where
  nx : ∀ σ' H', P σ' H' → D'.nx σ' H'
  ct : ∀ σ' H', D.ct σ' H' → D'.ct σ' H'
  bk : ∀ σ' H', D.bk σ' H' → D'.bk σ' H'
  rt : ∀ v H', D.rt v H' → D'.rt v H'
theorem if_join {c : Prop} [Decidable c] {t u : TS} {D : Ends} {σ : L2.St} {H : Hp} (P : L2.St → Hp → Prop) (hr : ∀ σ' H', P σ' H' → D.nx σ' H')
    (h1 : ∀ D', Jn D P D' → c → t D' σ H) (h2 : ∀ D', Jn D P D' → ¬ c → u D' σ H) : if c then t D σ H else u D σ H := by
  by_cases h : c
  · rw [if_pos h]
    exact h1 _ ⟨hr, fun _ _ h => h, fun _ _ h => h, fun _ _ h => h⟩ h
  · rw [if_neg h]
    exact h2 _ ⟨hr, fun _ _ h => h, fun _ _ h => h, fun _ _ h => h⟩ h
/-- a statement, then the rest: P stands between -/
theorem cut {t u : TS} {D : Ends} {σ : L2.St} {H : Hp} (P : L2.St → Hp → Prop) (h1 : ∀ D', Jn D P D' → t D' σ H) (h2 : ∀ σ' H', P σ' H' → u D σ' H') : tSeq t u D σ H :=
  h1 { D with nx := u D } ⟨h2, fun _ _ h => h, fun _ _ h => h, fun _ _ h => h⟩
theorem ifD {p A B : Prop} [Decidable p] (h1 : p → A) (h2 : ¬ p → B) : if decide p = true then A else B := by
  by_cases h : p
  · rw [if_pos (decide_eq_true h)]
    exact h1 h
  · rw [if_neg (by rw [decide_eq_false h]; exact Bool.false_ne_true)]
    exact h2 h
theorem ifN {p A B : Prop} [Decidable p] (h1 : ¬ p → A) (h2 : p → B) : if (!decide p) = true then A else B := by
  by_cases h : p
  · rw [decide_eq_true h]
    exact iteF (h2 h)
  · rw [decide_eq_false h]
    exact iteT (h1 h)
theorem ifE {a b : Int} {A B : Prop} (h1 : a = b → A) (h2 : a ≠ b → B) : if decide (V.int a = V.int b) = true then A else B :=
  ifD (fun e => h1 (V.int.inj e)) (fun e => h2 fun z => e (congrArg V.int z))
theorem ifNE {a b : Int} {A B : Prop} (h1 : a ≠ b → A) (h2 : a = b → B) : if (!decide (V.int a = V.int b)) = true then A else B :=
  ifN (fun e => h1 fun z => e (congrArg V.int z)) (fun e => h2 (V.int.inj e))
/-- what is shown once and used on several ways -/
theorem keep {Y G : Prop} (hY : Y) (h : Y → G) : G := h hY
/-- a and b: where a is false, and where b is false, the same comes -/
theorem ifAnd {p A X Y : Prop} [Decidable p] (hY : Y) (h : p → Y → A) : if decide p = true then A else (if false = true then X else Y) :=
  ifD (fun hp => h hp hY) (fun _ => iteF hY)
/-- a < b < c as a test: where the first is false, and where the second is -/
theorem ifChain {p A B X : Prop} [Decidable p] (hB : B) (h : p → B → X) : if decide p = true then X else (∃ k, V.bl false = V.bl k ∧ if k = true then A else B) :=
  ifD (fun hp => h hp hB) (fun _ => ⟨false, rfl, iteF hB⟩)
theorem ifOr {p A X Y : Prop} [Decidable p] (hX : X) (h : ¬ p → X → A) : if decide p = true then (if true = true then X else Y) else A :=
  ifD (fun _ => iteT hX) (fun hp => h hp hX)
theorem ifY {c A B : Prop} [Decidable c] (hc : c) (h : A) : if c then A else B := by
  rw [if_pos hc]
  exact h
theorem ifZ {c A B : Prop} [Decidable c] (hc : ¬ c) (h : B) : if c then A else B := by
  rw [if_neg hc]
  exact h
/-- the ends of a loop's body, by what they are known to take -/
structure Bd (D : Ends) (N : L2.St → Hp → Prop) (D' : Ends) : Prop where
  nx : ∀ σ' H', N σ' H' → D'.nx σ' H'
  ct : ∀ σ' H', N σ' H' → D'.ct σ' H'
  bk : ∀ σ' H', D.nx σ' H' → D'.bk σ' H'
  rt : ∀ v H', D.rt v H' → D'.rt v H'
/-- a while's turn: the body for any ends -/
theorem wb {tb : TS} {D : Ends} {m : Nat} {σ : L2.St} {H1 : Hp} {W : Nat → L2.St → Hp → Prop} (h : ∀ D', Bd D (fun σ' H' => ∃ m', m' < m ∧ W m' σ' H') D' → tb D' σ H1) :
    ∃ N : L2.St → Hp → Prop, (∀ σ' H', N σ' H' → ∃ m', m' < m ∧ W m' σ' H') ∧ tb { D with nx := N, ct := N, bk := D.nx } σ H1 :=
  ⟨_, fun _ _ h => h, h _ ⟨fun _ _ h => h, fun _ _ h => h, fun _ _ h => h, fun _ _ h => h⟩⟩
theorem flL {K : PySem.W.Frag} {a : Addr} {xs : List V} {g : TG} {tb : TS} {D : Ends} {σ : L2.St} {H : Hp} (Pv : Nat → L2.St → Hp → Prop) (h0 : Pv 0 σ H) (hl : ∀ i σ H, i ≤ xs.length → Pv i σ H → SqL K H a xs)
    (hs : ∀ i x σ H, xs[i]? = some x → Pv i σ H → ∀ D', Bd D (Pv (i + 1)) D' → g x σ H fun σ2 H2 => tb D' σ2 H2) (hd : ∀ σ H, Pv xs.length σ H → D.nx σ H) :
    ∃ W : Nat → Nat → L2.St → Hp → Prop, (∃ m, W 0 m σ H) ∧ ∀ i m σ H, W i m σ H →
      ((Itl K a).stop i H ∧ D.nx σ H) ∨ ((Itl K a).go i H ∧ ∃ N : L2.St → Hp → Prop, (∀ σ' H', N σ' H' → ∃ m', m' < m ∧ W (i + 1) m' σ' H') ∧ ∀ x H', (Itl K a).yld i H x H' → g x σ H' fun σ2 H2 => tb { D with nx := N, ct := N, bk := D.nx } σ2 H2) :=
  for_list Pv h0 hl (fun i x σ H hx p => hs i x σ H hx p _ ⟨fun _ _ h => h, fun _ _ h => h, fun _ _ h => h, fun _ _ h => h⟩) hd
theorem flT {K : PySem.W.Frag} {a : Addr} {xs : List V} {g : TG} {tb : TS} {D : Ends} {σ : L2.St} {H : Hp} (Pv : Nat → L2.St → Hp → Prop) (h0 : Pv 0 σ H) (hl : ∀ i σ H, i ≤ xs.length → Pv i σ H → SqT K H a xs)
    (hs : ∀ i x σ H, xs[i]? = some x → Pv i σ H → ∀ D', Bd D (Pv (i + 1)) D' → g x σ H fun σ2 H2 => tb D' σ2 H2) (hd : ∀ σ H, Pv xs.length σ H → D.nx σ H) :
    ∃ W : Nat → Nat → L2.St → Hp → Prop, (∃ m, W 0 m σ H) ∧ ∀ i m σ H, W i m σ H →
      ((Itt K a).stop i H ∧ D.nx σ H) ∨ ((Itt K a).go i H ∧ ∃ N : L2.St → Hp → Prop, (∀ σ' H', N σ' H' → ∃ m', m' < m ∧ W (i + 1) m' σ' H') ∧ ∀ x H', (Itt K a).yld i H x H' → g x σ H' fun σ2 H2 => tb { D with nx := N, ct := N, bk := D.nx } σ2 H2) :=
  for_tup Pv h0 hl (fun i x σ H hx p => hs i x σ H hx p _ ⟨fun _ _ h => h, fun _ _ h => h, fun _ _ h => h, fun _ _ h => h⟩) hd
theorem flR {lo : Int} {n : Nat} {g : TG} {tb : TS} {D : Ends} {σ : L2.St} {H : Hp} (Pv : Nat → L2.St → Hp → Prop) (h0 : Pv 0 σ H)
    (hs : ∀ i σ H, i < n → Pv i σ H → ∀ D', Bd D (Pv (i + 1)) D' → g (.int (lo + i)) σ H fun σ2 H2 => tb D' σ2 H2) (hd : ∀ σ H, Pv n σ H → D.nx σ H) :
    ∃ W : Nat → Nat → L2.St → Hp → Prop, (∃ m, W 0 m σ H) ∧ ∀ i m σ H, W i m σ H →
      ((Itr lo n).stop i H ∧ D.nx σ H) ∨ ((Itr lo n).go i H ∧ ∃ N : L2.St → Hp → Prop, (∀ σ' H', N σ' H' → ∃ m', m' < m ∧ W (i + 1) m' σ' H') ∧ ∀ x H', (Itr lo n).yld i H x H' → g x σ H' fun σ2 H2 => tb { D with nx := N, ct := N, bk := D.nx } σ2 H2) :=
  for_range Pv h0 (fun i σ H hx p => hs i σ H hx p _ ⟨fun _ _ h => h, fun _ _ h => h, fun _ _ h => h, fun _ _ h => h⟩) hd
theorem seqC {i : Nat} {v : V} {u : TS} {D : Ends} {σ : L2.St} {H : Hp} (h : u D (σ.set i (some v)) H) : tSeq (tAsg (tC v) (gName i)) u D σ H := h
theorem asgC {i : Nat} {v : V} {D : Ends} {σ : L2.St} {H : Hp} (h : D.nx (σ.set i (some v)) H) : tAsg (tC v) (gName i) D σ H := h
/-- an expression that the proof never comes to -/
def tNevE : TE := fun _ _ _ => False
theorem pe_never {X : Cx} {e : Expr} : PE X e tNevE := ⟨fun _ _ _ _ _ _ h => h.elim⟩
theorem sm_upd {H : Hp} {p : Addr} {o : HO} (h : H p = none) : Same H (upd H p o) := fun b x e => by
  rw [upd_ne (ne_of_none e h)]
  exact e
theorem upd_at {H : Hp} {p : Addr} {o : HO} (_ : H p = none) : upd H p o p = some o := upd_same
theorem sm_mut {H H' : Hp} {p : Addr} {o : HO} (e : Same H H') (h : H p = none) : Same H (upd H' p o) := fun b x z => by
  rw [upd_ne (ne_of_none z h)]
  exact e b x z
/-- all but p is as it was -/
def But (p : Addr) (H H' : Hp) : Prop := ∀ b o, b ≠ p → H b = some o → H' b = some o
theorem But.refl {p : Addr} (H : Hp) : But p H H := fun _ _ _ h => h
theorem But.trans {p : Addr} {H H1 H2 : Hp} (a : But p H H1) (b : But p H1 H2) : But p H H2 := fun c o h e => b c o h (a c o h e)
theorem But.of {p : Addr} {H H' : Hp} (a : Same H H') : But p H H' := fun b o _ e => a b o e
theorem But.upd {p : Addr} {H H' : Hp} {o : HO} (a : But p H H') : But p H (upd H' p o) := fun b x h e => by
  rw [upd_ne h]
  exact a b x h e
theorem But.new {p q : Addr} {H H' : Hp} {o : HO} (a : But p H H') (h : H' q = none) : But p H (L2.upd H' q o) := a.trans (But.of (sm_upd h))
theorem But.same {p : Addr} {H0 H H' : Hp} (e : Same H0 H) (n : H0 p = none) (a : But p H H') : Same H0 H' := fun b o h => a b o (ne_of_none h n) (e b o h)
/-- a new object, its heap by what is known of it -/
theorem new_by {H : Hp} {o : HO} {Q : Addr → Hp → Prop} (h : ∀ p H', H p = none → Same H H' → H' p = some o → (∀ b, b ≠ p → H' b = H b) → Q p H') : ∀ p, H p = none → Q p (upd H p o) := fun p hp =>
  h p _ hp (sm_upd hp) upd_same fun _ hb => upd_ne hb
theorem Same.tup {K : PySem.W.Frag} {H H' : Hp} {a : Addr} {xs : List V} (e : Same H H') (h : SqT K H a xs) : SqT K H' a xs := by
  rcases h with (h | ⟨o, h⟩) | h
  · exact .inl (.inl (e _ _ h))
  · exact .inl (.inr ⟨o, e _ _ h⟩)
  · exact .inr h
theorem len_le {n : Nat} (h : n ≤ 16000000) : n ≤ sizeLine := Nat.le_trans h (by decide)
theorem len_lt {n : Nat} (h : n < 16000000) : n < sizeLine := Nat.lt_of_lt_of_le h (by decide)
/-- ints that are counted from 0 on -/
def nv (ps : List Nat) : List V := ps.map fun q => .int (q : Nat)
theorem nv_app (ps : List Nat) (q : Nat) : nv (ps ++ [q]) = nv ps ++ [.int (q : Nat)] := by simp [nv]
theorem nv_len (ps : List Nat) : (nv ps).length = ps.length := by simp [nv]
theorem nv_get {ps : List Nat} {i : Nat} {v : V} (h : (nv ps)[i]? = some v) : ∃ q, ps[i]? = some q ∧ v = .int (q : Nat) := by
  unfold nv at h
  rw [List.getElem?_map] at h
  cases e : ps[i]? with
  | none => rw [e] at h; cases h
  | some q => rw [e] at h; exact ⟨q, rfl, (Option.some.inj h).symm⟩
theorem atI_neg1 {xs : List V} {v : V} (h : xs[xs.length - 1]? = some v) : atI xs (-1) = some v := by
  have hne : xs ≠ [] := by
    rintro rfl
    cases h
  have e : xs = xs.dropLast ++ [xs.getLast hne] := (List.dropLast_concat_getLast hne).symm
  have e2 : xs.getLast hne = v := by
    rw [List.getLast_eq_getElem]
    have := List.getElem?_eq_some_iff.mp h
    exact this.2
  rw [e, e2]
  exact atI_last _ _
/-! ### the readings of some calls, by names -/
def rLen (K : PySem.W.Frag) : List V → Hp → VK → Prop := fun xs H Q => ∃ p ys, xs = [.ref p] ∧ (SqL K H p ys ∨ SqT K H p ys) ∧ Q (.int ys.length) H
def rTupOf (K : PySem.W.Frag) : List V → Hp → VK → Prop := fun xs H Q => ∃ p ys, xs = [.ref p] ∧ ((SqL K H p ys ∧ ∀ l, H l = none → Q (.ref l) (upd H l (.tup ys))) ∨ (SqT K H p ys ∧ Q (.ref p) H))
def rLstOf (K : PySem.W.Frag) : List V → Hp → VK → Prop := fun xs H Q => ∃ p ys, xs = [.ref p] ∧ (SqL K H p ys ∨ SqT K H p ys) ∧ ∀ l, H l = none → Q (.ref l) (upd H l (.lst ys))
/-! ### isinstance -/
theorem isi_int {K : PySem.W.Frag} {H : Hp} {i : Int} {n : String} {b : Bool} {Q : VK} (h : kitB "int" n = some b) (q : Q (.bl b) H) : rIsi K [.int i, .ty n] H Q := ⟨_, _, _, _, b, rfl, .ty n, .base (.int i), kit_ty h, q⟩
theorem isi_bl {K : PySem.W.Frag} {H : Hp} {i : Bool} {n : String} {b : Bool} {Q : VK} (h : kitB "bool" n = some b) (q : Q (.bl b) H) : rIsi K [.bl i, .ty n] H Q := ⟨_, _, _, _, b, rfl, .ty n, .base (.bl i), kit_ty h, q⟩
theorem isi_tup {K : PySem.W.Frag} {H : Hp} {a : Addr} {xs : List V} {n : String} {b : Bool} {Q : VK} (e : SqT K H a xs) (h : kitB "tuple" n = some b) (q : Q (.bl b) H) : rIsi K [.ref a, .ty n] H Q := by
  rcases e with (e | ⟨o, e⟩) | ⟨o, its, m, e, c, _⟩
  · exact ⟨_, _, _, _, b, rfl, .ty n, .base (.tup e), kit_ty h, q⟩
  · exact ⟨_, _, _, _, b, rfl, .ty n, .fTuple e, kit_ty h, q⟩
  · exact ⟨_, _, _, _, b, rfl, .ty n, .kTuple e c, kit_ty h, q⟩
theorem isi_lst {K : PySem.W.Frag} {H : Hp} {a : Addr} {xs : List V} {n : String} {b : Bool} {Q : VK} (e : H a = some (.lst xs)) (h : kitB "list" n = some b) (q : Q (.bl b) H) : rIsi K [.ref a, .ty n] H Q := ⟨_, _, _, _, b, rfl, .ty n, .base (.lst e), kit_ty h, q⟩
theorem tyT {K : PySem.W.Frag} {H : Hp} {a : Addr} {xs : List V} (e : SqT K H a xs) : TyX K H (.ref a) (.type "tuple") := by
  rcases e with (e | ⟨o, e⟩) | ⟨o, its, m, e, c, _⟩
  · exact .base (.tup e)
  · exact .fTuple e
  · exact .kTuple e c
theorem tyI {K : PySem.W.Frag} {H : Hp} (i : Int) : TyX K H (.int i) (.type "int") := .base (.int i)
theorem k_ii : kitB "int" "int" = some true := by decide +kernel
theorem k_ib : kitB "int" "bool" = some false := by decide +kernel
theorem k_it : kitB "int" "tuple" = some false := by decide +kernel
theorem k_tt : kitB "tuple" "tuple" = some true := by decide +kernel
theorem k_ti : kitB "tuple" "int" = some false := by decide +kernel
theorem k_tb : kitB "tuple" "bool" = some false := by decide +kernel
/-! ### a dict of three text keys -/
def tri (k1 k2 k3 : Str) (a b c : V) : List (Key × V) := [(.inr k1, a), (.inr k2, b), (.inr k3, c)]
structure Dif (k1 k2 k3 : Str) : Prop where
  n12 : k1 ≠ k2
  n13 : k1 ≠ k3
  n23 : k2 ≠ k3
section
variable {k1 k2 k3 : Str} {a b c v : V} {H : Hp} {p : Addr}
theorem inr_ne {x y : Str} (h : x ≠ y) : ¬ (Sum.inr x : Key) = Sum.inr y := fun e => h (Sum.inr.inj e)
theorem tri_get1 (h : H p = some (.dK (tri k1 k2 k3 a b c))) : DGet H p (.str k1) (some a) := by
  have := DGet.k (k := (.inr k1 : Key)) h
  unfold tri at this
  rw [valV_pos rfl] at this
  exact this
theorem tri_get2 (d : Dif k1 k2 k3) (h : H p = some (.dK (tri k1 k2 k3 a b c))) : DGet H p (.str k2) (some b) := by
  have := DGet.k (k := (.inr k2 : Key)) h
  unfold tri at this
  rw [valV_neg (inr_ne d.n12), valV_pos rfl] at this
  exact this
theorem tri_get3 (d : Dif k1 k2 k3) (h : H p = some (.dK (tri k1 k2 k3 a b c))) : DGet H p (.str k3) (some c) := by
  have := DGet.k (k := (.inr k3 : Key)) h
  unfold tri at this
  rw [valV_neg (inr_ne d.n13), valV_neg (inr_ne d.n23), valV_pos rfl] at this
  exact this
theorem tri_put2 (d : Dif k1 k2 k3) (h : H p = some (.dK (tri k1 k2 k3 a b c))) : DPut H p (.str k2) v (upd H p (.dK (tri k1 k2 k3 a v c))) := by
  have := DPut.k (k := (.inr k2 : Key)) (v := v) h (by show 3 < sizeLine; decide)
  have e : putK (tri k1 k2 k3 a b c) (.inr k2) v = tri k1 k2 k3 a v c := by
    simp [putK, tri, d.n12, d.n23, Ne.symm d.n23]
  rw [e] at this
  exact this
theorem tri_put3 (d : Dif k1 k2 k3) (h : H p = some (.dK (tri k1 k2 k3 a b c))) : DPut H p (.str k3) v (upd H p (.dK (tri k1 k2 k3 a b v))) := by
  have := DPut.k (k := (.inr k3 : Key)) (v := v) h (by show 3 < sizeLine; decide)
  have e : putK (tri k1 k2 k3 a b c) (.inr k3) v = tri k1 k2 k3 a b v := by
    simp [putK, tri, d.n13, d.n23]
  rw [e] at this
  exact this
theorem tri_disp (d : Dif k1 k2 k3) : mergeK [] (tri k1 k2 k3 a b c) = tri k1 k2 k3 a b c := by
  simp [mergeK, putK, tri, d.n12, d.n13, d.n23]
end
/-! ### data -/
theorem dp_ints {K : PySem.W.Frag} {H : Hp} : ∀ ns : List Int, DpAll K H (ns.map V.int) (ns.map PyData.int)
  | [] => .nil
  | n :: r => .cons (.int n) (dp_ints r)
theorem lay_ints : ∀ ns : List Int, PyData.canLayAll0 (ns.map PyData.int) = true
  | [] => rfl
  | n :: r => by
    show (PyData.canLay0 (.int n) && PyData.canLayAll0 (r.map PyData.int)) = true
    rw [lay_ints r]
    rfl
theorem dep_ints : ∀ ns : List Int, PyData.depthAll (ns.map PyData.int) = 0
  | [] => rfl
  | n :: r => by
    show max (PyData.depth (.int n)) (PyData.depthAll (r.map PyData.int)) = 0
    rw [dep_ints r]
    rfl
theorem shaped_ints (ns : List Int) : SeqAt.shaped (.list (ns.map PyData.int)) = true := by
  show (PyData.canLayAll0 (ns.map PyData.int) && decide (PyData.depthAll (ns.map PyData.int) + 1 ≤ 64)) = true
  rw [lay_ints, dep_ints]
  rfl
theorem shaped_intsT (ns : List Int) : SeqAt.shaped (.tuple (ns.map PyData.int)) = true := shaped_ints ns
theorem eqv_nil (ds : List PyData) : PyData.eqv (.list ds) (.list []) = ds.isEmpty := by
  cases ds <;> rfl
/-! ### defs with one default -/
section
variable {P : Program} {w : World} {K : PySem.W.Frag} {mg : Str → Option Value} {base : Heap}
theorem funD_ok0 {x qual : Str} {st : Stmt} {dvs : List V} {kws : List (Str × V)} {f : Addr} {fd : FuncData} {N ps : List Str} {k : Nat} {sp : Sp} (F : FunD K x qual (defArgs st) (defBody st) (defScope st) dvs kws f fd)
    (S : FnScope N ps (defScope st)) (len : ∀ vs H Q E, sp vs H Q E → vs.length = ps.length)
    (hb : ∀ (cdv : Value) (A : Around) (outer : List Env) (s : Shared) (H : Hp) (vs : List V) (Q : VK) (E : XK), Room k (A.deeper (envOfC qual (defScope st) s.heap.objs.size f cdv)) → sp vs H Q E →
      ∃ t, PSs (cxOf CX0 P w K mg base N qual (defScope st) f cdv A outer s H E).nox (defBody st) t ∧ t { nx := fun _ H' => Q .non H', rt := Q } (start N vs) H) : FnOk P w K mg base CX0 (k + 1) f fd ps sp :=
  F.ok S len fun cdv A outer s H vs Q E hr h => by
    obtain ⟨t, h1, h2⟩ := hb cdv A outer s H vs Q E hr h
    exact ⟨t, h1.nox, h2⟩
theorem funD_mk {x qual : Str} {st : Stmt} {dv : V} {u : Value} {f T : Addr} {oc : Value} {od an : Option Addr} {osl : Array (Option Value)} {kV doc pm cdv ct : Value} {oT : Obj} {n : Nat}
    (l : K.lookup f = some ⟨oc, od, .func (PySem.W.fnOf x qual (defArgs st) (defBody st) (defScope st) (.ref T) kV doc pm an cdv ct), osl⟩) (c : PySem.W.codeIn K cdv qual = true) (k : PySem.W.keepIn K (.ref f) = true)
    (lT : K.lookup T = some oT) (hT : oT.data = .seq #[u] n) (r : RelV dv u) :
    FunD K x qual (defArgs st) (defBody st) (defScope st) [dv] [] f (PySem.W.fnOf x qual (defArgs st) (defBody st) (defScope st) (.ref T) kV doc pm an cdv ct) :=
  ⟨⟨oc, od, _, kV, doc, pm, an, cdv, ct, osl, rfl, l, c, .inr ⟨by simp, T, oT, [u], n, rfl, lT, hT, .cons r .nil⟩, .inl rfl⟩, k⟩
theorem binds_nil {fd : FuncData} {ps : List Str} (h : ∃ ds, Vals [] ds ∧ Binds K fd ps ds) : Binds K fd ps [] := by
  obtain ⟨ds, h1, h2⟩ := h
  cases h1
  exact h2
end
/-! ### f(k = v, ..): keywords alone -/
section
variable {X : Cx} {CX : CXT} {k : Nat} {f : Addr} {fd : FuncData} {ps ks : List Str} {sp : Sp} {E : XK} {x : Str} {p pos : Pos} {kws : List Keyword} {tk : TA} {g : List Value → List Value → List Value} {gV : List V → List V → List V}
theorem pe_callN0 (F : FnOk X.prog X.w X.K X.mg X.base CX k f fd ps sp) (hr : Room k X.A) (hg : Gl X x) (hm : X.mg x = some (.ref f)) (hk : PySem.W.keepIn X.K (.ref f) = true) (hb : KBn X.K fd ps 0 ks g gV) (hx : Passes CX X E) (hkw : PK X kws tk)
    (hall : (backToKw pos (keywordEach kws X.env)).all (·.1.isSome) = true := by rfl) (hks : (backToKw pos (keywordEach kws X.env)).filterMap (·.1) = ks := by rfl) (hdb : (x == ("__debug__" : Str)) = false := by decide)
    (hpl : ((backTo pos (starEach [] X.env)).any (·.1) || (backToKw pos (keywordEach kws X.env)).any (·.1.isNone)) = false := by rfl) :
    PE X (.Call (.Name x p) [] kws pos) (tCallN 0 ks.length sp gV E tNil tk) := by
  refine ⟨fun pins s σ H Q I h => ?_⟩
  refine wpAny_Call_Name_kw (ld_glob I hg hm ?_ hdb)
  refine PySem.W.callWith_KW0 (h₀ := X.base) I.ok.mod.kin hk hall ?_ hpl
  refine thn (hkw.run pos pins s σ H _ I h) fun ws s2 ⟨zs, H2, I2, rz, l1, l2, q2⟩ => ⟨I2.kIn, ?_⟩
  rw [hks]
  exact run_fnN (us := []) (vs := []) F hr hb hx I2 .nil rz rfl l2 q2
end
theorem kb_of {K : PySem.W.Frag} {x qual : Str} {st : Stmt} {f : Addr} {fd : FuncData} {ps ks : List Str} {n : Nat} {g : List Value → List Value → List Value} {gV : List V → List V → List V} (F : Fun K x qual st f fd)
    (h : ∀ (kV doc pm : Value) (an : Option Addr) (cdv ct : Value) (us ws : List Value), us.length = n → ws.length = ks.length → bindArgs (PySem.W.fnOf x qual (defArgs st) (defBody st) (defScope st) .none kV doc pm an cdv ct) ⟨us, ks.zip ws⟩ = pure (ps.zip (g us ws)))
    (rel : ∀ {vs : List V} {us : List Value} {zs : List V} {ws : List Value}, Vals vs us → Vals zs ws → Vals (gV vs zs) (g us ws)) : KBn K fd ps n ks g gV := by
  obtain ⟨oc, od, kV, doc, pm, an, cdv, ct, osl, rfl, lk, hcd⟩ := F.ex
  exact ⟨fun s us ws _ h1 h2 => .of_eq (h kV doc pm an cdv ct us ws h1 h2), rel⟩
end HX
set_option linter.all false
/-! turns and values: integers by the places where their bits change (plain mathematics) -/
namespace TV
/-- the value of ascending turns, the first with sign s -/
def tvs : Int → List Nat → Int
  | _, [] => 0
  | s, t :: r => s * 2 ^ t + tvs (-s) r
def tv (ts : List Nat) : Int := tvs (-1) ts
def Asc : List Nat → Prop
  | [] => True
  | [_] => True
  | a :: b :: r => a < b ∧ Asc (b :: r)
theorem Asc.tail {a : Nat} {r : List Nat} (h : Asc (a :: r)) : Asc r := by
  cases r with
  | nil => trivial
  | cons b r => exact h.2
theorem Asc.lt {a : Nat} : ∀ {r : List Nat}, Asc (a :: r) → ∀ b ∈ r, a < b
  | [], _, b, hb => by simp at hb
  | c :: r, h, b, hb => by
    rcases List.mem_cons.mp hb with rfl | hb
    · exact h.1
    · exact Nat.lt_trans h.1 (Asc.lt h.2 b hb)
theorem asc_cons {a : Nat} {r : List Nat} (h : ∀ b ∈ r, a < b) (hr : Asc r) : Asc (a :: r) := by
  cases r with
  | nil => trivial
  | cons b r => exact ⟨h b (by simp), hr⟩
theorem asc_pairwise : ∀ {l : List Nat}, Asc l ↔ l.Pairwise (· < ·)
  | [] => by simp [Asc]
  | a :: r => by
    rw [List.pairwise_cons]
    constructor
    · intro h
      exact ⟨fun b hb => Asc.lt h b hb, asc_pairwise.mp h.tail⟩
    · rintro ⟨h1, h2⟩
      exact asc_cons h1 (asc_pairwise.mpr h2)
theorem tvs_neg (s : Int) : ∀ ts, tvs (-s) ts = -tvs s ts
  | [] => by simp [tvs]
  | t :: r => by
    have := tvs_neg (-s) r
    simp only [tvs, Int.neg_neg] at *
    rw [Int.neg_mul]
    omega
theorem tv_cons (t : Nat) (r : List Nat) : tv (t :: r) = -(2 ^ t) - tv r := by
  show (-1 : Int) * 2 ^ t + tvs (- -1) r = -(2 ^ t) - tvs (-1) r
  rw [tvs_neg (-1) r]
  omega
theorem tv_nil : tv [] = 0 := rfl
/-- the bit of n at p -/
def tb (n : Int) (p : Nat) : Bool := decide (n / 2 ^ p % 2 = 1)
theorem tb_zero (n : Int) : tb n 0 = decide (n % 2 = 1) := by simp [tb]
theorem tb_succ (n : Int) (p : Nat) : tb n (p + 1) = tb (n / 2) p := by
  unfold tb
  rw [Int.pow_succ, Int.mul_comm, ← Int.ediv_ediv_of_nonneg (by decide)]
/-- how many turns are at most p -/
def cnt (ts : List Nat) (p : Nat) : Nat := ts.countP fun t => decide (t ≤ p)
theorem cnt_nil (p : Nat) : cnt [] p = 0 := rfl
theorem cnt_cons (t : Nat) (r : List Nat) (p : Nat) : cnt (t :: r) p = cnt r p + if t ≤ p then 1 else 0 := by
  unfold cnt
  rw [List.countP_cons]
  simp
theorem cnt_zero {ts : List Nat} {p : Nat} (h : ∀ t ∈ ts, p < t) : cnt ts p = 0 := by
  unfold cnt
  rw [List.countP_eq_zero]
  intro t ht
  have := h t ht
  simp
  omega
/-- halving: the value of shifted turns -/
theorem tv_map_succ : ∀ ts : List Nat, tv (ts.map (· + 1)) = 2 * tv ts
  | [] => rfl
  | t :: r => by
    rw [List.map_cons, tv_cons, tv_cons, tv_map_succ r, Int.pow_succ]
    omega
theorem pred_map {ts : List Nat} (h : ∀ t ∈ ts, 0 < t) : (ts.map (· - 1)).map (· + 1) = ts := by
  rw [List.map_map]
  conv => rhs; rw [← List.map_id ts]
  apply List.map_congr_left
  intro t ht
  have := h t ht
  show t - 1 + 1 = t
  omega
theorem asc_pred : ∀ {ts : List Nat}, Asc ts → (∀ t ∈ ts, 0 < t) → Asc (ts.map (· - 1))
  | [], _, _ => trivial
  | [_], _, _ => trivial
  | a :: b :: r, h, h0 => by
    have ha := h0 a (by simp)
    refine ⟨by have := h.1; show a - 1 < b - 1; omega, asc_pred h.2 fun t ht => h0 t (by simp [ht])⟩
theorem cnt_succ {ts : List Nat} (h : ∀ t ∈ ts, 0 < t) (p : Nat) : cnt ts (p + 1) = cnt (ts.map (· - 1)) p := by
  unfold cnt
  rw [List.countP_map]
  apply List.countP_congr
  intro t ht
  have := h t ht
  simp

/-- the bits of a row of turns: how many are passed, odd or even -/
theorem tb_tv : ∀ (p : Nat) {ts : List Nat}, Asc ts → tb (tv ts) p = decide (cnt ts p % 2 = 1)
  | 0, [], _ => by decide
  | 0, t :: r, h => by
    have hr : ∀ b ∈ r, 0 < b := fun b hb => by have := Asc.lt h b hb; omega
    have e : tv r = 2 * tv (r.map (· - 1)) := by
      rw [← tv_map_succ, pred_map hr]
    rw [tb_zero, tv_cons, cnt_cons, cnt_zero hr, e]
    cases t with
    | zero => simp
    | succ t =>
      rw [Int.pow_succ]
      simp

  | p + 1, [], _ => by
    rw [tb_succ]
    exact tb_tv p (ts := []) trivial
  | p + 1, t :: r, h => by
    have hr : ∀ b ∈ r, 0 < b := fun b hb => by have := Asc.lt h b hb; omega
    have er : tv r = 2 * tv (r.map (· - 1)) := by
      rw [← tv_map_succ, pred_map hr]
    rw [tb_succ]
    cases t with
    | succ t =>
      have h0 : ∀ b ∈ (t + 1) :: r, 0 < b := fun b hb => by
        rcases List.mem_cons.mp hb with rfl | hb
        · omega
        · exact hr b hb
      have e : tv ((t + 1) :: r) = 2 * tv (((t + 1) :: r).map (· - 1)) := by
        rw [← tv_map_succ, pred_map h0]
      rw [e, Int.mul_ediv_cancel_left _ (by decide), tb_tv p (asc_pred h h0), cnt_succ h0]
    | zero =>
      -- n = -1 - 2 m = 2 (-m - 1) + 1
      rw [tv_cons, er]
      have e2 : (-(2 ^ 0) - 2 * tv (r.map (· - 1)) : Int) / 2 = -tv (r.map (· - 1)) - 1 := by
        rw [Int.pow_zero]
        omega
      rw [e2, cnt_cons, if_pos (Nat.zero_le _)]
      have hA : Asc (r.map (· - 1)) := asc_pred h.tail hr
      have ih := tb_tv p hA
      -- the bits of -m - 1 are those of m turned
      have e3 : tb (-tv (r.map (· - 1)) - 1) p = !tb (tv (r.map (· - 1))) p := by
        unfold tb
        generalize tv (r.map (· - 1)) = m
        have hp : (0 : Int) < 2 ^ p := Int.pow_pos (by decide)
        have e4 : (-m - 1) / 2 ^ p = -(m / 2 ^ p) - 1 := by
          have h1 := Int.emod_nonneg m (Int.ne_of_gt hp)
          have h2 := Int.emod_lt_of_pos m hp
          have h3 := Int.mul_ediv_add_emod m (2 ^ p)
          rw [show -m - 1 = (2 ^ p - 1 - m % 2 ^ p) + 2 ^ p * (-(m / 2 ^ p) - 1) by
            rw [Int.mul_sub, Int.mul_neg]
            omega]
          rw [Int.add_mul_ediv_left _ _ (Int.ne_of_gt hp), Int.ediv_eq_zero_of_lt (by omega) (by omega), Int.zero_add]
        rw [e4]
        generalize m / 2 ^ p = q
        rcases Int.emod_two_eq q with e | e
        · simp [e]; omega
        · simp [e]; omega
      rw [e3, ih, cnt_succ hr]
      rcases Nat.mod_two_eq_zero_or_one (cnt (r.map (· - 1)) p) with e | e
      · simp [e]; omega
      · simp [e]; omega
/-- integers with the same bits are equal -/
theorem tb_ext {n m : Int} (h : ∀ p, tb n p = tb m p) : n = m := by
  have key : ∀ (k : Nat) (n m : Int), (∀ p, tb n p = tb m p) → (n - m) % 2 ^ k = 0 := by
    intro k
    induction k with
    | zero => intro n m _; simp
    | succ k ih =>
      intro n m h
      have h0 := h 0
      rw [tb_zero, tb_zero] at h0
      have h1 := ih (n / 2) (m / 2) fun p => by
        have := h (p + 1)
        rwa [tb_succ, tb_succ] at this
      have hm : n % 2 = m % 2 := by
        have e1 := Int.emod_two_eq n
        have e2 := Int.emod_two_eq m
        rcases e1 with e1 | e1 <;> rcases e2 with e2 | e2 <;> simp [e1, e2] at h0 ⊢
      obtain ⟨c, hc⟩ := Int.dvd_of_emod_eq_zero h1
      have : n - m = 2 ^ (k + 1) * c := by
        have e1 : n - m = 2 * (n / 2 - m / 2) := by omega
        rw [e1, hc, Int.pow_succ]
        rw [← Int.mul_assoc, Int.mul_comm 2]
      rw [this, Int.mul_emod_right]
  apply Classical.byContradiction
  intro hne
  have hd := key (n - m).natAbs n m h
  have hlt : (n - m).natAbs < 2 ^ (n - m).natAbs := Nat.lt_two_pow_self
  obtain ⟨c, hc⟩ := Int.dvd_of_emod_eq_zero hd
  have h1 : (n - m).natAbs = 2 ^ (n - m).natAbs * c.natAbs := by
    conv => lhs; rw [hc]
    rw [Int.natAbs_mul, Int.natAbs_pow]
    rfl
  have h2 : c.natAbs ≠ 0 := by
    intro e
    rw [e] at h1
    omega
  have h3 : 2 ^ (n - m).natAbs * 1 ≤ 2 ^ (n - m).natAbs * c.natAbs := Nat.mul_le_mul_left _ (by omega)
  omega
theorem mem_cnt {ts : List Nat} (h : Asc ts) (p : Nat) : p ∈ ts ↔ cnt ts p ≠ (if p = 0 then 0 else cnt ts (p - 1)) := by
  induction ts with
  | nil => simp [cnt]
  | cons t r ih =>
    have ih := ih h.tail
    rw [List.mem_cons, cnt_cons, cnt_cons]
    have hlt := fun b hb => Asc.lt h b hb
    by_cases e : p = t
    · subst e
      have hz : cnt r p = 0 := cnt_zero hlt
      by_cases p0 : p = 0
      · simp [p0] at *

      · have hz2 : cnt r (p - 1) = 0 := cnt_zero fun b hb => by have := hlt b hb; omega
        simp [p0, hz, hz2]
        omega
    · by_cases p0 : p = 0
      · subst p0
        have hz : cnt r 0 = 0 := cnt_zero fun b hb => by have := hlt b hb; omega
        simp at *
        constructor
        · rintro (z | z)
          · omega
          · have := hlt 0 z; omega
        · intro z
          omega
      · simp only [p0, if_false] at *
        rw [ih]
        simp only [e, false_or]
        by_cases c : t ≤ p
        · have c2 : t ≤ p - 1 := by omega
          simp [c, c2]
        · have c2 : ¬ t ≤ p - 1 := by omega
          simp [c, c2]
theorem cnt_mono (ts : List Nat) (p : Nat) : Asc ts → cnt ts p ≤ cnt ts (p + 1) ∧ cnt ts (p + 1) ≤ cnt ts p + 1 := by
  intro h
  induction ts with
  | nil => simp [cnt]
  | cons t r ih =>
    have ih := ih h.tail
    have hlt := fun b hb => Asc.lt h b hb
    rw [cnt_cons, cnt_cons]
    by_cases c : t ≤ p
    · have : t ≤ p + 1 := by omega
      simp [c, this]
      omega
    · by_cases c2 : t ≤ p + 1
      · have e : t = p + 1 := by omega
        have hz : cnt r (p + 1) = 0 := cnt_zero fun b hb => by have := hlt b hb; omega
        have hz2 : cnt r p = 0 := cnt_zero fun b hb => by have := hlt b hb; omega
        simp [c, c2, hz, hz2]
      · simp [c, c2]
        omega
/-- p is a turn exactly if the bit there differs from the one before -/
theorem mem_tb {ts : List Nat} (h : Asc ts) (p : Nat) : p ∈ ts ↔ tb (tv ts) p ≠ (if p = 0 then false else tb (tv ts) (p - 1)) := by
  rw [mem_cnt h, tb_tv p h]
  by_cases p0 : p = 0
  · subst p0
    have : cnt ts 0 ≤ 1 := by
      cases ts with
      | nil => simp [cnt]
      | cons t r =>
        rw [cnt_cons, cnt_zero fun b hb => by have := Asc.lt h b hb; omega]
        split <;> omega
    simp
    omega
  · obtain ⟨q, rfl⟩ : ∃ q, p = q + 1 := ⟨p - 1, by omega⟩
    simp only [Nat.add_sub_cancel, Nat.add_one_ne_zero, if_false]
    rw [tb_tv q h]
    have := cnt_mono ts q h
    have h2 := Nat.mod_two_eq_zero_or_one (cnt ts q)
    have h3 := Nat.mod_two_eq_zero_or_one (cnt ts (q + 1))
    rcases h2 with e2 | e2 <;> rcases h3 with e3 | e3 <;> simp [e2, e3] <;> omega
theorem asc_ext : ∀ {ts us : List Nat}, Asc ts → Asc us → (∀ p, p ∈ ts ↔ p ∈ us) → ts = us
  | [], [], _, _, _ => rfl
  | [], u :: _, _, _, h => absurd ((h u).mpr (by simp)) (by simp)
  | t :: _, [], _, _, h => absurd ((h t).mp (by simp)) (by simp)
  | t :: r, u :: q, h1, h2, h => by
    have e : t = u := by
      have a := (h t).mp (by simp)
      have b := (h u).mpr (by simp)
      rcases List.mem_cons.mp a with a | a
      · exact a
      · rcases List.mem_cons.mp b with b | b
        · exact b.symm
        · have := Asc.lt h2 t a
          have := Asc.lt h1 u b
          omega
    subst e
    congr 1
    refine asc_ext h1.tail h2.tail fun p => ?_
    constructor
    · intro hp
      have := Asc.lt h1 p hp
      rcases List.mem_cons.mp ((h p).mp (by simp [hp])) with z | z
      · omega
      · exact z
    · intro hp
      have := Asc.lt h2 p hp
      rcases List.mem_cons.mp ((h p).mpr (by simp [hp])) with z | z
      · omega
      · exact z
/-- one integer, one row of turns -/
theorem tv_inj {ts us : List Nat} (h1 : Asc ts) (h2 : Asc us) (h : tv ts = tv us) : ts = us :=
  asc_ext h1 h2 fun p => by rw [mem_tb h1, mem_tb h2, h]
/-! ### every integer has its turns -/
theorem asc_succ : ∀ {ts : List Nat}, Asc ts → Asc (ts.map (· + 1))
  | [], _ => trivial
  | [_], _ => trivial
  | a :: b :: r, h => ⟨by have := h.1; show a + 1 < b + 1; omega, asc_succ h.2⟩
theorem turns_ex : ∀ n : Int, ∃ ts, Asc ts ∧ tv ts = n := by
  have key : ∀ (k : Nat) (n : Int), 2 * n.natAbs + (if 0 < n then 1 else 0) ≤ k → ∃ ts, Asc ts ∧ tv ts = n := by
    intro k
    induction k with
    | zero =>
      intro n h
      have : n = 0 := by omega
      subst this
      exact ⟨[], trivial, rfl⟩
    | succ k ih =>
      intro n h
      by_cases h0 : n = 0
      · subst h0
        exact ⟨[], trivial, rfl⟩
      rcases Int.emod_two_eq n with e | e
      · obtain ⟨ts, h1, h2⟩ := ih (n / 2) (by split at h <;> split <;> omega)
        exact ⟨ts.map (· + 1), asc_succ h1, by rw [tv_map_succ, h2]; omega⟩
      · obtain ⟨ts, h1, h2⟩ := ih (-(n / 2) - 1) (by split at h <;> split <;> omega)
        refine ⟨0 :: ts.map (· + 1), asc_cons (fun b hb => ?_) (asc_succ h1), ?_⟩
        · obtain ⟨c, _, rfl⟩ := List.mem_map.mp hb
          omega
        · rw [tv_cons, tv_map_succ, h2, Int.pow_zero]
          omega
  intro n
  exact key _ n (Nat.le_refl _)
/-! ### the marks: a one at each turn -/
open PySem PyProof.Rows PySem.W in
theorem tb_and (x y : Int) : ∀ p, tb (Builtin.bitAnd x y) p = (tb x p && tb y p) := by
  intro p
  induction p generalizing x y with
  | zero =>
    rw [tb_zero, tb_zero, tb_zero, kbt_halves x y]
    have h1 := Int.emod_two_eq x
    have h2 := Int.emod_two_eq y
    rcases h1 with h1 | h1 <;> rcases h2 with h2 | h2 <;> simp [h1, h2] <;> omega
  | succ p ih =>
    rw [tb_succ, tb_succ, tb_succ, ← ih]
    congr 1
    rw [kbt_halves x y]
    split <;> omega
open PySem PyProof.Rows PySem.W in
theorem tb_xor (x y : Int) : ∀ p, tb (Builtin.bitXor x y) p = (tb x p ^^ tb y p) := by
  intro p
  induction p generalizing x y with
  | zero =>
    rw [tb_zero, tb_zero, tb_zero, bitXor_and x y]
    have h1 := Int.emod_two_eq x
    have h2 := Int.emod_two_eq y
    rcases h1 with h1 | h1 <;> rcases h2 with h2 | h2 <;> simp [h1, h2] <;> omega
  | succ p ih =>
    rw [tb_succ, tb_succ, tb_succ, ← ih]
    congr 1
    rw [bitXor_and, bitXor_and, kbt_halves x y]
    have h1 := Int.emod_two_eq x
    have h2 := Int.emod_two_eq y
    rcases h1 with h1 | h1 <;> rcases h2 with h2 | h2 <;> simp [h1, h2] <;> omega
/-- the sum of the powers of two at the turns -/
def psum : List Nat → Int
  | [] => 0
  | t :: r => 2 ^ t + psum r
theorem psum_map_succ : ∀ ts : List Nat, psum (ts.map (· + 1)) = 2 * psum ts
  | [] => rfl
  | t :: r => by
    rw [List.map_cons, psum, psum, psum_map_succ r, Int.pow_succ]
    omega
theorem psum_nonneg : ∀ ts : List Nat, 0 ≤ psum ts
  | [] => Int.le_refl _
  | t :: r => by
    have := psum_nonneg r
    have : (0 : Int) < 2 ^ t := Int.pow_pos (by decide)
    show 0 ≤ 2 ^ t + psum r
    omega
theorem psum_low {t : Nat} : ∀ {r : List Nat}, (∀ b ∈ r, t < b) → ∃ c, psum r = 2 ^ (t + 1) * c
  | [], _ => ⟨0, by simp [psum]⟩
  | b :: r, h => by
    obtain ⟨c, e⟩ := psum_low (r := r) fun x hx => h x (by simp [hx])
    have hb := h b (by simp)
    refine ⟨2 ^ (b - (t + 1)) + c, ?_⟩
    rw [psum, e, Int.mul_add, ← Int.pow_add]
    congr 3
    omega
theorem psum_cons {t : Nat} {r : List Nat} (h : Asc (t :: r)) : ∃ c, psum (t :: r) = 2 ^ t * (2 * c + 1) := by
  obtain ⟨c, e⟩ := psum_low fun b hb => Asc.lt h b hb
  refine ⟨c, ?_⟩
  rw [psum, e, Int.pow_succ, Int.mul_add, Int.mul_one, ← Int.mul_assoc]
  omega
theorem tb_psum : ∀ (p : Nat) {ts : List Nat}, Asc ts → tb (psum ts) p = decide (p ∈ ts)
  | p, [], _ => by simp [psum, tb]
  | 0, t :: r, h => by
    have hr : ∀ b ∈ r, 0 < b := fun b hb => by have := Asc.lt h b hb; omega
    have e : psum r = 2 * psum (r.map (· - 1)) := by rw [← psum_map_succ, pred_map hr]
    have hn : 0 ∉ r := fun z => by have := hr 0 z; omega
    rw [tb_zero, psum, e]
    cases t with
    | zero => simp
    | succ t =>
      rw [Int.pow_succ]
      simp [hn]

  | p + 1, t :: r, h => by
    have hr : ∀ b ∈ r, 0 < b := fun b hb => by have := Asc.lt h b hb; omega
    have er : psum r = 2 * psum (r.map (· - 1)) := by rw [← psum_map_succ, pred_map hr]
    have hA := asc_pred h.tail hr
    have hm : ∀ {l : List Nat}, (∀ b ∈ l, 0 < b) → (p ∈ l.map (· - 1) ↔ p + 1 ∈ l) := fun {l} hl => by
      rw [List.mem_map]
      constructor
      · rintro ⟨a, ha, e⟩
        have := hl a ha
        have : a = p + 1 := by omega
        exact this ▸ ha
      · intro hp
        exact ⟨p + 1, hp, by omega⟩
    rw [tb_succ, psum]
    cases t with
    | zero =>
      rw [er, show ((2 : Int) ^ 0 + 2 * psum (r.map (· - 1))) / 2 = psum (r.map (· - 1)) by rw [Int.pow_zero]; omega, tb_psum p hA]
      simp [hm hr]
    | succ t =>
      have h0 : ∀ b ∈ (t + 1) :: r, 0 < b := fun b hb => by
        rcases List.mem_cons.mp hb with rfl | hb
        · omega
        · exact hr b hb
      have e : (2 : Int) ^ (t + 1) + psum r = 2 * psum (((t + 1) :: r).map (· - 1)) := by
        show psum ((t + 1) :: r) = _
        rw [← psum_map_succ, pred_map h0]
      rw [e, Int.mul_ediv_cancel_left _ (by decide), tb_psum p (asc_pred h h0)]
      exact decide_eq_decide.mpr (hm h0)
theorem tb_dbl (n : Int) (p : Nat) : tb (n * 2) p = if p = 0 then false else tb n (p - 1) := by
  cases p with
  | zero => simp [tb_zero]
  | succ p => rw [tb_succ, Int.mul_ediv_cancel _ (by decide)]; simp
open PySem PyProof.Rows PySem.W in
theorem marks {ts : List Nat} (h : Asc ts) : Builtin.bitXor (tv ts) (tv ts * 2) = psum ts := by
  apply tb_ext
  intro p
  rw [tb_xor, tb_dbl, tb_psum p h]
  have := mem_tb h p
  by_cases hp : p ∈ ts
  · rw [decide_eq_true hp]
    have := this.mp hp
    revert this
    cases tb (tv ts) p <;> cases (if p = 0 then false else tb (tv ts) (p - 1)) <;> simp
  · rw [decide_eq_false hp]
    have h2 : ¬ _ := fun z => hp (this.mpr z)
    revert h2
    cases tb (tv ts) p <;> cases (if p = 0 then false else tb (tv ts) (p - 1)) <;> simp
open PySem PyProof.Rows PySem.W in
/-- one step of reading the marks -/
theorem low_mark {t : Nat} {r : List Nat} (h : Asc (t :: r)) : Builtin.bitAnd (psum (t :: r)) (-psum (t :: r)) = 2 ^ t := by
  obtain ⟨c, e⟩ := psum_cons h
  rw [e]
  exact kbt_low t c
open PySem PyProof.Rows PySem.W in
theorem off_mark {t : Nat} {r : List Nat} (h : Asc (t :: r)) : Builtin.bitXor (psum (t :: r)) (2 ^ t) = psum r := by
  obtain ⟨c, e⟩ := psum_cons h
  have hp : (0 : Int) < 2 ^ t := Int.pow_pos (by decide)
  rw [bitXor_and, kbt_bit]
  have e2 : psum (t :: r) / 2 ^ t % 2 = 1 := by
    rw [e, Int.mul_ediv_cancel_left _ (Int.ne_of_gt hp)]
    omega
  rw [e2, psum]
  omega
theorem psum_pos {t : Nat} {r : List Nat} : 0 < psum (t :: r) := by
  have := psum_nonneg r
  have : (0 : Int) < 2 ^ t := Int.pow_pos (by decide)
  show 0 < 2 ^ t + psum r
  omega
/-! ### the sign of a row of turns -/
theorem tv_bound : ∀ {ts : List Nat} {k : Nat}, Asc ts → (∀ t ∈ ts, t < k) → -(2 ^ k) < tv ts ∧ tv ts < 2 ^ k
  | [], k, _, _ => by
    have : (0 : Int) < 2 ^ k := Int.pow_pos (by decide)
    rw [tv_nil]
    omega
  | [t], k, h, hb => by
    have h1 := hb t (by simp)
    have h2 : (2 : Int) ^ t < 2 ^ k := Int.pow_lt_pow_of_lt (by decide) h1
    have h3 : (0 : Int) < 2 ^ t := Int.pow_pos (by decide)
    rw [tv_cons, tv_nil]
    omega
  | t :: u :: r, k, h, hb => by
    -- the rest is between -2^k and 2^k, and has a low part
    have ih := tv_bound h.tail (fun x hx => hb x (by simp [hx]))
    have h1 := hb t (by simp)
    have h3 : (0 : Int) < 2 ^ t := Int.pow_pos (by decide)
    -- tv (u :: r) is a multiple of 2 ^ (t + 1)
    have hm : ∀ {l : List Nat}, (∀ b ∈ l, t < b) → ∃ c, tv l = 2 ^ (t + 1) * c := by
      intro l
      induction l with
      | nil => intro _; exact ⟨0, by simp [tv_nil]⟩
      | cons b l ihl =>
        intro hl
        obtain ⟨c, e⟩ := ihl fun x hx => hl x (by simp [hx])
        have hbt := hl b (by simp)
        refine ⟨-(2 ^ (b - (t + 1))) - c, ?_⟩
        rw [tv_cons, e, Int.mul_sub, Int.mul_neg, ← Int.pow_add]
        congr 3
        omega
    obtain ⟨c, e⟩ := hm fun b hb => Asc.lt h b hb
    have e2 : (2 : Int) ^ k = 2 ^ (t + 1) * 2 ^ (k - (t + 1)) := by
      rw [← Int.pow_add]
      congr 1
      omega
    rw [tv_cons]
    have h4 : (2 : Int) ^ (t + 1) = 2 * 2 ^ t := by rw [Int.pow_succ]; omega
    rw [e, e2] at ih
    have hq : (0 : Int) < 2 ^ (t + 1) := Int.pow_pos (by decide)
    have a1 : -(2 ^ (k - (t + 1))) < c := by
      have := ih.1
      rw [← Int.mul_neg] at this
      exact Int.lt_of_mul_lt_mul_left this (Int.le_of_lt hq)
    have a2 : c < 2 ^ (k - (t + 1)) := Int.lt_of_mul_lt_mul_left ih.2 (Int.le_of_lt hq)
    rw [e, e2]
    generalize hz : (2 : Int) ^ (k - (t + 1)) = z at *
    generalize hy : (2 : Int) ^ (t + 1) = y at *
    have b1 : y * (c + 1) ≤ y * z := Int.mul_le_mul_of_nonneg_left (by omega) (by omega)
    have b2 : y * (-z + 1) ≤ y * c := Int.mul_le_mul_of_nonneg_left (by omega) (by omega)
    rw [Int.mul_add, Int.mul_one] at b1 b2
    rw [Int.mul_neg] at b2
    omega
/-- the sign of a row: odd rows are below 0 -/
theorem tv_sign : ∀ {ts : List Nat} {t : Nat}, Asc (ts ++ [t]) → (tv (ts ++ [t]) < 0 ↔ ts.length % 2 = 0) ∧ tv (ts ++ [t]) ≠ 0 := by
  intro ts t h
  have hlow : ∀ x ∈ ts, x < t := by
    have := asc_pairwise.mp h
    rw [List.pairwise_append] at this
    exact fun x hx => this.2.2 x hx t (by simp)
  have hA : Asc ts := by
    have := asc_pairwise.mp h
    rw [List.pairwise_append] at this
    exact asc_pairwise.mpr this.1
  have hb := tv_bound hA hlow
  have e : tv (ts ++ [t]) = tv ts + (if ts.length % 2 = 0 then -(2 ^ t) else 2 ^ t) := by
    clear hb hA hlow h
    induction ts with
    | nil => simp [tv_cons, tv_nil]
    | cons a r ih =>
      rw [List.cons_append, tv_cons, tv_cons, ih, List.length_cons]
      split <;> split <;> omega
  rw [e]
  split <;> constructor <;> omega
end TV
set_option linter.all false
/-! forms as data: their values; forms of one value are one form -/
namespace FM
open PySem TV
/-! ### ranges -/
theorem tb_shift (n : Int) (k p : Nat) : tb (n / 2 ^ k) p = tb n (k + p) := by
  unfold tb
  rw [Int.pow_add, Int.ediv_ediv_of_nonneg (Int.le_of_lt (Int.pow_pos (by decide)))]
theorem tb_top (p : Nat) : tb 0 p = false := by simp [tb]
theorem tb_neg1 : ∀ p : Nat, tb (-1) p = true
  | 0 => by decide
  | p + 1 => by
    rw [tb_succ]
    exact tb_neg1 p
theorem cnt_all {ts : List Nat} {p : Nat} (h : ∀ t ∈ ts, t ≤ p) : cnt ts p = ts.length := by
  unfold cnt
  rw [List.countP_eq_length]
  intro t ht
  simp
  exact h t ht
/-- all turns at most k: exactly the integers of k bits and a sign -/
theorem tv_range {ts : List Nat} {k : Nat} (h : Asc ts) : (∀ t ∈ ts, t ≤ k) ↔ -(2 ^ k) ≤ tv ts ∧ tv ts < 2 ^ k := by
  have hp : (0 : Int) < 2 ^ k := Int.pow_pos (by decide)
  have iff1 : (-(2 ^ k) ≤ tv ts ∧ tv ts < 2 ^ k) ↔ (tv ts / 2 ^ k = 0 ∨ tv ts / 2 ^ k = -1) := by
    have h1 := Int.emod_nonneg (tv ts) (Int.ne_of_gt hp)
    have h2 := Int.emod_lt_of_pos (tv ts) hp
    have h3 := Int.mul_ediv_add_emod (tv ts) (2 ^ k)
    generalize tv ts / 2 ^ k = q at *
    generalize tv ts % 2 ^ k = r at *
    generalize (2 : Int) ^ k = z at *
    constructor
    · rintro ⟨a, b⟩
      have c1 : q < 1 := by
        apply Int.lt_of_mul_lt_mul_left (a := z) _ (by omega)
        omega
      have c2 : -2 < q := by
        apply Int.lt_of_mul_lt_mul_left (a := z) _ (by omega)
        omega
      omega
    · rintro (e | e)
      · subst e; omega
      · subst e; omega
  rw [iff1]
  constructor
  · intro ha
    have hc : ∀ p, tb (tv ts / 2 ^ k) p = decide (ts.length % 2 = 1) := fun p => by
      rw [tb_shift, tb_tv _ h, cnt_all fun t ht => by have := ha t ht; omega]
    by_cases e : ts.length % 2 = 1
    · right
      apply tb_ext
      intro p
      rw [hc, tb_neg1, decide_eq_true e]
    · left
      apply tb_ext
      intro p
      rw [hc, tb_top, decide_eq_false e]
  · intro hq t ht
    apply Nat.le_of_not_lt
    intro hlt
    have := (mem_tb h t).mp ht
    apply this
    rw [if_neg (by omega)]
    have hc : ∀ p q, k ≤ p → k ≤ q → tb (tv ts) p = tb (tv ts) q := fun p q hp hq' => by
      have e1 : tb (tv ts) p = tb (tv ts / 2 ^ k) (p - k) := by rw [tb_shift]; congr 1; omega
      have e2 : tb (tv ts) q = tb (tv ts / 2 ^ k) (q - k) := by rw [tb_shift]; congr 1; omega
      rw [e1, e2]
      rcases hq with e | e <;> rw [e]
      · rw [tb_top, tb_top]
      · rw [tb_neg1, tb_neg1]
    exact hc _ _ (by omega) (by omega)
theorem asc_len {k : Nat} : ∀ {ts : List Nat} {a : Nat}, Asc ts → (∀ t ∈ ts, a ≤ t ∧ t ≤ k) → ts.length ≤ k + 1 - a
  | [], a, _, _ => Nat.zero_le _
  | t :: r, a, h, hb => by
    have h1 := hb t (by simp)
    have := asc_len (a := t + 1) h.tail fun x hx => ⟨Asc.lt h x hx, (hb x (by simp [hx])).2⟩
    rw [List.length_cons]
    omega
/-! ### forms -/
mutual
def val : PyData → Int
  | .int i => i
  | .tuple ds => tv (vals ds)
  | _ => 0
def vals : List PyData → List Nat
  | [] => []
  | d :: r => (val d).toNat :: vals r
end
mutual
def Fm : PyData → Prop
  | .int i => -(2 ^ 64) ≤ i ∧ i < 2 ^ 64
  | .tuple ds => FmAll ds ∧ Asc (vals ds) ∧ ∃ t ∈ vals ds, 64 < t
  | _ => False
def FmAll : List PyData → Prop
  | [] => True
  | d :: r => Fm d ∧ 0 ≤ val d ∧ FmAll r
end
theorem val_int (i : Int) : val (.int i) = i := by simp [val]
theorem val_tuple (ds : List PyData) : val (.tuple ds) = tv (vals ds) := by simp [val]
theorem vals_nil : vals [] = [] := by simp [vals]
theorem vals_cons (d : PyData) (r : List PyData) : vals (d :: r) = (val d).toNat :: vals r := by simp [vals]
theorem fm_int (i : Int) : Fm (.int i) ↔ -(2 ^ 64) ≤ i ∧ i < 2 ^ 64 := by simp [Fm]
theorem fm_tuple (ds : List PyData) : Fm (.tuple ds) ↔ FmAll ds ∧ Asc (vals ds) ∧ ∃ t ∈ vals ds, 64 < t := by simp [Fm]
theorem fmAll_nil : FmAll [] := by simp [FmAll]
theorem fmAll_cons (d : PyData) (r : List PyData) : FmAll (d :: r) ↔ Fm d ∧ 0 ≤ val d ∧ FmAll r := by simp [FmAll]
theorem vals_len : ∀ ds : List PyData, (vals ds).length = ds.length
  | [] => by simp [vals]
  | d :: r => by rw [vals_cons, List.length_cons, vals_len r, List.length_cons]
theorem vals_app : ∀ ds es : List PyData, vals (ds ++ es) = vals ds ++ vals es
  | [], es => by simp [vals]
  | d :: r, es => by rw [List.cons_append, vals_cons, vals_cons, vals_app r es, List.cons_append]
theorem fmAll_app : ∀ ds es : List PyData, FmAll (ds ++ es) ↔ FmAll ds ∧ FmAll es
  | [], es => by simp [FmAll]
  | d :: r, es => by
    rw [List.cons_append, fmAll_cons, fmAll_cons, fmAll_app r es]
    exact ⟨fun ⟨a, b, c, e⟩ => ⟨⟨a, b, c⟩, e⟩, fun ⟨⟨a, b, c⟩, e⟩ => ⟨a, b, c, e⟩⟩
theorem fmAll_mem : ∀ {ds : List PyData}, FmAll ds → ∀ d ∈ ds, Fm d ∧ 0 ≤ val d
  | [], _, d, hd => by simp at hd
  | e :: r, h, d, hd => by
    rw [fmAll_cons] at h
    rcases List.mem_cons.mp hd with rfl | hd
    · exact ⟨h.1, h.2.1⟩
    · exact fmAll_mem h.2.2 d hd
theorem mem_vals : ∀ {ds : List PyData} {t : Nat}, t ∈ vals ds ↔ ∃ d ∈ ds, (val d).toNat = t
  | [], t => by simp [vals]
  | e :: r, t => by
    rw [vals_cons, List.mem_cons, mem_vals (ds := r)]
    constructor
    · rintro (h | ⟨d, h1, h2⟩)
      · exact ⟨e, by simp, h.symm⟩
      · exact ⟨d, by simp [h1], h2⟩
    · rintro ⟨d, h1, h2⟩
      rcases List.mem_cons.mp h1 with rfl | h1
      · exact .inl h2.symm
      · exact .inr ⟨d, h1, h2⟩
/-- a tuple form is no plain integer -/
theorem tuple_far {ds : List PyData} (h : Fm (.tuple ds)) : ¬ (-(2 ^ 64) ≤ val (.tuple ds) ∧ val (.tuple ds) < 2 ^ 64) := by
  rw [fm_tuple] at h
  rw [val_tuple, ← tv_range h.2.1]
  intro hc
  obtain ⟨t, ht, h64⟩ := h.2.2
  have := hc t ht
  omega
mutual
theorem fm_inj : ∀ {d e : PyData}, Fm d → Fm e → val d = val e → d = e
  | .int i, .int j, _, _, h => by
    rw [val_int, val_int] at h
    rw [h]
  | .int i, .tuple es, hd, he, h => by
    rw [fm_int] at hd
    rw [val_int] at h
    exact absurd (h ▸ hd) (tuple_far he)
  | .tuple ds, .int j, hd, he, h => by
    rw [fm_int] at he
    rw [val_int] at h
    exact absurd (h ▸ he) (tuple_far hd)
  | .tuple ds, .tuple es, hd, he, h => by
    have hd' := (fm_tuple ds).mp hd
    have he' := (fm_tuple es).mp he
    rw [val_tuple, val_tuple] at h
    rw [fmAll_inj hd'.1 he'.1 (tv_inj hd'.2.1 he'.2.1 h)]
  | .none, _, hd, _, _ => by simp [Fm] at hd
  | .bool _, _, hd, _, _ => by simp [Fm] at hd
  | .str _, _, hd, _, _ => by simp [Fm] at hd
  | .list _, _, hd, _, _ => by simp [Fm] at hd
  | .dict _, _, hd, _, _ => by simp [Fm] at hd
  | .int _, .none, _, he, _ => by simp [Fm] at he
  | .int _, .bool _, _, he, _ => by simp [Fm] at he
  | .int _, .str _, _, he, _ => by simp [Fm] at he
  | .int _, .list _, _, he, _ => by simp [Fm] at he
  | .int _, .dict _, _, he, _ => by simp [Fm] at he
  | .tuple _, .none, _, he, _ => by simp [Fm] at he
  | .tuple _, .bool _, _, he, _ => by simp [Fm] at he
  | .tuple _, .str _, _, he, _ => by simp [Fm] at he
  | .tuple _, .list _, _, he, _ => by simp [Fm] at he
  | .tuple _, .dict _, _, he, _ => by simp [Fm] at he
theorem fmAll_inj : ∀ {ds es : List PyData}, FmAll ds → FmAll es → vals ds = vals es → ds = es
  | [], [], _, _, _ => rfl
  | [], e :: r, _, _, h => by
    rw [vals_nil, vals_cons] at h
    cases h
  | d :: r, [], _, _, h => by
    rw [vals_nil, vals_cons] at h
    cases h
  | d :: r, e :: q, hd, he, h => by
    rw [vals_cons, vals_cons] at h
    injection h with h1 h2
    rw [fmAll_cons] at hd he
    have h0 := hd.2.1
    have h0' := he.2.1
    rw [fm_inj hd.1 he.1 (by omega), fmAll_inj hd.2.2 he.2.2 h2]
end
/-! ### sizes -/
mutual
def wt : PyData → Nat
  | .tuple ds => 1 + wtAll ds
  | _ => 1
def wtAll : List PyData → Nat
  | [] => 0
  | d :: r => wt d + wtAll r
end
theorem wt_int (i : Int) : wt (.int i) = 1 := by simp [wt]
theorem wt_tuple (ds : List PyData) : wt (.tuple ds) = 1 + wtAll ds := by simp [wt]
theorem wtAll_nil : wtAll [] = 0 := by simp [wtAll]
theorem wtAll_cons (d : PyData) (r : List PyData) : wtAll (d :: r) = wt d + wtAll r := by simp [wtAll]
theorem wtAll_app : ∀ ds es : List PyData, wtAll (ds ++ es) = wtAll ds + wtAll es
  | [], es => by simp [wtAll]
  | d :: r, es => by rw [List.cons_append, wtAll_cons, wtAll_cons, wtAll_app r es, Nat.add_assoc]
/-- small turns as data -/
def iD (ts : List Nat) : List PyData := ts.map fun t => .int (t : Nat)
theorem vals_iD : ∀ ts : List Nat, vals (iD ts) = ts
  | [] => by simp [iD, vals]
  | t :: r => by
    show vals (.int (t : Nat) :: iD r) = _
    rw [vals_cons, vals_iD r, val_int]
    rfl
theorem fmAll_iD : ∀ {ts : List Nat}, (∀ t ∈ ts, t < 2 ^ 64) → FmAll (iD ts)
  | [], _ => by simp [iD, FmAll]
  | t :: r, h => by
    show FmAll (.int (t : Nat) :: iD r)
    rw [fmAll_cons, val_int, fm_int]
    have := h t (by simp)
    exact ⟨by omega, by omega, fmAll_iD fun x hx => h x (by simp [hx])⟩
theorem wtAll_iD : ∀ ts : List Nat, wtAll (iD ts) = ts.length
  | [] => by simp [iD, wtAll]
  | t :: r => by
    show wtAll (.int (t : Nat) :: iD r) = _
    rw [wtAll_cons, wtAll_iD r, wt_int, List.length_cons]
    omega
/-- no other value has this form: the plain forms, the forms of few turns -/
theorem fm_small {ts : List Nat} (h : Asc ts) (hb : ∀ t ∈ ts, t < 2 ^ 64) (h64 : ∃ t ∈ ts, 64 < t) : Fm (.tuple (iD ts)) ∧ val (.tuple (iD ts)) = tv ts := by
  rw [fm_tuple, val_tuple, vals_iD]
  exact ⟨⟨fmAll_iD hb, h, h64⟩, rfl⟩
end FM
set_option Elab.async false
set_option linter.all false
set_option maxRecDepth 100000
/-! data in the heap: forms stay where nothing but lists, dicts and objects change -/
namespace DX
open PySem PySem.Spec PyProof.Rows L2 HX TV FM
/-- what can't be written stays -/
def Tk (H H' : Hp) : Prop := ∀ a o, H a = some o → ¬ Mut (some o) → H' a = some o
theorem Tk.refl (H : Hp) : Tk H H := fun _ _ h _ => h
theorem Tk.trans {H H1 H2 : Hp} (a : Tk H H1) (b : Tk H1 H2) : Tk H H2 := fun x o h m => b x o (a x o h m) m
theorem tk_same {H H' : Hp} (a : Same H H') : Tk H H' := fun x o h _ => a x o h
theorem tk_but {p : Addr} {H H' : Hp} (a : But p H H') (m : Mut (H p)) : Tk H H' := fun x o h n => a x o (fun e => by
  subst e
  rw [h] at m
  exact n m) h
theorem tk_mut {p : Addr} {H : Hp} {o : HO} (m : Mut (H p)) : Tk H (upd H p o) := fun x u h n => by
  rw [upd_ne (fun e => by
    subst e
    rw [h] at m
    exact n m)]
  exact h
theorem tk_tup {K : PySem.W.Frag} {H H' : Hp} {a : Addr} {xs : List V} (e : Tk H H') (h : SqT K H a xs) : SqT K H' a xs := by
  rcases h with (h | ⟨o, h⟩) | h
  · exact .inl (.inl (e _ _ h fun z => z))
  · exact .inl (.inr ⟨o, e _ _ h fun z => z⟩)
  · exact .inr h
mutual
theorem dp_tk {K : PySem.W.Frag} {H H' : Hp} (e : Tk H H') : ∀ {d : PyData} {v : V}, Fm d → Dp K H v d → Dp K H' v d
  | .int i, _, _, h => by
    cases h
    exact .int i
  | .tuple ds, _, f, h => by
    rw [fm_tuple] at f
    cases h with
    | tup h1 h2 => exact .tup (tk_tup e h1) (dpAll_tk e f.1 h2)
  | .none, _, f, _ => by simp [Fm] at f
  | .bool _, _, f, _ => by simp [Fm] at f
  | .str _, _, f, _ => by simp [Fm] at f
  | .list _, _, f, _ => by simp [Fm] at f
  | .dict _, _, f, _ => by simp [Fm] at f
theorem dpAll_tk {K : PySem.W.Frag} {H H' : Hp} (e : Tk H H') : ∀ {ds : List PyData} {vs : List V}, FmAll ds → DpAll K H vs ds → DpAll K H' vs ds
  | [], _, _, h => by
    cases h
    exact .nil
  | d :: r, _, f, h => by
    rw [fmAll_cons] at f
    cases h with
    | cons h1 h2 => exact .cons (dp_tk e f.1 h1) (dpAll_tk e f.2.2 h2)
end
theorem dpAll_len {K : PySem.W.Frag} {H : Hp} : ∀ {ds : List PyData} {vs : List V}, DpAll K H vs ds → vs.length = ds.length
  | [], _, h => by
    cases h
    rfl
  | d :: r, _, h => by
    cases h with
    | cons h1 h2 => rw [List.length_cons, dpAll_len h2, List.length_cons]
theorem dpAll_app {K : PySem.W.Frag} {H : Hp} : ∀ {ds es : List PyData} {vs us : List V}, DpAll K H vs ds → DpAll K H us es → DpAll K H (vs ++ us) (ds ++ es)
  | [], _, _, _, h, h' => by
    cases h
    exact h'
  | d :: r, _, _, _, h, h' => by
    cases h with
    | cons h1 h2 => exact .cons h1 (dpAll_app h2 h')
theorem dpAll_get {K : PySem.W.Frag} {H : Hp} : ∀ {ds : List PyData} {vs : List V} {i : Nat} {v : V}, DpAll K H vs ds → vs[i]? = some v → ∃ d, ds[i]? = some d ∧ Dp K H v d
  | [], _, i, v, h, e => by
    cases h
    simp at e
  | d :: r, _, i, v, h, e => by
    cases h with
    | cons h1 h2 =>
      cases i with
      | zero =>
        simp at e
        subst e
        exact ⟨d, rfl, h1⟩
      | succ i =>
        obtain ⟨d', h3, h4⟩ := dpAll_get (i := i) (v := v) h2 (by simpa using e)
        exact ⟨d', by simpa using h3, h4⟩
theorem dp_nv {K : PySem.W.Frag} {H : Hp} : ∀ ts : List Nat, DpAll K H (nv ts) (iD ts)
  | [] => .nil
  | t :: r => .cons (.int _) (dp_nv r)
/-! data that can be laid and compared: forms -/
mutual
theorem fm_lay : ∀ {d : PyData}, Fm d → PyData.canLay0 d = true
  | .int i, _ => by simp [PyData.canLay0]
  | .tuple ds, f => by
    rw [fm_tuple] at f
    simp only [PyData.canLay0]
    exact fmAll_lay f.1
  | .none, f => by simp [Fm] at f
  | .bool _, f => by simp [Fm] at f
  | .str _, f => by simp [Fm] at f
  | .list _, f => by simp [Fm] at f
  | .dict _, f => by simp [Fm] at f
theorem fmAll_lay : ∀ {ds : List PyData}, FmAll ds → PyData.canLayAll0 ds = true
  | [], _ => by simp [PyData.canLayAll0]
  | d :: r, f => by
    rw [fmAll_cons] at f
    simp only [PyData.canLayAll0, fm_lay f.1, fmAll_lay f.2.2, Bool.and_self]
end
theorem shaped_fm {d : PyData} (h : Fm d) (hd : d.depth ≤ 64) : SeqAt.shaped d = true := by
  unfold SeqAt.shaped
  rw [fm_lay h, decide_eq_true hd]
  rfl
theorem shaped_fms {ds : List PyData} (h : FmAll ds) (hd : PyData.depthAll ds ≤ 60) : SeqAt.shaped (.list ds) = true := by
  show (PyData.canLayAll0 ds && decide (PyData.depthAll ds + 1 ≤ 64)) = true
  rw [fmAll_lay h, decide_eq_true (by omega)]
  rfl
theorem depth_int (i : Int) : PyData.depth (.int i) = 0 := by simp [PyData.depth]
theorem depth_tuple (ds : List PyData) : PyData.depth (.tuple ds) = PyData.depthAll ds + 1 := by simp [PyData.depth]
theorem depthAll_nil : PyData.depthAll [] = 0 := by simp [PyData.depthAll]
theorem depthAll_cons (d : PyData) (r : List PyData) : PyData.depthAll (d :: r) = max d.depth (PyData.depthAll r) := by simp [PyData.depthAll]
theorem depthAll_le : ∀ {ds : List PyData} {k : Nat}, PyData.depthAll ds ≤ k ↔ ∀ d ∈ ds, d.depth ≤ k
  | [], k => by simp [PyData.depthAll]
  | d :: r, k => by
    rw [depthAll_cons]
    constructor
    · intro h e he
      rcases List.mem_cons.mp he with rfl | he
      · omega
      · exact depthAll_le.mp (by omega) e he
    · intro h
      have h1 := h d (by simp)
      have h2 := depthAll_le (ds := r) (k := k) |>.mpr fun e he => h e (by simp [he])
      omega
theorem depthAll_iD (ts : List Nat) : PyData.depthAll (iD ts) = 0 := by
  have : PyData.depthAll (iD ts) ≤ 0 := depthAll_le.mpr fun d hd => by
    obtain ⟨t, _, rfl⟩ := List.mem_map.mp hd
    rw [depth_int]
    exact Nat.le_refl _
  omega
theorem shaped_iD (ts : List Nat) : SeqAt.shaped (.list (iD ts)) = true := by
  have : iD ts = (ts.map fun t => ((t : Nat) : Int)).map PyData.int := by
    unfold iD
    rw [List.map_map]
    rfl
  rw [this]
  exact shaped_ints _
end DX
set_option Elab.async false
set_option linter.all false
set_option maxRecDepth 100000
/-! fields and codes: the law's own far places (plain mathematics) -/
namespace FB
open PySem TV FM DX
theorem even_pos {ts : List Nat} (h : Asc ts) (hn : ts ≠ []) (he : ts.length % 2 = 0) : 0 < tv ts := by
  obtain ⟨a, r, e⟩ : ∃ a r, ts = r ++ [a] := ⟨ts.getLast hn, ts.dropLast, (List.dropLast_concat_getLast hn).symm⟩
  subst e
  have := tv_sign h
  simp at he
  have h1 : ¬ tv (r ++ [a]) < 0 := fun z => by
    have := this.1.mp z
    omega
  have := this.2
  omega
theorem big_of {ts : List Nat} {t k : Nat} (h : Asc ts) (h0 : 0 ≤ tv ts) (ht : t ∈ ts) (hk : k < t) : 2 ^ k ≤ tv ts := by
  apply Int.le_of_not_gt
  intro hc
  have hp : (0 : Int) < 2 ^ k := Int.pow_pos (by decide)
  have := (tv_range h).mpr ⟨by omega, hc⟩ t ht
  omega
theorem pow_big {n : Nat} (h : 10 ≤ n) : n + 500 ≤ 2 ^ n := by
  induction n with
  | zero => omega
  | succ n ih =>
    by_cases e : n = 9
    · subst e
      decide
    · have := ih (by omega)
      rw [Nat.pow_succ]
      omega
/-- the four fields: a small place and far ones with many zero bits at the low end, ascending with room between them -/
structure Fields (fs : List PyData) : Prop where
  ex : ∃ (f1 : Nat) (es2 es3 : List PyData), fs = [.int 0, .int (f1 : Nat), .tuple es2, .tuple es3] ∧ 130 ≤ f1 ∧ f1 < 2 ^ 64 ∧ Fm (.tuple es2) ∧ Fm (.tuple es3) ∧ (∀ t ∈ vals es2, 150 ≤ t) ∧ (∀ t ∈ vals es3, 150 ≤ t) ∧
    (2 : Int) ^ 140 ≤ val (.tuple es2) ∧ val (.tuple es2) + 400 ≤ val (.tuple es3) ∧ PyData.depthAll es2 ≤ 0 ∧ PyData.depthAll es3 ≤ 2 ∧ es2.length ≤ 100 ∧ es3.length ≤ 100 ∧ wtAll es2 ≤ 500 ∧ wtAll es3 ≤ 500
/-- a second field: turns from 200 on -/
structure Sec (ts : List Nat) : Prop where
  asc : Asc ts
  ne : ts ≠ []
  even : ts.length % 2 = 0
  low : ∀ t ∈ ts, 200 ≤ t
  top : ∀ t ∈ ts, t < 2 ^ 64
  len : ts.length ≤ 100
theorem Sec.fm {ts : List Nat} (h : Sec ts) : Fm (.tuple (iD ts)) ∧ val (.tuple (iD ts)) = tv ts ∧ (2 : Int) ^ 140 ≤ tv ts := by
  obtain ⟨a, ha⟩ := List.exists_mem_of_ne_nil ts h.ne
  obtain ⟨f, e⟩ := fm_small h.asc h.top ⟨a, ha, by have := h.low a ha; omega⟩
  exact ⟨f, e, big_of h.asc (Int.le_of_lt (even_pos h.asc h.ne h.even)) ha (by have := h.low a ha; omega)⟩
theorem tv2 (a b : Nat) : tv [a, b] = 2 ^ b - 2 ^ a := by
  rw [tv_cons, tv_cons, tv_nil]
  omega
/-- the third field, in its three makes: some turn of it is the second field -/
theorem fields_of {f1 : Nat} {ts : List Nat} {es : List PyData} (h1 : 130 ≤ f1) (h2 : f1 < 2 ^ 64) (S : Sec ts) (hF : FmAll es) (hA : Asc (vals es)) (he : es.length % 2 = 0) (hl : ∀ t ∈ vals es, 150 ≤ t) (hm : .tuple (iD ts) ∈ es)
    (hd : PyData.depthAll es ≤ 2) (hlen : es.length ≤ 100) (hw : wtAll es ≤ 500) : Fields [.int 0, .int (f1 : Nat), .tuple (iD ts), .tuple es] := by
  obtain ⟨f, e, hb⟩ := S.fm
  have hmem : (val (.tuple (iD ts))).toNat ∈ vals es := mem_vals.mpr ⟨_, hm, rfl⟩
  have hne : vals es ≠ [] := List.ne_nil_of_mem hmem
  have hev : (vals es).length % 2 = 0 := by rw [vals_len]; exact he
  have hpos := even_pos hA hne hev
  have h140 : (2 : Nat) ^ 140 ≤ (val (.tuple (iD ts))).toNat := by
    rw [e]
    have : ((2 ^ 140 : Nat) : Int) = (2 : Int) ^ 140 := by simp
    omega
  have h64 : ∃ t ∈ vals es, 64 < t := ⟨_, hmem, Nat.lt_of_lt_of_le (by decide) h140⟩
  refine ⟨f1, iD ts, es, rfl, h1, h2, f, (fm_tuple _).mpr ⟨hF, hA, h64⟩, fun t ht => ?_, hl, e ▸ hb, ?_, by rw [depthAll_iD]; exact Nat.le_refl _, hd, by have := S.len; simpa [iD] using this, hlen, by rw [wtAll_iD]; have := S.len; omega, hw⟩
  · rw [vals_iD] at ht
    have := S.low t ht
    omega
  · rw [val_tuple es]
    have hb2 := big_of hA (Int.le_of_lt hpos) hmem (k := (val (.tuple (iD ts))).toNat - 1) (by omega)
    have hp := pow_big (n := (val (.tuple (iD ts))).toNat - 1) (by omega)
    have hc : (((2 : Nat) ^ ((val (.tuple (iD ts))).toNat - 1) : Nat) : Int) = (2 : Int) ^ ((val (.tuple (iD ts))).toNat - 1) := by simp
    generalize (2 : Int) ^ ((val (.tuple (iD ts))).toNat - 1) = z at *
    generalize (2 : Nat) ^ ((val (.tuple (iD ts))).toNat - 1) = y at *
    have e0 : 0 ≤ val (.tuple (iD ts)) := by omega
    omega
/-- what a third field must be -/
structure Third (ts : List Nat) (es : List PyData) : Prop where
  fm : FmAll es
  asc : Asc (vals es)
  even : es.length % 2 = 0
  low : ∀ t ∈ vals es, 150 ≤ t
  mem : .tuple (iD ts) ∈ es
  dep : PyData.depthAll es ≤ 2
  len : es.length ≤ 100
  wt : wtAll es ≤ 500
theorem Third.fields {f1 : Nat} {ts : List Nat} {es : List PyData} (h : Third ts es) (h1 : 130 ≤ f1) (h2 : f1 < 2 ^ 64) (S : Sec ts) : Fields [.int 0, .int (f1 : Nat), .tuple (iD ts), .tuple es] :=
  fields_of h1 h2 S h.fm h.asc h.even h.low h.mem h.dep h.len h.wt
theorem Sec.big {ts : List Nat} (S : Sec ts) : 2 ^ 140 ≤ (tv ts).toNat := by
  have h := S.fm.2.2
  have : ((2 ^ 140 : Nat) : Int) = (2 : Int) ^ 140 := by simp
  omega
theorem thirdA {ts : List Nat} {g : Nat} (S : Sec ts) (h1 : 150 ≤ g) (h2 : g < 400) : Third ts [.int (g : Nat), .tuple (iD ts)] := by
  obtain ⟨f, e, hb⟩ := S.fm
  have hB := S.big
  have hv : vals [.int (g : Nat), .tuple (iD ts)] = [g, (tv ts).toNat] := by
    rw [vals_cons, vals_cons, vals_nil, val_int, e]
    rfl
  have h140 : (400 : Nat) < 2 ^ 140 := by decide
  refine ⟨?_, ?_, by simp, ?_, by simp, ?_, by simp, by simp only [wtAll_cons, wtAll_nil, wt_int, wt_tuple, wtAll_iD, List.length_cons]; have := S.len; omega⟩
  · rw [fmAll_cons, fmAll_cons, fm_int, val_int]
    exact ⟨by omega, by omega, f, by omega, fmAll_nil⟩
  · rw [hv]
    exact ⟨by omega, trivial⟩
  · rw [hv]
    intro t ht
    simp at ht
    omega
  · rw [depthAll_cons, depthAll_cons, depthAll_nil, depth_int, depth_tuple, depthAll_iD]
    decide
theorem thirdB {ts : List Nat} {x : Nat} (S : Sec ts) (h2 : x < 64) : Third ts [.tuple (iD ts), .tuple (iD (x :: 64 :: ts))] := by
  obtain ⟨f, e, hb⟩ := S.fm
  have hB := S.big
  have h140 : (2 : Nat) ^ 65 < 2 ^ 140 := by decide
  have hA : Asc (x :: 64 :: ts) := asc_cons (fun b hb => by
    rcases List.mem_cons.mp hb with rfl | hb
    · exact h2
    · have := S.low b hb; omega) (asc_cons (fun b hb => by have := S.low b hb; omega) S.asc)
  have ht : ∀ t ∈ x :: 64 :: ts, t < 2 ^ 64 := fun t ht => by
    rcases List.mem_cons.mp ht with rfl | ht
    · omega
    · rcases List.mem_cons.mp ht with rfl | ht
      · omega
      · exact S.top t ht
  obtain ⟨a, ha⟩ := List.exists_mem_of_ne_nil ts S.ne
  obtain ⟨f2, e2⟩ := fm_small hA ht ⟨a, by simp [ha], by have := S.low a ha; omega⟩
  have e3 : tv (x :: 64 :: ts) = 2 ^ 64 - 2 ^ x + tv ts := by
    rw [tv_cons, tv_cons]
    omega
  have hx : (2 : Int) ^ x < 2 ^ 64 := Int.pow_lt_pow_of_lt (by decide) h2
  have hv : vals [.tuple (iD ts), .tuple (iD (x :: 64 :: ts))] = [(tv ts).toNat, (2 ^ 64 - 2 ^ x + tv ts).toNat] := by
    rw [vals_cons, vals_cons, vals_nil, e, e2, e3]
  refine ⟨?_, ?_, by simp, ?_, by simp, ?_, by simp, by simp only [wtAll_cons, wtAll_nil, wt_int, wt_tuple, wtAll_iD, List.length_cons]; have := S.len; omega⟩
  · rw [fmAll_cons, fmAll_cons]
    exact ⟨f, by omega, f2, by omega, fmAll_nil⟩
  · rw [hv]
    exact ⟨by omega, trivial⟩
  · rw [hv]
    intro t ht
    simp at ht
    omega
  · rw [depthAll_cons, depthAll_cons, depthAll_nil, depth_tuple, depth_tuple, depthAll_iD, depthAll_iD]
    decide
theorem thirdC {ts : List Nat} {g : Nat} (S : Sec ts) (h1 : 150 ≤ g) (h2 : g < 400) : Third ts [.int (g : Nat), .int ((g + 1 : Nat) : Int), .tuple (iD ts), .tuple [.int (g : Nat), .tuple (iD ts)]] := by
  obtain ⟨f, e, hb⟩ := S.fm
  have hB := S.big
  have h140 : (2 : Nat) ^ 65 < 2 ^ 140 := by decide
  have TA := thirdA S h1 h2
  have hva : vals [.int (g : Nat), .tuple (iD ts)] = [g, (tv ts).toNat] := by
    rw [vals_cons, vals_cons, vals_nil, val_int, e]
    rfl
  have hpos := even_pos TA.asc (by rw [hva]; simp) (by rw [hva]; simp)
  have hbig := big_of TA.asc (Int.le_of_lt hpos) (t := (tv ts).toNat) (k := (tv ts).toNat - 1) (by rw [hva]; simp) (by omega)
  have hp := pow_big (n := (tv ts).toNat - 1) (by omega)
  have hc : (((2 : Nat) ^ ((tv ts).toNat - 1) : Nat) : Int) = (2 : Int) ^ ((tv ts).toNat - 1) := by simp
  have fA : Fm (.tuple [.int (g : Nat), .tuple (iD ts)]) := (fm_tuple _).mpr ⟨TA.fm, TA.asc, (tv ts).toNat, by rw [hva]; simp, by omega⟩
  rw [← val_tuple] at hbig hpos
  have hv : vals [.int (g : Nat), .int ((g + 1 : Nat) : Int), .tuple (iD ts), .tuple [.int (g : Nat), .tuple (iD ts)]] = [g, g + 1, (tv ts).toNat, (val (.tuple [.int (g : Nat), .tuple (iD ts)])).toNat] := by
    rw [vals_cons, vals_cons, vals_cons, vals_cons, vals_nil, val_int, val_int, e]
    rfl
  generalize hW : val (.tuple [.int (g : Nat), .tuple (iD ts)]) = W at *
  generalize (2 : Int) ^ ((tv ts).toNat - 1) = z at *
  generalize (2 : Nat) ^ ((tv ts).toNat - 1) = y at *
  refine ⟨?_, ?_, by simp, ?_, by simp, ?_, by simp, by simp only [wtAll_cons, wtAll_nil, wt_int, wt_tuple, wtAll_iD, List.length_cons]; have := S.len; omega⟩
  · rw [fmAll_cons, fmAll_cons, fmAll_cons, fmAll_cons, fm_int, fm_int, val_int, val_int, hW]
    exact ⟨by omega, by omega, by omega, by omega, f, by omega, fA, by omega, fmAll_nil⟩
  · rw [hv]
    exact ⟨by omega, by omega, by omega, trivial⟩
  · rw [hv]
    intro t ht
    simp at ht
    omega
  · have h5 : PyData.depthAll [.int (g : Nat), .tuple (iD ts)] = 1 := by
      rw [depthAll_cons, depthAll_cons, depthAll_nil, depth_int, depth_tuple, depthAll_iD]
      decide
    rw [depthAll_cons, depthAll_cons, depthAll_cons, depthAll_cons, depthAll_nil, depth_int, depth_int, depth_tuple, depth_tuple, depthAll_iD, h5]
    decide
end FB
set_option Elab.async false
set_option linter.all false
set_option maxRecDepth 100000
/-! order of turns; codes and the far numbers they stand for (plain mathematics) -/
namespace FC
open PySem TV FM DX FB
theorem tv_snoc (r : List Nat) (a : Nat) : tv (r ++ [a]) = tv r + (if r.length % 2 = 0 then -(2 ^ a) else 2 ^ a) := by
  induction r with
  | nil => simp [tv_cons, tv_nil]
  | cons x r ih =>
    rw [List.cons_append, tv_cons, tv_cons, ih, List.length_cons]
    split <;> split <;> omega
theorem tv_append (r s : List Nat) : tv (r ++ s) = tv r + (if r.length % 2 = 0 then tv s else -tv s) := by
  induction r with
  | nil => simp [tv_nil]
  | cons x r ih =>
    rw [List.cons_append, tv_cons, tv_cons, ih, List.length_cons]
    split <;> split <;> omega
theorem asc_snoc {r : List Nat} {a : Nat} : Asc (r ++ [a]) ↔ Asc r ∧ ∀ x ∈ r, x < a := by
  rw [asc_pairwise, asc_pairwise, List.pairwise_append]
  constructor
  · rintro ⟨h1, _, h3⟩
    exact ⟨h1, fun x hx => h3 x hx a (by simp)⟩
  · rintro ⟨h1, h2⟩
    exact ⟨h1, by simp, fun x hx y hy => by simp at hy; subst hy; exact h2 x hx⟩
/-- the order of two rows of turns, from the top -/
def lessD : List Nat → List Nat → Bool
  | [], [] => false
  | [], _ :: s => decide (s.length % 2 = 1)
  | _ :: r, [] => decide (r.length % 2 = 0)
  | a :: r, b :: s =>
    if r.length % 2 ≠ s.length % 2 then decide (r.length % 2 = 0)
    else if a = b then lessD r s
    else if a < b then decide (s.length % 2 = 1)
    else decide (r.length % 2 = 0)
theorem snoc_cases (l : List Nat) : l = [] ∨ ∃ r a, l = r ++ [a] := by
  by_cases h : l = []
  · exact .inl h
  · exact .inr ⟨l.dropLast, l.getLast h, (List.dropLast_concat_getLast h).symm⟩
theorem top_out {r : List Nat} {a k : Nat} (h : Asc (r ++ [a])) (hk : k < a) : (r.length % 2 = 1 → 2 ^ k ≤ tv (r ++ [a])) ∧ (r.length % 2 = 0 → tv (r ++ [a]) < -(2 ^ k)) := by
  have hs := tv_sign h
  have hp : (0 : Int) < 2 ^ k := Int.pow_pos (by decide)
  have hr := (tv_range (k := k) h)
  have hno : ¬ (-(2 ^ k) ≤ tv (r ++ [a]) ∧ tv (r ++ [a]) < 2 ^ k) := fun z => by
    have := hr.mpr z a (by simp)
    omega
  constructor
  · intro hl
    have h1 : ¬ tv (r ++ [a]) < 0 := fun z => by
      have := hs.1.mp z
      omega
    omega
  · intro hl
    have h1 := hs.1.mpr hl
    omega
theorem less_iff : ∀ (n : Nat) (ts us : List Nat), ts.length ≤ n → Asc ts → Asc us → (lessD ts.reverse us.reverse = true ↔ tv ts < tv us) := by
  intro n
  induction n with
  | zero =>
    intro ts us hn hA hB
    have : ts = [] := List.length_eq_zero_iff.mp (by omega)
    subst this
    rcases snoc_cases us with rfl | ⟨s, b, rfl⟩
    · simp [lessD]
    · have hs := tv_sign hB
      rw [List.reverse_append]
      show decide (s.reverse.length % 2 = 1) = true ↔ tv [] < _
      rw [decide_eq_true_iff, List.length_reverse, tv_nil]
      constructor
      · intro h
        have : ¬ tv (s ++ [b]) < 0 := fun z => by have := hs.1.mp z; omega
        have := hs.2
        omega
      · intro h
        have : ¬ s.length % 2 = 0 := fun z => by have := hs.1.mpr z; omega
        omega
  | succ n ih =>
    intro ts us hn hA hB
    rcases snoc_cases ts with rfl | ⟨r, a, rfl⟩
    · exact ih [] us (Nat.zero_le _) hA hB
    rcases snoc_cases us with rfl | ⟨s, b, rfl⟩
    · have hs := tv_sign hA
      rw [List.reverse_append]
      show decide (r.reverse.length % 2 = 0) = true ↔ _ < tv []
      rw [decide_eq_true_iff, List.length_reverse, tv_nil]
      exact hs.1.symm
    · have hsA := tv_sign hA
      have hsB := tv_sign hB
      obtain ⟨hr, hra⟩ := asc_snoc.mp hA
      obtain ⟨hs, hsb⟩ := asc_snoc.mp hB
      rw [List.reverse_append, List.reverse_append]
      show (if r.reverse.length % 2 ≠ s.reverse.length % 2 then decide (r.reverse.length % 2 = 0) else if a = b then lessD r.reverse s.reverse else if a < b then decide (s.reverse.length % 2 = 1) else decide (r.reverse.length % 2 = 0)) = true ↔ _
      rw [List.length_reverse, List.length_reverse]
      by_cases hpar : r.length % 2 ≠ s.length % 2
      · rw [if_pos hpar, decide_eq_true_iff]
        constructor
        · intro h
          have h1 := hsA.1.mpr h
          have h2 : ¬ tv (s ++ [b]) < 0 := fun z => by have := hsB.1.mp z; omega
          omega
        · intro h
          apply Classical.byContradiction
          intro hc
          have h1 : ¬ tv (r ++ [a]) < 0 := fun z => hc (hsA.1.mp z)
          have h2 := hsB.1.mpr (by omega)
          omega
      · rw [if_neg hpar]
        have hpar' : r.length % 2 = s.length % 2 := by omega
        by_cases e : a = b
        · subst e
          rw [if_pos rfl, ih r s (by simp at hn; omega) hr hs, tv_snoc, tv_snoc, hpar']
          split <;> omega
        · rw [if_neg e]
          by_cases hlt : a < b
          · rw [if_pos hlt, decide_eq_true_iff]
            have hin : ∀ t ∈ r ++ [a], t ≤ b - 1 := fun t ht => by
              rcases List.mem_append.mp ht with ht | ht
              · have := hra t ht; omega
              · simp at ht; omega
            have hrg := (tv_range hA).mp hin
            have ho := top_out hB (k := b - 1) (by omega)
            constructor
            · intro h
              have := ho.1 h
              omega
            · intro h
              apply Classical.byContradiction
              intro hc
              have := ho.2 (by omega)
              omega
          · rw [if_neg hlt, decide_eq_true_iff]
            have hin : ∀ t ∈ s ++ [b], t ≤ a - 1 := fun t ht => by
              rcases List.mem_append.mp ht with ht | ht
              · have := hsb t ht; omega
              · simp at ht; omega
            have hrg := (tv_range hB).mp hin
            have ho := top_out hA (k := a - 1) (by omega)
            constructor
            · intro h
              have := ho.2 h
              omega
            · intro h
              apply Classical.byContradiction
              intro hc
              have := ho.1 (by omega)
              omega
theorem less_map {f : Nat → Nat} : ∀ (r s : List Nat), (∀ x ∈ r, ∀ y ∈ s, (x < y → f x < f y) ∧ (y < x → f y < f x)) → lessD (r.map f) (s.map f) = lessD r s
  | [], [], _ => rfl
  | [], b :: s, _ => by simp [lessD]
  | a :: r, [], _ => by simp [lessD]
  | a :: r, b :: s, h => by
    have hab := h a (by simp) b (by simp)
    show lessD (f a :: r.map f) (f b :: s.map f) = lessD (a :: r) (b :: s)
    simp only [lessD, List.length_map]
    have e1 : (f a = f b) ↔ a = b := by
      constructor
      · intro e
        rcases Nat.lt_trichotomy a b with c | c | c
        · have := hab.1 c; omega
        · exact c
        · have := hab.2 c; omega
      · rintro rfl; rfl
    have e2 : (f a < f b) ↔ a < b := by
      constructor
      · intro e
        rcases Nat.lt_trichotomy a b with c | c | c
        · exact c
        · subst c; omega
        · have := hab.2 c; omega
      · exact hab.1
    rw [less_map r s fun x hx y hy => h x (by simp [hx]) y (by simp [hy])]
    simp only [e1, e2]
theorem asc_map {f : Nat → Nat} {ts : List Nat} (h : Asc ts) (hf : ∀ x ∈ ts, ∀ y ∈ ts, x < y → f x < f y) : Asc (ts.map f) := by
  rw [asc_pairwise] at *
  rw [List.pairwise_map]
  exact h.imp_of_mem fun ha hb hab => hf _ ha _ hb hab
/-- places moved, the order kept: the values keep their order -/
theorem tv_map_lt {f : Nat → Nat} {ts us : List Nat} (hA : Asc ts) (hB : Asc us) (hf : ∀ x ∈ ts ++ us, ∀ y ∈ ts ++ us, x < y → f x < f y) (h : tv ts < tv us) : tv (ts.map f) < tv (us.map f) := by
  have hA' := asc_map hA fun x hx y hy => hf x (by simp [hx]) y (by simp [hy])
  have hB' := asc_map hB fun x hx y hy => hf x (by simp [hx]) y (by simp [hy])
  rw [← less_iff _ _ _ (Nat.le_refl _) hA' hB', ← List.map_reverse, ← List.map_reverse]
  rw [less_map]
  · exact (less_iff _ _ _ (Nat.le_refl _) hA hB).mpr h
  · intro x hx y hy
    simp at hx hy
    exact ⟨hf x (by simp [hx]) y (by simp [hy]), hf y (by simp [hy]) x (by simp [hx])⟩
/-! ### the turns of an integer as a function -/
noncomputable def turnsOf (n : Int) : List Nat := Classical.choose (turns_ex n)
theorem turnsOf_asc (n : Int) : Asc (turnsOf n) := (Classical.choose_spec (turns_ex n)).1
theorem turnsOf_tv (n : Int) : tv (turnsOf n) = n := (Classical.choose_spec (turns_ex n)).2
theorem turnsOf_eq {ts : List Nat} (h : Asc ts) : turnsOf (tv ts) = ts := tv_inj (turnsOf_asc _) h (turnsOf_tv _)
theorem turnsOf_is {ts : List Nat} {n : Int} (h : Asc ts) (e : tv ts = n) : turnsOf n = ts := e ▸ turnsOf_eq h
theorem even_of_nonneg {ts : List Nat} (h : Asc ts) (h0 : 0 ≤ tv ts) : ts.length % 2 = 0 := by
  rcases snoc_cases ts with rfl | ⟨r, a, rfl⟩
  · rfl
  · have := tv_sign h
    simp
    apply Classical.byContradiction
    intro hc
    have := this.1.mpr (by omega)
    omega
/-! ### digits of two hundred bits -/
def num : List Nat → Int
  | [] => 0
  | a :: r => (a : Int) + 2 ^ 200 * num r
theorem num_nonneg : ∀ ps : List Nat, 0 ≤ num ps
  | [] => Int.le_refl _
  | a :: r => by
    have := num_nonneg r
    have h2 : (0 : Int) ≤ 2 ^ 200 * num r := Int.mul_nonneg (Int.le_of_lt (Int.pow_pos (by decide))) this
    show 0 ≤ (a : Int) + 2 ^ 200 * num r
    omega
theorem num_set : ∀ (ps : List Nat) (d y : Nat) (a : Nat), ps[d]? = some a → num (ps.set d (a + y)) = num ps + y * 2 ^ (200 * d)
  | [], d, y, a, h => by simp at h
  | b :: r, 0, y, a, h => by
    simp at h
    subst h
    show ((b + y : Nat) : Int) + 2 ^ 200 * num r = (b : Int) + 2 ^ 200 * num r + y * 2 ^ 0
    rw [Int.pow_zero]
    omega
  | b :: r, d + 1, y, a, h => by
    have ih := num_set r d y a (by simpa using h)
    show (b : Int) + 2 ^ 200 * num (r.set d (a + y)) = (b : Int) + 2 ^ 200 * num r + y * 2 ^ (200 * (d + 1))
    rw [ih, Int.mul_add, show 200 * (d + 1) = 200 + 200 * d by omega, Int.pow_add]
    have : (2 : Int) ^ 200 * (y * 2 ^ (200 * d)) = y * (2 ^ 200 * 2 ^ (200 * d)) := by
      rw [← Int.mul_assoc, Int.mul_comm (2 ^ 200) (y : Int), Int.mul_assoc]
    rw [this]
    omega
theorem num_zero : ∀ m : Nat, num (List.replicate m 0) = 0
  | 0 => rfl
  | m + 1 => by
    show ((0 : Nat) : Int) + 2 ^ 200 * num (List.replicate m 0) = 0
    rw [num_zero m]
    simp
/-- m digits below B -/
def Dg (m B : Nat) (c : Int) : Prop := ∃ ps : List Nat, ps.length = m ∧ (∀ a ∈ ps, a < B) ∧ c = num ps
theorem Dg.mono {m B B' : Nat} {c : Int} (h : Dg m B c) (l : B ≤ B') : Dg m B' c := by
  obtain ⟨ps, h1, h2, h3⟩ := h
  exact ⟨ps, h1, fun a ha => Nat.lt_of_lt_of_le (h2 a ha) l, h3⟩
theorem Dg.nonneg {m B : Nat} {c : Int} (h : Dg m B c) : 0 ≤ c := by
  obtain ⟨ps, _, _, rfl⟩ := h
  exact num_nonneg ps
theorem Dg.zero {m B : Nat} (h : 0 < B) : Dg m B 0 := ⟨List.replicate m 0, by simp, fun a ha => by
  rw [List.mem_replicate] at ha
  omega, (num_zero m).symm⟩
theorem Dg.add {m B Y : Nat} {c : Int} (h : Dg m B c) {d y : Nat} (hd : d < m) (hy : y < Y) : Dg m (B + Y) (c + y * 2 ^ (200 * d)) := by
  obtain ⟨ps, h1, h2, rfl⟩ := h
  have hg : ps[d]? = some ps[d] := List.getElem?_eq_getElem (by omega)
  refine ⟨ps.set d (ps[d] + y), by simp [h1], fun a ha => ?_, (num_set ps d y _ hg).symm⟩
  rcases List.mem_or_eq_of_mem_set ha with ha | ha
  · have := h2 a ha; omega
  · have := h2 ps[d] (List.getElem_mem _)
    omega
theorem tb_add {a q : Nat} {c : Int} (ha : a < 2 ^ 200) : tb ((a : Int) + 2 ^ 200 * c) q = if q < 200 then tb (a : Int) q else tb c (q - 200) := by
  have hp : (0 : Int) < 2 ^ q := Int.pow_pos (by decide)
  split
  · rename_i hq
    unfold tb
    have e : (2 : Int) ^ 200 * c = 2 ^ q * (2 * (2 ^ (199 - q) * c)) := by
      rw [← Int.mul_assoc, ← Int.mul_assoc, ← Int.pow_succ, ← Int.pow_add]
      congr 2
      omega
    rw [e, Int.add_mul_ediv_left _ _ (Int.ne_of_gt hp)]
    congr 1
    apply propext
    constructor <;> intro h <;> omega
  · rename_i hq
    have e : ((a : Int) + 2 ^ 200 * c) / 2 ^ 200 = c := by
      rw [Int.add_mul_ediv_left _ _ (Int.ne_of_gt (Int.pow_pos (by decide)))]
      rw [Int.ediv_eq_zero_of_lt (by omega) (by
        have : ((2 ^ 200 : Nat) : Int) = (2 : Int) ^ 200 := by simp
        omega)]
      omega
    have := tb_shift ((a : Int) + 2 ^ 200 * c) 200 (q - 200)
    rw [e] at this
    rw [this]
    congr 1
    omega
theorem tb_small {a k q : Nat} (ha : a < 2 ^ k) (hq : k ≤ q) : tb (a : Int) q = false := by
  unfold tb
  have h1 : (a : Int) < 2 ^ q := by
    have : a < 2 ^ q := Nat.lt_of_lt_of_le ha (Nat.pow_le_pow_right (by decide) hq)
    have h3 : ((2 ^ q : Nat) : Int) = (2 : Int) ^ q := by simp
    omega
  rw [Int.ediv_eq_zero_of_lt (by omega) h1]
  rfl
/-- no turn of a code lies high in its digit -/
theorem dg_turns : ∀ (ps : List Nat), (∀ a ∈ ps, a < 2 ^ 100) → ∀ q, (ps.length ≤ q / 200 ∨ 100 ≤ q % 200) → tb (num ps) q = false
  | [], _, q, _ => tb_top q
  | a :: r, h, q, hq => by
    have ha := h a (by simp)
    have ha2 : a < 2 ^ 200 := Nat.lt_of_lt_of_le ha (Nat.pow_le_pow_right (by decide) (by decide))
    show tb ((a : Int) + 2 ^ 200 * num r) q = false
    rw [tb_add ha2]
    split
    · refine tb_small ha ?_
      simp at hq
      omega
    · refine dg_turns r (fun x hx => h x (by simp [hx])) (q - 200) ?_
      simp at hq
      omega
/-- a code's turns: fields below m, steps up to 100 -/
def CodeOk (m : Nat) (c : Int) : Prop := 0 ≤ c ∧ ∀ t ∈ turnsOf c, t / 200 < m ∧ t % 200 ≤ 100
theorem Dg.code {m B : Nat} {c : Int} (h : Dg m B c) (hB : B ≤ 2 ^ 100) : CodeOk m c := by
  refine ⟨h.nonneg, fun t ht => ?_⟩
  obtain ⟨ps, h1, h2, rfl⟩ := h
  have hz := dg_turns ps fun a ha => Nat.lt_of_lt_of_le (h2 a ha) hB
  have hm := (mem_tb (turnsOf_asc (num ps)) t).mp ht
  rw [turnsOf_tv] at hm
  apply Classical.byContradiction
  intro hc
  apply hm
  by_cases h0 : t = 0
  · subst h0
    rw [if_pos rfl]
    exact hz 0 (by omega)
  · rw [if_neg h0, hz t (by omega), hz (t - 1) (by omega)]
theorem code_range {m : Nat} {c : Int} (h : CodeOk m c) : -(2 ^ (200 * m)) ≤ c ∧ c < 2 ^ (200 * m) := by
  have := (tv_range (k := 200 * m) (turnsOf_asc c)).mp fun t ht => by
    have := h.2 t ht
    omega
  rwa [turnsOf_tv] at this
/-- where field i lies -/
def Fi (fs : List PyData) (i : Nat) : Nat := (val (fs.getD i (.int 0))).toNat
def phi (fs : List PyData) (t : Nat) : Nat := Fi fs (t / 200) + t % 200
theorem fields_step {fs : List PyData} (F : Fields fs) : ∀ i j, i < j → j < 4 → Fi fs i + 101 ≤ Fi fs j := by
  obtain ⟨f1, es2, es3, rfl, h1, h2, _, _, _, _, h3, h4, _⟩ := F.ex
  have e0 : Fi [.int 0, .int (f1 : Nat), .tuple es2, .tuple es3] 0 = 0 := by
    show (val (.int 0)).toNat = 0
    rw [val_int]; rfl
  have e1 : Fi [.int 0, .int (f1 : Nat), .tuple es2, .tuple es3] 1 = f1 := by
    show (val (.int (f1 : Nat))).toNat = f1
    rw [val_int]; omega
  have e2 : Fi [.int 0, .int (f1 : Nat), .tuple es2, .tuple es3] 2 = (val (.tuple es2)).toNat := rfl
  have e3 : Fi [.int 0, .int (f1 : Nat), .tuple es2, .tuple es3] 3 = (val (.tuple es3)).toNat := rfl
  have h140 : (2 : Int) ^ 65 < 2 ^ 140 := by decide
  intro i j hij hj
  have hi : i = 0 ∨ i = 1 ∨ i = 2 := by omega
  have hj' : j = 1 ∨ j = 2 ∨ j = 3 := by omega
  rcases hi with rfl | rfl | rfl <;> rcases hj' with rfl | rfl | rfl <;> first | omega | (simp only [e0, e1, e2, e3]; omega)
theorem phi_lt {fs : List PyData} (F : Fields fs) {m t u : Nat} (hm : m ≤ 4) (ht : t / 200 < m ∧ t % 200 ≤ 100) (hu : u / 200 < m ∧ u % 200 ≤ 100) (h : t < u) : phi fs t < phi fs u := by
  unfold phi
  by_cases e : t / 200 = u / 200
  · rw [e]
    omega
  · have := fields_step F (t / 200) (u / 200) (by omega) (by omega)
    omega
/-- the far number of a code -/
noncomputable def Phi (fs : List PyData) (c : Int) : Int := tv ((turnsOf c).map (phi fs))
theorem phi_asc {fs : List PyData} (F : Fields fs) {m : Nat} {c : Int} (hm : m ≤ 4) (h : CodeOk m c) : Asc ((turnsOf c).map (phi fs)) :=
  asc_map (turnsOf_asc c) fun x hx y hy hxy => phi_lt F hm (h.2 x hx) (h.2 y hy) hxy
theorem Phi_nonneg {fs : List PyData} (F : Fields fs) {m : Nat} {c : Int} (hm : m ≤ 4) (h : CodeOk m c) : 0 ≤ Phi fs c := by
  have hA := phi_asc F hm h
  have he := even_of_nonneg (turnsOf_asc c) (by rw [turnsOf_tv]; exact h.1)
  by_cases hn : (turnsOf c).map (phi fs) = []
  · unfold Phi
    rw [hn]
    exact Int.le_refl _
  · exact Int.le_of_lt (even_pos hA hn (by rw [List.length_map]; exact he))
theorem Phi_lt {fs : List PyData} (F : Fields fs) {m : Nat} {c d : Int} (hm : m ≤ 4) (hc : CodeOk m c) (hd : CodeOk m d) (h : c < d) : Phi fs c < Phi fs d := by
  refine tv_map_lt (turnsOf_asc c) (turnsOf_asc d) (fun x hx y hy hxy => ?_) (by rw [turnsOf_tv, turnsOf_tv]; exact h)
  have good : ∀ z ∈ turnsOf c ++ turnsOf d, z / 200 < m ∧ z % 200 ≤ 100 := fun z hz => (List.mem_append.mp hz).elim (hc.2 z) (hd.2 z)
  exact phi_lt F hm (good x hx) (good y hy) hxy
/-- a far place: a field and a step -/
theorem place_far {es : List PyData} {us : List Nat} {j : Nat} (hF : Fm (.tuple es)) (hl : ∀ t ∈ vals es, 150 ≤ t) (h0 : 0 ≤ val (.tuple es)) (hA : Asc us) (hj : tv us = j) (hu : ∀ t ∈ us, t ≤ 100) :
    Fm (.tuple (iD us ++ es)) ∧ val (.tuple (iD us ++ es)) = val (.tuple es) + j := by
  have hF' := (fm_tuple es).mp hF
  have he := even_of_nonneg hA (by omega)
  rw [fm_tuple, val_tuple, val_tuple, vals_app, vals_iD, fmAll_app, tv_append, if_pos he]
  refine ⟨⟨⟨fmAll_iD fun t ht => by have := hu t ht; omega, hF'.1⟩, ?_, ?_⟩, by omega⟩
  · rw [asc_pairwise, List.pairwise_append]
    exact ⟨asc_pairwise.mp hA, asc_pairwise.mp hF'.2.1, fun x hx y hy => by have := hu x hx; have := hl y hy; omega⟩
  · obtain ⟨t, ht, h64⟩ := hF'.2.2
    exact ⟨t, by simp [ht], h64⟩
end FC
set_option Elab.async false
set_option linter.all false
set_option maxRecDepth 100000
namespace K03
open PySem PySem.Spec PyProof.Rows L2
def topS (i : Nat) : Stmt := PySem.Challenge.pw_farbits_k03_sizes_and_heights.main.body.getD i (.Pass ⟨0, 0, 0, 0⟩)
abbrev s_size : Stmt := topS 1
theorem sc_size : FnScope ["x", "turn"] ["x"] (defScope s_size) := ⟨rfl, rfl, rfl, by decide +kernel, rfl, by decide +kernel, by decide +kernel⟩
abbrev s_height : Stmt := topS 2
theorem sc_height : FnScope ["x", "greatest", "turn"] ["x"] (defScope s_height) := ⟨rfl, rfl, rfl, by decide +kernel, rfl, by decide +kernel, by decide +kernel⟩
abbrev s_size_of : Stmt := topS 4
theorem sc_size_of : FnScope ["x"] ["x"] (defScope s_size_of) := ⟨rfl, rfl, rfl, by decide +kernel, rfl, by decide +kernel, by decide +kernel⟩
abbrev s_height_of : Stmt := topS 5
theorem sc_height_of : FnScope ["x"] ["x"] (defScope s_height_of) := ⟨rfl, rfl, rfl, by decide +kernel, rfl, by decide +kernel, by decide +kernel⟩
abbrev s__law_begin : Stmt := topS 7
theorem sc__law_begin : FnScope ["_law_script"] ["_law_script"] (defScope s__law_begin) := ⟨rfl, rfl, rfl, by decide +kernel, rfl, by decide +kernel, by decide +kernel⟩
abbrev s__law_draw : Stmt := topS 8
theorem sc__law_draw : FnScope ["_law_tape", "_law_limit", "_law_at", "_law_span", "_law_cell", "_law_mixed", "_law_found"] ["_law_tape", "_law_limit"] (defScope s__law_draw) := ⟨rfl, rfl, rfl, by decide +kernel, rfl, by decide +kernel, by decide +kernel⟩
abbrev s__law_pick : Stmt := topS 9
theorem sc__law_pick : FnScope ["_law_tape", "_law_some"] ["_law_tape", "_law_some"] (defScope s__law_pick) := ⟨rfl, rfl, rfl, by decide +kernel, rfl, by decide +kernel, by decide +kernel⟩
abbrev s__law_turns : Stmt := topS 10
theorem sc__law_turns : FnScope ["_law_number", "_law_marks", "_law_found", "_law_low"] ["_law_number"] (defScope s__law_turns) := ⟨rfl, rfl, rfl, by decide +kernel, rfl, by decide +kernel, by decide +kernel⟩
abbrev s__law_int : Stmt := topS 11
theorem sc__law_int : FnScope ["_law_places", "_law_total", "_law_sign", "_law_turn"] ["_law_places"] (defScope s__law_int) := ⟨rfl, rfl, rfl, by decide +kernel, rfl, by decide +kernel, by decide +kernel⟩
abbrev s__law_form : Stmt := topS 12
theorem sc__law_form : FnScope ["_law_number"] ["_law_number"] (defScope s__law_form) := ⟨rfl, rfl, rfl, by decide +kernel, rfl, by decide +kernel, by decide +kernel⟩
abbrev s__law_row_form : Stmt := topS 13
theorem sc__law_row_form : FnScope ["_law_places"] ["_law_places"] (defScope s__law_row_form) := ⟨rfl, rfl, rfl, by decide +kernel, rfl, by decide +kernel, by decide +kernel⟩
abbrev s__law_size : Stmt := topS 14
theorem sc__law_size : FnScope ["_law_form_here", "_law_one"] ["_law_form_here"] (defScope s__law_size) := ⟨rfl, rfl, rfl, by decide +kernel, rfl, by decide +kernel, by decide +kernel⟩
abbrev s__law_height : Stmt := topS 15
theorem sc__law_height : FnScope ["_law_form_here", "_law_one"] ["_law_form_here"] (defScope s__law_height) := ⟨rfl, rfl, rfl, by decide +kernel, rfl, by decide +kernel, by decide +kernel⟩
abbrev s__law_fields : Stmt := topS 16
theorem sc__law_fields : FnScope ["_law_tape", "_law_many", "_law_first", "_law_found", "_law_low", "_law_top", "_law_gap"] ["_law_tape", "_law_many"] (defScope s__law_fields) := ⟨rfl, rfl, rfl, by decide +kernel, rfl, by decide +kernel, by decide +kernel⟩
abbrev s__law_moved : Stmt := topS 17
theorem sc__law_moved : FnScope ["_law_code_here", "_law_fields_here", "_law_places", "_law_turn", "_law_field", "_law_step"] ["_law_code_here", "_law_fields_here"] (defScope s__law_moved) := ⟨rfl, rfl, rfl, by decide +kernel, rfl, by decide +kernel, by decide +kernel⟩
abbrev s__law_form_of_codes : Stmt := topS 18
theorem sc__law_form_of_codes : FnScope ["_law_codes_here", "_law_fields_here", "_law_code_here"] ["_law_codes_here", "_law_fields_here"] (defScope s__law_form_of_codes) := ⟨rfl, rfl, rfl, by decide +kernel, rfl, by decide +kernel, by decide +kernel⟩
abbrev s__law_code : Stmt := topS 19
theorem sc__law_code : FnScope ["_law_tape", "_law_many", "_law_known", "_law_found", "_law_k", "_law_piece"] ["_law_tape", "_law_many", "_law_known"] (defScope s__law_code) := ⟨rfl, rfl, rfl, by decide +kernel, rfl, by decide +kernel, by decide +kernel⟩
abbrev s__law_codes : Stmt := topS 20
theorem sc__law_codes : FnScope ["_law_tape", "_law_many", "_law_count", "_law_known", "_law_found", "_law_k", "_law_code_here"] ["_law_tape", "_law_many", "_law_count", "_law_known"] (defScope s__law_codes) := ⟨rfl, rfl, rfl, by decide +kernel, rfl, by decide +kernel, by decide +kernel⟩
abbrev s__law_few : Stmt := topS 21
theorem sc__law_few : FnScope ["_law_tape", "_law_most", "_law_found", "_law_count", "_law_k", "_law_near", "_law_last", "_law_turn"] ["_law_tape", "_law_most"] (defScope s__law_few) := ⟨rfl, rfl, rfl, by decide +kernel, rfl, by decide +kernel, by decide +kernel⟩
abbrev s_law : Stmt := topS 22
theorem sc_law : FnScope ["_law_script", "_law_tape", "_law_lap", "_law_fields_here", "_law_form_here", "_law_some", "_law_one"] ["_law_script"] (defScope s_law) := ⟨rfl, rfl, rfl, by decide +kernel, rfl, by decide +kernel, by decide +kernel⟩
structure Top (K : PySem.W.Frag) (mg : Str → Option Value) where
  f_size : Addr
  fd_size : FuncData
  F_size : Fun K "size" "size" s_size f_size fd_size
  g_size : mg "size" = some (.ref f_size)
  b_size : Binds K fd_size ["x"] []
  f_height : Addr
  fd_height : FuncData
  F_height : Fun K "height" "height" s_height f_height fd_height
  g_height : mg "height" = some (.ref f_height)
  b_height : Binds K fd_height ["x"] []
  f_size_of : Addr
  fd_size_of : FuncData
  F_size_of : Fun K "size_of" "size_of" s_size_of f_size_of fd_size_of
  g_size_of : mg "size_of" = some (.ref f_size_of)
  b_size_of : Binds K fd_size_of ["x"] []
  f_height_of : Addr
  fd_height_of : FuncData
  F_height_of : Fun K "height_of" "height_of" s_height_of f_height_of fd_height_of
  g_height_of : mg "height_of" = some (.ref f_height_of)
  b_height_of : Binds K fd_height_of ["x"] []
  f__law_begin : Addr
  fd__law_begin : FuncData
  F__law_begin : Fun K "_law_begin" "_law_begin" s__law_begin f__law_begin fd__law_begin
  g__law_begin : mg "_law_begin" = some (.ref f__law_begin)
  b__law_begin : Binds K fd__law_begin ["_law_script"] []
  f__law_draw : Addr
  fd__law_draw : FuncData
  F__law_draw : Fun K "_law_draw" "_law_draw" s__law_draw f__law_draw fd__law_draw
  g__law_draw : mg "_law_draw" = some (.ref f__law_draw)
  b__law_draw : Binds K fd__law_draw ["_law_tape", "_law_limit"] []
  f__law_pick : Addr
  fd__law_pick : FuncData
  F__law_pick : Fun K "_law_pick" "_law_pick" s__law_pick f__law_pick fd__law_pick
  g__law_pick : mg "_law_pick" = some (.ref f__law_pick)
  b__law_pick : Binds K fd__law_pick ["_law_tape", "_law_some"] []
  f__law_turns : Addr
  fd__law_turns : FuncData
  F__law_turns : Fun K "_law_turns" "_law_turns" s__law_turns f__law_turns fd__law_turns
  g__law_turns : mg "_law_turns" = some (.ref f__law_turns)
  b__law_turns : Binds K fd__law_turns ["_law_number"] []
  f__law_int : Addr
  fd__law_int : FuncData
  F__law_int : Fun K "_law_int" "_law_int" s__law_int f__law_int fd__law_int
  g__law_int : mg "_law_int" = some (.ref f__law_int)
  b__law_int : Binds K fd__law_int ["_law_places"] []
  f__law_form : Addr
  fd__law_form : FuncData
  F__law_form : Fun K "_law_form" "_law_form" s__law_form f__law_form fd__law_form
  g__law_form : mg "_law_form" = some (.ref f__law_form)
  b__law_form : Binds K fd__law_form ["_law_number"] []
  f__law_row_form : Addr
  fd__law_row_form : FuncData
  F__law_row_form : Fun K "_law_row_form" "_law_row_form" s__law_row_form f__law_row_form fd__law_row_form
  g__law_row_form : mg "_law_row_form" = some (.ref f__law_row_form)
  b__law_row_form : Binds K fd__law_row_form ["_law_places"] []
  f__law_size : Addr
  fd__law_size : FuncData
  F__law_size : Fun K "_law_size" "_law_size" s__law_size f__law_size fd__law_size
  g__law_size : mg "_law_size" = some (.ref f__law_size)
  b__law_size : Binds K fd__law_size ["_law_form_here"] []
  f__law_height : Addr
  fd__law_height : FuncData
  F__law_height : Fun K "_law_height" "_law_height" s__law_height f__law_height fd__law_height
  g__law_height : mg "_law_height" = some (.ref f__law_height)
  b__law_height : Binds K fd__law_height ["_law_form_here"] []
  f__law_fields : Addr
  fd__law_fields : FuncData
  F__law_fields : Fun K "_law_fields" "_law_fields" s__law_fields f__law_fields fd__law_fields
  g__law_fields : mg "_law_fields" = some (.ref f__law_fields)
  b__law_fields : Binds K fd__law_fields ["_law_tape", "_law_many"] []
  f__law_moved : Addr
  fd__law_moved : FuncData
  F__law_moved : Fun K "_law_moved" "_law_moved" s__law_moved f__law_moved fd__law_moved
  g__law_moved : mg "_law_moved" = some (.ref f__law_moved)
  b__law_moved : Binds K fd__law_moved ["_law_code_here", "_law_fields_here"] []
  f__law_form_of_codes : Addr
  fd__law_form_of_codes : FuncData
  F__law_form_of_codes : Fun K "_law_form_of_codes" "_law_form_of_codes" s__law_form_of_codes f__law_form_of_codes fd__law_form_of_codes
  g__law_form_of_codes : mg "_law_form_of_codes" = some (.ref f__law_form_of_codes)
  b__law_form_of_codes : Binds K fd__law_form_of_codes ["_law_codes_here", "_law_fields_here"] []
  f__law_code : Addr
  fd__law_code : FuncData
  F__law_code : Fun K "_law_code" "_law_code" s__law_code f__law_code fd__law_code
  g__law_code : mg "_law_code" = some (.ref f__law_code)
  b__law_code : Binds K fd__law_code ["_law_tape", "_law_many", "_law_known"] []
  f__law_codes : Addr
  fd__law_codes : FuncData
  F__law_codes : FunD K "_law_codes" "_law_codes" (defArgs s__law_codes) (defBody s__law_codes) (defScope s__law_codes) [.non] [] f__law_codes fd__law_codes
  ds__law_codes : List Value
  dv__law_codes : Vals [.non] ds__law_codes
  bd__law_codes : Binds K fd__law_codes ["_law_tape", "_law_many", "_law_count", "_law_known"] ds__law_codes
  g__law_codes : mg "_law_codes" = some (.ref f__law_codes)
  b__law_codes : Binds K fd__law_codes ["_law_tape", "_law_many", "_law_count", "_law_known"] []
  f__law_few : Addr
  fd__law_few : FuncData
  F__law_few : Fun K "_law_few" "_law_few" s__law_few f__law_few fd__law_few
  g__law_few : mg "_law_few" = some (.ref f__law_few)
  b__law_few : Binds K fd__law_few ["_law_tape", "_law_most"] []
  f_law : Addr
  fd_law : FuncData
  F_law : Fun K "law" "law" s_law f_law fd_law
  g_law : mg "law" = some (.ref f_law)
  b_law : Binds K fd_law ["_law_script"] []
  m_int : mg "int" = none
  m_isinstance : mg "isinstance" = none
  m_len : mg "len" = none
  m_max : mg "max" = none
  m_range : mg "range" = none
  m_repr : mg "repr" = none
  m_sorted : mg "sorted" = none
  m_sum : mg "sum" = none
  m_tuple : mg "tuple" = none
end K03
set_option Elab.async false
set_option linter.all false
set_option maxRecDepth 100000
namespace K03
open PySem PySem.Spec PyProof.Rows L2 HX TV FM
local macro_rules | `(tactic| walk_at "r") => `(tactic| (repeat (first | refine Exists.intro _ (And.intro rfl ?_) | refine And.intro rfl ?_ | refine Exists.intro _ (Exists.intro _ (And.intro rfl (And.intro rfl ?_))) | refine And.intro (by omega) ?_ | refine And.intro (Or.inl (And.intro (by omega) (by omega))) ?_ | refine And.intro (Or.inr (And.intro (by omega) (by omega))) ?_ | refine And.intro (And.intro (by omega) (by omega)) ?_ | refine And.intro (And.intro (by decide) (And.intro (by decide) (by decide))) ?_ | refine Or.inl (Exists.intro _ (And.intro rfl ?_)) | (dsimp only [gName]; first | with_reducible refine seqC ?_ | with_reducible refine asgC ?_))))
local macro_rules | `(tactic| walk_at "s") => `(tactic| (repeat (first | refine Exists.intro _ (And.intro rfl ?_) | refine And.intro rfl ?_ | refine Exists.intro _ (Exists.intro _ (And.intro rfl (And.intro rfl ?_))) | refine And.intro (by omega) ?_ | refine And.intro (Or.inl (And.intro (by omega) (by omega))) ?_ | refine And.intro (Or.inr (And.intro (by omega) (by omega))) ?_ | refine And.intro (And.intro (by omega) (by omega)) ?_ | refine And.intro (And.intro (by decide) (And.intro (by decide) (by decide))) ?_ | refine Or.inl (Exists.intro _ (And.intro rfl ?_)) | refine Exists.intro _ (Exists.intro _ (And.intro rfl ?_)) | (dsimp only [gName]; first | with_reducible refine seqC ?_ | with_reducible refine asgC ?_))))
section
variable {P : Program} {w : World} {K : PySem.W.Frag} {mg : Str → Option Value} {base : Heap}
/-- the tape: its cells, how many were taken, the rest -/
abbrev tapeV (c : Addr) (i r : Int) : List (Key × V) := tri "cells" "at" "rest" (.ref c) (.int i) (.int r)
theorem dif : Dif "cells" "at" "rest" := ⟨by decide, by decide, by decide⟩
/-- a tape: its place, its cells' place, the cells -/
structure Tp where
  p : Addr
  c : Addr
  ns : List Int
/-- the tape stands, at most n cells were taken -/
def Tape (H : Hp) (τ : Tp) (n : Nat) : Prop := ∃ (i r : Int), H τ.p = some (.dK (tapeV τ.c i r)) ∧ H τ.c = some (.lst (τ.ns.map V.int)) ∧ τ.ns ≠ [] ∧ τ.ns.length ≤ 63 ∧ 0 ≤ i ∧ i ≤ n
theorem Tape.mono {H H' : Hp} {τ : Tp} {n m : Nat} (h : Tape H τ n) (e : Same H H') (l : n ≤ m) : Tape H' τ m := by
  obtain ⟨i, r, h1, h2, h3, h4, h5, h6⟩ := h
  exact ⟨i, r, e _ _ h1, e _ _ h2, h3, h4, h5, by omega⟩
theorem Tape.le {H : Hp} {τ : Tp} {n m : Nat} (h : Tape H τ n) (l : n ≤ m) : Tape H τ m := h.mono (Same.refl _) l
theorem Tape.up {H H' : Hp} {τ : Tp} {n : Nat} (h : Tape H τ n) (e : Same H H') : Tape H' τ n := h.mono e (Nat.le_refl _)
theorem Tape.dict {H : Hp} {τ : Tp} {n : Nat} (h : Tape H τ n) : ∃ kvs, H τ.p = some (.dK kvs) := by
  obtain ⟨i, r, h1, _⟩ := h
  exact ⟨_, h1⟩
theorem Tape.ne {H : Hp} {τ : Tp} {b : Addr} {n : Nat} {xs : List V} (h : Tape H τ n) (e : H b = some (.lst xs)) : b ≠ τ.p := by
  obtain ⟨i, r, h1, _⟩ := h
  exact ne_of e h1 (by intro z; cases z)
theorem Tape.neT {H : Hp} {τ : Tp} {b : Addr} {n : Nat} {xs : List V} (h : Tape H τ n) (e : H b = some (.tup xs)) : b ≠ τ.p := by
  obtain ⟨i, r, h1, _⟩ := h
  exact ne_of e h1 (by intro z; cases z)
theorem Tape.new {H : Hp} {τ : Tp} {b : Addr} {n : Nat} (h : Tape H τ n) (e : H b = none) : b ≠ τ.p ∧ b ≠ τ.c := by
  obtain ⟨i, r, h1, h2, _⟩ := h
  exact ⟨(ne_of_none h1 e).symm, (ne_of_none h2 e).symm⟩
/-- another list changes -/
theorem Tape.set {H : Hp} {τ : Tp} {b : Addr} {n : Nat} {o : HO} (h : Tape H τ n) (e : b ≠ τ.p ∧ b ≠ τ.c) : Tape (upd H b o) τ n := by
  obtain ⟨i, r, h1, h2, h3⟩ := h
  exact ⟨i, r, by rw [upd_ne e.1.symm]; exact h1, by rw [upd_ne e.2.symm]; exact h2, h3⟩
theorem Tape.mut {H : Hp} {τ : Tp} {n : Nat} (h : Tape H τ n) : Mut (H τ.p) := by
  obtain ⟨kvs, e⟩ := h.dict
  rw [e]
  trivial
theorem but_new {p o : Addr} {H H' : Hp} {x : HO} (b : But p H H') (h : H o = none) : But p H (upd H' o x) := fun a u ha e => by
  rw [upd_ne (ne_of_none e h)]
  exact b a u ha e
def sp_begin (K : PySem.W.Frag) : Sp := fun vs H Q _ => ∃ (a : Addr) (ns : List Int), vs = [.ref a] ∧ SqL K H a (ns.map V.int) ∧ ns.length ≤ 63 ∧
  ∀ τ H', Same H H' → H τ.p = none → Tape H' τ 0 → Q (.ref τ.p) H'
theorem cut63 {xs : List V} (h : xs.length ≤ 63) : cutV xs none (some 63) = xs := by
  unfold cutV
  rw [show HT.sIx xs.length xs.length (some 63) = min 63 xs.length from HT.sIx_nat xs.length xs.length 63, HT.sIx_none]
  show List.take (min 63 xs.length - 0) xs = xs
  exact List.take_of_length_le (by omega)
theorem ok__law_begin (T : Top K mg) {k : Nat} : FnOk P w K mg base CX0 (k + 1) T.f__law_begin T.fd__law_begin ["_law_script"]  (sp_begin K) := by
  refine T.F__law_begin.ok sc__law_begin (fun vs H Q E h => ?_) (fun cdv A outer s H vs Q E hr h => ?_)
  · obtain ⟨a, ns, rfl, _⟩ := h
    rfl
  · obtain ⟨a, ns, rfl, hS, hl, q⟩ := h
    refine ⟨_, (pss_one (ps_ret (pe_disp (pps_cons pe_str (pe_orT (pe_slice sl_list (pv 0) po_none (po_some pe_int)) (pe_one (pe_lst (pa_cons pe_int pa_nil)))) (pps_cons pe_str pe_int (pps_cons pe_str pe_int pps_nil))) (by rfl) (by rfl) (fun z => by cases z) (by decide)))), ?_⟩
    intro p np
    have s1 := sm_upd (o := .dK []) np
    refine ⟨_, rfl, 63, rfl, a, _, rfl, s1.seq hS, fun b nb => ?_⟩
    have s2 := sm_upd (o := .lst (cutV (ns.map V.int) none (some 63))) nb
    have hb : (upd (upd H p (.dK [])) b (.lst (cutV (ns.map V.int) none (some 63)))) b = some (.lst (ns.map V.int)) := by
      rw [upd_same, cut63 (by simpa using hl)]
    have hp := s2 _ _ (upd_at (o := .dK []) np)
    have npb : b ≠ p := ne_of hb hp (by intro z; cases z)
    refine ⟨!(ns.map V.int).isEmpty, .inl ⟨_, .inl (.inl hb), rfl⟩, ite2 (fun hc => ?_) (fun hc => ?_)⟩
    · refine ⟨hp, tri "cells" "at" "rest" (.ref b) (.int 0) (.int 0), rfl, by show 3 ≤ 15; decide, ?_⟩
      rw [tri_disp dif]
      refine q ⟨p, b, ns⟩ _ (sm_mut (s1.trans s2) np) np ⟨0, 0, upd_same, ?_, ?_, hl, Int.le_refl _, Int.le_refl _⟩
      · show upd _ p _ b = _
        rw [upd_ne npb]
        exact hb
      · rintro e0
        have e0' : ns = [] := e0
        subst e0'
        simp at hc
    · refine ⟨by show 1 ≤ sizeLine; decide, fun c nc => ?_⟩
      have s3 := sm_upd (o := .lst [.int 0]) nc
      have hp3 := s3 _ _ hp
      have hc3 := upd_at (o := .lst [.int 0]) nc
      have npc : c ≠ p := ne_of hc3 hp3 (by intro z; cases z)
      refine ⟨hp3, tri "cells" "at" "rest" (.ref c) (.int 0) (.int 0), rfl, by show 3 ≤ 15; decide, ?_⟩
      rw [tri_disp dif]
      refine q ⟨p, c, [0]⟩ _ (sm_mut (s1.trans (s2.trans s3)) np) np ⟨0, 0, upd_same, ?_, by simp, by simp, Int.le_refl _, Int.le_refl _⟩
      show upd _ p _ c = _
      rw [upd_ne npc]
      exact hc3
def sp_draw : Sp := fun vs H Q _ => ∃ (τ : Tp) (m : Nat) (n : Int), vs = [.ref τ.p, .int n] ∧ 1 ≤ n ∧ n ≤ 2 ^ 80 ∧ m < 1000000 ∧ Tape H τ m ∧
  ∀ (d : Int) H', 0 ≤ d → d < n → Tape H' τ (m + 1) → But τ.p H H' → Q (.int d) H'
theorem log_80 {n : Int} (h1 : 1 ≤ n) (h2 : n ≤ 2 ^ 80) : n.natAbs.log2 < 9000 := by
  rw [Nat.log2_lt (by omega)]
  have h3 : n.natAbs ≤ 2 ^ 80 := by omega
  exact Nat.lt_of_le_of_lt h3 (Nat.pow_lt_pow_right (by decide) (by decide))
theorem ok__law_draw (T : Top K mg) {k : Nat} : FnOk P w K mg base CX0 (k + 1) T.f__law_draw T.fd__law_draw ["_law_tape", "_law_limit"]  sp_draw := by
  refine T.F__law_draw.ok sc__law_draw (fun vs H Q E h => ?_) (fun cdv A outer s H vs Q E hr h => ?_)
  · obtain ⟨τ, m, n, rfl, _⟩ := h
    rfl
  · obtain ⟨⟨p, c, ns⟩, m, n, rfl, hn1, hn2, hm, ⟨i, r, hp, hc, hne, hlen, hi1, hi2⟩, q⟩ := h
    replace hp : H p = some (.dK (tapeV c i r)) := hp
    replace hc : H c = some (.lst (ns.map V.int)) := hc
    replace hne : ns ≠ [] := hne
    replace hlen : ns.length ≤ 63 := hlen
    have hlog := log_80 hn1 hn2
    have npc : c ≠ p := ne_of hc hp (by intro z; cases z)
    have hlen0 : 0 < ns.length := List.length_pos_iff.mpr hne
    refine ⟨_, (pss_cons (ps_if (pt_cmpR op_lt (pe_dget (hu_of hr) (pv 0) pe_str (fun _ _ => rfl)) (pv 1) (nomark _))
      (pss_cons (ps_par (i := 2) (j := 3) rfl sc__law_draw.nd rfl rfl (by decide) rfl rfl (pa_cons (pe_dget (hu_of hr) (pv 0) pe_str (fun _ _ => rfl)) (pa_cons (pe_callB call_len_seq (by rfl) T.m_len PySem.boot_len (pa_cons (pe_dget (hu_of hr) (pv 0) pe_str (fun _ _ => rfl)) pa_nil)) pa_nil)) rfl)
      (pss_cons (ps_asg (pe_tup (pa_cons (pe_ix ix_list (pe_dget (hu_of hr) (pv 0) pe_str (fun _ _ => rfl)) (pe_op op_mod (pe_callTy call_int1 (by rfl) T.m_int (by decide +kernel) (pa_cons (pv 2) pa_nil)) (pv 3)) (fun _ _ => rfl)) (pa_cons (pe_op op_add (pv 2) pe_int) pa_nil))) (pg_tup rfl (pgs_cons (pg_name (i := 4) sc__law_draw.nd rfl (Or.inl rfl)) (pgs_cons (pg_sub (pv 0) pe_str (set_dict (hu_of hr))) pgs_nil))))
      (pss_cons (ps_set (i := 5) sc__law_draw.nd rfl (Or.inl rfl) (pe_op op_add (pe_op op_add (pe_op op_mod (pe_callTy call_int1 (by rfl) T.m_int (by decide +kernel) (pa_cons (pv 4) pa_nil)) pe_int) (pe_op op_mul pe_int (pv 2))) pe_int))
      (pss_cons (ps_dput (hu_of hr) (pv 0) pe_str (pe_op op_mod (pe_callTy call_int1 (by rfl) T.m_int (by decide +kernel) (pa_cons (pe_op op_add (pe_op op_pow (pv 5) pe_int) (pe_op op_mul (pe_op op_mul pe_int (pv 2)) (pv 2))) pa_nil)) (pe_op op_add (pe_op op_pow pe_int pe_int) pe_int)) rfl)
      (pss_one (ps_if (PW.pt (pw_and (pt_cmpR op_ge (pv 4) (pe_op op_pow pe_int pe_int) (nomark _)) (pw_and1 (pt_cmpR op_lt (pv 2) (pv 3) (nomark _)))))
        (pss_one (ps_dput (hu_of hr) (pv 0) pe_str (pe_op op_sub (pv 4) (pe_op op_pow pe_int pe_int)) rfl))
        pss_nil))))))
      pss_nil)
    (pss_cons (ps_asg (pe_tup (pa_cons (pe_op op_mod (pe_callTy call_int1 (by rfl) T.m_int (by decide +kernel) (pa_cons (pe_dget (hu_of hr) (pv 0) pe_str (fun _ _ => rfl)) pa_nil)) (pv 1)) (pa_cons (pe_op op_fdivW (pe_dget (hu_of hr) (pv 0) pe_str (fun _ _ => rfl)) (pv 1)) pa_nil))) (pg_tup rfl (pgs_cons (pg_name (i := 6) sc__law_draw.nd rfl (Or.inl rfl)) (pgs_cons (pg_sub (pv 0) pe_str (set_dict (hu_of hr))) pgs_nil))))
    (pss_one (ps_ret (pv 6))))), ?_⟩
    refine ⟨_, rfl, p, _, rfl, tri_get3 dif hp, ?_⟩
    walk_at "r"
    refine if_join (fun σ' H' => ∃ (z3 z4 z5 z6 : Option V) (i' r' : Int), σ' = [some (.ref p), some (.int n), z3, z4, z5, z6, none] ∧ i ≤ i' ∧ i' ≤ i + 1 ∧ H' p = some (.dK (tapeV c i' r')) ∧ H' c = some (.lst (ns.map V.int)) ∧ But p H H') ?_ (fun D1 J hb => ?_) (fun D1 J hb => ?_)
    · rintro σ' H' ⟨z3, z4, z5, z6, i', r', rfl, hi', hi'', hp', hc', bt⟩
      dsimp only
      refine ⟨_, rfl, p, _, rfl, tri_get3 dif hp', ?_⟩
      walk_at "r"
      refine ⟨p, _, rfl, tri_get3 dif hp', ?_⟩
      walk_at "r"
      refine ⟨by show 2 ≤ sizeLine; decide, fun t nt => ?_⟩
      have sm := sm_upd (o := .tup [.int (r' % n), .int (r' / n)]) nt
      have hp2 := sm _ _ hp'
      have hc2 := sm _ _ hc'
      refine ⟨t, _, rfl, .inl (.inl upd_same), rfl, _, _, rfl, _, _, rfl, ?_⟩
      refine ⟨_, rfl, p, _, rfl, tri_put3 dif hp2, rfl, ?_⟩
      walk_at "r"
      refine q _ _ (Int.emod_nonneg _ (by omega)) (Int.emod_lt_of_pos _ (by omega)) ⟨i', _, upd_same, ?_, hne, hlen, by omega, by omega⟩ (bt.trans (But.of sm)).upd
      show upd _ p _ c = _
      rw [upd_ne npc]
      exact hc2
    · refine ⟨_, rfl, p, _, rfl, tri_get2 dif hp, ?_⟩
      refine ⟨_, rfl, p, _, rfl, tri_get1 hp, ?_⟩
      refine ⟨c, _, rfl, .inl (.inl (.inl hc)), ?_⟩
      rw [List.length_map]
      refine ⟨_, _, rfl, ?_⟩
      refine ⟨_, rfl, p, _, rfl, tri_get1 hp, ?_⟩
      walk_at "r"
      have hm1 := Int.emod_nonneg i (show (ns.length : Int) ≠ 0 by omega)
      have hm2 := Int.emod_lt_of_pos i (show 0 < (ns.length : Int) by omega)
      have hm3 : (i % (ns.length : Int)).toNat < ns.length := by omega
      refine ⟨c, _, _, .int (ns[(i % (ns.length : Int)).toNat]), rfl, rfl, .inl (.inl hc), at_of (j := (i % (ns.length : Int)).toNat) (by omega) ?_, ?_⟩
      · rw [List.getElem?_map, List.getElem?_eq_getElem hm3]
        rfl
      generalize ns[(i % (ns.length : Int)).toNat] = cell
      walk_at "r"
      refine ⟨by show 2 ≤ sizeLine; decide, fun t nt => ?_⟩
      have sm := sm_upd (o := .tup [.int cell, .int (i + 1)]) nt
      have hp2 := sm _ _ hp
      have hc2 := sm _ _ hc
      refine ⟨t, _, rfl, .inl (.inl upd_same), rfl, _, _, rfl, _, _, rfl, ?_⟩
      refine ⟨_, rfl, p, _, rfl, tri_put2 dif hp2, rfl, ?_⟩
      have hp3 := upd_same (H := upd H t (.tup [.int cell, .int (i + 1)])) (a := p) (o := .dK (tapeV c (i + 1) r))
      have hc3 : (upd (upd H t (.tup [.int cell, .int (i + 1)])) p (.dK (tapeV c (i + 1) r))) c = some (.lst (ns.map V.int)) := by
        rw [upd_ne npc]
        exact hc2
      have bt3 : But p H (upd (upd H t (.tup [.int cell, .int (i + 1)])) p (.dK (tapeV c (i + 1) r))) := (But.of sm).upd
      revert hp3 hc3 bt3
      generalize upd (upd H t (.tup [.int cell, .int (i + 1)])) p (.dK (tapeV c (i + 1) r)) = H3
      intro hp3 hc3 bt3
      walk_at "r"
      refine ⟨show (0 : Int) < 10 ^ Int.toNat 48 + 193 by decide, ?_⟩
      walk_at "r"
      refine ⟨p, _, rfl, tri_put3 dif hp3, ?_⟩
      have hp4 := upd_same (H := H3) (a := p) (o := .dK (tapeV c (i + 1) (((cell % 2305843009213693921 + 50119 * i + 23911) ^ Int.toNat 13 + 91 * i * i) % (10 ^ Int.toNat 48 + 193))))
      have hc4 : (upd H3 p (.dK (tapeV c (i + 1) (((cell % 2305843009213693921 + 50119 * i + 23911) ^ Int.toNat 13 + 91 * i * i) % (10 ^ Int.toNat 48 + 193))))) c = some (.lst (ns.map V.int)) := by
        rw [upd_ne npc]
        exact hc3
      have bt4 : But p H (upd H3 p (.dK (tapeV c (i + 1) (((cell % 2305843009213693921 + 50119 * i + 23911) ^ Int.toNat 13 + 91 * i * i) % (10 ^ Int.toNat 48 + 193))))) := bt3.upd
      walk_at "r"
      refine ifAnd ?_ (fun hb1 hY => ?_)
      · exact J.nx _ _ ⟨_, _, _, _, i + 1, (((cell % 2305843009213693921 + 50119 * i + 23911) ^ Int.toNat 13 + 91 * i * i) % (10 ^ Int.toNat 48 + 193)), rfl, by omega, Int.le_refl _, hp4, hc4, bt4⟩
      · walk_at "r"
        refine ifD (fun hb2 => ?_) (fun hb2 => hY)
        walk_at "r"
        refine ⟨p, _, rfl, tri_put3 dif hp4, ?_⟩
        refine J.nx _ _ ⟨_, _, _, _, i + 1, _, rfl, by omega, Int.le_refl _, upd_same, ?_, bt4.upd⟩
        rw [upd_ne npc]
        exact hc4
    · exact J.nx _ _ ⟨_, _, _, _, i, r, rfl, Int.le_refl _, by omega, hp, hc, But.refl _⟩
def sp_pick : Sp := fun vs H Q _ => ∃ (τ : Tp) (b : Addr) (m : Nat) (xs : List V), vs = [.ref τ.p, .ref b] ∧ m < 1000000 ∧ Tape H τ m ∧ H b = some (.lst xs) ∧ 1 ≤ xs.length ∧ xs.length ≤ 100000 ∧
  ∀ (v : V) H', v ∈ xs → Tape H' τ (m + 1) → But τ.p H H' → Q v H'
theorem ok__law_pick (T : Top K mg) {k : Nat} : FnOk P w K mg base CX0 (k + 2) T.f__law_pick T.fd__law_pick ["_law_tape", "_law_some"]  sp_pick := by
  have G__law_draw : FnOk P w K mg base CX0 (k + 1) T.f__law_draw T.fd__law_draw ["_law_tape", "_law_limit"]  sp_draw := ok__law_draw T
  refine T.F__law_pick.ok sc__law_pick (fun vs H Q E h => ?_) (fun cdv A outer s H vs Q E hr h => ?_)
  · obtain ⟨τ, b, m, xs, rfl, _⟩ := h
    rfl
  · obtain ⟨τ, b, m, xs, rfl, hm, hT, hb, hx1, hx2, q⟩ := h
    refine ⟨_, (pss_one (ps_ret (pe_ix ix_list (pv 1) (pe_call G__law_draw (hr.mono (by omega)) (by rfl) T.g__law_draw T.F__law_draw.kp T.b__law_draw .nil pass0 (pa_cons (pv 0) (pa_cons (pe_callB call_len_seq (by rfl) T.m_len PySem.boot_len (pa_cons (pv 1) pa_nil)) pa_nil))) (fun _ _ => rfl)))), ?_⟩
    walk_at "r"
    refine ⟨b, _, rfl, .inl (.inl (.inl hb)), ?_⟩
    refine ⟨τ, m, xs.length, rfl, by omega, by omega, hm, hT, fun d H' hd1 hd2 hT' bt => ?_⟩
    have hb' := bt b _ (hT.ne hb) hb
    have hd3 : d.toNat < xs.length := by omega
    refine ⟨b, _, _, xs[d.toNat], rfl, rfl, .inl (.inl hb'), at_of (j := d.toNat) (by omega) (List.getElem?_eq_getElem hd3), ?_⟩
    exact q _ _ (List.getElem_mem hd3) hT' bt
end
end K03
set_option Elab.async false
set_option linter.all false
set_option maxRecDepth 100000
namespace K03
open PySem PySem.Spec PyProof.Rows L2 HX TV FM DX
local macro_rules | `(tactic| walk_at "r") => `(tactic| (repeat (first | refine Exists.intro _ (And.intro rfl ?_) | refine And.intro rfl ?_ | refine Exists.intro _ (Exists.intro _ (And.intro rfl (And.intro rfl ?_))) | refine And.intro (by omega) ?_ | refine And.intro (Or.inl (And.intro (by omega) (by omega))) ?_ | refine And.intro (Or.inr (And.intro (by omega) (by omega))) ?_ | refine And.intro (And.intro (by omega) (by omega)) ?_ | refine And.intro (And.intro (by decide) (And.intro (by decide) (by decide))) ?_ | refine Or.inl (Exists.intro _ (And.intro rfl ?_)) | (dsimp only [gName]; first | with_reducible refine seqC ?_ | with_reducible refine asgC ?_))))
local macro_rules | `(tactic| walk_at "s") => `(tactic| (repeat (first | refine Exists.intro _ (And.intro rfl ?_) | refine And.intro rfl ?_ | refine Exists.intro _ (Exists.intro _ (And.intro rfl (And.intro rfl ?_))) | refine And.intro (by omega) ?_ | refine And.intro (Or.inl (And.intro (by omega) (by omega))) ?_ | refine And.intro (Or.inr (And.intro (by omega) (by omega))) ?_ | refine And.intro (And.intro (by omega) (by omega)) ?_ | refine And.intro (And.intro (by decide) (And.intro (by decide) (by decide))) ?_ | refine Or.inl (Exists.intro _ (And.intro rfl ?_)) | refine Exists.intro _ (Exists.intro _ (And.intro rfl ?_)) | (dsimp only [gName]; first | with_reducible refine seqC ?_ | with_reducible refine asgC ?_))))
section
variable {P : Program} {w : World} {K : PySem.W.Frag} {mg : Str → Option Value} {base : Heap}
theorem bits_pow (t : Nat) : Builtin.Int.intBits ((2 : Int) ^ t) = t + 1 := by
  have e : ((2 : Int) ^ t).natAbs = 2 ^ t := by rw [Int.natAbs_pow]; rfl
  have hp : 2 ^ t ≠ 0 := Nat.pos_iff_ne_zero.mp (Nat.pow_pos (by decide))
  have e0 : (2 : Int) ^ t ≠ 0 := fun z => by
    rw [z] at e
    exact hp e.symm
  unfold Builtin.Int.intBits
  split
  · rename_i h
    exact absurd (by simpa using h) e0
  · rw [e, Nat.log2_two_pow]
/-- the turns of n, an integer of k bits and a sign -/
def sp_turns (K : PySem.W.Frag) : Sp := fun vs H Q _ => ∃ (n : Int) (k : Nat), vs = [.int n] ∧ k ≤ 900000 ∧ -(2 ^ k) ≤ n ∧ n < 2 ^ k ∧
  ∀ (ts : List Nat) l H', Asc ts → tv ts = n → (∀ t ∈ ts, t ≤ k) → ts.length ≤ k + 1 → Same H H' → H l = none → H' l = some (.lst (nv ts)) → Q (.ref l) H'
theorem turns_in {n : Int} {k : Nat} (h1 : -(2 ^ k) ≤ n) (h2 : n < 2 ^ k) : ∃ ts, Asc ts ∧ tv ts = n ∧ (∀ t ∈ ts, t ≤ k) ∧ ts.length ≤ k + 1 := by
  obtain ⟨ts, hA, e⟩ := turns_ex n
  subst e
  have hb := (tv_range hA).mpr ⟨h1, h2⟩
  exact ⟨ts, hA, rfl, hb, asc_len (a := 0) hA fun t ht => ⟨Nat.zero_le _, hb t ht⟩⟩
theorem ok__law_turns (T : Top K mg) {k : Nat} : FnOk P w K mg base CX0 (k + 1) T.f__law_turns T.fd__law_turns ["_law_number"]  (sp_turns K) := by
  refine T.F__law_turns.ok sc__law_turns (fun vs H Q E h => ?_) (fun cdv A outer s H vs Q E hr h => ?_)
  · obtain ⟨n, _, rfl, _⟩ := h
    rfl
  · obtain ⟨n, kb, rfl, hk, hn1, hn2, q⟩ := h
    obtain ⟨ts, hA, hn, hb, hlen⟩ := turns_in hn1 hn2
    replace q := fun l H' => q ts l H' hA hn hb hlen
    refine ⟨_, (pss_cons (ps_par (i := 1) (j := 2) rfl sc__law_turns.nd rfl rfl (by decide) rfl rfl (pa_cons (pe_op op_xor (pv 0) (pe_op op_mul (pv 0) pe_int)) (pa_cons (pe_lst pa_nil) pa_nil)) rfl)
    (pss_cons (ps_while PassesOwn.never (pt_cmpR op_ne (pv 1) pe_int (nomark _))
      (pss_cons (ps_set (i := 3) sc__law_turns.nd rfl (Or.inl rfl) (pe_op op_and (pv 1) (pe_un un_neg (pv 1))))
      (pss_cons (ps_expr (pe_bm PySem.F.plainAttrs_list PySem.F.slot_list_append PySem.F.type_list_append mt_append (pv 2) (pa_cons (pe_op op_sub (pe_bits (pv 3)) pe_int) pa_nil)))
      (pss_one (ps_set (i := 1) sc__law_turns.nd rfl (Or.inl rfl) (pe_op op_sub (pv 1) (pv 3)))))))
    (pss_one (ps_ret (pv 2))))), ?_⟩
    walk_at "r"
    refine ⟨Nat.zero_le _, fun l nl => ?_⟩
    refine ⟨_, _, rfl, ?_⟩
    refine ⟨fun m σ H' => ∃ (pre post : List Nat) (z : Option V), σ = [some (.int n), some (.int (psum post)), some (.ref l), z] ∧ ts = pre ++ post ∧ post.length ≤ m ∧ Same H H' ∧ H' l = some (.lst (nv pre)),
      ⟨ts.length, [], ts, none, ?_, rfl, Nat.le_refl _, sm_upd nl, upd_same⟩, ?_⟩
    · show [some (V.int n), some (V.int (Builtin.bitXor n (n * 2))), some (V.ref l), none] = _
      rw [← hn, marks hA]
    rintro m σ H' ⟨pre, post, z, rfl, ets, hm, sm, el⟩
    walk_at "r"
    refine ifNE (fun hc => wb fun D' B => ?_) (fun hc => ?_)
    · cases post with
      | nil => exact absurd rfl hc
      | cons t r =>
        have hA2 : Asc (t :: r) := by
          have := asc_pairwise.mp hA
          rw [ets, List.pairwise_append] at this
          exact asc_pairwise.mpr this.2.1
        walk_at "r"
        simp only [low_mark hA2]
        refine ⟨.inl ⟨rfl, _, .inl (.inl el)⟩, ?_⟩
        walk_at "r"
        simp only [bits_pow]
        refine ⟨_, _, _, rfl, rfl, el, ?_, ?_⟩
        · rw [nv_len]
          have : ts.length = pre.length + (r.length + 1) := by rw [ets]; simp
          exact len_lt (by omega)
        walk_at "r"
        refine B.nx _ _ ⟨r.length, by simp at hm; omega, pre ++ [t], r, some (.int (2 ^ t)), ?_, ?_, Nat.le_refl _, sm_mut sm nl, ?_⟩
        · show [some (V.int n), some (V.int (psum (t :: r) - 2 ^ t)), some (V.ref l), some (V.int (2 ^ t))] = _
          have : psum (t :: r) - 2 ^ t = psum r := by
            show 2 ^ t + psum r - 2 ^ t = psum r
            omega
          rw [this]
        · rw [ets]
          simp
        · rw [upd_same, nv_app]
          have e : ((t + 1 : Nat) : Int) - 1 = ((t : Nat) : Int) := by omega
          rw [← e]
    · cases post with
      | nil =>
        walk_at "r"
        rw [List.append_nil] at ets
        exact q l H' sm nl (ets ▸ el)
      | cons t r => exact absurd hc (Int.ne_of_gt psum_pos)
/-- the integer of a row of turns -/
def sp_int (K : PySem.W.Frag) : Sp := fun vs H Q _ => ∃ (a : Addr) (ts : List Nat), vs = [.ref a] ∧ SqL K H a (nv ts) ∧ (∀ t ∈ ts, t ≤ 100000000) ∧ ∀ H', Same H H' → Q (.int (tv ts)) H'
theorem ok__law_int (T : Top K mg) {k : Nat} : FnOk P w K mg base CX0 (k + 1) T.f__law_int T.fd__law_int ["_law_places"]  (sp_int K) := by
  refine T.F__law_int.ok sc__law_int (fun vs H Q E h => ?_) (fun cdv A outer s H vs Q E hr h => ?_)
  · obtain ⟨a, ts, rfl, _⟩ := h
    rfl
  · obtain ⟨a, ts, rfl, hS, hb, q⟩ := h
    refine ⟨_, (pss_cons (ps_asg (pe_tup (pa_cons pe_int (pa_cons (pe_un un_neg pe_int) pa_nil))) (pg_tup rfl (pgs_cons (pg_name (i := 1) sc__law_int.nd rfl (Or.inl rfl)) (pgs_cons (pg_name (i := 2) sc__law_int.nd rfl (Or.inl rfl)) pgs_nil))))
    (pss_cons (ps_for PassesOwn.never rfl (pi_list (pv 0)) (pg_name (i := 3) sc__law_int.nd rfl (Or.inl rfl))
      (pss_one (ps_par (i := 1) (j := 2) rfl sc__law_int.nd rfl rfl (by decide) rfl rfl (pa_cons (pe_op op_add (pv 1) (pe_op op_mul (pv 2) (pe_op op_oneShl pe_int (pv 3)))) (pa_cons (pe_un un_neg (pv 2)) pa_nil)) rfl)))
    (pss_one (ps_ret (pv 1))))), ?_⟩
    walk_at "r"
    refine ⟨by show 2 ≤ sizeLine; decide, fun t0 nt0 => ?_⟩
    have sm0 := sm_upd (o := .tup [.int 0, .int (-1)]) nt0
    refine ⟨t0, _, rfl, .inl (.inl upd_same), rfl, _, _, rfl, _, _, rfl, rfl, ?_⟩
    replace hS := sm0.seq hS
    replace q := fun H' (e : Same (upd H t0 (.tup [.int 0, .int (-1)])) H') => q H' (sm0.trans e)
    revert hS q
    generalize upd H t0 (.tup [.int 0, .int (-1)]) = H1
    intro hS q
    refine ⟨_, rfl, a, rfl, ⟨_, hS⟩, flL (xs := nv ts) (fun i σ H' => ∃ (tot sg : Int) (z : Option V), σ = [some (.ref a), some (.int tot), some (.int sg), z] ∧ (sg = 1 ∨ sg = -1) ∧ tot + tvs sg (ts.drop i) = tv ts ∧ H' = H1)
      ⟨0, -1, none, rfl, .inr rfl, by show 0 + tvs (-1) (ts.drop 0) = tvs (-1) ts; simp, rfl⟩ ?_ ?_ ?_⟩
    · rintro i σ H' _ ⟨tot, sg, z, _, _, _, rfl⟩
      exact hS
    · rintro i x σ H' hx ⟨tot, sg, z, rfl, hsg, inv, rfl⟩ D' B
      obtain ⟨t, ht, rfl⟩ := nv_get hx
      have hbt := hb t (List.mem_of_getElem? ht)
      have hdrop : ts.drop i = t :: ts.drop (i + 1) := by
        obtain ⟨hi, e⟩ := List.getElem?_eq_some_iff.mp ht
        rw [List.drop_eq_getElem_cons hi, e]
      walk_at "r"
      refine ⟨t, rfl, rfl, by omega, ?_⟩
      walk_at "r"
      refine ⟨_, _, rfl, ?_⟩
      refine B.nx _ _ ⟨tot + sg * 2 ^ t, -sg, _, rfl, by omega, ?_, rfl⟩
      rw [hdrop] at inv
      rw [← inv]
      show tot + sg * 2 ^ t + tvs (-sg) (ts.drop (i + 1)) = tot + (sg * 2 ^ t + tvs (-sg) (ts.drop (i + 1)))
      omega
    · rintro σ H' ⟨tot, sg, z, rfl, hsg, inv, rfl⟩
      walk_at "r"
      rw [nv_len, List.drop_length] at inv
      have : tot = tv ts := by
        have : tvs sg [] = 0 := rfl
        omega
      rw [this]
      exact q _ (Same.refl _)
/-- the form of an int whose turns are plain -/
def sp_form (K : PySem.W.Frag) : Sp := fun vs H Q _ => ∃ (n : Int) (k : Nat), vs = [.int n] ∧ k ≤ 900000 ∧ -(2 ^ k) ≤ n ∧ n < 2 ^ k ∧
  ∀ (v : V) (d : PyData) H', Fm d → val d = n → d.depth ≤ 1 → wt d ≤ k + 3 → Dp K H' v d → Same H H' → Q v H'
theorem ok__law_form (T : Top K mg) {k : Nat} : FnOk P w K mg base CX0 (k + 2) T.f__law_form T.fd__law_form ["_law_number"]  (sp_form K) := by
  have G__law_turns : FnOk P w K mg base CX0 (k + 1) T.f__law_turns T.fd__law_turns ["_law_number"]  (sp_turns K) := ok__law_turns T
  refine T.F__law_form.ok sc__law_form (fun vs H Q E h => ?_) (fun cdv A outer s H vs Q E hr h => ?_)
  · obtain ⟨n, _, rfl, _⟩ := h
    rfl
  · obtain ⟨n, kb, rfl, hk, hn1, hn2, q⟩ := h
    refine ⟨_, (pss_one (ps_ret (pe_ifExp (pt_chain op_le op_lt (pe_un un_neg (pe_op op_pow pe_int pe_int)) (pv 0) (pe_op op_pow pe_int pe_int)) (pv 0) (pe_callTy call_tuple_of (by rfl) T.m_tuple (by decide +kernel) (pa_cons (pe_call G__law_turns (hr.mono (by omega)) (by rfl) T.g__law_turns T.F__law_turns.kp T.b__law_turns .nil pass0 (pa_cons (pv 0) pa_nil)) pa_nil))))), ?_⟩
    walk_at "r"
    by_cases hpl : -(2 ^ 64) ≤ n ∧ n < 2 ^ 64
    · refine ifD (fun _ => ?_) (fun z => absurd hpl.1 z)
      walk_at "r"
      refine ifD (fun _ => ?_) (fun z => absurd hpl.2 z)
      walk_at "r"
      exact q _ _ _ ((fm_int n).mpr hpl) (val_int n) (by rw [depth_int]; decide) (by rw [wt_int]; omega) (.int n) (Same.refl _)
    · refine ifChain ?_ (fun h1 hB => ?_)
      · walk_at "r"
        refine ⟨n, kb, rfl, hk, hn1, hn2, fun ts l H' hA hn hb hlen sm nl hl => ?_⟩
        refine ⟨l, _, rfl, .inl ⟨.inl (.inl hl), fun r nr => ?_⟩⟩
        have h64 : ∃ t ∈ ts, 64 < t := by
          apply Classical.byContradiction
          intro hc
          apply hpl
          rw [← hn, ← tv_range hA]
          intro t ht
          apply Nat.le_of_not_lt
          intro hlt
          exact hc ⟨t, ht, hlt⟩
        obtain ⟨f1, f2⟩ := fm_small hA (fun t ht => by have := hb t ht; omega) h64
        refine q _ _ _ f1 (f2.trans hn) (by rw [depth_tuple, depthAll_iD]; exact Nat.le_refl _) (by rw [wt_tuple, wtAll_iD]; omega) (.tup (.inl (.inl upd_same)) (dp_nv ts)) (sm.trans (sm_upd nr))
      · walk_at "r"
        refine ifD (fun h2 => absurd ⟨h1, h2⟩ hpl) (fun _ => hB)
end
end K03
set_option Elab.async false
set_option linter.all false
set_option maxRecDepth 100000
namespace K03
open PySem PySem.Spec PyProof.Rows L2 HX TV FM DX
local macro_rules | `(tactic| walk_at "r") => `(tactic| (repeat (first | refine Exists.intro _ (And.intro rfl ?_) | refine And.intro rfl ?_ | refine Exists.intro _ (Exists.intro _ (And.intro rfl (And.intro rfl ?_))) | refine And.intro (by omega) ?_ | refine And.intro (Or.inl (And.intro (by omega) (by omega))) ?_ | refine And.intro (Or.inr (And.intro (by omega) (by omega))) ?_ | refine And.intro (And.intro (by omega) (by omega)) ?_ | refine And.intro (And.intro (by decide) (And.intro (by decide) (by decide))) ?_ | refine Or.inl (Exists.intro _ (And.intro rfl ?_)) | (dsimp only [gName]; first | with_reducible refine seqC ?_ | with_reducible refine asgC ?_))))
local macro_rules | `(tactic| walk_at "s") => `(tactic| (repeat (first | refine Exists.intro _ (And.intro rfl ?_) | refine And.intro rfl ?_ | refine Exists.intro _ (Exists.intro _ (And.intro rfl (And.intro rfl ?_))) | refine And.intro (by omega) ?_ | refine And.intro (Or.inl (And.intro (by omega) (by omega))) ?_ | refine And.intro (Or.inr (And.intro (by omega) (by omega))) ?_ | refine And.intro (And.intro (by omega) (by omega)) ?_ | refine And.intro (And.intro (by decide) (And.intro (by decide) (by decide))) ?_ | refine Or.inl (Exists.intro _ (And.intro rfl ?_)) | refine Exists.intro _ (Exists.intro _ (And.intro rfl ?_)) | (dsimp only [gName]; first | with_reducible refine seqC ?_ | with_reducible refine asgC ?_))))
section
variable {P : Program} {w : World} {K : PySem.W.Frag} {mg : Str → Option Value} {base : Heap}
theorem fm_plain {d : PyData} (h : Fm d) (h1 : -(2 ^ 64) ≤ val d) (h2 : val d < 2 ^ 64) : d = .int (val d) := by
  cases d with
  | int i => rw [val_int]
  | tuple ds => exact absurd ⟨h1, h2⟩ (tuple_far h)
  | none => simp [Fm] at h
  | bool _ => simp [Fm] at h
  | str _ => simp [Fm] at h
  | list _ => simp [Fm] at h
  | dict _ => simp [Fm] at h
theorem fm_tup {d : PyData} (h : Fm d) (h1 : ∀ i, d ≠ .int i) : ∃ ds, d = .tuple ds := by
  cases d with
  | int i => exact absurd rfl (h1 i)
  | tuple ds => exact ⟨ds, rfl⟩
  | none => simp [Fm] at h
  | bool _ => simp [Fm] at h
  | str _ => simp [Fm] at h
  | list _ => simp [Fm] at h
  | dict _ => simp [Fm] at h
theorem ds_small : ∀ {ds : List PyData}, FmAll ds → (∀ t ∈ vals ds, t ≤ 64) → ds = iD (vals ds)
  | [], _, _ => by simp [vals, iD]
  | d :: r, f, h => by
    rw [fmAll_cons] at f
    rw [vals_cons] at h ⊢
    have h1 := h (val d).toNat (by simp)
    have h0 := f.2.1
    have e := fm_plain f.1 (by omega) (by omega)
    show d :: r = .int ((val d).toNat : Nat) :: iD (vals r)
    rw [← ds_small f.2.2 fun t ht => h t (by simp [ht])]
    congr 1
    rw [show (((val d).toNat : Nat) : Int) = val d by omega]
    exact e
theorem nv_of {H : Hp} : ∀ {ts : List Nat} {vs : List V}, DpAll K H vs (iD ts) → vs = nv ts
  | [], _, h => by
    cases h
    rfl
  | t :: r, _, h => by
    cases h with
    | cons h1 h2 =>
      cases h1
      show _ = .int (t : Nat) :: nv r
      rw [nv_of h2]
theorem last_is {α : Type} {l : List α} (h : l ≠ []) : ∃ a r, l = r ++ [a] := ⟨l.getLast h, l.dropLast, (List.dropLast_concat_getLast h).symm⟩
/-- the form of a row of places -/
def sp_row (K : PySem.W.Frag) : Sp := fun vs H Q _ => ∃ (a : Addr) (us : List V) (ds : List PyData), vs = [.ref a] ∧ H a = some (.lst us) ∧ DpAll K H us ds ∧ FmAll ds ∧ Asc (vals ds) ∧ PyData.depthAll ds ≤ 20 ∧ ds.length ≤ 1000000 ∧
  ∀ (v : V) (d : PyData) H', Fm d → val d = tv (vals ds) → d.depth ≤ PyData.depthAll ds + 1 → wt d ≤ wtAll ds + 1 → Dp K H' v d → Same H H' → Q v H'
theorem ok__law_row_form (T : Top K mg) {k : Nat} : FnOk P w K mg base CX0 (k + 2) T.f__law_row_form T.fd__law_row_form ["_law_places"]  (sp_row K) := by
  have G__law_int : FnOk P w K mg base CX0 (k + 1) T.f__law_int T.fd__law_int ["_law_places"]  (sp_int K) := ok__law_int T
  refine T.F__law_row_form.ok sc__law_row_form (fun vs H Q E h => ?_) (fun cdv A outer s H vs Q E hr h => ?_)
  · obtain ⟨a, us, ds, rfl, _⟩ := h
    rfl
  · obtain ⟨a, us, ds, rfl, ha, hD, hF, hA, hdep, hlen, q⟩ := h
    have hul := dpAll_len hD
    refine ⟨_, (pss_cons (ps_if (PW.pt (pw_or (pt_cmpR (op_eqD hr.units) (pv 0) (pe_lst pa_nil) (nomark _)) (pw_or1 (PW.pt (pw_and (pt_val (pe_callB call_isi (by rfl) T.m_isinstance (by decide +kernel) (pa_cons (pe_ix ix_list (pv 0) (pe_un un_neg pe_int) (fun _ _ => rfl)) (pa_cons (pe_bltn (v := .ty "int") (by rfl) T.m_int (by decide +kernel) rfl) pa_nil))) (fun _ => rfl)) (pw_and1 (pt_cmpR op_le (pe_ix ix_list (pv 0) (pe_un un_neg pe_int) (fun _ _ => rfl)) pe_int (nomark _))))))))
      (pss_one (ps_ret (pe_call G__law_int (hr.mono (by omega)) (by rfl) T.g__law_int T.F__law_int.kp T.b__law_int .nil pass0 (pa_cons (pv 0) pa_nil))))
      pss_nil)
    (pss_one (ps_ret (pe_callTy call_tuple_of (by rfl) T.m_tuple (by decide +kernel) (pa_cons (pv 0) pa_nil))))), ?_⟩
    refine ⟨_, rfl, Nat.zero_le _, fun e ne => ?_⟩
    have sm1 := sm_upd (o := .lst []) ne
    have ha1 := sm1 _ _ ha
    have hD1 := dpAll_tk (tk_same sm1) hF hD
    refine ⟨_, _, .lst (.inl (.inl ha1)) hD1, .lst (.inl (.inl upd_same)) .nil, shaped_fms hF (by omega), shaped_ints [], _, rfl, ?_⟩
    rw [eqv_nil]
    replace q := fun v d H' f1 f2 f3 f5 f4 (e : Same (upd H e (.lst [])) H') => q v d H' f1 f2 f3 f5 f4 (sm1.trans e)
    revert ha1 hD1 q
    generalize upd H e (.lst []) = H1
    intro ha1 hD1 q
    -- where all places are at most 64
    have small : (∀ t ∈ vals ds, t ≤ 64) → ∀ (Q' : VK), (∀ v d H', Fm d → val d = tv (vals ds) → d.depth ≤ PyData.depthAll ds + 1 → wt d ≤ wtAll ds + 1 → Dp K H' v d → Same H1 H' → Q' v H') →
        sp_int K [.ref a] H1 Q' E0 := fun h64 Q' q' => by
      have eds := ds_small hF h64
      have eus : us = nv (vals ds) := nv_of (H := H1) (by rw [← eds]; exact hD1)
      refine ⟨a, vals ds, rfl, eus ▸ .inl (.inl ha1), fun t ht => by have := h64 t ht; omega, fun H' sm => ?_⟩
      exact q' _ _ _ ((fm_int _).mpr ((tv_range hA).mp h64)) (val_int _) (by rw [depth_int]; exact Nat.zero_le _) (by rw [wt_int]; omega) (.int _) sm
    by_cases hne : ds = []
    · subst hne
      refine ifY rfl (ifY rfl ?_)
      refine ⟨_, rfl, small (by simp [vals]) _ q⟩
    · obtain ⟨dl, dr, rfl⟩ := last_is hne
      have hune : us ≠ [] := by
        rintro rfl
        simp at hul
      obtain ⟨ul, ur, rfl⟩ := last_is hune
      have hDl : Dp K H1 ul dl := by
        obtain ⟨d', h1, h2⟩ := dpAll_get (i := ur.length) (v := ul) hD1 (by simp)
        have : ur.length = dr.length := by simpa using hul
        rw [this] at h1
        simp at h1
        rw [h1]
        exact h2
      have hFl : Fm dl ∧ 0 ≤ val dl := fmAll_mem hF dl (by simp)
      have hle : ∀ t ∈ vals (dr ++ [dl]), t ≤ (val dl).toNat := by
        intro t ht
        rw [vals_app, vals_cons, vals_nil] at ht hA
        have := asc_pairwise.mp hA
        rw [List.pairwise_append] at this
        rcases List.mem_append.mp ht with ht | ht
        · exact Nat.le_of_lt (this.2.2 t ht _ (by simp))
        · simp at ht
          omega
      refine ifZ (by simp) ?_
      have big : 64 < val dl → ∀ (Q' : VK), (∀ v d H', Fm d → val d = tv (vals (dr ++ [dl])) → d.depth ≤ PyData.depthAll (dr ++ [dl]) + 1 → wt d ≤ wtAll (dr ++ [dl]) + 1 → Dp K H' v d → Same H1 H' → Q' v H') →
          (∃ p ys, [V.ref a] = [V.ref p] ∧ ((SqL K H1 p ys ∧ ∀ l, H1 l = none → Q' (.ref l) (upd H1 l (.tup ys))) ∨ (SqT K H1 p ys ∧ Q' (.ref p) H1))) := fun h64 Q' q' => by
        refine ⟨a, _, rfl, .inl ⟨.inl (.inl ha1), fun l nl => ?_⟩⟩
        refine q' _ (.tuple (dr ++ [dl])) _ ((fm_tuple _).mpr ⟨hF, hA, (val dl).toNat, ?_, by omega⟩) (val_tuple _) (by rw [depth_tuple]; exact Nat.le_refl _) (by rw [wt_tuple]; omega) (.tup (.inl (.inl upd_same)) (dpAll_tk (tk_same (sm_upd nl)) hF hD1)) (sm_upd nl)
        rw [vals_app, vals_cons]
        simp
      refine ⟨_, rfl, _, rfl, a, _, -1, ul, rfl, rfl, .inl (.inl ha1), atI_last _ _, ?_⟩
      by_cases hi : ∃ i, dl = .int i
      · obtain ⟨i, rfl⟩ := hi
        cases hDl
        rw [val_int] at hle big
        refine ⟨_, _, _, _, true, rfl, .ty "int", tyI _, k_ii, true, rfl, iteT ?_⟩
        refine ⟨_, rfl, _, rfl, a, _, -1, _, rfl, rfl, .inl (.inl ha1), atI_last _ _, ?_⟩
        walk_at "r"
        refine ifD (fun hc => ?_) (fun hc => ?_)
        · refine ⟨_, rfl, small (fun t ht => by have := hle t ht; omega) _ q⟩
        · refine ⟨_, rfl, big (by omega) _ q⟩
      · obtain ⟨es, rfl⟩ := fm_tup hFl.1 fun i e => hi ⟨i, e⟩
        have hfar := tuple_far hFl.1
        have h0 := hFl.2
        cases hDl with
        | tup h1 h2 =>
          refine ⟨_, _, _, _, false, rfl, .ty "int", tyT h1, k_ti, false, rfl, iteF (iteF ?_)⟩
          refine ⟨_, rfl, big ?_ _ q⟩
          apply Int.lt_of_not_ge
          intro hc
          exact hfar ⟨by omega, by omega⟩
end
end K03
set_option Elab.async false
set_option linter.all false
set_option maxRecDepth 100000
namespace K03
open PySem PySem.Spec PyProof.Rows L2 HX TV FM DX FB
local macro_rules | `(tactic| walk_at "r") => `(tactic| (repeat (first | refine Exists.intro _ (And.intro rfl ?_) | refine And.intro rfl ?_ | refine Exists.intro _ (Exists.intro _ (And.intro rfl (And.intro rfl ?_))) | refine And.intro (by omega) ?_ | refine And.intro (Or.inl (And.intro (by omega) (by omega))) ?_ | refine And.intro (Or.inr (And.intro (by omega) (by omega))) ?_ | refine And.intro (And.intro (by omega) (by omega)) ?_ | refine And.intro (And.intro (by decide) (And.intro (by decide) (by decide))) ?_ | refine Or.inl (Exists.intro _ (And.intro rfl ?_)) | (dsimp only [gName]; first | with_reducible refine seqC ?_ | with_reducible refine asgC ?_))))
local macro_rules | `(tactic| walk_at "s") => `(tactic| (repeat (first | refine Exists.intro _ (And.intro rfl ?_) | refine And.intro rfl ?_ | refine Exists.intro _ (Exists.intro _ (And.intro rfl (And.intro rfl ?_))) | refine And.intro (by omega) ?_ | refine And.intro (Or.inl (And.intro (by omega) (by omega))) ?_ | refine And.intro (Or.inr (And.intro (by omega) (by omega))) ?_ | refine And.intro (And.intro (by omega) (by omega)) ?_ | refine And.intro (And.intro (by decide) (And.intro (by decide) (by decide))) ?_ | refine Or.inl (Exists.intro _ (And.intro rfl ?_)) | refine Exists.intro _ (Exists.intro _ (And.intro rfl ?_)) | (dsimp only [gName]; first | with_reducible refine seqC ?_ | with_reducible refine asgC ?_))))
section
variable {P : Program} {w : World} {K : PySem.W.Frag} {mg : Str → Option Value} {base : Heap}
/-- the fields: a list of the first m of four -/
def sp_fields (K : PySem.W.Frag) : Sp := fun vs H Q _ => ∃ (τ : Tp) (n m : Nat), vs = [.ref τ.p, .int m] ∧ n < 900000 ∧ m ≤ 4 ∧ Tape H τ n ∧
  ∀ (l : Addr) (us : List V) (fs : List PyData) H', Fields fs → DpAll K H' us fs → H l = none → H' l = some (.lst (us.take m)) → Tape H' τ (n + 12) → But τ.p H H' → Q (.ref l) H'
theorem cut_take {xs : List V} {m : Nat} : cutV xs none (some (m : Int)) = xs.take m := by
  unfold cutV
  rw [HT.sIx_nat xs.length xs.length m, HT.sIx_none]
  show List.take (min m xs.length - 0) xs = _
  rw [Nat.sub_zero, List.take_eq_take_iff]
  omega
theorem but_tk {H H' : Hp} {τ : Tp} {n : Nat} (h : Tape H τ n) (b : But τ.p H H') : Tk H H' := tk_but b h.mut
theorem first_in {d : Int} {v : V} (h1 : 0 ≤ d) (h2 : d < 1000000) (h : v ∈ [V.int 200, .int 130, .int (2 ^ (64 : Int).toNat - 90), .int (2 ^ (64 : Int).toNat - 1), .int (2 ^ (63 : Int).toNat), .int (10 ^ (9 : Int).toNat * 1000 + d)]) :
    ∃ f : Nat, v = .int (f : Nat) ∧ 130 ≤ f ∧ f < 2 ^ 64 := by
  simp only [List.mem_cons, List.not_mem_nil, or_false] at h
  rcases h with rfl | rfl | rfl | rfl | rfl | rfl
  · exact ⟨200, rfl, by decide, by decide⟩
  · exact ⟨130, rfl, by decide, by decide⟩
  · exact ⟨2 ^ 64 - 90, rfl, by decide, by decide⟩
  · exact ⟨2 ^ 64 - 1, rfl, by decide, by decide⟩
  · exact ⟨2 ^ 63, rfl, by decide, by decide⟩
  · refine ⟨10 ^ 9 * 1000 + d.toNat, ?_, by omega, by omega⟩
    rw [show ((10 : Int) ^ (9 : Int).toNat * 1000 + d) = ((10 ^ 9 * 1000 + d.toNat : Nat) : Int) by
      show (1000000000 : Int) * 1000 + d = _
      omega]
theorem nat_of {d : Int} {n : Nat} (h1 : 0 ≤ d) (h2 : d < n) : ∃ k : Nat, d = (k : Nat) ∧ k < n := ⟨d.toNat, by omega, by omega⟩
theorem ok__law_fields (T : Top K mg) {k : Nat} : FnOk P w K mg base CX0 (k + 3) T.f__law_fields T.fd__law_fields ["_law_tape", "_law_many"]  (sp_fields K) := by
  have G__law_draw : FnOk P w K mg base CX0 (k + 1) T.f__law_draw T.fd__law_draw ["_law_tape", "_law_limit"]  sp_draw := ok__law_draw T
  have G__law_pick : FnOk P w K mg base CX0 (k + 2) T.f__law_pick T.fd__law_pick ["_law_tape", "_law_some"]  sp_pick := ok__law_pick T
  refine T.F__law_fields.ok sc__law_fields (fun vs H Q E h => ?_) (fun cdv A outer s H vs Q E hr h => ?_)
  · obtain ⟨τ, n, m, rfl, _⟩ := h
    rfl
  · obtain ⟨τ, n, m, rfl, hn, hm, hT, q⟩ := h
    refine ⟨_, (pss_cons (ps_set (i := 2) sc__law_fields.nd rfl (Or.inl rfl) (pe_call G__law_pick (hr.mono (by omega)) (by rfl) T.g__law_pick T.F__law_pick.kp T.b__law_pick .nil pass0 (pa_cons (pv 0) (pa_cons (pe_lst (pa_cons pe_int (pa_cons pe_int (pa_cons (pe_op op_sub (pe_op op_pow pe_int pe_int) pe_int) (pa_cons (pe_op op_sub (pe_op op_pow pe_int pe_int) pe_int) (pa_cons (pe_op op_pow pe_int pe_int) (pa_cons (pe_op op_add (pe_op op_mul (pe_op op_pow pe_int pe_int) pe_int) (pe_call G__law_draw (hr.mono (by omega)) (by rfl) T.g__law_draw T.F__law_draw.kp T.b__law_draw .nil pass0 (pa_cons (pv 0) (pa_cons (pe_op op_pow pe_int pe_int) pa_nil)))) pa_nil))))))) pa_nil))))
    (pss_cons (ps_set (i := 3) sc__law_fields.nd rfl (Or.inl rfl) (pe_lst (pa_cons pe_int (pa_cons (pv 2) pa_nil))))
    (pss_cons (ps_set (i := 4) sc__law_fields.nd rfl (Or.inl rfl) (pe_op op_add pe_int (pe_call G__law_draw (hr.mono (by omega)) (by rfl) T.g__law_draw T.F__law_draw.kp T.b__law_draw .nil pass0 (pa_cons (pv 0) (pa_cons pe_int pa_nil)))))
    (pss_cons (ps_expr (pe_bm PySem.F.plainAttrs_list PySem.F.slot_list_append PySem.F.type_list_append mt_append (pv 3) (pa_cons (pe_tup (pa_cons (pv 4) (pa_cons (pe_op op_add (pe_op op_add (pv 4) pe_int) (pe_call G__law_draw (hr.mono (by omega)) (by rfl) T.g__law_draw T.F__law_draw.kp T.b__law_draw .nil pass0 (pa_cons (pv 0) (pa_cons pe_int pa_nil)))) pa_nil))) pa_nil)))
    (pss_cons (ps_par (i := 5) (j := 6) rfl sc__law_fields.nd rfl rfl (by decide) rfl rfl (pa_cons (pe_ix ix_list (pv 3) pe_int (fun _ _ => rfl)) (pa_cons (pe_op op_add pe_int (pe_call G__law_draw (hr.mono (by omega)) (by rfl) T.g__law_draw T.F__law_draw.kp T.b__law_draw .nil pass0 (pa_cons (pv 0) (pa_cons pe_int pa_nil)))) pa_nil)) rfl)
    (pss_cons (ps_if (pt_cmpR op_eq (pe_call G__law_draw (hr.mono (by omega)) (by rfl) T.g__law_draw T.F__law_draw.kp T.b__law_draw .nil pass0 (pa_cons (pv 0) (pa_cons pe_int pa_nil))) pe_int (nomark _))
      (pss_cons (ps_asg (pe_tup (pa_cons (pv 4) (pa_cons (pe_op op_add (pv 4) pe_int) (pa_cons (pe_op op_add (pe_op op_add (pv 4) pe_int) (pv 6)) (pa_cons (pe_op op_add (pe_op op_add (pe_op op_add (pv 4) pe_int) (pe_op op_mul pe_int (pv 6))) (pe_call G__law_draw (hr.mono (by omega)) (by rfl) T.g__law_draw T.F__law_draw.kp T.b__law_draw .nil pass0 (pa_cons (pv 0) (pa_cons (pe_op op_pow pe_int pe_int) pa_nil)))) pa_nil))))) (pg_sub (pv 3) pe_int set_list))
      (pss_one (ps_set (i := 5) sc__law_fields.nd rfl (Or.inl rfl) (pe_ix ix_list (pv 3) pe_int (fun _ _ => rfl)))))
      pss_nil)
    (pss_cons (ps_expr (pe_bm PySem.F.plainAttrs_list PySem.F.slot_list_append PySem.F.type_list_append mt_append (pv 3) (pa_cons (pe_tup (pa_cons (pv 6) (pa_cons (pv 5) pa_nil))) pa_nil)))
    (pss_cons (ps_if (pt_cmpR op_eq (pe_call G__law_draw (hr.mono (by omega)) (by rfl) T.g__law_draw T.F__law_draw.kp T.b__law_draw .nil pass0 (pa_cons (pv 0) (pa_cons pe_int pa_nil))) pe_int (nomark _))
      (pss_cons (ps_asg (pe_tup (pa_cons (pv 5) (pa_cons (pe_op op_catA (pe_callTy call_tuple_of (by rfl) T.m_tuple (by decide +kernel) (pa_cons (pe_lst (pa_cons (pe_op op_add (pe_call G__law_draw (hr.mono (by omega)) (by rfl) T.g__law_draw T.F__law_draw.kp T.b__law_draw .nil pass0 (pa_cons (pv 0) (pa_cons pe_int pa_nil))) pe_int) (pa_cons pe_int pa_nil))) pa_nil)) (pv 5)) pa_nil))) (pg_sub (pv 3) pe_int set_list))
      (pss_one (ps_if (pt_cmpR op_eq (pe_call G__law_draw (hr.mono (by omega)) (by rfl) T.g__law_draw T.F__law_draw.kp T.b__law_draw .nil pass0 (pa_cons (pv 0) (pa_cons pe_int pa_nil))) pe_int (nomark _))
        (pss_one (ps_asg (pe_tup (pa_cons (pv 6) (pa_cons (pe_op op_add (pv 6) pe_int) (pa_cons (pe_ix ix_list (pv 3) pe_int (fun _ _ => rfl)) (pa_cons (pe_tup (pa_cons (pv 6) (pa_cons (pv 5) pa_nil))) pa_nil))))) (pg_sub (pv 3) pe_int set_list)))
        pss_nil)))
      pss_nil)
    (pss_one (ps_ret (pe_slice sl_list (pv 3) po_none (po_some (pv 1))))))))))))), ?_⟩
    walk_at "r"
    refine ⟨τ, n, 1000000, rfl, by decide, by decide, by omega, hT, fun d1 H1 hd1 hd1' hT1 b1 => ?_⟩
    walk_at "r"
    refine ⟨by show 6 ≤ sizeLine; decide, fun l1 nl1 => ?_⟩
    have b2 := b1.new (o := .lst [.int 200, .int 130, .int (2 ^ (64 : Int).toNat - 90), .int (2 ^ (64 : Int).toNat - 1), .int (2 ^ (63 : Int).toNat), .int (10 ^ (9 : Int).toNat * 1000 + d1)]) nl1
    refine ⟨τ, l1, n + 1, _, rfl, by omega, hT1.up (sm_upd nl1), upd_same, by show 1 ≤ 6; decide, by show 6 ≤ 100000; decide, fun v H3 hv hT3 b3 => ?_⟩
    obtain ⟨f1, rfl, hf1, hf2⟩ := first_in hd1 hd1' hv
    replace b3 := b2.trans b3
    walk_at "r"
    refine ⟨by show 2 ≤ sizeLine; decide, fun o no => ?_⟩
    have hoe := hT3.new no
    have no0 : H o = none := by
      cases e : H o with
      | none => rfl
      | some u =>
        rw [b3 o u hoe.1 e] at no
        cases no
    have hT4 := hT3.up (sm_upd (o := .lst [.int 0, .int (f1 : Nat)]) no)
    have ho4 := upd_at (o := .lst [.int 0, .int (f1 : Nat)]) no
    have b4 := b3.new (o := .lst [.int 0, .int (f1 : Nat)]) no
    revert hT4 ho4 b4
    generalize upd H3 o (.lst [.int 0, .int (f1 : Nat)]) = H4
    intro hT4 ho4 b4
    walk_at "r"
    refine ⟨τ, n + 2, 60, rfl, by decide, by decide, by omega, hT4, fun d2 H5 hd2 hd2' hT5 b5 => ?_⟩
    have ho5 := b5 _ _ hoe.1 ho4
    replace b5 := b4.trans b5
    obtain ⟨x2, rfl, hx2⟩ := nat_of (n := 60) hd2 hd2'
    walk_at "r"
    refine ⟨.inl ⟨rfl, _, .inl (.inl ho5)⟩, ?_⟩
    walk_at "r"
    refine ⟨τ, n + 3, 90, rfl, by decide, by decide, by omega, hT5, fun d3 H6 hd3 hd3' hT6 b6 => ?_⟩
    have ho6 := b6 _ _ hoe.1 ho5
    replace b6 := b5.trans b6
    obtain ⟨x3, rfl, hx3⟩ := nat_of (n := 90) hd3 hd3'
    walk_at "r"
    refine ⟨by show 2 ≤ sizeLine; decide, fun t2 nt2 => ?_⟩
    have sm7 := sm_upd (o := .tup [.int (200 + x2), .int (200 + x2 + 1 + x3)]) nt2
    have ho7 := sm7 _ _ ho6
    refine ⟨o, _, _, rfl, rfl, ho7, by show 2 < sizeLine; decide, ?_⟩
    have no2 : t2 ≠ o := (ne_of_none ho6 nt2).symm
    have ht2 : (upd (upd H6 t2 (.tup [.int (200 + x2), .int (200 + x2 + 1 + x3)])) o (.lst [.int 0, .int (f1 : Nat), .ref t2])) t2 = some (.tup (nv [200 + x2, 200 + x2 + 1 + x3])) := by
      rw [upd_ne no2, upd_same]
      rfl
    have hT7 := (hT6.up sm7).set (o := .lst [.int 0, .int (f1 : Nat), .ref t2]) hoe
    have b7 := but_new (x := .lst [.int 0, .int (f1 : Nat), .ref t2]) (b6.trans (But.of sm7)) no0
    have ho8 := upd_same (H := upd H6 t2 (.tup [.int (200 + x2), .int (200 + x2 + 1 + x3)])) (a := o) (o := .lst [.int 0, .int (f1 : Nat), .ref t2])
    have S0 : Sec [200 + x2, 200 + x2 + 1 + x3] := ⟨⟨by omega, trivial⟩, by simp, by simp, fun t ht => by simp at ht; omega, fun t ht => by simp at ht; omega, by simp⟩
    show tSeq _ _ _ _ (upd (upd H6 t2 (.tup [.int (200 + x2), .int (200 + x2 + 1 + x3)])) o (.lst [.int 0, .int (f1 : Nat), .ref t2]))
    revert ht2 hT7 b7 ho8
    generalize upd (upd H6 t2 (.tup [.int (200 + x2), .int (200 + x2 + 1 + x3)])) o (.lst [.int 0, .int (f1 : Nat), .ref t2]) = H8
    intro ht2 hT8 b8 ho8
    refine ⟨_, rfl, o, _, 2, .ref t2, rfl, rfl, .inl (.inl ho8), atI_nat (j := 2) rfl, ?_⟩
    walk_at "r"
    refine ⟨τ, n + 4, 40, rfl, by decide, by decide, by omega, hT8, fun d4 H9 hd4 hd4' hT9 b9 => ?_⟩
    have ho9 := b9 _ _ hoe.1 ho8
    have ht9 := b9 _ _ (hT8.neT ht2) ht2
    replace b9 := b8.trans b9
    obtain ⟨x4, rfl, hx4⟩ := nat_of (n := 40) hd4 hd4'
    walk_at "r"
    refine ⟨_, _, rfl, ?_⟩
    walk_at "r"
    refine ⟨τ, n + 5, 2, rfl, by decide, by decide, by omega, hT9, fun d5 H10 hd5 hd5' hT10 b10 => ?_⟩
    have ho10 := b10 _ _ hoe.1 ho9
    have ht10 := b10 _ _ (hT9.neT ht9) ht9
    replace b10 := b9.trans b10
    walk_at "r"
    refine if_join (fun σ' H' => ∃ (t : Addr) (ts : List Nat), σ' = [some (.ref τ.p), some (.int m), some (.int (f1 : Nat)), some (.ref o), some (.int (200 + x2)), some (.ref t), some (.int (150 + x4))] ∧ Sec ts ∧ H' t = some (.tup (nv ts)) ∧ H' o = some (.lst [.int 0, .int (f1 : Nat), .ref t]) ∧ Tape H' τ (n + 7) ∧ But τ.p H H') ?_ (fun D1 J hb => ?_) (fun D1 J hb => ?_)
    · rintro σ' H11 ⟨t, ts, rfl, S, ht11, ho11, hT11, b11⟩
      dsimp only
      refine ⟨_, rfl, .inl ⟨rfl, _, .inl (.inl ho11)⟩, ?_⟩
      walk_at "r"
      refine ⟨by show 2 ≤ sizeLine; decide, fun t3 nt3 => ?_⟩
      have sm12 := sm_upd (o := .tup [.int (150 + x4), .ref t]) nt3
      have no3 : t3 ≠ o := (ne_of_none ho11 nt3).symm
      refine ⟨o, _, _, rfl, rfl, sm12 _ _ ho11, by show 3 < sizeLine; decide, ?_⟩
      have ht13 : (upd (upd H11 t3 (.tup [.int (150 + x4), .ref t])) o (.lst [.int 0, .int (f1 : Nat), .ref t, .ref t3])) t3 = some (.tup [.int (150 + x4), .ref t]) := by
        rw [upd_ne no3, upd_same]
      have htt : (upd (upd H11 t3 (.tup [.int (150 + x4), .ref t])) o (.lst [.int 0, .int (f1 : Nat), .ref t, .ref t3])) t = some (.tup (nv ts)) := by
        rw [upd_ne (ne_of ht11 ho11 (by intro z; cases z))]
        exact sm12 _ _ ht11
      have hT13 := (hT11.up sm12).set (o := .lst [.int 0, .int (f1 : Nat), .ref t, .ref t3]) hoe
      have b13 := but_new (x := .lst [.int 0, .int (f1 : Nat), .ref t, .ref t3]) (b11.trans (But.of sm12)) no0
      have ho13 := upd_same (H := upd H11 t3 (.tup [.int (150 + x4), .ref t])) (a := o) (o := .lst [.int 0, .int (f1 : Nat), .ref t, .ref t3])
      dsimp only [List.cons_append, List.nil_append]
      revert ht13 htt hT13 b13 ho13
      generalize upd (upd H11 t3 (.tup [.int (150 + x4), .ref t])) o (.lst [.int 0, .int (f1 : Nat), .ref t, .ref t3]) = H13
      intro ht13 htt hT13 b13 ho13
      have eg : ((150 + x4 : Nat) : Int) = 150 + (x4 : Int) := by omega
      -- the end
      refine cut (fun σ' H' => ∃ (t3 : Addr) (es : List PyData), σ' = [some (.ref τ.p), some (.int m), some (.int (f1 : Nat)), some (.ref o), some (.int (200 + x2)), some (.ref t), some (.int (150 + x4))] ∧ Third ts es ∧ Dp K H' (.ref t3) (.tuple es) ∧ H' t = some (.tup (nv ts)) ∧ H' o = some (.lst [.int 0, .int (f1 : Nat), .ref t, .ref t3]) ∧ Tape H' τ (n + 12) ∧ But τ.p H H') (fun D1 J => ?_) ?_
      · walk_at "r"
        refine ⟨τ, n + 7, 2, rfl, by decide, by decide, by omega, hT13, fun d7 H14 hd7 hd7' hT14 b14 => ?_⟩
        have ho14 := b14 _ _ hoe.1 ho13
        have ht14 := b14 _ _ (hT13.neT htt) htt
        have hs14 := b14 _ _ (hT13.neT ht13) ht13
        replace b14 := b13.trans b14
        walk_at "r"
        refine ifE (fun _ => ?_) (fun _ => ?_)
        · walk_at "r"
          refine ⟨τ, n + 8, 60, rfl, by decide, by decide, by omega, hT14, fun d8 H15 hd8 hd8' hT15 b15 => ?_⟩
          have ho15 := b15 _ _ hoe.1 ho14
          have ht15 := b15 _ _ (hT14.neT ht14) ht14
          replace b15 := b14.trans b15
          obtain ⟨x8, rfl, hx8⟩ := nat_of (n := 60) hd8 hd8'
          walk_at "r"
          refine ⟨by show 2 ≤ sizeLine; decide, fun l8 nl8 => ?_⟩
          have s16 := sm_upd (o := .lst [.int (x8 + 1), .int 64]) nl8
          refine ⟨l8, _, rfl, .inl ⟨.inl (.inl upd_same), fun t8 nt8 => ?_⟩⟩
          have s17 := s16.trans (sm_upd (o := .tup [.int (x8 + 1), .int 64]) nt8)
          walk_at "r"
          refine ⟨t8, t, _, _, rfl, rfl, .inl (.inl upd_same), .inl (.inl (s17 _ _ ht15)), ?_, (fun z => by cases z), (fun _ z => ?_), (fun _ _ t9 nt9 => ?_)⟩
          · rw [nv_len]
            have := S.len
            exact len_le (by show 2 + ts.length ≤ 16000000; omega)
          · exact absurd (by simpa [nv] using z) S.ne
          have s18 := s17.trans (sm_upd (o := .tup ([V.int (x8 + 1), .int 64] ++ nv ts)) nt9)
          have h9 := upd_at (o := .tup ([V.int (x8 + 1), .int 64] ++ nv ts)) nt9
          refine ⟨by show 2 ≤ sizeLine; decide, fun t10 nt10 => ?_⟩
          have s19 := s18.trans (sm_upd (o := .tup [.ref t, .ref t9]) nt10)
          have h9' := (sm_upd (o := .tup [.ref t, .ref t9]) nt10) _ _ h9
          have h10 := upd_at (o := .tup [.ref t, .ref t9]) nt10
          have hT19 := hT15.up s19
          have ho19 := s19 _ _ ho15
          have ht19 := s19 _ _ ht15
          have b19 := b15.trans (But.of s19)
          revert h9' h10 hT19 ho19 ht19 b19
          generalize (upd (upd _ t9 _) t10 _) = H19
          intro h9' h10 hT19 ho19 ht19 b19
          refine ⟨_, rfl, o, _, 3, 3, rfl, rfl, ho19, rfl, ?_⟩
          have no9 := ne_of h9' ho19 (by intro z; cases z)
          have no10 := ne_of h10 ho19 (by intro z; cases z)
          have not19 := ne_of ht19 ho19 (by intro z; cases z)
          have hT20 := hT19.set (o := .lst [.int 0, .int (f1 : Nat), .ref t, .ref t10]) hoe
          have ho20 := upd_same (H := H19) (a := o) (o := .lst [.int 0, .int (f1 : Nat), .ref t, .ref t10])
          have h9b : (upd H19 o (.lst [.int 0, .int (f1 : Nat), .ref t, .ref t10])) t9 = _ := (upd_ne no9).trans h9'
          have h10b : (upd H19 o (.lst [.int 0, .int (f1 : Nat), .ref t, .ref t10])) t10 = _ := (upd_ne no10).trans h10
          have ht20 : (upd H19 o (.lst [.int 0, .int (f1 : Nat), .ref t, .ref t10])) t = _ := (upd_ne not19).trans ht19
          have b20 := but_new (x := .lst [.int 0, .int (f1 : Nat), .ref t, .ref t10]) b19 no0
          dsimp only [List.set]
          revert hT20 ho20 h9b h10b ht20 b20
          generalize upd H19 o (.lst [.int 0, .int (f1 : Nat), .ref t, .ref t10]) = H20
          intro hT20 ho20 h9b h10b ht20 b20
          walk_at "r"
          refine ⟨τ, n + 9, 2, rfl, by decide, by decide, by omega, hT20, fun d9 H21 hd9 hd9' hT21 b21 => ?_⟩
          have ho21 := b21 _ _ hoe.1 ho20
          have ht21 := b21 _ _ (hT20.neT ht20) ht20
          have h921 := b21 _ _ (hT20.neT h9b) h9b
          have h1021 := b21 _ _ (hT20.neT h10b) h10b
          replace b21 := b20.trans b21
          walk_at "r"
          refine ifE (fun _ => ?_) (fun _ => ?_)
          · walk_at "r"
            refine ⟨o, _, 2, _, rfl, rfl, .inl (.inl ho21), atI_nat (j := 2) rfl, ?_⟩
            walk_at "r"
            refine ⟨by show 2 ≤ sizeLine; decide, fun t11 nt11 => ?_⟩
            have s22 := sm_upd (o := .tup [.int (150 + x4), .ref t]) nt11
            have h11 := upd_at (o := .tup [.int (150 + x4), .ref t]) nt11
            refine ⟨by show 4 ≤ sizeLine; decide, fun t12 nt12 => ?_⟩
            have s23 := s22.trans (sm_upd (o := .tup [.int (150 + x4), .int (150 + x4 + 1), .ref t, .ref t11]) nt12)
            have h11' := (sm_upd (o := .tup [.int (150 + x4), .int (150 + x4 + 1), .ref t, .ref t11]) nt12) _ _ h11
            have h12 := upd_at (o := .tup [.int (150 + x4), .int (150 + x4 + 1), .ref t, .ref t11]) nt12
            have ho23 := s23 _ _ ho21
            have ht23 := s23 _ _ ht21
            refine ⟨_, rfl, o, _, 3, 3, rfl, rfl, ho23, rfl, ?_⟩
            have eg1 : ((150 + x4 + 1 : Nat) : Int) = 150 + (x4 : Int) + 1 := by omega
            have h11o := (upd_ne (o := .lst [.int 0, .int (f1 : Nat), .ref t, .ref t12]) (ne_of h11' ho23 (by intro z; cases z))).trans h11'
            have h12o := (upd_ne (o := .lst [.int 0, .int (f1 : Nat), .ref t, .ref t12]) (ne_of h12 ho23 (by intro z; cases z))).trans h12
            have hto := (upd_ne (o := .lst [.int 0, .int (f1 : Nat), .ref t, .ref t12]) (ne_of ht23 ho23 (by intro z; cases z))).trans ht23
            refine J.nx _ _ ⟨t12, _, rfl, thirdC (g := 150 + x4) S (by omega) (by omega), .tup (.inl (.inl h12o)) (.cons (eg ▸ .int _) (.cons (eg1 ▸ .int _) (.cons (.tup (.inl (.inl hto)) (dp_nv ts)) (.cons (.tup (.inl (.inl h11o)) (.cons (eg ▸ .int _) (.cons (.tup (.inl (.inl hto)) (dp_nv ts)) .nil))) .nil)))), hto, upd_same, ((hT21.up s23).set hoe).le (by omega), but_new (b21.trans (But.of s23)) no0⟩
          · refine J.nx _ _ ⟨t10, _, rfl, thirdB (x := x8 + 1) S (by omega), .tup (.inl (.inl h1021)) (.cons (.tup (.inl (.inl ht21)) (dp_nv ts)) (.cons (.tup (.inl (.inl h921)) (dp_nv ((x8 + 1) :: 64 :: ts))) .nil)), ht21, ho21, hT21.le (by omega), b21⟩
        · exact J.nx _ _ ⟨t3, _, rfl, thirdA (g := 150 + x4) S (by omega) (by omega), .tup (.inl (.inl hs14)) (.cons (eg ▸ .int _) (.cons (.tup (.inl (.inl ht14)) (dp_nv ts)) .nil)), ht14, ho14, hT14.le (by omega), b14⟩
      · rintro σ' H20 ⟨t3, es, rfl, hE, hD, ht20, ho20, hT20, b20⟩
        walk_at "r"
        refine ⟨o, _, rfl, .inl (.inl ho20), fun l nl => ?_⟩
        rw [cut_take]
        have sm := sm_upd (o := .lst (List.take m [V.int 0, .int (f1 : Nat), .ref t, .ref t3])) nl
        have F := hE.fields hf1 hf2 S
        refine q l [.int 0, .int (f1 : Nat), .ref t, .ref t3] _ _ F ?_ ?_ upd_same (hT20.up sm) (b20.trans (But.of sm))
        · obtain ⟨_, e2, e3, he, _, _, fm2, fm3, _⟩ := F.ex
          injection he with _ he
          injection he with _ he
          injection he with he2 he
          injection he with he3 _
          refine .cons (.int _) (.cons (.int _) (.cons (.tup (.inl (.inl (sm _ _ ht20))) (dp_nv ts)) (.cons (dp_tk (tk_same sm) (he3 ▸ fm3) hD) .nil)))
        · have hle := hT20.new nl
          cases e : H l with
          | none => rfl
          | some u =>
            rw [b20 l u hle.1 e] at nl
            cases nl
    · walk_at "r"
      refine ⟨τ, n + 6, 1000000000, rfl, by decide, by decide, by omega, hT10, fun d6 H11 hd6 hd6' hT11 b11 => ?_⟩
      have ho11 := b11 _ _ hoe.1 ho10
      replace b11 := b10.trans b11
      obtain ⟨x6, rfl, hx6⟩ := nat_of (n := 1000000000) hd6 hd6'
      walk_at "r"
      refine ⟨by show 4 ≤ sizeLine; decide, fun t4 nt4 => ?_⟩
      have sm12 := sm_upd (o := .tup [.int (200 + x2), .int (200 + x2 + 7), .int (200 + x2 + 9 + (150 + x4)), .int (200 + x2 + 11 + 2 * (150 + x4) + x6)]) nt4
      have no4 : t4 ≠ o := (ne_of_none ho11 nt4).symm
      refine ⟨_, rfl, o, _, 2, 2, rfl, rfl, sm12 _ _ ho11, rfl, ?_⟩
      refine ⟨_, rfl, o, _, 2, .ref t4, rfl, rfl, .inl (.inl upd_same), atI_nat (j := 2) rfl, ?_⟩
      refine J.nx _ _ ⟨t4, [200 + x2, 200 + x2 + 7, 200 + x2 + 9 + (150 + x4), 200 + x2 + 11 + 2 * (150 + x4) + x6], rfl, ⟨⟨by omega, by omega, by omega, trivial⟩, by simp, by simp, fun t ht => by simp at ht; omega, fun t ht => by simp at ht; omega, by simp⟩, ?_, upd_same, (hT11.up sm12).set hoe, but_new (b11.trans (But.of sm12)) no0⟩
      rw [upd_ne no4, upd_same]
      rfl
    · exact J.nx _ _ ⟨t2, _, rfl, S0, ht10, ho10, hT10.le (by omega), b10⟩
end
end K03
set_option Elab.async false
set_option linter.all false
set_option maxRecDepth 100000
namespace K03
open PySem PySem.Spec PyProof.Rows L2 HX TV FM DX FB FC
local macro_rules | `(tactic| walk_at "r") => `(tactic| (repeat (first | refine Exists.intro _ (And.intro rfl ?_) | refine And.intro rfl ?_ | refine Exists.intro _ (Exists.intro _ (And.intro rfl (And.intro rfl ?_))) | refine And.intro (by omega) ?_ | refine And.intro (Or.inl (And.intro (by omega) (by omega))) ?_ | refine And.intro (Or.inr (And.intro (by omega) (by omega))) ?_ | refine And.intro (And.intro (by omega) (by omega)) ?_ | refine And.intro (And.intro (by decide) (And.intro (by decide) (by decide))) ?_ | refine Or.inl (Exists.intro _ (And.intro rfl ?_)) | (dsimp only [gName]; first | with_reducible refine seqC ?_ | with_reducible refine asgC ?_))))
local macro_rules | `(tactic| walk_at "s") => `(tactic| (repeat (first | refine Exists.intro _ (And.intro rfl ?_) | refine And.intro rfl ?_ | refine Exists.intro _ (Exists.intro _ (And.intro rfl (And.intro rfl ?_))) | refine And.intro (by omega) ?_ | refine And.intro (Or.inl (And.intro (by omega) (by omega))) ?_ | refine And.intro (Or.inr (And.intro (by omega) (by omega))) ?_ | refine And.intro (And.intro (by omega) (by omega)) ?_ | refine And.intro (And.intro (by decide) (And.intro (by decide) (by decide))) ?_ | refine Or.inl (Exists.intro _ (And.intro rfl ?_)) | refine Exists.intro _ (Exists.intro _ (And.intro rfl ?_)) | (dsimp only [gName]; first | with_reducible refine seqC ?_ | with_reducible refine asgC ?_))))
section
variable {P : Program} {w : World} {K : PySem.W.Frag} {mg : Str → Option Value} {base : Heap}
/-- the form of the place that a code stands for -/
def sp_moved (K : PySem.W.Frag) : Sp := fun vs H Q _ => ∃ (c : Int) (l : Addr) (us : List V) (fs : List PyData) (m : Nat), vs = [.int c, .ref l] ∧ H l = some (.lst (us.take m)) ∧ m ≤ 4 ∧ Fields fs ∧ DpAll K H us fs ∧ CodeOk m c ∧
  ∀ (v : V) (d : PyData) H', Fm d → val d = Phi fs c → d.depth ≤ 4 → wt d ≤ 500000 → Dp K H' v d → Same H H' → Q v H'
theorem fields_get {fs : List PyData} (F : Fields fs) : ∀ i, i < 4 → (∃ f : Nat, fs[i]? = some (.int (f : Nat)) ∧ f < 2 ^ 64 ∧ Fi fs i = f) ∨ (∃ es, fs[i]? = some (.tuple es) ∧ Fm (.tuple es) ∧ (∀ t ∈ vals es, 150 ≤ t) ∧ 0 ≤ val (.tuple es) ∧ PyData.depthAll es ≤ 2 ∧ Fi fs i = (val (.tuple es)).toNat ∧ es.length ≤ 100 ∧ wtAll es ≤ 500) := by
  obtain ⟨f1, es2, es3, rfl, h1, h2, f2, f3, l2, l3, h3, h4, d2, d3, n2, n3, w2, w3⟩ := F.ex
  have : (0 : Int) < 2 ^ 140 := Int.pow_pos (by decide)
  intro i hi
  have : i = 0 ∨ i = 1 ∨ i = 2 ∨ i = 3 := by omega
  rcases this with rfl | rfl | rfl | rfl
  · refine .inl ⟨0, rfl, by decide, ?_⟩
    show (val (.int 0)).toNat = 0
    rw [val_int]; rfl
  · refine .inl ⟨f1, rfl, h2, ?_⟩
    show (val (.int (f1 : Nat))).toNat = f1
    rw [val_int]; omega
  · exact .inr ⟨es2, rfl, f2, l2, by omega, by omega, rfl, n2, w2⟩
  · exact .inr ⟨es3, rfl, f3, l3, by omega, by omega, rfl, n3, w3⟩
theorem ok__law_moved (T : Top K mg) {k : Nat} : FnOk P w K mg base CX0 (k + 3) T.f__law_moved T.fd__law_moved ["_law_code_here", "_law_fields_here"]  (sp_moved K) := by
  have G__law_turns : FnOk P w K mg base CX0 (k + 1) T.f__law_turns T.fd__law_turns ["_law_number"]  (sp_turns K) := ok__law_turns T
  have G__law_form : FnOk P w K mg base CX0 (k + 2) T.f__law_form T.fd__law_form ["_law_number"]  (sp_form K) := ok__law_form T
  have G__law_row_form : FnOk P w K mg base CX0 (k + 2) T.f__law_row_form T.fd__law_row_form ["_law_places"]  (sp_row K) := ok__law_row_form T
  refine T.F__law_moved.ok sc__law_moved (fun vs H Q E h => ?_) (fun cdv A outer s H vs Q E hr h => ?_)
  · obtain ⟨c, l, us, fs, m, rfl, _⟩ := h
    rfl
  · obtain ⟨c, l, us, fs, m, rfl, hl, hm, F, hD, hC, q⟩ := h
    have hfl : fs.length = 4 := by
      obtain ⟨f1, es2, es3, rfl, _⟩ := F.ex
      rfl
    have hul := dpAll_len hD
    have hFA : FmAll fs := by
      obtain ⟨f1, es2, es3, rfl, h1, h2, f2, f3, _, _, h3, h4, _⟩ := F.ex
      have : (0 : Int) < 2 ^ 140 := Int.pow_pos (by decide)
      rw [fmAll_cons, fmAll_cons, fmAll_cons, fmAll_cons, fm_int, fm_int, val_int, val_int]
      exact ⟨by omega, by omega, by omega, by omega, f2, by omega, f3, by omega, fmAll_nil⟩
    have hrg := code_range hC
    refine ⟨_, (pss_cons (ps_set (i := 2) sc__law_moved.nd rfl (Or.inl rfl) (pe_lst pa_nil))
    (pss_cons (ps_for PassesOwn.never rfl (pi_list (pe_call G__law_turns (hr.mono (by omega)) (by rfl) T.g__law_turns T.F__law_turns.kp T.b__law_turns .nil pass0 (pa_cons (pv 0) pa_nil))) (pg_name (i := 3) sc__law_moved.nd rfl (Or.inl rfl))
      (pss_cons (ps_par (i := 4) (j := 5) rfl sc__law_moved.nd rfl rfl (by decide) rfl rfl (pa_cons (pe_ix ix_list (pv 1) (pe_op op_fdiv (pv 3) pe_int) (fun _ _ => rfl)) (pa_cons (pe_op op_sub (pv 3) (pe_op op_mul (pe_op op_fdiv (pv 3) pe_int) pe_int)) pa_nil)) rfl)
      (pss_one (ps_if (pt_val (pe_callB call_isi (by rfl) T.m_isinstance (by decide +kernel) (pa_cons (pv 4) (pa_cons (pe_bltn (v := .ty "int") (by rfl) T.m_int (by decide +kernel) rfl) pa_nil))) (fun _ => rfl))
        (pss_one (ps_expr (pe_bm PySem.F.plainAttrs_list PySem.F.slot_list_append PySem.F.type_list_append mt_append (pv 2) (pa_cons (pe_call G__law_form (hr.mono (by omega)) (by rfl) T.g__law_form T.F__law_form.kp T.b__law_form .nil pass0 (pa_cons (pe_op op_add (pv 4) (pv 5)) pa_nil)) pa_nil))))
        (pss_one (ps_expr (pe_bm PySem.F.plainAttrs_list PySem.F.slot_list_append PySem.F.type_list_append mt_append (pv 2) (pa_cons (pe_op op_catA (pe_callTy call_tuple_of (by rfl) T.m_tuple (by decide +kernel) (pa_cons (pe_call G__law_turns (hr.mono (by omega)) (by rfl) T.g__law_turns T.F__law_turns.kp T.b__law_turns .nil pass0 (pa_cons (pv 5) pa_nil)) pa_nil)) (pv 4)) pa_nil))))))))
    (pss_one (ps_ret (pe_call G__law_row_form (hr.mono (by omega)) (by rfl) T.g__law_row_form T.F__law_row_form.kp T.b__law_row_form .nil pass0 (pa_cons (pv 2) pa_nil)))))), ?_⟩
    refine ⟨Nat.zero_le _, fun o no => ?_⟩
    have s1 := sm_upd (o := .lst []) no
    refine ⟨_, rfl, c, 200 * m, rfl, by omega, hrg.1, hrg.2, fun ts lt H1 hA hts htk htl sm1 nlt hlt => ?_⟩
    have ets := turnsOf_is hA hts
    have hC2 := hC.2
    rw [ets] at hC2
    refine ⟨lt, rfl, ⟨_, .inl (.inl hlt)⟩, flL (xs := nv ts) (fun i σ H' => ∃ (z3 z4 z5 : Option V) (vs : List V) (ds : List PyData), σ = [some (.int c), some (.ref l), some (.ref o), z3, z4, z5] ∧ H' o = some (.lst vs) ∧ DpAll K H' vs ds ∧ FmAll ds ∧ vals ds = (ts.take i).map (phi fs) ∧ PyData.depthAll ds ≤ 3 ∧ wtAll ds ≤ 600 * i ∧ Same H H' ∧ H' lt = some (.lst (nv ts)))
      ⟨none, none, none, [], [], rfl, sm1 _ _ upd_same, .nil, fmAll_nil, by simp [vals], by rw [depthAll_nil]; exact Nat.zero_le _, by rw [wtAll_nil]; exact Nat.zero_le _, s1.trans sm1, hlt⟩ ?_ ?_ ?_⟩
    · rintro i σ H' _ ⟨_, _, _, _, _, _, _, _, _, _, _, _, _, h⟩
      exact .inl (.inl h)
    · rintro i x σ H2 hx ⟨z3, z4, z5, vs, ds, rfl, ho, hds, hF, hv, hdep, hwt, sm2, hlt2⟩ D' B
      obtain ⟨t, ht, rfl⟩ := nv_get hx
      obtain ⟨ht1, ht2⟩ := hC2 t (List.mem_of_getElem? ht)
      have hi := (List.getElem?_eq_some_iff.mp ht).1
      have hD2 := dpAll_tk (tk_same sm2) hFA hD
      have hl2 := sm2 _ _ hl
      have etake : (ts.take (i + 1)).map (phi fs) = (ts.take i).map (phi fs) ++ [phi fs t] := by
        rw [List.take_add_one, ht]
        simp
      have hdl : ds.length ≤ 900 := by
        rw [← vals_len, hv, List.length_map, List.length_take]
        omega
      have hvl := dpAll_len hds
      have hfi : t / 200 < 4 := by omega
      have hgu : (us.take m)[t / 200]? = some us[t / 200] := by
        rw [List.getElem?_take, if_pos ht1]
        exact List.getElem?_eq_getElem (by omega)
      obtain ⟨df, hdf, hDf⟩ := dpAll_get (i := t / 200) (v := us[t / 200]) hD2 (List.getElem?_eq_getElem (by omega))
      generalize us[t / 200] = uf at hgu hDf
      -- how the turn goes on
      have nxt : ∀ (v' : V) (d' : PyData) (H3 : Hp) (za zb zc : Option V), Fm d' → val d' = (phi fs t : Nat) → d'.depth ≤ 3 → wt d' ≤ 600 → Dp K H3 v' d' → Same H2 H3 →
          D'.nx [some (.int c), some (.ref l), some (.ref o), za, zb, zc] (upd H3 o (.lst (vs ++ [v']))) := fun v' d' H3 za zb zc f1 f2 f3 f5 f4 sm3 => by
        have ho3 := sm3 _ _ ho
        have hmu : Mut (H3 o) := by rw [ho3]; trivial
        have tk3 : Tk H3 (upd H3 o (.lst (vs ++ [v']))) := tk_mut hmu
        have hol : lt ≠ o := fun e => by
          subst e
          rw [upd_same] at nlt
          cases nlt
        refine B.nx _ _ ⟨za, zb, zc, vs ++ [v'], ds ++ [d'], rfl, upd_same, dpAll_app (dpAll_tk (tk_same sm3 |>.trans tk3) hF hds) (.cons (dp_tk tk3 f1 f4) .nil), ?_, ?_, ?_, by rw [wtAll_app, wtAll_cons, wtAll_nil]; omega, sm_mut (sm2.trans sm3) no, ?_⟩
        · rw [fmAll_app, fmAll_cons]
          exact ⟨hF, f1, by omega, fmAll_nil⟩
        · rw [vals_app, hv, etake, vals_cons, vals_nil, f2]
          rfl
        · refine depthAll_le.mpr fun d hd => ?_
          rcases List.mem_append.mp hd with hd | hd
          · exact depthAll_le.mp hdep d hd
          · simp at hd
            subst hd
            exact f3
        · rw [upd_ne hol]
          exact sm3 _ _ hlt2
      have hstep : (t : Int) - (t : Int) / 200 * 200 = ((t % 200 : Nat) : Int) := by omega
      walk_at "r"
      refine ⟨l, _, _, uf, rfl, rfl, .inl (.inl hl2), at_of (j := t / 200) (by omega) hgu, ?_⟩
      walk_at "r"
      refine ⟨_, _, rfl, ?_⟩
      simp only [hstep]
      rcases fields_get F (t / 200) hfi with ⟨f, hf, hf64, hFi⟩ | ⟨es, hes, hfm, hlow, h0, hde, hFi, hel, hew⟩
      · rw [hf] at hdf
        cases hdf
        cases hDf
        refine ⟨_, rfl, _, _, _, _, true, rfl, .ty "int", tyI _, k_ii, true, rfl, iteT ?_⟩
        refine ⟨_, rfl, .inl ⟨rfl, _, .inl (.inl ho)⟩, ?_⟩
        walk_at "r"
        have h66 : (2 : Int) ^ 66 = 73786976294838206464 := by decide
        refine ⟨_, 66, rfl, by decide, by omega, by omega, fun v' d' H3 f1 f2 f3 f5 f4 sm3 => ?_⟩
        refine ⟨o, _, _, rfl, rfl, sm3 _ _ ho, len_lt (by omega), ?_⟩
        refine nxt v' d' H3 _ _ _ f1 ?_ (by omega) (by omega) f4 sm3
        rw [f2]
        unfold phi
        rw [hFi]
        omega
      · rw [hes] at hdf
        cases hdf
        cases hDf with
        | @tup tf ws _ h1 h2 =>
          have hwl := dpAll_len h2
          refine ⟨_, rfl, _, _, _, _, false, rfl, .ty "int", tyT h1, k_ti, false, rfl, iteF ?_⟩
          refine ⟨_, rfl, .inl ⟨rfl, _, .inl (.inl ho)⟩, ?_⟩
          refine ⟨_, rfl, _, 7, rfl, by decide, by omega, by omega, fun us5 l5 H3 hA5 ht5 hk5 hn5 sm3 nl5 hl5 => ?_⟩
          obtain ⟨fm5, v5⟩ := place_far hfm hlow h0 hA5 ht5 fun x hx => by have := hk5 x hx; omega
          have v5' : val (.tuple (iD us5 ++ es)) = (phi fs t : Nat) := by
            rw [v5]
            unfold phi
            rw [hFi]
            omega
          have d5 : PyData.depth (.tuple (iD us5 ++ es)) ≤ 3 := by
            rw [depth_tuple]
            have : PyData.depthAll (iD us5 ++ es) ≤ 2 := depthAll_le.mpr fun d hd => by
              rcases List.mem_append.mp hd with hd | hd
              · have := depthAll_le.mp (Nat.le_of_eq (depthAll_iD us5)) d hd
                omega
              · exact depthAll_le.mp hde d hd
            omega
          have w5 : wt (.tuple (iD us5 ++ es)) ≤ 600 := by
            rw [wt_tuple, wtAll_app, wtAll_iD]
            omega
          refine ⟨l5, _, rfl, .inl ⟨.inl (.inl hl5), fun t5 nt5 => ?_⟩⟩
          have sm4 := sm3.trans (sm_upd (o := .tup (nv us5)) nt5)
          walk_at "r"
          refine ⟨t5, tf, _, ws, rfl, rfl, .inl (.inl upd_same), HX.Same.tup sm4 h1, ?_, (fun z => ?_), (fun _ z => ?_), (fun _ _ t6 nt6 => ?_)⟩
          · rw [nv_len]
            exact len_le (by omega)
          · have e5 : us5 = [] := by simpa [nv] using z
            subst e5
            refine ⟨o, _, _, rfl, rfl, sm4 _ _ ho, len_lt (by omega), ?_⟩
            refine nxt _ _ _ _ _ _ fm5 v5' d5 w5 ?_ sm4
            exact dp_tk (tk_same sm4) hfm (.tup h1 h2)
          · subst z
            have e6 : es = [] := by
              cases es with
              | nil => rfl
              | cons a b => simp at hwl
            subst e6
            have := ((fm_tuple _).mp hfm).2.2
            obtain ⟨x, hx, _⟩ := this
            rw [vals_nil] at hx
            simp at hx
          · have sm5 := sm4.trans (sm_upd (o := .tup (nv us5 ++ ws)) nt6)
            refine ⟨o, _, _, rfl, rfl, sm5 _ _ ho, len_lt (by omega), ?_⟩
            refine nxt _ _ _ _ _ _ fm5 v5' d5 w5 ?_ sm5
            exact .tup (.inl (.inl upd_same)) (dpAll_app (dp_nv us5) (dpAll_tk (tk_same sm5) ((fm_tuple _).mp hfm).1 h2))
    · rintro σ H2 ⟨z3, z4, z5, vs, ds, rfl, ho, hds, hF, hv, hdep, hwt, sm2, hlt2⟩
      rw [nv_len, List.take_length] at hv
      refine ⟨_, rfl, o, vs, ds, rfl, ho, hds, hF, ?_, by omega, ?_, fun v d H' f1 f2 f3 f5 f4 sm3 => ?_⟩
      · rw [hv, ← ets]
        exact phi_asc F hm hC
      · rw [← vals_len, hv, List.length_map]
        omega
      · rw [nv_len] at hwt
        refine q v d H' f1 ?_ (by omega) (by omega) f4 (sm2.trans sm3)
        rw [f2, hv]
        unfold Phi
        rw [ets]
end
end K03
set_option Elab.async false
set_option linter.all false
set_option maxRecDepth 100000
namespace K03
open PySem PySem.Spec PyProof.Rows L2 HX TV FM DX FB FC
local macro_rules | `(tactic| walk_at "r") => `(tactic| (repeat (first | refine Exists.intro _ (And.intro rfl ?_) | refine And.intro rfl ?_ | refine Exists.intro _ (Exists.intro _ (And.intro rfl (And.intro rfl ?_))) | refine And.intro (by omega) ?_ | refine And.intro (Or.inl (And.intro (by omega) (by omega))) ?_ | refine And.intro (Or.inr (And.intro (by omega) (by omega))) ?_ | refine And.intro (And.intro (by omega) (by omega)) ?_ | refine And.intro (And.intro (by decide) (And.intro (by decide) (by decide))) ?_ | refine Or.inl (Exists.intro _ (And.intro rfl ?_)) | (dsimp only [gName]; first | with_reducible refine seqC ?_ | with_reducible refine asgC ?_))))
local macro_rules | `(tactic| walk_at "s") => `(tactic| (repeat (first | refine Exists.intro _ (And.intro rfl ?_) | refine And.intro rfl ?_ | refine Exists.intro _ (Exists.intro _ (And.intro rfl (And.intro rfl ?_))) | refine And.intro (by omega) ?_ | refine And.intro (Or.inl (And.intro (by omega) (by omega))) ?_ | refine And.intro (Or.inr (And.intro (by omega) (by omega))) ?_ | refine And.intro (And.intro (by omega) (by omega)) ?_ | refine And.intro (And.intro (by decide) (And.intro (by decide) (by decide))) ?_ | refine Or.inl (Exists.intro _ (And.intro rfl ?_)) | refine Exists.intro _ (Exists.intro _ (And.intro rfl ?_)) | (dsimp only [gName]; first | with_reducible refine seqC ?_ | with_reducible refine asgC ?_))))
section
variable {P : Program} {w : World} {K : PySem.W.Frag} {mg : Str → Option Value} {base : Heap}
def iv (cs : List Int) : List V := cs.map V.int
theorem piece_lt {p s : Nat} (hp : p < 2 ^ 41) (hs : s < 15) : p * 2 ^ s < 2 ^ 56 := by
  have h1 : 2 ^ s ≤ 2 ^ 14 := Nat.pow_le_pow_right (by decide) (by omega)
  have h2 : p * 2 ^ s ≤ p * 2 ^ 14 := Nat.mul_le_mul_left _ h1
  omega
theorem shift_eq {p d s : Nat} {e : Int} (he : e = 200 * (d : Int) + s) : (p : Int) * (1 * 2 ^ e.toNat) = ((p * 2 ^ s : Nat) : Int) * 2 ^ (200 * d) := by
  have : e.toNat = s + 200 * d := by omega
  rw [this, Int.one_mul, Int.pow_add, ← Int.mul_assoc]
  simp
def sp_code (K : PySem.W.Frag) : Sp := fun vs H Q _ => ∃ (τ : Tp) (n m mm B : Nat) (kn : Addr) (cs : List Int), vs = [.ref τ.p, .int mm, .ref kn] ∧ 1 ≤ mm ∧ mm ≤ m ∧ m ≤ 4 ∧ n < 900000 ∧ Tape H τ n ∧ H kn = some (.lst (iv cs)) ∧ (∀ c ∈ cs, Dg m B c) ∧ 2 ^ 60 ≤ B ∧ cs.length ≤ 1000 ∧
  ∀ (c : Int) H', Dg m (B + 4) c → Tape H' τ (n + 12) → But τ.p H H' → Q (.int c) H'
theorem pieces_in {d : Nat} {v : V} (hd : d < 40) (h : v ∈ [V.int 1, .int 1, .int 3, .int 5, .int (1 * 2 ^ (1 + (d : Int)).toNat - 1)]) : ∃ p : Nat, v = .int (p : Nat) ∧ p < 2 ^ 41 := by
  simp only [List.mem_cons, List.not_mem_nil, or_false] at h
  rcases h with rfl | rfl | rfl | rfl | rfl
  · exact ⟨1, rfl, by decide⟩
  · exact ⟨1, rfl, by decide⟩
  · exact ⟨3, rfl, by decide⟩
  · exact ⟨5, rfl, by decide⟩
  · have e : (1 + (d : Int)).toNat = 1 + d := by omega
    have hp : 0 < 2 ^ (1 + d) := Nat.pow_pos (by decide)
    have hl : 2 ^ (1 + d) ≤ 2 ^ 40 := Nat.pow_le_pow_right (by decide) (by omega)
    refine ⟨2 ^ (1 + d) - 1, ?_, by omega⟩
    rw [e]
    congr 1
    have : ((2 ^ (1 + d) : Nat) : Int) = (2 : Int) ^ (1 + d) := by simp
    omega
theorem ok__law_code (T : Top K mg) {k : Nat} : FnOk P w K mg base CX0 (k + 3) T.f__law_code T.fd__law_code ["_law_tape", "_law_many", "_law_known"]  (sp_code K) := by
  have G__law_draw : FnOk P w K mg base CX0 (k + 1) T.f__law_draw T.fd__law_draw ["_law_tape", "_law_limit"]  sp_draw := ok__law_draw T
  have G__law_pick : FnOk P w K mg base CX0 (k + 2) T.f__law_pick T.fd__law_pick ["_law_tape", "_law_some"]  sp_pick := ok__law_pick T
  refine T.F__law_code.ok sc__law_code (fun vs H Q E h => ?_) (fun cdv A outer s H vs Q E hr h => ?_)
  · obtain ⟨τ, n, m, mm, B, kn, cs, rfl, _⟩ := h
    rfl
  · obtain ⟨τ, n, m, mm, B, kn, cs, rfl, hmm, hmm2, hm4, hn, hT, hk, hcs, hB, hcl, q⟩ := h
    refine ⟨_, (pss_cons (ps_if (PW.pt (pw_and (pt_cmpR (op_neD hr.units) (pv 2) (pe_lst pa_nil) (nomark _)) (pw_and1 (pt_cmpR op_eq (pe_call G__law_draw (hr.mono (by omega)) (by rfl) T.g__law_draw T.F__law_draw.kp T.b__law_draw .nil pass0 (pa_cons (pv 0) (pa_cons pe_int pa_nil))) pe_int (nomark _)))))
      (pss_one (ps_ret (pe_op op_add (pe_call G__law_pick (hr.mono (by omega)) (by rfl) T.g__law_pick T.F__law_pick.kp T.b__law_pick .nil pass0 (pa_cons (pv 0) (pa_cons (pv 2) pa_nil))) (pe_call G__law_draw (hr.mono (by omega)) (by rfl) T.g__law_draw T.F__law_draw.kp T.b__law_draw .nil pass0 (pa_cons (pv 0) (pa_cons pe_int pa_nil))))))
      pss_nil)
    (pss_cons (ps_set (i := 3) sc__law_code.nd rfl (Or.inl rfl) (pe_call G__law_draw (hr.mono (by omega)) (by rfl) T.g__law_draw T.F__law_draw.kp T.b__law_draw .nil pass0 (pa_cons (pv 0) (pa_cons pe_int pa_nil))))
    (pss_cons (ps_for PassesOwn.never rfl (pi_range1 (by rfl) T.m_range (pa_cons (pe_call G__law_draw (hr.mono (by omega)) (by rfl) T.g__law_draw T.F__law_draw.kp T.b__law_draw .nil pass0 (pa_cons (pv 0) (pa_cons pe_int pa_nil))) pa_nil)) (pg_name (i := 4) sc__law_code.nd rfl (Or.inl rfl))
      (pss_cons (ps_set (i := 5) sc__law_code.nd rfl (Or.inl rfl) (pe_call G__law_pick (hr.mono (by omega)) (by rfl) T.g__law_pick T.F__law_pick.kp T.b__law_pick .nil pass0 (pa_cons (pv 0) (pa_cons (pe_lst (pa_cons pe_int (pa_cons pe_int (pa_cons pe_int (pa_cons pe_int (pa_cons (pe_op op_sub (pe_op op_shl pe_int (pe_op op_add pe_int (pe_call G__law_draw (hr.mono (by omega)) (by rfl) T.g__law_draw T.F__law_draw.kp T.b__law_draw .nil pass0 (pa_cons (pv 0) (pa_cons pe_int pa_nil))))) pe_int) pa_nil)))))) pa_nil))))
      (pss_one (ps_set (i := 3) sc__law_code.nd rfl (Or.inl rfl) (pe_op op_add (pv 3) (pe_op op_mul (pv 5) (pe_op op_shl pe_int (pe_op op_add (pe_op op_mul pe_int (pe_call G__law_draw (hr.mono (by omega)) (by rfl) T.g__law_draw T.F__law_draw.kp T.b__law_draw .nil pass0 (pa_cons (pv 0) (pa_cons (pv 1) pa_nil)))) (pe_call G__law_draw (hr.mono (by omega)) (by rfl) T.g__law_draw T.F__law_draw.kp T.b__law_draw .nil pass0 (pa_cons (pv 0) (pa_cons pe_int pa_nil)))))))))))
    (pss_one (ps_ret (pv 3)))))), ?_⟩
    refine cut (fun σ' H' => σ' = [some (.ref τ.p), some (.int mm), some (.ref kn), none, none, none] ∧ Tape H' τ (n + 1) ∧ But τ.p H H') (fun D1 J1 => ?_) ?_
    · refine ⟨_, rfl, Nat.zero_le _, fun e ne => ?_⟩
      have s1 := sm_upd (o := .lst []) ne
      refine ⟨_, _, .lst (.inl (.inl (s1 _ _ hk))) (dp_ints cs), .lst (.inl (.inl upd_same)) .nil, shaped_ints cs, shaped_ints [], _, rfl, ?_⟩
      rw [eqv_nil]
      have hk1 := s1 _ _ hk
      have hT1 := hT.up s1
      have b1 : But τ.p H (upd H e (.lst [])) := But.of s1
      revert hk1 hT1 b1
      generalize upd H e (.lst []) = H1
      intro hk1 hT1 b1
      refine ite2 (fun hc => ?_) (fun hc => iteF ?_)
      · have hne : cs ≠ [] := by
          rintro rfl
          simp at hc
        have hlen : 1 ≤ cs.length := List.length_pos_iff.mpr hne
        walk_at "r"
        refine ⟨τ, n, 3, rfl, by decide, by decide, by omega, hT1, fun d2 H2 hd2 hd2' hT2 b2 => ?_⟩
        have hk2 := b2 _ _ (hT1.ne hk1) hk1
        replace b2 := b1.trans b2
        walk_at "r"
        refine ifE (fun _ => ?_) (fun _ => ?_)
        · walk_at "r"
          refine ⟨τ, kn, n + 1, _, rfl, by omega, hT2, hk2, by simpa [iv] using hlen, by simp [iv]; omega, fun v H3 hv hT3 b3 => ?_⟩
          obtain ⟨c, hc1, rfl⟩ := List.mem_map.mp hv
          replace b3 := b2.trans b3
          walk_at "r"
          refine ⟨τ, n + 2, 4, rfl, by decide, by decide, by omega, hT3, fun d4 H4 hd4 hd4' hT4 b4 => ?_⟩
          obtain ⟨x4, rfl, hx4⟩ := nat_of (n := 4) hd4 hd4'
          walk_at "r"
          have hg := (hcs c hc1).add (d := 0) (y := x4) (Y := 4) (by omega) hx4
          rw [Nat.mul_zero, Int.pow_zero, Int.mul_one] at hg
          exact J1.rt _ _ (q _ _ hg (hT4.le (by omega)) (b3.trans b4))
        · exact J1.nx _ _ ⟨rfl, hT2, b2⟩
      · exact J1.nx _ _ ⟨rfl, hT1.le (by omega), b1⟩
    · rintro σ' H1 ⟨rfl, hT1, b1⟩
      walk_at "r"
      refine ⟨τ, n + 1, 70, rfl, by decide, by decide, by omega, hT1, fun d2 H2 hd2 hd2' hT2 b2 => ?_⟩
      obtain ⟨x2, rfl, hx2⟩ := nat_of (n := 70) hd2 hd2'
      replace b2 := b1.trans b2
      walk_at "r"
      refine ⟨τ, n + 2, 3, rfl, by decide, by decide, by omega, hT2, fun d3 H3 hd3 hd3' hT3 b3 => ?_⟩
      obtain ⟨x3, rfl, hx3⟩ := nat_of (n := 3) hd3 hd3'
      replace b3 := b2.trans b3
      walk_at "r"
      have hx2g : Dg m 100 (x2 : Int) := by
        have hg := (Dg.zero (m := m) (B := 1) (by decide)).add (d := 0) (y := x2) (Y := 99) (by omega) (by omega)
        rw [Nat.mul_zero, Int.pow_zero, Int.mul_one, Int.zero_add] at hg
        exact hg
      refine flR (fun i σ H' => ∃ (c : Int) (z4 z5 : Option V), σ = [some (.ref τ.p), some (.int mm), some (.ref kn), some (.int c), z4, z5] ∧ Dg m (100 + i * 2 ^ 56) c ∧ Tape H' τ (n + 3 + 4 * i) ∧ But τ.p H H')
        ⟨x2, none, none, rfl, by simpa using hx2g, hT3, b3⟩ ?_ ?_
      · rintro i σ H4 hi ⟨c, z4, z5, rfl, hc, hT4, b4⟩ D' Bd'
        have hi2 : i < 3 := by omega
        walk_at "r"
        refine ⟨τ, n + 3 + 4 * i, 40, rfl, by decide, by decide, by omega, hT4, fun d5 H5 hd5 hd5' hT5 b5 => ?_⟩
        obtain ⟨x5, rfl, hx5⟩ := nat_of (n := 40) hd5 hd5'
        replace b5 := b4.trans b5
        walk_at "r"
        refine ⟨by show 5 ≤ sizeLine; decide, fun l6 nl6 => ?_⟩
        have s6 := sm_upd (o := .lst [.int 1, .int 1, .int 3, .int 5, .int (1 * 2 ^ (1 + (x5 : Int)).toNat - 1)]) nl6
        refine ⟨τ, l6, n + 3 + 4 * i + 1, _, rfl, by omega, hT5.up s6, upd_same, by show 1 ≤ 5; decide, by show 5 ≤ 100000; decide, fun v H7 hv hT7 b7 => ?_⟩
        obtain ⟨pc, rfl, hpc⟩ := pieces_in hx5 hv
        replace b7 := (b5.trans (But.of s6)).trans b7
        walk_at "r"
        refine ⟨τ, n + 3 + 4 * i + 2, mm, rfl, by omega, by omega, by omega, hT7, fun d8 H8 hd8 hd8' hT8 b8 => ?_⟩
        obtain ⟨x8, rfl, hx8⟩ := nat_of (n := mm) hd8 hd8'
        replace b8 := b7.trans b8
        walk_at "r"
        refine ⟨τ, n + 3 + 4 * i + 3, 15, rfl, by decide, by decide, by omega, hT8, fun d9 H9 hd9 hd9' hT9 b9 => ?_⟩
        obtain ⟨x9, rfl, hx9⟩ := nat_of (n := 15) hd9 hd9'
        replace b9 := b8.trans b9
        walk_at "r"
        refine Bd'.nx _ _ ⟨c + ((pc * 2 ^ x9 : Nat) : Int) * 2 ^ (200 * x8), some (.int (0 + (i : Nat))), some (.int (pc : Nat)), ?_, ?_, hT9.le (by omega), b9⟩
        rotate_left
        · refine (hc.add (d := x8) (y := pc * 2 ^ x9) (Y := 2 ^ 56) (by omega) (piece_lt hpc hx9)).mono (by omega)
        · rw [← shift_eq (e := 200 * (x8 : Int) + x9) rfl]
          rfl
      · rintro σ H4 ⟨c, z4, z5, rfl, hc, hT4, b4⟩
        walk_at "r"
        exact q c H4 (hc.mono (by omega)) (hT4.le (by omega)) b4
theorem inV_int {c : Int} : ∀ {cs : List Int}, inV (.int c) (iv cs) = decide (c ∈ cs)
  | [] => by simp [inV, iv]
  | a :: r => by
    have ih := inV_int (c := c) (cs := r)
    unfold inV iv at *
    rw [List.map_cons, List.any_cons, ih]
    show ((a == c) || decide (c ∈ r)) = _
    by_cases h : a = c
    · subst h
      simp
    · have h' : ¬ c = a := fun e => h e.symm
      simp [h, h']
theorem flat_iv (cs : List Int) : (iv cs).all flatV = true := by
  unfold iv
  rw [List.all_map, List.all_eq_true]
  intro x _
  rfl
/-- ascending codes -/
def sp_codes (K : PySem.W.Frag) : Sp := fun vs H Q _ => ∃ (τ : Tp) (n m mm B ct : Nat) (kv : V) (cs : List Int), vs = [.ref τ.p, .int mm, .int ct, kv] ∧ 1 ≤ mm ∧ mm ≤ m ∧ m ≤ 4 ∧ n < 800000 ∧ ct ≤ 30 ∧ Tape H τ n ∧ (kv = .non ∧ cs = [] ∨ ∃ kn, kv = .ref kn ∧ H kn = some (.lst (iv cs))) ∧ (∀ c ∈ cs, Dg m B c) ∧ 2 ^ 60 ≤ B ∧ cs.length ≤ 900 ∧
  ∀ (l : Addr) (ds : List Int) H', ds.Pairwise (· < ·) → (∀ c ∈ ds, Dg m (B + 4 * ct) c) → ds.length ≤ ct → H l = none → H' l = some (.lst (iv ds)) → Tape H' τ (n + 12 * ct) → But τ.p H H' → Q (.ref l) H'
theorem ok__law_codes (T : Top K mg) {k : Nat} : FnOk P w K mg base CX0 (k + 4) T.f__law_codes T.fd__law_codes ["_law_tape", "_law_many", "_law_count", "_law_known"]  (sp_codes K) := by
  have G__law_code : FnOk P w K mg base CX0 (k + 3) T.f__law_code T.fd__law_code ["_law_tape", "_law_many", "_law_known"]  (sp_code K) := ok__law_code T
  refine funD_ok0 T.F__law_codes sc__law_codes (fun vs H Q E h => ?_) (fun cdv A outer s H vs Q E hr h => ?_)
  · obtain ⟨τ, n, m, mm, B, ct, kv, cs, rfl, _⟩ := h
    rfl
  · obtain ⟨τ, n, m, mm, B, ct, kv, cs, rfl, hmm, hmm2, hm4, hn, hct, hT, hk, hcs, hB, hcl, q⟩ := h
    refine ⟨_, (pss_cons (ps_set (i := 4) sc__law_codes.nd rfl (Or.inl rfl) (pe_lst pa_nil))
    (pss_cons (ps_for PassesOwn.never rfl (pi_range1 (by rfl) T.m_range (pa_cons (pv 2) pa_nil)) (pg_name (i := 5) sc__law_codes.nd rfl (Or.inl rfl))
      (pss_cons (ps_set (i := 6) sc__law_codes.nd rfl (Or.inl rfl) (pe_call G__law_code (hr.mono (by omega)) (by rfl) T.g__law_code T.F__law_code.kp T.b__law_code .nil pass0 (pa_cons (pv 0) (pa_cons (pv 1) (pa_cons (pe_op op_cat (pe_orT (pv 3) (pe_one (pe_lst pa_nil))) (pv 4)) pa_nil)))))
      (pss_one (ps_if (pt_cmpR op_notIn_seq (pv 6) (pv 4) rfl)
        (pss_one (ps_expr (pe_bm PySem.F.plainAttrs_list PySem.F.slot_list_append PySem.F.type_list_append mt_append (pv 4) (pa_cons (pv 6) pa_nil))))
        pss_nil))))
    (pss_one (ps_ret (pe_callB cr_sorted (by rfl) T.m_sorted (by decide +kernel) (pa_cons (pe_lc (own := [("_law_code_here", 6)]) (g := gName 6) (by rfl) sc__law_codes.nd (pi_list (pv 4)) (blkOk_by (own := [("_law_code_here", 6)]) (N := ["_law_tape", "_law_many", "_law_count", "_law_known", "_law_found", "_law_k", "_law_code_here"]) (sc := defScope s__law_codes) (by decide +kernel)) (fun _ _ _ _ _ => (pg_name (i := 6) sc__law_codes.nd rfl (Or.inl rfl))) (fun _ _ _ _ _ => pts_nil) (fun _ _ _ _ _ => (pe_callTy (T := "int") call_int1 (by rfl) T.m_int (by decide +kernel) (pa_cons (pv 6) pa_nil)))) pa_nil)))))), ?_⟩
    refine ⟨Nat.zero_le _, fun o no => ?_⟩
    have hoe := hT.new no
    have s1 := sm_upd (o := .lst []) no
    walk_at "r"
    have hco : ∀ xs : List V, H o = none := fun _ => no
    refine flR (fun i σ H' => ∃ (z5 z6 : Option V) (ds : List Int), σ = [some (.ref τ.p), some (.int mm), some (.int ct), some kv, some (.ref o), z5, z6] ∧ H' o = some (.lst (iv ds)) ∧ ds.Nodup ∧ (∀ c ∈ ds, Dg m (B + 4 * i) c) ∧ ds.length ≤ i ∧ Tape H' τ (n + 12 * i) ∧ But τ.p H H')
      ⟨none, none, [], rfl, upd_same, List.nodup_nil, by simp, Nat.le_refl _, hT.up s1, But.of s1⟩ ?_ ?_
    · rintro i σ H2 hi ⟨z5, z6, ds, rfl, ho, hnd, hds, hdl, hT2, b2⟩ D' Bd'
      have hi2 : i < ct := by omega
      -- what is known, and the list found
      have goon : ∀ (a b : Addr) (H3 : Hp), H3 a = some (.lst (iv cs)) → H3 b = some (.lst (iv ds)) → Tape H3 τ (n + 12 * i) → But τ.p H H3 → H3 o = some (.lst (iv ds)) → ∀ (tail : V → Hp → Prop),
          (∀ (c : Int) (H4 : Hp), Dg m (B + 4 * i + 4) c → Tape H4 τ (n + 12 * i + 12) → But τ.p H H4 → H4 o = some (.lst (iv ds)) → tail (.int c) H4) →
          rCat (.ref a) (.ref b) H3 (fun v H4 => sp_code K [.ref τ.p, .int mm, v] H4 tail E0) := fun a b H3 ha hb hT3 b3 ho3 tail ht => by
        refine ⟨a, b, _, _, rfl, rfl, ha, hb, ?_, fun l nl => ?_⟩
        · simp [iv]
          exact len_le (by omega)
        have s4 := sm_upd (o := .lst (iv cs ++ iv ds)) nl
        refine ⟨τ, n + 12 * i, m, mm, B + 4 * i, l, cs ++ ds, rfl, hmm, hmm2, hm4, by omega, hT3.up s4, by rw [upd_same]; simp [iv], fun c hc => ?_, by omega, by simp; omega, fun c H5 hc hT5 b5 => ?_⟩
        · rcases List.mem_append.mp hc with hc | hc
          · exact (hcs c hc).mono (by omega)
          · exact hds c hc
        · exact ht c H5 hc hT5 ((b3.trans (But.of s4)).trans b5) (b5 _ _ hoe.1 (s4 _ _ ho3))
      dsimp only [gName]
      refine cut (fun σ' H' => ∃ c : Int, σ' = [some (.ref τ.p), some (.int mm), some (.int ct), some kv, some (.ref o), some (.int (0 + (i : Nat))), some (.int c)] ∧ Dg m (B + 4 * i + 4) c ∧ Tape H' τ (n + 12 * i + 12) ∧ But τ.p H H' ∧ H' o = some (.lst (iv ds))) (fun D1 J1 => ?_) ?_
      · have empty : cs = [] → ∀ (tail : V → Hp → Prop), (∀ (c : Int) (H4 : Hp), Dg m (B + 4 * i + 4) c → Tape H4 τ (n + 12 * i + 12) → But τ.p H H4 → H4 o = some (.lst (iv ds)) → tail (.int c) H4) →
            ∀ e, H2 e = none → rCat (.ref e) (.ref o) (upd H2 e (.lst [])) (fun v H4 => sp_code K [.ref τ.p, .int mm, v] H4 tail E0) := fun ec tail ht e ne => by
          have s3 := sm_upd (o := .lst []) ne
          exact goon e o _ (by rw [upd_same, ec]; rfl) (s3 _ _ ho) (hT2.up s3) (b2.trans (But.of s3)) (s3 _ _ ho) tail ht
        have fin : ∀ (c : Int) (H4 : Hp), Dg m (B + 4 * i + 4) c → Tape H4 τ (n + 12 * i + 12) → But τ.p H H4 → H4 o = some (.lst (iv ds)) →
            D1.nx [some (.ref τ.p), some (.int mm), some (.int ct), some kv, some (.ref o), some (.int (0 + (i : Nat))), some (.int c)] H4 := fun c H4 h1 h2 h3 h4 => J1.nx _ _ ⟨c, rfl, h1, h2, h3, h4⟩
        walk_at "r"
        rcases hk with ⟨rfl, ec⟩ | ⟨kn, rfl, hkn⟩
        · refine ⟨false, rfl, iteF ⟨Nat.zero_le _, fun e ne => ⟨_, rfl, empty ec (fun x H1 => D1.nx [some (.ref τ.p), some (.int mm), some (.int ct), some (.non), some (.ref o), some (.int (0 + (i : Nat))), some x] H1) fin e ne⟩⟩⟩
        · have hk2 := b2 _ _ (hT.ne hkn) hkn
          by_cases ec : cs = []
          · refine ⟨false, .inl ⟨_, .inl (.inl hk2), by rw [ec]; rfl⟩, iteF ⟨Nat.zero_le _, fun e ne => ⟨_, rfl, empty ec (fun x H1 => D1.nx [some (.ref τ.p), some (.int mm), some (.int ct), some (.ref kn), some (.ref o), some (.int (0 + (i : Nat))), some x] H1) fin e ne⟩⟩⟩
          · refine ⟨true, .inl ⟨_, .inl (.inl hk2), ?_⟩, iteT ⟨_, rfl, goon kn o H2 hk2 ho hT2 b2 ho (fun x H1 => D1.nx [some (.ref τ.p), some (.int mm), some (.int ct), some (.ref kn), some (.ref o), some (.int (0 + (i : Nat))), some x] H1) fin⟩⟩
            cases cs with
            | nil => exact absurd rfl ec
            | cons a r => rfl
      · rintro σ' H3 ⟨c, rfl, hc, hT3, b3, ho3⟩
        refine ⟨_, rfl, _, rfl, o, _, rfl, .inl (.inl (.inl ho3)), rfl, flat_iv ds, _, rfl, ?_⟩
        rw [inV_int]
        refine ifN (fun hnc => ?_) (fun hcc => ?_)
        · refine ⟨_, rfl, .inl ⟨rfl, _, .inl (.inl ho3)⟩, ?_⟩
          walk_at "r"
          refine ⟨o, _, _, rfl, rfl, ho3, ?_, ?_⟩
          · simp [iv]
            exact len_lt (by omega)
          refine Bd'.nx _ _ ⟨_, _, ds ++ [c], rfl, ?_, ?_, fun c' hc' => ?_, by simp; omega, (hT3.set hoe).le (by omega), but_new b3 no⟩
          · rw [upd_same]
            simp [iv]
          · rw [List.nodup_append]
            refine ⟨hnd, by simp, fun a ha b hb e => ?_⟩
            simp at hb
            subst hb e
            exact hnc ha
          · rcases List.mem_append.mp hc' with h | h
            · exact (hds c' h).mono (by omega)
            · simp at h
              subst h
              exact hc.mono (by omega)
        · exact Bd'.nx _ _ ⟨_, _, ds, rfl, ho3, hnd, fun c' hc' => (hds c' hc').mono (by omega), by omega, hT3.le (by omega), b3⟩
    · rintro σ H2 ⟨z5, z6, ds, rfl, ho, hnd, hds, hdl, hT2, b2⟩
      have ect : ((ct : Int)).toNat = ct := by omega
      rw [ect] at hds hdl hT2
      refine ⟨_, rfl, o, rfl, ⟨_, .inl (.inl ho)⟩, fun D nD => lc_list (xs := iv ds) (fun i H' => Same H2 H' ∧ H' D = some (.lst (iv (ds.take i)))) ⟨sm_upd nD, by rw [upd_same]; rfl⟩ ?_ ?_ ?_⟩
      · rintro i H' _ ⟨sm, _⟩
        exact .inl (.inl (sm _ _ ho))
      · rintro i x H' hx ⟨sm, eD⟩
        have hx' : (iv ds)[i]? = some x := hx
        unfold iv at hx'
        rw [List.getElem?_map] at hx'
        cases e : ds[i]? with
        | none => rw [e] at hx'; cases hx'
        | some c =>
          rw [e] at hx'
          cases hx'
          refine ⟨rfl, ?_⟩
          walk_at "r"
          refine ⟨_, eD, ?_, sm_mut sm nD, ?_⟩
          · simp [iv]
            exact len_lt (by omega)
          · rw [upd_same, List.take_add_one, e]
            simp [iv]
      · rintro H3 ⟨sm3, eD⟩
        have el : ds.take (iv ds).length = ds := List.take_of_length_le (by simp [iv])
        rw [el] at eD
        refine ⟨D, ds, rfl, .inl (.inl eD), by omega, fun ds' l hperm hsort nl => ?_⟩
        have nD0 : H D = none := by
          have := hT2.new nD
          cases e : H D with
          | none => rfl
          | some u =>
            rw [b2 D u this.1 e] at nD
            cases nD
        have hle := (hT2.up sm3).new nl
        refine q l ds' _ ?_ (fun c hc => hds c (hperm.mem_iff.mp hc)) (by rw [hperm.length_eq]; exact hdl) ?_ upd_same ((hT2.up sm3).up (sm_upd nl)) ((b2.trans (But.of sm3)).trans (But.of (sm_upd nl)))
        · have hnd' : ds'.Nodup := hperm.nodup_iff.mpr hnd
          have := hsort.and hnd'
          exact this.imp fun h => by omega
        · cases e : H l with
          | none => rfl
          | some u =>
            rw [sm3 _ _ (b2 l u hle.1 e)] at nl
            cases nl
end
end K03
set_option Elab.async false
set_option linter.all false
set_option maxRecDepth 100000
namespace K03
open PySem PySem.Spec PyProof.Rows L2 HX TV FM DX FB FC
local macro_rules | `(tactic| walk_at "r") => `(tactic| (repeat (first | refine Exists.intro _ (And.intro rfl ?_) | refine And.intro rfl ?_ | refine Exists.intro _ (Exists.intro _ (And.intro rfl (And.intro rfl ?_))) | refine And.intro (by omega) ?_ | refine And.intro (Or.inl (And.intro (by omega) (by omega))) ?_ | refine And.intro (Or.inr (And.intro (by omega) (by omega))) ?_ | refine And.intro (And.intro (by omega) (by omega)) ?_ | refine And.intro (And.intro (by decide) (And.intro (by decide) (by decide))) ?_ | refine Or.inl (Exists.intro _ (And.intro rfl ?_)) | (dsimp only [gName]; first | with_reducible refine seqC ?_ | with_reducible refine asgC ?_))))
local macro_rules | `(tactic| walk_at "s") => `(tactic| (repeat (first | refine Exists.intro _ (And.intro rfl ?_) | refine And.intro rfl ?_ | refine Exists.intro _ (Exists.intro _ (And.intro rfl (And.intro rfl ?_))) | refine And.intro (by omega) ?_ | refine And.intro (Or.inl (And.intro (by omega) (by omega))) ?_ | refine And.intro (Or.inr (And.intro (by omega) (by omega))) ?_ | refine And.intro (And.intro (by omega) (by omega)) ?_ | refine And.intro (And.intro (by decide) (And.intro (by decide) (by decide))) ?_ | refine Or.inl (Exists.intro _ (And.intro rfl ?_)) | refine Exists.intro _ (Exists.intro _ (And.intro rfl ?_)) | (dsimp only [gName]; first | with_reducible refine seqC ?_ | with_reducible refine asgC ?_))))
section
variable {P : Program} {w : World} {K : PySem.W.Frag} {mg : Str → Option Value} {base : Heap}
/-- the turns that codes stand for -/
noncomputable def Phis (fs : List PyData) (cs : List Int) : List Nat := cs.map fun c => (Phi fs c).toNat
theorem Phis_asc {fs : List PyData} (F : Fields fs) {m : Nat} (hm : m ≤ 4) {cs : List Int} (h : cs.Pairwise (· < ·)) (hc : ∀ c ∈ cs, CodeOk m c) : Asc (Phis fs cs) := by
  rw [asc_pairwise]
  unfold Phis
  rw [List.pairwise_map]
  refine h.imp_of_mem fun {a b} ha hb hab => ?_
  have h1 := Phi_lt F hm (hc a ha) (hc b hb) hab
  have h2 := Phi_nonneg F hm (hc a ha)
  omega
theorem iv_get {cs : List Int} {i : Nat} {v : V} (h : (iv cs)[i]? = some v) : ∃ c, cs[i]? = some c ∧ v = .int c := by
  unfold iv at h
  rw [List.getElem?_map] at h
  cases e : cs[i]? with
  | none => rw [e] at h; cases h
  | some q => rw [e] at h; exact ⟨q, rfl, (Option.some.inj h).symm⟩
def sp_foc (K : PySem.W.Frag) : Sp := fun vs H Q _ => ∃ (lc l : Addr) (cs : List Int) (us : List V) (fs : List PyData) (m : Nat), vs = [.ref lc, .ref l] ∧ H lc = some (.lst (iv cs)) ∧ H l = some (.lst (us.take m)) ∧ m ≤ 4 ∧ Fields fs ∧ DpAll K H us fs ∧ cs.Pairwise (· < ·) ∧ (∀ c ∈ cs, CodeOk m c) ∧ cs.length ≤ 100000 ∧
  ∀ (v : V) (d : PyData) H', Fm d → val d = tv (Phis fs cs) → d.depth ≤ 5 → wt d ≤ 500000 * cs.length + 1 → Dp K H' v d → Same H H' → Q v H'
theorem fields_fm {fs : List PyData} (F : Fields fs) : FmAll fs := by
  obtain ⟨f1, es2, es3, rfl, h1, h2, f2, f3, _, _, h3, h4, _⟩ := F.ex
  have : (0 : Int) < 2 ^ 140 := Int.pow_pos (by decide)
  rw [fmAll_cons, fmAll_cons, fmAll_cons, fmAll_cons, fm_int, fm_int, val_int, val_int]
  exact ⟨by omega, by omega, by omega, by omega, f2, by omega, f3, by omega, fmAll_nil⟩
theorem ok__law_form_of_codes (T : Top K mg) {k : Nat} : FnOk P w K mg base CX0 (k + 4) T.f__law_form_of_codes T.fd__law_form_of_codes ["_law_codes_here", "_law_fields_here"]  (sp_foc K) := by
  have G__law_moved : FnOk P w K mg base CX0 (k + 3) T.f__law_moved T.fd__law_moved ["_law_code_here", "_law_fields_here"]  (sp_moved K) := ok__law_moved T
  have G__law_row_form : FnOk P w K mg base CX0 (k + 2) T.f__law_row_form T.fd__law_row_form ["_law_places"]  (sp_row K) := ok__law_row_form T
  refine T.F__law_form_of_codes.ok sc__law_form_of_codes (fun vs H Q E h => ?_) (fun cdv A outer s H vs Q E hr h => ?_)
  · obtain ⟨lc, l, cs, us, fs, m, rfl, _⟩ := h
    rfl
  · obtain ⟨lc, l, cs, us, fs, m, rfl, hlc, hl, hm, F, hD, hpw, hC, hcl, q⟩ := h
    have hFA := fields_fm F
    refine ⟨_, (pss_one (ps_ret (pe_call G__law_row_form (hr.mono (by omega)) (by rfl) T.g__law_row_form T.F__law_row_form.kp T.b__law_row_form .nil pass0 (pa_cons (pe_lc (own := [("_law_code_here", 2)]) (g := gName 2) (by rfl) sc__law_form_of_codes.nd (pi_list (pv 0)) (blkOk_by (own := [("_law_code_here", 2)]) (N := ["_law_codes_here", "_law_fields_here", "_law_code_here"]) (sc := defScope s__law_form_of_codes) (by decide +kernel)) (fun _ _ _ _ _ => (pg_name (i := 2) sc__law_form_of_codes.nd rfl (Or.inl rfl))) (fun _ _ _ _ _ => pts_nil) (fun _ _ _ _ _ => (pe_call G__law_moved (hr.mono (by omega)) (by rfl) T.g__law_moved T.F__law_moved.kp T.b__law_moved .nil pass0 (pa_cons (pv 2) (pa_cons (pv 1) pa_nil))))) pa_nil)))), ?_⟩
    refine ⟨_, rfl, lc, rfl, ⟨_, .inl (.inl hlc)⟩, fun D nD => lc_list (xs := iv cs) (fun i H' => ∃ (vs : List V) (ds : List PyData), Same H H' ∧ H' D = some (.lst vs) ∧ DpAll K H' vs ds ∧ FmAll ds ∧ vals ds = Phis fs (cs.take i) ∧ PyData.depthAll ds ≤ 4 ∧ wtAll ds ≤ 500000 * i) ⟨[], [], sm_upd nD, upd_same, .nil, fmAll_nil, by simp [vals, Phis], by rw [depthAll_nil]; exact Nat.zero_le _, by rw [wtAll_nil]; exact Nat.zero_le _⟩ ?_ ?_ ?_⟩
    · rintro i H' _ ⟨_, _, sm, _⟩
      exact .inl (.inl (sm _ _ hlc))
    · rintro i x H2 hx ⟨vs, ds, sm, eD, hds, hF, hv, hdep, hwt⟩
      obtain ⟨c, hc, rfl⟩ := iv_get hx
      have hcC := hC c (List.mem_of_getElem? hc)
      have hdl : ds.length ≤ 100000 := by
        rw [← vals_len, hv]
        simp [Phis]
        omega
      have hvl := dpAll_len hds
      refine ⟨rfl, ?_⟩
      walk_at "r"
      refine ⟨c, l, us, fs, m, rfl, sm _ _ hl, hm, F, dpAll_tk (tk_same sm) hFA hD, hcC, fun v d H3 f1 f2 f3 f5 f4 sm3 => ?_⟩
      have eD3 := sm3 _ _ eD
      have hmu : Mut (H3 D) := by rw [eD3]; trivial
      have tk3 : Tk H3 (upd H3 D (.lst (vs ++ [v]))) := tk_mut hmu
      refine ⟨vs, eD3, len_lt (by omega), vs ++ [v], ds ++ [d], sm_mut (sm.trans sm3) nD, upd_same, dpAll_app (dpAll_tk ((tk_same sm3).trans tk3) hF hds) (.cons (dp_tk tk3 f1 f4) .nil), ?_, ?_, ?_, by rw [wtAll_app, wtAll_cons, wtAll_nil]; omega⟩
      · rw [fmAll_app, fmAll_cons, f2]
        exact ⟨hF, f1, Phi_nonneg F hm hcC, fmAll_nil⟩
      · rw [vals_app, hv, vals_cons, vals_nil, f2, List.take_add_one, hc]
        simp [Phis]
      · refine depthAll_le.mpr fun e he => ?_
        rcases List.mem_append.mp he with he | he
        · exact depthAll_le.mp hdep e he
        · simp at he
          subst he
          exact f3
    · rintro H2 ⟨vs, ds, sm, eD, hds, hF, hv, hdep, hwt⟩
      rw [List.take_of_length_le (by simp [iv])] at hv
      refine ⟨D, vs, ds, rfl, eD, hds, hF, ?_, by omega, ?_, fun v d H' f1 f2 f3 f5 f4 sm3 => ?_⟩
      · rw [hv]
        exact Phis_asc F hm hpw hC
      · rw [← vals_len, hv]
        simp [Phis]
        omega
      · have el : (iv cs).length = cs.length := by simp [iv]
        rw [el] at hwt
        exact q v d H' f1 (by rw [f2, hv]) (by omega) (by omega) f4 (sm.trans sm3)
/-- an int of few turns -/
def sp_few (K : PySem.W.Frag) : Sp := fun vs H Q _ => ∃ (τ : Tp) (n most : Nat), vs = [.ref τ.p, .int most] ∧ n < 900000 ∧ 70 ≤ most ∧ most ≤ 100000 ∧ Tape H τ n ∧
  ∀ (ts : List Nat) H', Asc ts → (∀ t ∈ ts, t ≤ most) → ts.length ≤ 9 → Tape H' τ (n + 46) → But τ.p H H' → Q (.int (tv ts)) H'
theorem count_in {v : V} (h : v ∈ [V.int 0, .int 1, .int 2, .int 2, .int 3, .int 4, .int 5, .int 6, .int 9]) : ∃ c : Nat, v = .int (c : Nat) ∧ c ≤ 9 := by
  simp only [List.mem_cons, List.not_mem_nil, or_false] at h
  rcases h with rfl | rfl | rfl | rfl | rfl | rfl | rfl | rfl | rfl
  · exact ⟨0, rfl, by decide⟩
  · exact ⟨1, rfl, by decide⟩
  · exact ⟨2, rfl, by decide⟩
  · exact ⟨2, rfl, by decide⟩
  · exact ⟨3, rfl, by decide⟩
  · exact ⟨4, rfl, by decide⟩
  · exact ⟨5, rfl, by decide⟩
  · exact ⟨6, rfl, by decide⟩
  · exact ⟨9, rfl, by decide⟩
theorem ivs_all {xs : List Int} {v : V} (h : v ∈ xs.map V.int) : ∃ i, v = .int i ∧ i ∈ xs := by
  obtain ⟨i, h1, rfl⟩ := List.mem_map.mp h
  exact ⟨i, rfl, h1⟩
theorem ok__law_few (T : Top K mg) {k : Nat} : FnOk P w K mg base CX0 (k + 3) T.f__law_few T.fd__law_few ["_law_tape", "_law_most"]  (sp_few K) := by
  have G__law_draw : FnOk P w K mg base CX0 (k + 1) T.f__law_draw T.fd__law_draw ["_law_tape", "_law_limit"]  sp_draw := ok__law_draw T
  have G__law_pick : FnOk P w K mg base CX0 (k + 2) T.f__law_pick T.fd__law_pick ["_law_tape", "_law_some"]  sp_pick := ok__law_pick T
  have G__law_int : FnOk P w K mg base CX0 (k + 1) T.f__law_int T.fd__law_int ["_law_places"]  (sp_int K) := ok__law_int T
  refine T.F__law_few.ok sc__law_few (fun vs H Q E h => ?_) (fun cdv A outer s H vs Q E hr h => ?_)
  · obtain ⟨τ, n, most, rfl, _⟩ := h
    rfl
  · obtain ⟨τ, n, most, rfl, hn, hm1, hm2, hT, q⟩ := h
    refine ⟨_, (pss_cons (ps_par (i := 2) (j := 3) rfl sc__law_few.nd rfl rfl (by decide) rfl rfl (pa_cons (pe_lst pa_nil) (pa_cons (pe_call G__law_pick (hr.mono (by omega)) (by rfl) T.g__law_pick T.F__law_pick.kp T.b__law_pick .nil pass0 (pa_cons (pv 0) (pa_cons (pe_lst (pa_cons pe_int (pa_cons pe_int (pa_cons pe_int (pa_cons pe_int (pa_cons pe_int (pa_cons pe_int (pa_cons pe_int (pa_cons pe_int (pa_cons pe_int pa_nil)))))))))) pa_nil))) pa_nil)) rfl)
    (pss_cons (ps_for PassesOwn.never rfl (pi_range1 (by rfl) T.m_range (pa_cons (pv 3) pa_nil)) (pg_name (i := 4) sc__law_few.nd rfl (Or.inl rfl))
      (pss_cons (ps_set (i := 5) sc__law_few.nd rfl (Or.inl rfl) (pe_op op_sub (pe_call G__law_pick (hr.mono (by omega)) (by rfl) T.g__law_pick T.F__law_pick.kp T.b__law_pick .nil pass0 (pa_cons (pv 0) (pa_cons (pe_lst (pa_cons pe_int (pa_cons pe_int (pa_cons pe_int (pa_cons pe_int (pa_cons pe_int (pa_cons (pv 1) pa_nil))))))) pa_nil))) (pe_call G__law_draw (hr.mono (by omega)) (by rfl) T.g__law_draw T.F__law_draw.kp T.b__law_draw .nil pass0 (pa_cons (pv 0) (pa_cons pe_int pa_nil)))))
      (pss_cons (ps_set (i := 6) sc__law_few.nd rfl (Or.inl rfl) (pe_ifExp (pt_cmpR (op_eqD hr.units) (pv 2) (pe_lst pa_nil) (nomark _)) pe_int (pe_op op_add (pe_ix ix_list (pv 2) (pe_un un_neg pe_int) (fun _ _ => rfl)) pe_int)))
      (pss_cons (ps_set (i := 7) sc__law_few.nd rfl (Or.inl rfl) (pe_call G__law_pick (hr.mono (by omega)) (by rfl) T.g__law_pick T.F__law_pick.kp T.b__law_pick .nil pass0 (pa_cons (pv 0) (pa_cons (pe_lst (pa_cons (pe_call G__law_draw (hr.mono (by omega)) (by rfl) T.g__law_draw T.F__law_draw.kp T.b__law_draw .nil pass0 (pa_cons (pv 0) (pa_cons (pe_op op_add (pv 1) pe_int) pa_nil))) (pa_cons (pe_callB (call_max2 rfl) (by rfl) T.m_max (by decide +kernel) (pa_cons pe_int (pa_cons (pv 5) pa_nil))) (pa_cons (pe_call G__law_draw (hr.mono (by omega)) (by rfl) T.g__law_draw T.F__law_draw.kp T.b__law_draw .nil pass0 (pa_cons (pv 0) (pa_cons pe_int pa_nil))) (pa_cons (pv 6) pa_nil))))) pa_nil))))
      (pss_one (ps_if (PW.pt (pw_and (pt_cmpR op_notIn_seq (pv 7) (pv 2) rfl) (pw_and1 (pt_cmpR op_le (pv 7) (pv 1) (nomark _)))))
        (pss_one (ps_expr (pe_bm PySem.F.plainAttrs_list PySem.F.slot_list_append PySem.F.type_list_append mt_append (pv 2) (pa_cons (pv 7) pa_nil))))
        pss_nil))))))
    (pss_one (ps_ret (pe_call G__law_int (hr.mono (by omega)) (by rfl) T.g__law_int T.F__law_int.kp T.b__law_int .nil pass0 (pa_cons (pe_callB cr_sorted (by rfl) T.m_sorted (by decide +kernel) (pa_cons (pe_lc (own := [("_law_turn", 7)]) (g := gName 7) (by rfl) sc__law_few.nd (pi_list (pv 2)) (blkOk_by (own := [("_law_turn", 7)]) (N := ["_law_tape", "_law_most", "_law_found", "_law_count", "_law_k", "_law_near", "_law_last", "_law_turn"]) (sc := defScope s__law_few) (by decide +kernel)) (fun _ _ _ _ _ => (pg_name (i := 7) sc__law_few.nd rfl (Or.inl rfl))) (fun _ _ _ _ _ => pts_nil) (fun _ _ _ _ _ => (pe_callTy (T := "int") call_int1 (by rfl) T.m_int (by decide +kernel) (pa_cons (pv 7) pa_nil)))) pa_nil)) pa_nil)))))), ?_⟩
    refine ⟨Nat.zero_le _, fun o no => ?_⟩
    have hoe := hT.new no
    have s1 := sm_upd (o := .lst []) no
    walk_at "r"
    refine ⟨by show 9 ≤ sizeLine; decide, fun l1 nl1 => ?_⟩
    have s2 := s1.trans (sm_upd (o := .lst [V.int 0, .int 1, .int 2, .int 2, .int 3, .int 4, .int 5, .int 6, .int 9]) nl1)
    refine ⟨τ, l1, n, _, rfl, by omega, hT.up s2, upd_same, by show 1 ≤ 9; decide, by show 9 ≤ 100000; decide, fun v H3 hv hT3 b3 => ?_⟩
    obtain ⟨ct, rfl, hct⟩ := count_in hv
    have ho3 := b3 _ _ hoe.1 ((sm_upd nl1) _ _ (upd_at (o := .lst []) no))
    replace b3 := (But.of s2).trans b3
    refine ⟨_, _, rfl, ?_⟩
    walk_at "r"
    refine flR (fun i σ H' => ∃ (z4 z5 z6 z7 : Option V) (ts : List Nat), σ = [some (.ref τ.p), some (.int most), some (.ref o), some (.int ct), z4, z5, z6, z7] ∧ H' o = some (.lst (nv ts)) ∧ ts.Nodup ∧ (∀ t ∈ ts, t ≤ most) ∧ ts.length ≤ i ∧ Tape H' τ (n + 1 + 5 * i) ∧ But τ.p H H')
      ⟨none, none, none, none, [], rfl, ho3, List.nodup_nil, by simp, Nat.le_refl _, hT3, b3⟩ ?_ ?_
    · rintro i σ H4 hi ⟨z4, z5, z6, z7, ts, rfl, ho, hnd, hts, htl, hT4, b4⟩ D' Bd'
      have hi2 : i < ct := by omega
      walk_at "r"
      refine ⟨by show 6 ≤ sizeLine; decide, fun l5 nl5 => ?_⟩
      have s5 := sm_upd (o := .lst [V.int 64, .int 65, .int 63, .int 0, .int 1, .int most]) nl5
      refine ⟨τ, l5, n + 1 + 5 * i, _, rfl, by omega, hT4.up s5, upd_same, by show 1 ≤ 6; decide, by show 6 ≤ 100000; decide, fun v H6 hv hT6 b6 => ?_⟩
      obtain ⟨x6, rfl⟩ : ∃ x : Int, v = .int x := by
        simp only [List.mem_cons, List.not_mem_nil, or_false] at hv
        rcases hv with rfl | rfl | rfl | rfl | rfl | rfl <;> exact ⟨_, rfl⟩
      have ho6 := b6 _ _ hoe.1 (s5 _ _ ho)
      replace b6 := (b4.trans (But.of s5)).trans b6
      walk_at "r"
      refine ⟨τ, n + 1 + 5 * i + 1, 3, rfl, by decide, by decide, by omega, hT6, fun d7 H7 hd7 hd7' hT7 b7 => ?_⟩
      have ho7 := b7 _ _ hoe.1 ho6
      replace b7 := b6.trans b7
      refine ⟨_, _, rfl, rfl, ?_⟩
      dsimp only [gName]
      refine cut (fun σ' H' => ∃ la : Nat, σ' = [some (.ref τ.p), some (.int most), some (.ref o), some (.int ct), some (.int (0 + (i : Nat))), some (.int (x6 - d7)), some (.int (la : Nat)), z7] ∧ Tape H' τ (n + 1 + 5 * i + 2) ∧ But τ.p H H' ∧ H' o = some (.lst (nv ts))) (fun D1 J1 => ?_) ?_
      · refine ⟨_, rfl, Nat.zero_le _, fun e ne => ?_⟩
        have s8 := sm_upd (o := .lst []) ne
        have ho8 := s8 _ _ ho7
        refine ⟨_, _, .lst (.inl (.inl ho8)) (dp_nv ts), .lst (.inl (.inl upd_same)) .nil, shaped_iD ts, shaped_ints [], _, rfl, ?_⟩
        rw [eqv_nil]
        refine ite2 (fun _ => ?_) (fun hc => ?_)
        · exact J1.nx _ _ ⟨6, rfl, hT7.up s8, b7.trans (But.of s8), ho8⟩
        · have hne : ts ≠ [] := by
            rintro rfl
            exact hc rfl
          have hlp := List.length_pos_iff.mpr hne
          refine ⟨_, rfl, 1, rfl, o, _, -1, .int ((ts[ts.length - 1] : Nat) : Int), rfl, rfl, .inl (.inl ho8), atI_neg1 ?_, ?_⟩
          · rw [nv_len]
            unfold nv
            rw [List.getElem?_map, List.getElem?_eq_getElem (by omega)]
            rfl
          · walk_at "r"
            exact J1.nx _ _ ⟨ts[ts.length - 1] + 1, rfl, hT7.up s8, b7.trans (But.of s8), ho8⟩
      · rintro σ' H8 ⟨la, rfl, hT8, b8, ho8⟩
        walk_at "r"
        refine ⟨τ, n + 1 + 5 * i + 2, most + 1, rfl, by omega, by omega, by omega, hT8, fun d9 H9 hd9 hd9' hT9 b9 => ?_⟩
        have ho9 := b9 _ _ hoe.1 ho8
        replace b9 := b8.trans b9
        obtain ⟨x9, rfl, hx9⟩ := nat_of (n := most + 1) hd9 (by omega)
        walk_at "s"
        refine ⟨τ, n + 1 + 5 * i + 3, 70, rfl, by decide, by decide, by omega, hT9, fun d10 H10 hd10 hd10' hT10 b10 => ?_⟩
        have ho10 := b10 _ _ hoe.1 ho9
        replace b10 := b9.trans b10
        obtain ⟨x10, rfl, hx10⟩ := nat_of (n := 70) hd10 hd10'
        walk_at "r"
        refine ⟨by show 4 ≤ sizeLine; decide, fun l11 nl11 => ?_⟩
        have s11 := sm_upd (o := .lst [V.int (x9 : Nat), .int (if x6 - d7 > 0 then x6 - d7 else 0), .int (x10 : Nat), .int (la : Nat)]) nl11
        refine ⟨τ, l11, n + 1 + 5 * i + 4, _, rfl, by omega, hT10.up s11, upd_same, by show 1 ≤ 4; decide, by show 4 ≤ 100000; decide, fun v H12 hv hT12 b12 => ?_⟩
        have ho12 := b12 _ _ hoe.1 (s11 _ _ ho10)
        replace b12 := (b10.trans (But.of s11)).trans b12
        obtain ⟨t, rfl⟩ : ∃ t : Nat, v = .int (t : Nat) := by
          simp only [List.mem_cons, List.not_mem_nil, or_false] at hv
          rcases hv with rfl | rfl | rfl | rfl
          · exact ⟨_, rfl⟩
          · refine ⟨(if x6 - d7 > 0 then x6 - d7 else 0).toNat, ?_⟩
            congr 1
            split <;> omega
          · exact ⟨_, rfl⟩
          · exact ⟨_, rfl⟩
        have ein : inV (.int (t : Nat)) (nv ts) = decide (t ∈ ts) := by
          have e1 : nv ts = iv (ts.map fun t => ((t : Nat) : Int)) := by
            unfold nv iv
            rw [List.map_map]
            rfl
          rw [e1, inV_int]
          apply decide_eq_decide.mpr
          rw [List.mem_map]
          constructor
          · rintro ⟨a, h1, h2⟩
            have : a = t := by omega
            exact this ▸ h1
          · intro h
            exact ⟨t, h, rfl⟩
        have efl : (nv ts).all flatV = true := by
          unfold nv
          rw [List.all_map, List.all_eq_true]
          intro x _
          rfl
        refine ⟨_, rfl, _, rfl, o, _, rfl, .inl (.inl (.inl ho12)), rfl, efl, _, rfl, ?_⟩
        rw [ein]
        have no2 : Bd' = Bd' := rfl
        have skip : ∀ za zb zc zd, D'.nx [some (.ref τ.p), some (.int most), some (.ref o), some (.int ct), za, zb, zc, zd] H12 := fun za zb zc zd =>
          Bd'.nx _ _ ⟨za, zb, zc, zd, ts, rfl, ho12, hnd, hts, by omega, hT12.le (by omega), b12⟩
        refine ifN (fun hnc => ?_) (fun hcc => iteF (skip _ _ _ _))
        walk_at "r"
        refine ifD (fun hle => ?_) (fun _ => skip _ _ _ _)
        refine ⟨_, rfl, .inl ⟨rfl, _, .inl (.inl ho12)⟩, ?_⟩
        walk_at "r"
        refine ⟨o, _, _, rfl, rfl, ho12, ?_, ?_⟩
        · rw [nv_len]
          exact len_lt (by omega)
        refine Bd'.nx _ _ ⟨_, _, _, _, ts ++ [t], rfl, by rw [upd_same, nv_app], ?_, fun x hx => ?_, by simp; omega, (hT12.set hoe).le (by omega), but_new b12 no⟩
        · rw [List.nodup_append]
          refine ⟨hnd, by simp, fun a ha b hb e => ?_⟩
          simp at hb
          subst hb e
          exact hnc ha
        · rcases List.mem_append.mp hx with h | h
          · exact hts x h
          · simp at h
            omega
    · rintro σ H4 ⟨z4, z5, z6, z7, ts, rfl, ho, hnd, hts, htl, hT4, b4⟩
      have ect : ((ct : Int)).toNat = ct := by omega
      rw [ect] at htl hT4
      refine ⟨_, rfl, o, rfl, ⟨_, .inl (.inl ho)⟩, fun D nD => lc_list (xs := nv ts) (fun i H' => Same H4 H' ∧ H' D = some (.lst (nv (ts.take i)))) ⟨sm_upd nD, by rw [upd_same]; rfl⟩ ?_ ?_ ?_⟩
      · rintro i H' _ ⟨sm, _⟩
        exact .inl (.inl (sm _ _ ho))
      · rintro i x H' hx ⟨sm, eD⟩
        obtain ⟨t, e, rfl⟩ := nv_get hx
        refine ⟨rfl, ?_⟩
        walk_at "r"
        refine ⟨_, eD, ?_, sm_mut sm nD, ?_⟩
        · rw [nv_len]
          simp
          exact len_lt (by omega)
        · rw [upd_same, List.take_add_one, e, ← nv_app]
          rfl
      · rintro H5 ⟨sm5, eD⟩
        rw [List.take_of_length_le (by rw [nv_len]; exact Nat.le_refl _)] at eD
        have e1 : nv ts = (ts.map fun t => ((t : Nat) : Int)).map V.int := by
          unfold nv
          rw [List.map_map]
          rfl
        rw [e1] at eD
        refine ⟨D, _, rfl, .inl (.inl eD), by simp; omega, fun ds l hperm hsort nl => ?_⟩
        -- the sorted list is one of naturals
        have hpos : ∀ c ∈ ds, 0 ≤ c ∧ c.toNat ∈ ts := fun c hc => by
          have := hperm.mem_iff.mp hc
          obtain ⟨t, h1, h2⟩ := List.mem_map.mp this
          subst h2
          exact ⟨by omega, by simpa using h1⟩
        have eds : ds.map V.int = nv (ds.map Int.toNat) := by
          unfold nv
          rw [List.map_map]
          apply List.map_congr_left
          intro c hc
          have := (hpos c hc).1
          show V.int c = V.int ((c.toNat : Nat) : Int)
          congr 1
          omega
        have hnd' : ds.Nodup := hperm.nodup_iff.mpr (by
          rw [List.Nodup, List.pairwise_map]
          exact hnd.imp fun {a b} h e => h (by omega))
        have hasc : Asc (ds.map Int.toNat) := by
          rw [asc_pairwise, List.pairwise_map]
          exact (hsort.and hnd').imp_of_mem fun {a b} ha hb h => by
            have := (hpos a ha).1
            have := (hpos b hb).1
            omega
        rw [eds]
        refine ⟨l, ds.map Int.toNat, rfl, .inl (.inl upd_same), fun t ht => ?_, fun H6 sm6 => ?_⟩
        · obtain ⟨c, hc, rfl⟩ := List.mem_map.mp ht
          have := hts _ (hpos c hc).2
          omega
        · refine q _ _ hasc (fun t ht => ?_) ?_ (((hT4.up sm5).up (sm_upd nl)).up sm6 |>.le (by omega)) (((b4.trans (But.of sm5)).trans (But.of (sm_upd nl))).trans (But.of sm6))
          · obtain ⟨c, hc, rfl⟩ := List.mem_map.mp ht
            exact hts _ (hpos c hc).2
          · rw [List.length_map, hperm.length_eq, List.length_map]
            omega
end
end K03
set_option Elab.async false
set_option linter.all false
set_option maxRecDepth 100000
namespace K03
open PySem PySem.Spec PyProof.Rows L2 HX TV FM DX FB FC
local macro_rules | `(tactic| walk_at "r") => `(tactic| (repeat (first | refine Exists.intro _ (And.intro rfl ?_) | refine And.intro rfl ?_ | refine Exists.intro _ (Exists.intro _ (And.intro rfl (And.intro rfl ?_))) | refine And.intro (by omega) ?_ | refine And.intro (Or.inl (And.intro (by omega) (by omega))) ?_ | refine And.intro (Or.inr (And.intro (by omega) (by omega))) ?_ | refine And.intro (And.intro (by omega) (by omega)) ?_ | refine And.intro (And.intro (by decide) (And.intro (by decide) (by decide))) ?_ | refine Or.inl (Exists.intro _ (And.intro rfl ?_)) | (dsimp only [gName]; first | with_reducible refine seqC ?_ | with_reducible refine asgC ?_))))
local macro_rules | `(tactic| walk_at "s") => `(tactic| (repeat (first | refine Exists.intro _ (And.intro rfl ?_) | refine And.intro rfl ?_ | refine Exists.intro _ (Exists.intro _ (And.intro rfl (And.intro rfl ?_))) | refine And.intro (by omega) ?_ | refine And.intro (Or.inl (And.intro (by omega) (by omega))) ?_ | refine And.intro (Or.inr (And.intro (by omega) (by omega))) ?_ | refine And.intro (And.intro (by omega) (by omega)) ?_ | refine And.intro (And.intro (by decide) (And.intro (by decide) (by decide))) ?_ | refine Or.inl (Exists.intro _ (And.intro rfl ?_)) | refine Exists.intro _ (Exists.intro _ (And.intro rfl ?_)) | (dsimp only [gName]; first | with_reducible refine seqC ?_ | with_reducible refine asgC ?_))))
section
variable {P : Program} {w : World} {K : PySem.W.Frag} {mg : Str → Option Value} {base : Heap}
/-- of a form of depth at most n: its size -/
def sp_size (K : PySem.W.Frag) (n : Nat) : Sp := fun vs H Q _ => ∃ (v : V) (d : PyData), vs = [v] ∧ Dp K H v d ∧ Fm d ∧ d.depth ≤ n ∧ wt d ≤ 12000000 ∧ ∀ H', Same H H' → Q (.int (wt d : Nat)) H'
def sp_height (K : PySem.W.Frag) (n : Nat) : Sp := fun vs H Q _ => ∃ (v : V) (d : PyData), vs = [v] ∧ Dp K H v d ∧ Fm d ∧ d.depth ≤ n ∧ wt d ≤ 12000000 ∧ ∀ H', Same H H' → Q (.int (d.depth : Nat)) H'
theorem fm_ne {ds : List PyData} (h : Fm (.tuple ds)) : ds ≠ [] := by
  rintro rfl
  obtain ⟨t, ht, _⟩ := ((fm_tuple _).mp h).2.2
  rw [vals_nil] at ht
  simp at ht
theorem sum_nat : ∀ l : List Nat, (l.map fun n => ((n : Nat) : Int)).sum = ((l.sum : Nat) : Int)
  | [] => rfl
  | a :: r => by
    rw [List.map_cons, List.sum_cons, sum_nat r, List.sum_cons]
    omega
theorem wtAll_sum : ∀ ds : List PyData, wtAll ds = (ds.map wt).sum
  | [] => by simp [wtAll]
  | d :: r => by rw [wtAll_cons, wtAll_sum r, List.map_cons, List.sum_cons]
theorem wt_pos (d : PyData) : 1 ≤ wt d := by
  cases d <;> simp [wt]
theorem len_wt : ∀ ds : List PyData, ds.length ≤ wtAll ds
  | [] => by simp [wtAll]
  | d :: r => by
    have := len_wt r
    have := wt_pos d
    rw [wtAll_cons, List.length_cons]
    omega
theorem wt_mem : ∀ {ds : List PyData} {e : PyData}, e ∈ ds → wt e ≤ wtAll ds
  | d :: r, e, h => by
    rw [wtAll_cons]
    rcases List.mem_cons.mp h with rfl | h
    · omega
    · have := wt_mem h
      omega
/-- two cases of a form -/
theorem fm_cases {d : PyData} (h : Fm d) : (∃ i, d = .int i) ∨ ∃ ds, d = .tuple ds := by
  by_cases hi : ∃ i, d = .int i
  · exact .inl hi
  · exact .inr (fm_tup h fun i e => hi ⟨i, e⟩)
/-- reading a list of sizes -/
theorem nvn (l : List Nat) : nv l = (l.map fun n => ((n : Nat) : Int)).map V.int := by
  unfold nv
  rw [List.map_map]
  rfl
theorem ok_size (T : Top K mg) : ∀ n, FnOk P w K mg base CX0 (n + 1) T.f_size T.fd_size ["x"]  (sp_size K n) := by
  intro n
  induction n with
  | zero =>
    refine T.F_size.ok sc_size (fun vs H Q E h => ?_) (fun cdv A outer s H vs Q E hr h => ?_)
    · obtain ⟨v, d, rfl, _⟩ := h
      rfl
    · obtain ⟨v, d, rfl, hD, hF, hd, hw, q⟩ := h
      refine ⟨_, (pss_cons (ps_if (pt_val (pe_callB call_isi (by rfl) T.m_isinstance (by decide +kernel) (pa_cons (pv 0) (pa_cons (pe_bltn (v := .ty "int") (by rfl) T.m_int (by decide +kernel) rfl) pa_nil))) (fun _ => rfl))
      (pss_one (ps_ret pe_int))
      pss_nil)
    (pss_one ps_never)), ?_⟩
      rcases fm_cases hF with ⟨i, rfl⟩ | ⟨ds, rfl⟩
      · cases hD
        refine ⟨_, rfl, _, _, _, _, true, rfl, .ty "int", tyI _, k_ii, true, rfl, iteT ?_⟩
        have := q H (Same.refl _)
        rw [wt_int] at this
        exact this
      · rw [depth_tuple] at hd
        omega
  | succ n ih =>
    have G_size : FnOk P w K mg base CX0 (n + 1) T.f_size T.fd_size ["x"]  (sp_size K n) := ih
    refine T.F_size.ok sc_size (fun vs H Q E h => ?_) (fun cdv A outer s H vs Q E hr h => ?_)
    · obtain ⟨v, d, rfl, _⟩ := h
      rfl
    · obtain ⟨v, d, rfl, hD, hF, hd, hw, q⟩ := h
      refine ⟨_, (pss_cons (ps_if (pt_val (pe_callB call_isi (by rfl) T.m_isinstance (by decide +kernel) (pa_cons (pv 0) (pa_cons (pe_bltn (v := .ty "int") (by rfl) T.m_int (by decide +kernel) rfl) pa_nil))) (fun _ => rfl))
      (pss_one (ps_ret pe_int))
      pss_nil)
    (pss_one (ps_ret (pe_op op_add pe_int (pe_callB (cr_sum rfl) (by rfl) T.m_sum (by decide +kernel) (pa_cons (pe_lc (own := [("turn", 1)]) (g := gName 1) (by rfl) sc_size.nd (pi_tup (pv 0)) (blkOk_by (own := [("turn", 1)]) (N := ["x", "turn"]) (sc := defScope s_size) (by decide +kernel)) (fun _ _ _ _ _ => (pg_name (i := 1) sc_size.nd rfl (Or.inl rfl))) (fun _ _ _ _ _ => pts_nil) (fun _ _ _ _ _ => (pe_call G_size (hr.mono (by omega)) (by rfl) T.g_size T.F_size.kp T.b_size .nil pass0 (pa_cons (pv 1) pa_nil)))) pa_nil)))))), ?_⟩
      rcases fm_cases hF with ⟨i, rfl⟩ | ⟨ds, rfl⟩
      · cases hD
        refine ⟨_, rfl, _, _, _, _, true, rfl, .ty "int", tyI _, k_ii, true, rfl, iteT ?_⟩
        have := q H (Same.refl _)
        rw [wt_int] at this
        exact this
      · have hFa := ((fm_tuple _).mp hF).1
        rw [depth_tuple] at hd
        cases hD with
        | @tup a xs _ h1 h2 =>
          have hlx := dpAll_len h2
          refine ⟨_, rfl, _, _, _, _, false, rfl, .ty "int", tyT h1, k_ti, false, rfl, iteF ?_⟩
          refine ⟨_, rfl, a, rfl, ⟨_, h1⟩, fun D nD => lc_tup (xs := xs) (fun i H' => Same H H' ∧ H' D = some (.lst (nv ((ds.take i).map wt)))) ⟨sm_upd nD, by rw [upd_same]; rfl⟩ ?_ ?_ ?_⟩
          · rintro i H' _ ⟨sm, _⟩
            exact HX.Same.tup sm h1
          · rintro i x H' hx ⟨sm, eD⟩
            obtain ⟨e, he, hDe⟩ := dpAll_get h2 hx
            have hFe := (fmAll_mem hFa e (List.mem_of_getElem? he)).1
            have hi := (List.getElem?_eq_some_iff.mp hx).1
            refine ⟨rfl, ?_⟩
            have hwe := wt_mem (List.mem_of_getElem? he)
            have hll := len_wt ds
            rw [wt_tuple] at hw
            refine ⟨_, rfl, x, e, rfl, dp_tk (tk_same sm) hFe hDe, hFe, ?_, by omega, fun H2 sm2 => ?_⟩
            · have := depthAll_le.mp (Nat.le_refl _) e (List.mem_of_getElem? he)
              omega
            refine ⟨_, sm2 _ _ eD, ?_, sm_mut (sm.trans sm2) nD, ?_⟩
            · rw [nv_len]
              simp
              exact len_lt (by omega)
            · rw [upd_same, List.take_add_one, he, ← nv_app]
              simp
          · rintro H2 ⟨sm, eD⟩
            rw [hlx, List.take_length, nvn] at eD
            refine ⟨D, _, rfl, .inl (.inl eD), ?_⟩
            walk_at "r"
            rw [sum_nat, ← wtAll_sum]
            have := q H2 sm
            rw [wt_tuple] at this
            show Q (.int ((1 : Int) + ((wtAll ds : Nat) : Int))) H2
            rw [show (1 : Int) + ((wtAll ds : Nat) : Int) = ((1 + wtAll ds : Nat) : Int) by omega]
            exact this
theorem ok__law_size (T : Top K mg) : ∀ n, FnOk P w K mg base CX0 (n + 1) T.f__law_size T.fd__law_size ["_law_form_here"]  (sp_size K n) := by
  intro n
  induction n with
  | zero =>
    refine T.F__law_size.ok sc__law_size (fun vs H Q E h => ?_) (fun cdv A outer s H vs Q E hr h => ?_)
    · obtain ⟨v, d, rfl, _⟩ := h
      rfl
    · obtain ⟨v, d, rfl, hD, hF, hd, hw, q⟩ := h
      refine ⟨_, (pss_one (ps_ret (pe_ifExp (pt_val (pe_callB call_isi (by rfl) T.m_isinstance (by decide +kernel) (pa_cons (pv 0) (pa_cons (pe_bltn (v := .ty "int") (by rfl) T.m_int (by decide +kernel) rfl) pa_nil))) (fun _ => rfl)) pe_int pe_never))), ?_⟩
      rcases fm_cases hF with ⟨i, rfl⟩ | ⟨ds, rfl⟩
      · cases hD
        refine ⟨_, rfl, _, _, _, _, true, rfl, .ty "int", tyI _, k_ii, true, rfl, iteT ?_⟩
        have := q H (Same.refl _)
        rw [wt_int] at this
        exact this
      · rw [depth_tuple] at hd
        omega
  | succ n ih =>
    have G__law_size : FnOk P w K mg base CX0 (n + 1) T.f__law_size T.fd__law_size ["_law_form_here"]  (sp_size K n) := ih
    refine T.F__law_size.ok sc__law_size (fun vs H Q E h => ?_) (fun cdv A outer s H vs Q E hr h => ?_)
    · obtain ⟨v, d, rfl, _⟩ := h
      rfl
    · obtain ⟨v, d, rfl, hD, hF, hd, hw, q⟩ := h
      refine ⟨_, (pss_one (ps_ret (pe_ifExp (pt_val (pe_callB call_isi (by rfl) T.m_isinstance (by decide +kernel) (pa_cons (pv 0) (pa_cons (pe_bltn (v := .ty "int") (by rfl) T.m_int (by decide +kernel) rfl) pa_nil))) (fun _ => rfl)) pe_int (pe_op op_add pe_int (pe_callB (cr_sum rfl) (by rfl) T.m_sum (by decide +kernel) (pa_cons (pe_lc (own := [("_law_one", 1)]) (g := gName 1) (by rfl) sc__law_size.nd (pi_tup (pv 0)) (blkOk_by (own := [("_law_one", 1)]) (N := ["_law_form_here", "_law_one"]) (sc := defScope s__law_size) (by decide +kernel)) (fun _ _ _ _ _ => (pg_name (i := 1) sc__law_size.nd rfl (Or.inl rfl))) (fun _ _ _ _ _ => pts_nil) (fun _ _ _ _ _ => (pe_call G__law_size (hr.mono (by omega)) (by rfl) T.g__law_size T.F__law_size.kp T.b__law_size .nil pass0 (pa_cons (pv 1) pa_nil)))) pa_nil)))))), ?_⟩
      rcases fm_cases hF with ⟨i, rfl⟩ | ⟨ds, rfl⟩
      · cases hD
        refine ⟨_, rfl, _, _, _, _, true, rfl, .ty "int", tyI _, k_ii, true, rfl, iteT ?_⟩
        have := q H (Same.refl _)
        rw [wt_int] at this
        exact this
      · have hFa := ((fm_tuple _).mp hF).1
        rw [depth_tuple] at hd
        cases hD with
        | @tup a xs _ h1 h2 =>
          have hlx := dpAll_len h2
          refine ⟨_, rfl, _, _, _, _, false, rfl, .ty "int", tyT h1, k_ti, false, rfl, iteF ?_⟩
          refine ⟨_, rfl, a, rfl, ⟨_, h1⟩, fun D nD => lc_tup (xs := xs) (fun i H' => Same H H' ∧ H' D = some (.lst (nv ((ds.take i).map wt)))) ⟨sm_upd nD, by rw [upd_same]; rfl⟩ ?_ ?_ ?_⟩
          · rintro i H' _ ⟨sm, _⟩
            exact HX.Same.tup sm h1
          · rintro i x H' hx ⟨sm, eD⟩
            obtain ⟨e, he, hDe⟩ := dpAll_get h2 hx
            have hFe := (fmAll_mem hFa e (List.mem_of_getElem? he)).1
            have hi := (List.getElem?_eq_some_iff.mp hx).1
            refine ⟨rfl, ?_⟩
            have hwe := wt_mem (List.mem_of_getElem? he)
            have hll := len_wt ds
            rw [wt_tuple] at hw
            refine ⟨_, rfl, x, e, rfl, dp_tk (tk_same sm) hFe hDe, hFe, ?_, by omega, fun H2 sm2 => ?_⟩
            · have := depthAll_le.mp (Nat.le_refl _) e (List.mem_of_getElem? he)
              omega
            refine ⟨_, sm2 _ _ eD, ?_, sm_mut (sm.trans sm2) nD, ?_⟩
            · rw [nv_len]
              simp
              exact len_lt (by omega)
            · rw [upd_same, List.take_add_one, he, ← nv_app]
              simp
          · rintro H2 ⟨sm, eD⟩
            rw [hlx, List.take_length, nvn] at eD
            refine ⟨D, _, rfl, .inl (.inl eD), ?_⟩
            walk_at "r"
            rw [sum_nat, ← wtAll_sum]
            have := q H2 sm
            rw [wt_tuple] at this
            show Q (.int ((1 : Int) + ((wtAll ds : Nat) : Int))) H2
            rw [show (1 : Int) + ((wtAll ds : Nat) : Int) = ((1 + wtAll ds : Nat) : Int) by omega]
            exact this
theorem ok_height (T : Top K mg) : ∀ n, FnOk P w K mg base CX0 (n + 1) T.f_height T.fd_height ["x"]  (sp_height K n) := by
  intro n
  induction n with
  | zero =>
    refine T.F_height.ok sc_height (fun vs H Q E h => ?_) (fun cdv A outer s H vs Q E hr h => ?_)
    · obtain ⟨v, d, rfl, _⟩ := h
      rfl
    · obtain ⟨v, d, rfl, hD, hF, hd, hw, q⟩ := h
      refine ⟨_, (pss_cons (ps_if (pt_val (pe_callB call_isi (by rfl) T.m_isinstance (by decide +kernel) (pa_cons (pv 0) (pa_cons (pe_bltn (v := .ty "int") (by rfl) T.m_int (by decide +kernel) rfl) pa_nil))) (fun _ => rfl)) (pss_one (ps_ret pe_int)) pss_nil) pss_never), ?_⟩
      rcases fm_cases hF with ⟨i, rfl⟩ | ⟨ds, rfl⟩
      · cases hD
        refine ⟨_, rfl, _, _, _, _, true, rfl, .ty "int", tyI _, k_ii, true, rfl, iteT ?_⟩
        have := q H (Same.refl _)
        rw [depth_int] at this
        exact this
      · rw [depth_tuple] at hd
        omega
  | succ n ih =>
    have G_height : FnOk P w K mg base CX0 (n + 1) T.f_height T.fd_height ["x"]  (sp_height K n) := ih
    refine T.F_height.ok sc_height (fun vs H Q E h => ?_) (fun cdv A outer s H vs Q E hr h => ?_)
    · obtain ⟨v, d, rfl, _⟩ := h
      rfl
    · obtain ⟨v, d, rfl, hD, hF, hd, hw, q⟩ := h
      refine ⟨_, (pss_cons (ps_if (pt_val (pe_callB call_isi (by rfl) T.m_isinstance (by decide +kernel) (pa_cons (pv 0) (pa_cons (pe_bltn (v := .ty "int") (by rfl) T.m_int (by decide +kernel) rfl) pa_nil))) (fun _ => rfl))
      (pss_one (ps_ret pe_int))
      pss_nil)
    (pss_cons (ps_set (i := 1) sc_height.nd rfl (Or.inl rfl) pe_int)
    (pss_cons (ps_for PassesOwn.never rfl (pi_tup (pv 0)) (pg_name (i := 2) sc_height.nd rfl (Or.inl rfl))
      (pss_one (ps_set (i := 1) sc_height.nd rfl (Or.inl rfl) (pe_callB (call_max2 rfl) (by rfl) T.m_max (by decide +kernel) (pa_cons (pv 1) (pa_cons (pe_callTy call_int1 (by rfl) T.m_int (by decide +kernel) (pa_cons (pe_call G_height (hr.mono (by omega)) (by rfl) T.g_height T.F_height.kp T.b_height .nil pass0 (pa_cons (pv 2) pa_nil)) pa_nil)) pa_nil))))))
    (pss_one (ps_ret (pe_op op_add (pv 1) pe_int)))))), ?_⟩
      rcases fm_cases hF with ⟨i, rfl⟩ | ⟨ds, rfl⟩
      · cases hD
        refine ⟨_, rfl, _, _, _, _, true, rfl, .ty "int", tyI _, k_ii, true, rfl, iteT ?_⟩
        have := q H (Same.refl _)
        rw [depth_int] at this
        exact this
      · have hFa := ((fm_tuple _).mp hF).1
        rw [depth_tuple] at hd
        rw [wt_tuple] at hw
        cases hD with
        | @tup a xs _ h1 h2 =>
          have hlx := dpAll_len h2
          refine ⟨_, rfl, _, _, _, _, false, rfl, .ty "int", tyT h1, k_ti, false, rfl, iteF ?_⟩
          refine ⟨_, rfl, a, rfl, ⟨_, h1⟩, flT (xs := xs) (fun i σ H' => ∃ z, σ = [some (.ref a), some (.int (PyData.depthAll (ds.take i) : Nat)), z] ∧ Same H H') ⟨none, by rw [List.take_zero, depthAll_nil]; rfl, Same.refl _⟩ ?_ ?_ ?_⟩
          · rintro i σ H' _ ⟨z, _, sm⟩
            exact HX.Same.tup sm h1
          · rintro i x σ H' hx ⟨z, rfl, sm⟩ D' B
            obtain ⟨e, he, hDe⟩ := dpAll_get h2 hx
            have hFe := (fmAll_mem hFa e (List.mem_of_getElem? he)).1
            have hwe := wt_mem (List.mem_of_getElem? he)
            walk_at "r"
            refine ⟨x, e, rfl, dp_tk (tk_same sm) hFe hDe, hFe, ?_, by omega, fun H2 sm2 => ?_⟩
            · have := depthAll_le.mp (Nat.le_refl _) e (List.mem_of_getElem? he)
              omega
            walk_at "s"
            refine B.nx _ _ ⟨some x, ?_, sm.trans sm2⟩
            rw [List.take_add_one, he]
            have emax : PyData.depthAll (ds.take i ++ [e]) = max (PyData.depthAll (ds.take i)) e.depth := by
              apply Nat.le_antisymm
              · refine depthAll_le.mpr fun y hy => ?_
                rcases List.mem_append.mp hy with hy | hy
                · have := depthAll_le.mp (Nat.le_refl _) y hy
                  omega
                · simp at hy
                  subst hy
                  omega
              · have h5 := depthAll_le.mp (Nat.le_refl (PyData.depthAll (ds.take i ++ [e])))
                have h6 := depthAll_le.mpr fun y hy => h5 y (List.mem_append_left _ hy)
                have h7 := h5 e (by simp)
                omega
            show [some (V.ref a), some (V.int (if ((e.depth : Nat) : Int) > ((PyData.depthAll (ds.take i) : Nat) : Int) then ((e.depth : Nat) : Int) else ((PyData.depthAll (ds.take i) : Nat) : Int))), some x] = [some (V.ref a), some (V.int ((PyData.depthAll (ds.take i ++ [e]) : Nat) : Int)), some x]
            rw [emax]
            congr 4
            split <;> omega
          · rintro σ H' ⟨z, rfl, sm⟩
            rw [hlx, List.take_length]
            walk_at "r"
            have := q H' sm
            rw [depth_tuple] at this
            exact this
theorem ok__law_height (T : Top K mg) : ∀ n, FnOk P w K mg base CX0 (n + 1) T.f__law_height T.fd__law_height ["_law_form_here"]  (sp_height K n) := by
  intro n
  induction n with
  | zero =>
    refine T.F__law_height.ok sc__law_height (fun vs H Q E h => ?_) (fun cdv A outer s H vs Q E hr h => ?_)
    · obtain ⟨v, d, rfl, _⟩ := h
      rfl
    · obtain ⟨v, d, rfl, hD, hF, hd, hw, q⟩ := h
      refine ⟨_, (pss_cons (ps_if (pt_val (pe_callB call_isi (by rfl) T.m_isinstance (by decide +kernel) (pa_cons (pv 0) (pa_cons (pe_bltn (v := .ty "int") (by rfl) T.m_int (by decide +kernel) rfl) pa_nil))) (fun _ => rfl)) (pss_one (ps_ret pe_int)) pss_nil) pss_never), ?_⟩
      rcases fm_cases hF with ⟨i, rfl⟩ | ⟨ds, rfl⟩
      · cases hD
        refine ⟨_, rfl, _, _, _, _, true, rfl, .ty "int", tyI _, k_ii, true, rfl, iteT ?_⟩
        have := q H (Same.refl _)
        rw [depth_int] at this
        exact this
      · rw [depth_tuple] at hd
        omega
  | succ n ih =>
    have G__law_height : FnOk P w K mg base CX0 (n + 1) T.f__law_height T.fd__law_height ["_law_form_here"]  (sp_height K n) := ih
    refine T.F__law_height.ok sc__law_height (fun vs H Q E h => ?_) (fun cdv A outer s H vs Q E hr h => ?_)
    · obtain ⟨v, d, rfl, _⟩ := h
      rfl
    · obtain ⟨v, d, rfl, hD, hF, hd, hw, q⟩ := h
      refine ⟨_, (pss_cons (ps_if (pt_val (pe_callB call_isi (by rfl) T.m_isinstance (by decide +kernel) (pa_cons (pv 0) (pa_cons (pe_bltn (v := .ty "int") (by rfl) T.m_int (by decide +kernel) rfl) pa_nil))) (fun _ => rfl))
      (pss_one (ps_ret pe_int))
      pss_nil)
    (pss_one (ps_ret (pe_op op_add pe_int (pe_callB (cr_max rfl) (by rfl) T.m_max (by decide +kernel) (pa_cons (pe_lc (own := [("_law_one", 1)]) (g := gName 1) (by rfl) sc__law_height.nd (pi_tup (pv 0)) (blkOk_by (own := [("_law_one", 1)]) (N := ["_law_form_here", "_law_one"]) (sc := defScope s__law_height) (by decide +kernel)) (fun _ _ _ _ _ => (pg_name (i := 1) sc__law_height.nd rfl (Or.inl rfl))) (fun _ _ _ _ _ => pts_nil) (fun _ _ _ _ _ => (pe_callTy (T := "int") call_int1 (by rfl) T.m_int (by decide +kernel) (pa_cons (pe_call G__law_height (hr.mono (by omega)) (by rfl) T.g__law_height T.F__law_height.kp T.b__law_height .nil pass0 (pa_cons (pv 1) pa_nil)) pa_nil)))) pa_nil)))))), ?_⟩
      rcases fm_cases hF with ⟨i, rfl⟩ | ⟨ds, rfl⟩
      · cases hD
        refine ⟨_, rfl, _, _, _, _, true, rfl, .ty "int", tyI _, k_ii, true, rfl, iteT ?_⟩
        have := q H (Same.refl _)
        rw [depth_int] at this
        exact this
      · have hFa := ((fm_tuple _).mp hF).1
        rw [depth_tuple] at hd
        rw [wt_tuple] at hw
        have hll := len_wt ds
        cases hD with
        | @tup a xs _ h1 h2 =>
          have hlx := dpAll_len h2
          refine ⟨_, rfl, _, _, _, _, false, rfl, .ty "int", tyT h1, k_ti, false, rfl, iteF ?_⟩
          refine ⟨_, rfl, a, rfl, ⟨_, h1⟩, fun D nD => lc_tup (xs := xs) (fun i H' => Same H H' ∧ H' D = some (.lst (nv ((ds.take i).map PyData.depth)))) ⟨sm_upd nD, by rw [upd_same]; rfl⟩ ?_ ?_ ?_⟩
          · rintro i H' _ ⟨sm, _⟩
            exact HX.Same.tup sm h1
          · rintro i x H' hx ⟨sm, eD⟩
            obtain ⟨e, he, hDe⟩ := dpAll_get h2 hx
            have hFe := (fmAll_mem hFa e (List.mem_of_getElem? he)).1
            have hi := (List.getElem?_eq_some_iff.mp hx).1
            refine ⟨rfl, ?_⟩
            have hwe := wt_mem (List.mem_of_getElem? he)
            refine ⟨_, rfl, x, e, rfl, dp_tk (tk_same sm) hFe hDe, hFe, ?_, by omega, fun H2 sm2 => ?_⟩
            · have := depthAll_le.mp (Nat.le_refl _) e (List.mem_of_getElem? he)
              omega
            walk_at "r"
            refine ⟨_, sm2 _ _ eD, ?_, sm_mut (sm.trans sm2) nD, ?_⟩
            · rw [nv_len]
              simp
              exact len_lt (by omega)
            · rw [upd_same, List.take_add_one, he, ← nv_app]
              simp
          · rintro H2 ⟨sm, eD⟩
            rw [hlx, List.take_length, nvn] at eD
            have hne := fm_ne hF
            refine ⟨D, _, rfl, .inl (.inl eD), ?_, fun mx hm1 hm2 => ?_⟩
            · simp
              exact List.length_pos_iff.mpr hne
            walk_at "r"
            have emx : mx = ((PyData.depthAll ds : Nat) : Int) := by
              simp only [List.mem_map] at hm1 hm2
              obtain ⟨x, ⟨y, hy, rfl⟩, rfl⟩ := hm1
              have h5 := depthAll_le.mp (Nat.le_refl (PyData.depthAll ds)) y hy
              have h6 : PyData.depthAll ds ≤ y.depth := depthAll_le.mpr fun z hz => by
                have := hm2 _ ⟨z.depth, ⟨z, hz, rfl⟩, rfl⟩
                omega
              omega
            rw [emx]
            have := q H2 sm
            rw [depth_tuple] at this
            show Q (.int ((1 : Int) + ((PyData.depthAll ds : Nat) : Int))) H2
            rw [show (1 : Int) + ((PyData.depthAll ds : Nat) : Int) = ((PyData.depthAll ds + 1 : Nat) : Int) by omega]
            exact this
end
end K03
set_option Elab.async false
set_option linter.all false
set_option maxRecDepth 100000
namespace K03
open PySem PySem.Spec PyProof.Rows L2 HX TV FM DX FB FC
local macro_rules | `(tactic| walk_at "r") => `(tactic| (repeat (first | refine Exists.intro _ (And.intro rfl ?_) | refine And.intro rfl ?_ | refine Exists.intro _ (Exists.intro _ (And.intro rfl (And.intro rfl ?_))) | refine And.intro (by omega) ?_ | refine And.intro (Or.inl (And.intro (by omega) (by omega))) ?_ | refine And.intro (Or.inr (And.intro (by omega) (by omega))) ?_ | refine And.intro (And.intro (by omega) (by omega)) ?_ | refine And.intro (And.intro (by decide) (And.intro (by decide) (by decide))) ?_ | refine Or.inl (Exists.intro _ (And.intro rfl ?_)) | (dsimp only [gName]; first | with_reducible refine seqC ?_ | with_reducible refine asgC ?_))))
local macro_rules | `(tactic| walk_at "s") => `(tactic| (repeat (first | refine Exists.intro _ (And.intro rfl ?_) | refine And.intro rfl ?_ | refine Exists.intro _ (Exists.intro _ (And.intro rfl (And.intro rfl ?_))) | refine And.intro (by omega) ?_ | refine And.intro (Or.inl (And.intro (by omega) (by omega))) ?_ | refine And.intro (Or.inr (And.intro (by omega) (by omega))) ?_ | refine And.intro (And.intro (by omega) (by omega)) ?_ | refine And.intro (And.intro (by decide) (And.intro (by decide) (by decide))) ?_ | refine Or.inl (Exists.intro _ (And.intro rfl ?_)) | refine Exists.intro _ (Exists.intro _ (And.intro rfl ?_)) | (dsimp only [gName]; first | with_reducible refine seqC ?_ | with_reducible refine asgC ?_))))
section
variable {P : Program} {w : World} {K : PySem.W.Frag} {mg : Str → Option Value} {base : Heap}
theorem ok_size_of (T : Top K mg) : FnOk P w K mg base CX0 (7) T.f_size_of T.fd_size_of ["x"]  (sp_size K 5) := by
  have G_size : FnOk P w K mg base CX0 (6) T.f_size T.fd_size ["x"]  (sp_size K 5) := ok_size T 5
  refine T.F_size_of.ok sc_size_of (fun vs H Q E h => ?_) (fun cdv A outer s H vs Q E hr h => ?_)
  · obtain ⟨v, d, rfl, _⟩ := h
    rfl
  · obtain ⟨v, d, rfl, h⟩ := h
    exact ⟨_, (pss_one (ps_ret (pe_call G_size (hr.mono (by omega)) (by rfl) T.g_size T.F_size.kp T.b_size .nil pass0 (pa_cons (pv 0) pa_nil)))), _, rfl, v, d, rfl, h⟩
theorem ok_height_of (T : Top K mg) : FnOk P w K mg base CX0 (7) T.f_height_of T.fd_height_of ["x"]  (sp_height K 5) := by
  have G_height : FnOk P w K mg base CX0 (6) T.f_height T.fd_height ["x"]  (sp_height K 5) := ok_height T 5
  refine T.F_height_of.ok sc_height_of (fun vs H Q E h => ?_) (fun cdv A outer s H vs Q E hr h => ?_)
  · obtain ⟨v, d, rfl, _⟩ := h
    rfl
  · obtain ⟨v, d, rfl, h⟩ := h
    exact ⟨_, (pss_one (ps_ret (pe_call G_height (hr.mono (by omega)) (by rfl) T.g_height T.F_height.kp T.b_height .nil pass0 (pa_cons (pv 0) pa_nil)))), _, rfl, v, d, rfl, h⟩
theorem log_small {n : Nat} (h : n ≤ 12000000) : (((n : Nat) : Int)).natAbs.log2 < 1920 := by
  by_cases h0 : n = 0
  · subst h0
    decide
  · have e : (((n : Nat) : Int)).natAbs = n := rfl
    rw [e, Nat.log2_lt h0]
    exact Nat.lt_of_le_of_lt h (Nat.lt_of_lt_of_le (by decide : 12000000 < 2 ^ 24) (Nat.pow_le_pow_right (by decide) (by decide)))
def spLaw (K : PySem.W.Frag) : Sp := fun vs H Q _ => ∃ (a : Addr) (ns : List Int), vs = [.ref a] ∧ SqL K H a (ns.map V.int) ∧ ns.length ≤ 63 ∧ ∀ H', Q (.bl true) H'
/-- the written form of the law's end -/
theorem last_form : Fm (.tuple [.tuple [.int 64, .int 65], .tuple [.int 0, .int 1, .int 64, .int 65]]) := by
  have f1 := fm_small (ts := [64, 65]) ⟨by decide, trivial⟩ (by intro t ht; simp at ht; omega) ⟨65, by simp, by decide⟩
  have f2 := fm_small (ts := [0, 1, 64, 65]) ⟨by decide, by decide, by decide, trivial⟩ (by intro t ht; simp at ht; omega) ⟨65, by simp, by decide⟩
  have e1 : tv [64, 65] = 18446744073709551616 := by decide
  have e2 : tv [0, 1, 64, 65] = 18446744073709551617 := by decide
  have g1 : (.tuple (iD [64, 65]) : PyData) = .tuple [.int 64, .int 65] := rfl
  have g2 : (.tuple (iD [0, 1, 64, 65]) : PyData) = .tuple [.int 0, .int 1, .int 64, .int 65] := rfl
  rw [g1, e1] at f1
  rw [g2, e2] at f2
  rw [fm_tuple, fmAll_cons, fmAll_cons, vals_cons, vals_cons, vals_nil, f1.2, f2.2]
  exact ⟨⟨f1.1, by decide, f2.1, by decide, fmAll_nil⟩, ⟨by decide, trivial⟩, 18446744073709551616, by simp, by decide⟩
theorem ok_law (T : Top K mg) {fa : Addr} {fd : FuncData} (F : Fun K "law" "law" s_law fa fd) : FnOk P w K mg base CX0 9 fa fd ["_law_script"] (spLaw K) := by
  have G__law_begin : FnOk P w K mg base CX0 (1) T.f__law_begin T.fd__law_begin ["_law_script"]  (sp_begin K) := ok__law_begin T
  have G__law_draw : FnOk P w K mg base CX0 (1) T.f__law_draw T.fd__law_draw ["_law_tape", "_law_limit"]  sp_draw := ok__law_draw T
  have G__law_fields : FnOk P w K mg base CX0 (3) T.f__law_fields T.fd__law_fields ["_law_tape", "_law_many"]  (sp_fields K) := ok__law_fields T
  have G__law_form_of_codes : FnOk P w K mg base CX0 (4) T.f__law_form_of_codes T.fd__law_form_of_codes ["_law_codes_here", "_law_fields_here"]  (sp_foc K) := ok__law_form_of_codes T
  have G__law_codes : FnOk P w K mg base CX0 (4) T.f__law_codes T.fd__law_codes ["_law_tape", "_law_many", "_law_count", "_law_known"]  (sp_codes K) := ok__law_codes T
  have G__law_few : FnOk P w K mg base CX0 (3) T.f__law_few T.fd__law_few ["_law_tape", "_law_most"]  (sp_few K) := ok__law_few T
  have G__law_form : FnOk P w K mg base CX0 (2) T.f__law_form T.fd__law_form ["_law_number"]  (sp_form K) := ok__law_form T
  have G_size_of : FnOk P w K mg base CX0 (7) T.f_size_of T.fd_size_of ["x"]  (sp_size K 5) := ok_size_of T
  have G_height_of : FnOk P w K mg base CX0 (7) T.f_height_of T.fd_height_of ["x"]  (sp_height K 5) := ok_height_of T
  have G__law_size : FnOk P w K mg base CX0 (6) T.f__law_size T.fd__law_size ["_law_form_here"]  (sp_size K 5) := ok__law_size T 5
  have G__law_height : FnOk P w K mg base CX0 (6) T.f__law_height T.fd__law_height ["_law_form_here"]  (sp_height K 5) := ok__law_height T 5
  refine F.ok sc_law (fun vs H Q E h => ?_) (fun cdv A outer s H vs Q E hr h => ?_)
  · obtain ⟨a, ns, rfl, _⟩ := h
    rfl
  · obtain ⟨a, ns, rfl, hS, hl, q⟩ := h
    refine ⟨_, (pss_cons (ps_set (i := 1) sc_law.nd rfl (Or.inl rfl) (pe_call G__law_begin (hr.mono (by omega)) (by rfl) T.g__law_begin T.F__law_begin.kp T.b__law_begin .nil pass0 (pa_cons (pv 0) pa_nil)))
    (pss_cons (ps_for PassesOwn.never rfl (pi_range1 (by rfl) T.m_range (pa_cons pe_int pa_nil)) (pg_name (i := 2) sc_law.nd rfl (Or.inl rfl))
      (pss_cons (ps_set (i := 3) sc_law.nd rfl (Or.inl rfl) (pe_call G__law_fields (hr.mono (by omega)) (by rfl) T.g__law_fields T.F__law_fields.kp T.b__law_fields .nil pass0 (pa_cons (pv 1) (pa_cons pe_int pa_nil))))
      (pss_cons (ps_set (i := 4) sc_law.nd rfl (Or.inl rfl) (pe_call G__law_form_of_codes (hr.mono (by omega)) (by rfl) T.g__law_form_of_codes T.F__law_form_of_codes.kp T.b__law_form_of_codes .nil pass0 (pa_cons (pe_call G__law_codes (hr.mono (by omega)) (by rfl) T.g__law_codes T.F__law_codes.kp T.bd__law_codes T.dv__law_codes pass0 (pa_cons (pv 1) (pa_cons pe_int (pa_cons (pe_call G__law_draw (hr.mono (by omega)) (by rfl) T.g__law_draw T.F__law_draw.kp T.b__law_draw .nil pass0 (pa_cons (pv 1) (pa_cons pe_int pa_nil))) pa_nil)))) (pa_cons (pv 3) pa_nil))))
      (pss_cons (ps_set (i := 5) sc_law.nd rfl (Or.inl rfl) (pe_lst (pa_cons (pv 4) (pa_cons (pe_call G__law_form (hr.mono (by omega)) (by rfl) T.g__law_form T.F__law_form.kp T.b__law_form .nil pass0 (pa_cons (pe_call G__law_few (hr.mono (by omega)) (by rfl) T.g__law_few T.F__law_few.kp T.b__law_few .nil pass0 (pa_cons (pv 1) (pa_cons pe_int pa_nil))) pa_nil)) (pa_cons (pe_op op_sub (pe_call G__law_draw (hr.mono (by omega)) (by rfl) T.g__law_draw T.F__law_draw.kp T.b__law_draw .nil pass0 (pa_cons (pv 1) (pa_cons (pe_op op_shl pe_int pe_int) pa_nil))) (pe_op op_pow pe_int pe_int)) (pa_cons (pe_call G__law_form (hr.mono (by omega)) (by rfl) T.g__law_form T.F__law_form.kp T.b__law_form .nil pass0 (pa_cons (pe_op op_sub (pe_op op_add (pe_op op_pow pe_int pe_int) (pe_call G__law_draw (hr.mono (by omega)) (by rfl) T.g__law_draw T.F__law_draw.kp T.b__law_draw .nil pass0 (pa_cons (pv 1) (pa_cons pe_int pa_nil)))) pe_int) pa_nil)) pa_nil))))))
      (pss_one (ps_for PassesOwn.never rfl (pi_list (pv 5)) (pg_name (i := 6) sc_law.nd rfl (Or.inl rfl))
        (pss_one (ps_if (PW.pt (pw_or (pt_cmpR op_ne (pe_callB SkE.call_repr_int (by rfl) T.m_repr (by decide +kernel) (pa_cons (pe_call G_size_of (hr.mono (by omega)) (by rfl) T.g_size_of T.F_size_of.kp T.b_size_of .nil pass0 (pa_cons (pv 6) pa_nil)) pa_nil)) (pe_callB SkE.call_repr_int (by rfl) T.m_repr (by decide +kernel) (pa_cons (pe_call G__law_size (hr.mono (by omega)) (by rfl) T.g__law_size T.F__law_size.kp T.b__law_size .nil pass0 (pa_cons (pv 6) pa_nil)) pa_nil)) (nomark _)) (pw_or1 (pt_cmpR op_ne (pe_callB SkE.call_repr_int (by rfl) T.m_repr (by decide +kernel) (pa_cons (pe_call G_height_of (hr.mono (by omega)) (by rfl) T.g_height_of T.F_height_of.kp T.b_height_of .nil pass0 (pa_cons (pv 6) pa_nil)) pa_nil)) (pe_callB SkE.call_repr_int (by rfl) T.m_repr (by decide +kernel) (pa_cons (pe_call G__law_height (hr.mono (by omega)) (by rfl) T.g__law_height T.F__law_height.kp T.b__law_height .nil pass0 (pa_cons (pv 6) pa_nil)) pa_nil)) (nomark _)))))
          (pss_one (ps_ret pe_bl))
          pss_nil))))))))
    (pss_one (ps_ret (pe_and (pe_cmpR op_eq (pe_call G_size_of (hr.mono (by omega)) (by rfl) T.g_size_of T.F_size_of.kp T.b_size_of .nil pass0 (pa_cons (pe_tup (pa_cons (pe_tup (pa_cons pe_int (pa_cons pe_int pa_nil))) (pa_cons (pe_tup (pa_cons pe_int (pa_cons pe_int (pa_cons pe_int (pa_cons pe_int pa_nil))))) pa_nil))) pa_nil)) pe_int (nomark _)) (pe_one (pe_cmpR op_eq (pe_call G_height_of (hr.mono (by omega)) (by rfl) T.g_height_of T.F_height_of.kp T.b_height_of .nil pass0 (pa_cons (pe_tup (pa_cons (pe_tup (pa_cons pe_int (pa_cons pe_int pa_nil))) (pa_cons (pe_tup (pa_cons pe_int (pa_cons pe_int (pa_cons pe_int (pa_cons pe_int pa_nil))))) pa_nil))) pa_nil)) pe_int (nomark _)))))))), ?_⟩
    refine ⟨_, rfl, a, ns, rfl, hS, hl, fun τ H1 sm1 np hT => ?_⟩
    refine ⟨8, rfl, by decide, by decide, ?_⟩
    refine flR (fun i σ H' => ∃ (z2 z3 z4 z5 z6 : Option V), σ = [some (.ref a), some (.ref τ.p), z2, z3, z4, z5, z6] ∧ Tape H' τ (200 * i)) ⟨none, none, none, none, none, rfl, hT⟩ ?_ ?_
    · rintro i σ H2 hi ⟨z2, z3, z4, z5, z6, rfl, hT2⟩ D' B
      have hi8 : i < 8 := by
        have : ((8 : Int)).toNat = 8 := rfl
        omega
      walk_at "r"
      refine ⟨τ, 200 * i, 4, rfl, by omega, by omega, hT2, fun lf us fs H3 hFs hDf nlf hlf hT3 b3 => ?_⟩
      have hfl : us.length = 4 := by
        rw [dpAll_len hDf]
        obtain ⟨f1, es2, es3, rfl, _⟩ := hFs.ex
        rfl
      have hFA := fields_fm hFs
      walk_at "r"
      refine ⟨τ, 200 * i + 12, 8, rfl, by decide, by decide, by omega, hT3, fun d4 H4 hd4 hd4' hT4 b4 => ?_⟩
      obtain ⟨ct, rfl, hct⟩ := nat_of (n := 8) hd4 hd4'
      have hlf4 := b4 _ _ (hT3.ne hlf) hlf
      have hDf4 := dpAll_tk (but_tk hT3 b4) hFA hDf
      refine ⟨τ, 200 * i + 13, 4, 4, 2 ^ 60, ct, .non, [], rfl, by decide, by decide, by decide, by omega, by omega, hT4, .inl ⟨rfl, rfl⟩, by simp, Nat.le_refl _, by simp, fun lc cs H5 hpw hdg hcl nlc hlc hT5 b5 => ?_⟩
      have hlf5 := b5 _ _ (hT4.ne hlf4) hlf4
      have hDf5 := dpAll_tk (but_tk hT4 b5) hFA hDf4
      walk_at "r"
      refine ⟨lc, lf, cs, us, fs, 4, rfl, hlc, hlf5, by decide, hFs, hDf5, hpw, fun c hc => (hdg c hc).code (by
        have : 2 ^ 60 + 4 * ct ≤ 2 ^ 61 := by omega
        exact Nat.le_trans this (Nat.pow_le_pow_right (by decide) (by decide))), by omega, fun v6 d6 H6 f1 f2 f3 f5 f4 sm6 => ?_⟩
      have hT6 := hT5.up sm6
      dsimp only [gName]
      walk_at "r"
      refine ⟨τ, 200 * i + 13 + 12 * ct, 500, rfl, by omega, by decide, by decide, hT6, fun ts7 H7 hA7 hb7 hl7 hT7 b7 => ?_⟩
      have r7 := (tv_range hA7).mp hb7
      refine ⟨_, 500, rfl, by decide, r7.1, r7.2, fun v8 d8 H8 g1 g2 g3 g5 g4 sm8 => ?_⟩
      have hT8 := hT7.up sm8
      walk_at "r"
      refine ⟨τ, 200 * i + 13 + 12 * ct + 46, 1 * 2 ^ (65 : Int).toNat, rfl, by decide, by decide, by omega, hT8, fun d9 H9 hd9 hd9' hT9 b9 => ?_⟩
      walk_at "r"
      refine ⟨τ, 200 * i + 13 + 12 * ct + 47, 3, rfl, by decide, by decide, by omega, hT9, fun d10 H10 hd10 hd10' hT10 b10 => ?_⟩
      walk_at "r"
      have h64 : (2 : Int) ^ (64 : Int).toNat = 18446744073709551616 := by decide
      have h65 : (1 : Int) * 2 ^ (65 : Int).toNat = 36893488147419103232 := by decide
      have h65' : (2 : Int) ^ 65 = 36893488147419103232 := by decide
      refine ⟨_, 65, rfl, by decide, by omega, by omega, fun v11 d11 H11 k1 k2 k3 k5 k4 sm11 => ?_⟩
      have hT11 := hT10.up sm11
      have D6 : Dp K H11 v6 d6 := dp_tk (((((but_tk hT6 b7).trans (tk_same sm8)).trans (but_tk hT8 b9)).trans (but_tk hT9 b10)).trans (tk_same sm11)) f1 f4
      have D8 : Dp K H11 v8 d8 := dp_tk (((but_tk hT8 b9).trans (but_tk hT9 b10)).trans (tk_same sm11)) g1 g4
      refine ⟨by show 4 ≤ sizeLine; decide, fun l12 nl12 => ?_⟩
      have s12 := sm_upd (o := .lst [v6, v8, .int (d9 - 2 ^ (64 : Int).toNat), v11]) nl12
      have hl12 := upd_at (o := .lst [v6, v8, .int (d9 - 2 ^ (64 : Int).toNat), v11]) nl12
      have fpl : Fm (.int (d9 - 2 ^ (64 : Int).toNat)) := (fm_int _).mpr (by omega)
      have hall : ∀ d ∈ [d6, d8, .int (d9 - 2 ^ (64 : Int).toNat), d11], Fm d ∧ d.depth ≤ 5 ∧ wt d ≤ 12000000 := fun d hd => by
        simp only [List.mem_cons, List.not_mem_nil, or_false] at hd
        rcases hd with rfl | rfl | rfl | rfl
        · exact ⟨f1, f3, by omega⟩
        · exact ⟨g1, by omega, by omega⟩
        · exact ⟨fpl, by rw [depth_int]; decide, by rw [wt_int]; decide⟩
        · exact ⟨k1, by omega, by omega⟩
      have hDp : DpAll K (upd H11 l12 (.lst [v6, v8, .int (d9 - 2 ^ (64 : Int).toNat), v11])) [v6, v8, .int (d9 - 2 ^ (64 : Int).toNat), v11] [d6, d8, .int (d9 - 2 ^ (64 : Int).toNat), d11] :=
        .cons (dp_tk (tk_same s12) f1 D6) (.cons (dp_tk (tk_same s12) g1 D8) (.cons (.int _) (.cons (dp_tk (tk_same s12) k1 k4) .nil)))
      have hT12 := hT11.up s12
      revert hl12 hDp hT12
      generalize upd H11 l12 (.lst [v6, v8, .int (d9 - 2 ^ (64 : Int).toNat), v11]) = H12
      generalize [v6, v8, V.int (d9 - 2 ^ (64 : Int).toNat), v11] = xs
      generalize [d6, d8, PyData.int (d9 - 2 ^ (64 : Int).toNat), d11] = ds at hall
      intro hl12 hDp hT12
      refine ⟨_, rfl, l12, rfl, ⟨_, .inl (.inl hl12)⟩, flL (xs := xs) (fun j σ H' => ∃ z6, σ = [some (.ref a), some (.ref τ.p), some (.int (0 + (i : Nat))), some (.ref lf), some v6, some (.ref l12), z6] ∧ Same H12 H') ⟨_, rfl, Same.refl _⟩ ?_ ?_ ?_⟩
      · rintro j σ H' _ ⟨_, _, sm⟩
        exact .inl (.inl (sm _ _ hl12))
      · rintro j x σ H13 hx ⟨z6, rfl, sm13⟩ D2 B2
        obtain ⟨d, hd, hDd⟩ := dpAll_get hDp hx
        obtain ⟨hF, hdep, hwt⟩ := hall d (List.mem_of_getElem? hd)
        have at_ : ∀ H', Same H12 H' → Dp K H' x d := fun H' sm => dp_tk (tk_same sm) hF hDd
        walk_at "r"
        refine ⟨x, d, rfl, at_ _ sm13, hF, hdep, hwt, fun H14 sm14 => ?_⟩
        walk_at "r"
        refine ⟨log_small hwt, ?_⟩
        walk_at "r"
        refine ⟨x, d, rfl, at_ _ (sm13.trans sm14), hF, hdep, hwt, fun H15 sm15 => ?_⟩
        walk_at "r"
        refine ⟨log_small hwt, ?_⟩
        walk_at "r"
        refine ifN (fun z => absurd rfl z) (fun _ => ?_)
        have sm15' := (sm13.trans sm14).trans sm15
        walk_at "r"
        refine ⟨x, d, rfl, at_ _ sm15', hF, hdep, hwt, fun H16 sm16 => ?_⟩
        walk_at "r"
        refine ⟨log_small (by omega), ?_⟩
        walk_at "r"
        refine ⟨x, d, rfl, at_ _ (sm15'.trans sm16), hF, hdep, hwt, fun H17 sm17 => ?_⟩
        walk_at "r"
        refine ⟨log_small (by omega), ?_⟩
        walk_at "r"
        refine ifN (fun z => absurd rfl z) (fun _ => ?_)
        exact B2.nx _ _ ⟨_, rfl, (sm15'.trans sm16).trans sm17⟩
      · rintro σ H13 ⟨z6, rfl, sm13⟩
        exact B.nx _ _ ⟨_, _, _, _, _, rfl, (hT12.up sm13).le (by omega)⟩
    · rintro σ H2 ⟨z2, z3, z4, z5, z6, rfl, hT2⟩
      walk_at "r"
      refine ⟨by show 2 ≤ sizeLine; decide, fun t1 n1 => ?_⟩
      walk_at "r"
      refine ⟨by show 4 ≤ sizeLine; decide, fun t2 n2 => ?_⟩
      refine ⟨by show 2 ≤ sizeLine; decide, fun t3 n3 => ?_⟩
      have wtl : wt (.tuple [.tuple [.int 64, .int 65], .tuple [.int 0, .int 1, .int 64, .int 65]]) = 9 := by
        simp only [wt_tuple, wtAll_cons, wtAll_nil, wt_int]
      have dpl : PyData.depth (.tuple [.tuple [.int 64, .int 65], .tuple [.int 0, .int 1, .int 64, .int 65]]) = 2 := by
        simp only [depth_tuple, depthAll_cons, depthAll_nil, depth_int]
        decide
      have mk : ∀ {H : Hp} {t1 t2 t3 : Addr}, H t1 = some (.tup [.int 64, .int 65]) → H t2 = some (.tup [.int 0, .int 1, .int 64, .int 65]) → H t3 = some (.tup [.ref t1, .ref t2]) →
          Dp K H (.ref t3) (.tuple [.tuple [.int 64, .int 65], .tuple [.int 0, .int 1, .int 64, .int 65]]) := fun e1 e2 e3 =>
        .tup (.inl (.inl e3)) (.cons (.tup (.inl (.inl e1)) (.cons (.int _) (.cons (.int _) .nil))) (.cons (.tup (.inl (.inl e2)) (.cons (.int _) (.cons (.int _) (.cons (.int _) (.cons (.int _) .nil))))) .nil))
      refine ⟨_, _, rfl, mk ((sm_upd n3) _ _ ((sm_upd n2) _ _ (upd_at n1))) ((sm_upd n3) _ _ (upd_at n2)) (upd_at n3), last_form, by rw [dpl]; decide, by rw [wtl]; decide, fun H3 sm3 => ?_⟩
      rw [wtl]
      walk_at "r"
      refine iteT ?_
      refine ⟨by show 2 ≤ sizeLine; decide, fun t4 n4 => ?_⟩
      walk_at "r"
      refine ⟨by show 4 ≤ sizeLine; decide, fun t5 n5 => ?_⟩
      refine ⟨by show 2 ≤ sizeLine; decide, fun t6 n6 => ?_⟩
      refine ⟨_, _, rfl, mk ((sm_upd n6) _ _ ((sm_upd n5) _ _ (upd_at n4))) ((sm_upd n6) _ _ (upd_at n5)) (upd_at n6), last_form, by rw [dpl]; decide, by rw [wtl]; decide, fun H4 sm4 => ?_⟩
      rw [dpl]
      walk_at "r"
      exact q _
end
end K03
set_option Elab.async false
set_option linter.all false
set_option maxRecDepth 100000
namespace K03
open PySem PySem.Spec PyProof.Rows L2
theorem all_mk {l : PySem.W.OpenLaw} {w : World} {K : PySem.W.Frag} {h : Heap} {mg : Str → Option Value} {fa a_size a_height a_size_of a_height_of a__law_begin a__law_draw a__law_pick a__law_turns a__law_int a__law_form a__law_row_form a__law_size a__law_height a__law_fields a__law_moved a__law_form_of_codes a__law_code a__law_codes a__law_few a_law : Addr} (X : K.In h) (G : h.Ns mainGlobals mg) (hfa : mg "law" = some (.ref fa))
    {od0 an0 : Option Addr} {sl0 : Array (Option Value)} {oc0 kV0 dc0 pm0 cd0 ct0 : Value}
    (p0 : PySem.W.nsIn K mainGlobals "size" = some (some (.ref a_size))) (l0 : K.lookup a_size = some ⟨oc0, od0, .func (PySem.W.fnOf "size" "size" (defArgs s_size) (defBody s_size) (defScope s_size) .none kV0 dc0 pm0 an0 cd0 ct0), sl0⟩) (c0 : PySem.W.codeIn K cd0 "size" = true) (k0 : PySem.W.keepIn K (.ref a_size) = true)
    {od1 an1 : Option Addr} {sl1 : Array (Option Value)} {oc1 kV1 dc1 pm1 cd1 ct1 : Value}
    (p1 : PySem.W.nsIn K mainGlobals "height" = some (some (.ref a_height))) (l1 : K.lookup a_height = some ⟨oc1, od1, .func (PySem.W.fnOf "height" "height" (defArgs s_height) (defBody s_height) (defScope s_height) .none kV1 dc1 pm1 an1 cd1 ct1), sl1⟩) (c1 : PySem.W.codeIn K cd1 "height" = true) (k1 : PySem.W.keepIn K (.ref a_height) = true)
    {od2 an2 : Option Addr} {sl2 : Array (Option Value)} {oc2 kV2 dc2 pm2 cd2 ct2 : Value}
    (p2 : PySem.W.nsIn K mainGlobals "size_of" = some (some (.ref a_size_of))) (l2 : K.lookup a_size_of = some ⟨oc2, od2, .func (PySem.W.fnOf "size_of" "size_of" (defArgs s_size_of) (defBody s_size_of) (defScope s_size_of) .none kV2 dc2 pm2 an2 cd2 ct2), sl2⟩) (c2 : PySem.W.codeIn K cd2 "size_of" = true) (k2 : PySem.W.keepIn K (.ref a_size_of) = true)
    {od3 an3 : Option Addr} {sl3 : Array (Option Value)} {oc3 kV3 dc3 pm3 cd3 ct3 : Value}
    (p3 : PySem.W.nsIn K mainGlobals "height_of" = some (some (.ref a_height_of))) (l3 : K.lookup a_height_of = some ⟨oc3, od3, .func (PySem.W.fnOf "height_of" "height_of" (defArgs s_height_of) (defBody s_height_of) (defScope s_height_of) .none kV3 dc3 pm3 an3 cd3 ct3), sl3⟩) (c3 : PySem.W.codeIn K cd3 "height_of" = true) (k3 : PySem.W.keepIn K (.ref a_height_of) = true)
    {od4 an4 : Option Addr} {sl4 : Array (Option Value)} {oc4 kV4 dc4 pm4 cd4 ct4 : Value}
    (p4 : PySem.W.nsIn K mainGlobals "_law_begin" = some (some (.ref a__law_begin))) (l4 : K.lookup a__law_begin = some ⟨oc4, od4, .func (PySem.W.fnOf "_law_begin" "_law_begin" (defArgs s__law_begin) (defBody s__law_begin) (defScope s__law_begin) .none kV4 dc4 pm4 an4 cd4 ct4), sl4⟩) (c4 : PySem.W.codeIn K cd4 "_law_begin" = true) (k4 : PySem.W.keepIn K (.ref a__law_begin) = true)
    {od5 an5 : Option Addr} {sl5 : Array (Option Value)} {oc5 kV5 dc5 pm5 cd5 ct5 : Value}
    (p5 : PySem.W.nsIn K mainGlobals "_law_draw" = some (some (.ref a__law_draw))) (l5 : K.lookup a__law_draw = some ⟨oc5, od5, .func (PySem.W.fnOf "_law_draw" "_law_draw" (defArgs s__law_draw) (defBody s__law_draw) (defScope s__law_draw) .none kV5 dc5 pm5 an5 cd5 ct5), sl5⟩) (c5 : PySem.W.codeIn K cd5 "_law_draw" = true) (k5 : PySem.W.keepIn K (.ref a__law_draw) = true)
    {od6 an6 : Option Addr} {sl6 : Array (Option Value)} {oc6 kV6 dc6 pm6 cd6 ct6 : Value}
    (p6 : PySem.W.nsIn K mainGlobals "_law_pick" = some (some (.ref a__law_pick))) (l6 : K.lookup a__law_pick = some ⟨oc6, od6, .func (PySem.W.fnOf "_law_pick" "_law_pick" (defArgs s__law_pick) (defBody s__law_pick) (defScope s__law_pick) .none kV6 dc6 pm6 an6 cd6 ct6), sl6⟩) (c6 : PySem.W.codeIn K cd6 "_law_pick" = true) (k6 : PySem.W.keepIn K (.ref a__law_pick) = true)
    {od7 an7 : Option Addr} {sl7 : Array (Option Value)} {oc7 kV7 dc7 pm7 cd7 ct7 : Value}
    (p7 : PySem.W.nsIn K mainGlobals "_law_turns" = some (some (.ref a__law_turns))) (l7 : K.lookup a__law_turns = some ⟨oc7, od7, .func (PySem.W.fnOf "_law_turns" "_law_turns" (defArgs s__law_turns) (defBody s__law_turns) (defScope s__law_turns) .none kV7 dc7 pm7 an7 cd7 ct7), sl7⟩) (c7 : PySem.W.codeIn K cd7 "_law_turns" = true) (k7 : PySem.W.keepIn K (.ref a__law_turns) = true)
    {od8 an8 : Option Addr} {sl8 : Array (Option Value)} {oc8 kV8 dc8 pm8 cd8 ct8 : Value}
    (p8 : PySem.W.nsIn K mainGlobals "_law_int" = some (some (.ref a__law_int))) (l8 : K.lookup a__law_int = some ⟨oc8, od8, .func (PySem.W.fnOf "_law_int" "_law_int" (defArgs s__law_int) (defBody s__law_int) (defScope s__law_int) .none kV8 dc8 pm8 an8 cd8 ct8), sl8⟩) (c8 : PySem.W.codeIn K cd8 "_law_int" = true) (k8 : PySem.W.keepIn K (.ref a__law_int) = true)
    {od9 an9 : Option Addr} {sl9 : Array (Option Value)} {oc9 kV9 dc9 pm9 cd9 ct9 : Value}
    (p9 : PySem.W.nsIn K mainGlobals "_law_form" = some (some (.ref a__law_form))) (l9 : K.lookup a__law_form = some ⟨oc9, od9, .func (PySem.W.fnOf "_law_form" "_law_form" (defArgs s__law_form) (defBody s__law_form) (defScope s__law_form) .none kV9 dc9 pm9 an9 cd9 ct9), sl9⟩) (c9 : PySem.W.codeIn K cd9 "_law_form" = true) (k9 : PySem.W.keepIn K (.ref a__law_form) = true)
    {od10 an10 : Option Addr} {sl10 : Array (Option Value)} {oc10 kV10 dc10 pm10 cd10 ct10 : Value}
    (p10 : PySem.W.nsIn K mainGlobals "_law_row_form" = some (some (.ref a__law_row_form))) (l10 : K.lookup a__law_row_form = some ⟨oc10, od10, .func (PySem.W.fnOf "_law_row_form" "_law_row_form" (defArgs s__law_row_form) (defBody s__law_row_form) (defScope s__law_row_form) .none kV10 dc10 pm10 an10 cd10 ct10), sl10⟩) (c10 : PySem.W.codeIn K cd10 "_law_row_form" = true) (k10 : PySem.W.keepIn K (.ref a__law_row_form) = true)
    {od11 an11 : Option Addr} {sl11 : Array (Option Value)} {oc11 kV11 dc11 pm11 cd11 ct11 : Value}
    (p11 : PySem.W.nsIn K mainGlobals "_law_size" = some (some (.ref a__law_size))) (l11 : K.lookup a__law_size = some ⟨oc11, od11, .func (PySem.W.fnOf "_law_size" "_law_size" (defArgs s__law_size) (defBody s__law_size) (defScope s__law_size) .none kV11 dc11 pm11 an11 cd11 ct11), sl11⟩) (c11 : PySem.W.codeIn K cd11 "_law_size" = true) (k11 : PySem.W.keepIn K (.ref a__law_size) = true)
    {od12 an12 : Option Addr} {sl12 : Array (Option Value)} {oc12 kV12 dc12 pm12 cd12 ct12 : Value}
    (p12 : PySem.W.nsIn K mainGlobals "_law_height" = some (some (.ref a__law_height))) (l12 : K.lookup a__law_height = some ⟨oc12, od12, .func (PySem.W.fnOf "_law_height" "_law_height" (defArgs s__law_height) (defBody s__law_height) (defScope s__law_height) .none kV12 dc12 pm12 an12 cd12 ct12), sl12⟩) (c12 : PySem.W.codeIn K cd12 "_law_height" = true) (k12 : PySem.W.keepIn K (.ref a__law_height) = true)
    {od13 an13 : Option Addr} {sl13 : Array (Option Value)} {oc13 kV13 dc13 pm13 cd13 ct13 : Value}
    (p13 : PySem.W.nsIn K mainGlobals "_law_fields" = some (some (.ref a__law_fields))) (l13 : K.lookup a__law_fields = some ⟨oc13, od13, .func (PySem.W.fnOf "_law_fields" "_law_fields" (defArgs s__law_fields) (defBody s__law_fields) (defScope s__law_fields) .none kV13 dc13 pm13 an13 cd13 ct13), sl13⟩) (c13 : PySem.W.codeIn K cd13 "_law_fields" = true) (k13 : PySem.W.keepIn K (.ref a__law_fields) = true)
    {od14 an14 : Option Addr} {sl14 : Array (Option Value)} {oc14 kV14 dc14 pm14 cd14 ct14 : Value}
    (p14 : PySem.W.nsIn K mainGlobals "_law_moved" = some (some (.ref a__law_moved))) (l14 : K.lookup a__law_moved = some ⟨oc14, od14, .func (PySem.W.fnOf "_law_moved" "_law_moved" (defArgs s__law_moved) (defBody s__law_moved) (defScope s__law_moved) .none kV14 dc14 pm14 an14 cd14 ct14), sl14⟩) (c14 : PySem.W.codeIn K cd14 "_law_moved" = true) (k14 : PySem.W.keepIn K (.ref a__law_moved) = true)
    {od15 an15 : Option Addr} {sl15 : Array (Option Value)} {oc15 kV15 dc15 pm15 cd15 ct15 : Value}
    (p15 : PySem.W.nsIn K mainGlobals "_law_form_of_codes" = some (some (.ref a__law_form_of_codes))) (l15 : K.lookup a__law_form_of_codes = some ⟨oc15, od15, .func (PySem.W.fnOf "_law_form_of_codes" "_law_form_of_codes" (defArgs s__law_form_of_codes) (defBody s__law_form_of_codes) (defScope s__law_form_of_codes) .none kV15 dc15 pm15 an15 cd15 ct15), sl15⟩) (c15 : PySem.W.codeIn K cd15 "_law_form_of_codes" = true) (k15 : PySem.W.keepIn K (.ref a__law_form_of_codes) = true)
    {od16 an16 : Option Addr} {sl16 : Array (Option Value)} {oc16 kV16 dc16 pm16 cd16 ct16 : Value}
    (p16 : PySem.W.nsIn K mainGlobals "_law_code" = some (some (.ref a__law_code))) (l16 : K.lookup a__law_code = some ⟨oc16, od16, .func (PySem.W.fnOf "_law_code" "_law_code" (defArgs s__law_code) (defBody s__law_code) (defScope s__law_code) .none kV16 dc16 pm16 an16 cd16 ct16), sl16⟩) (c16 : PySem.W.codeIn K cd16 "_law_code" = true) (k16 : PySem.W.keepIn K (.ref a__law_code) = true)
    {od17 an17 : Option Addr} {sl17 : Array (Option Value)} {oc17 kV17 dc17 pm17 cd17 ct17 : Value}
    {T17 : Addr} {oT17 : Value} {dT17 : Option Addr} {nT17 : Nat} {sT17 : Array (Option Value)} 
    (p17 : PySem.W.nsIn K mainGlobals "_law_codes" = some (some (.ref a__law_codes))) (l17 : K.lookup a__law_codes = some ⟨oc17, od17, .func (PySem.W.fnOf "_law_codes" "_law_codes" (defArgs s__law_codes) (defBody s__law_codes) (defScope s__law_codes) (.ref T17) kV17 dc17 pm17 an17 cd17 ct17), sl17⟩) (c17 : PySem.W.codeIn K cd17 "_law_codes" = true) (k17 : PySem.W.keepIn K (.ref a__law_codes) = true)
    (lT17 : K.lookup T17 = some ⟨oT17, dT17, .seq #[.none] nT17, sT17⟩)
    {od18 an18 : Option Addr} {sl18 : Array (Option Value)} {oc18 kV18 dc18 pm18 cd18 ct18 : Value}
    (p18 : PySem.W.nsIn K mainGlobals "_law_few" = some (some (.ref a__law_few))) (l18 : K.lookup a__law_few = some ⟨oc18, od18, .func (PySem.W.fnOf "_law_few" "_law_few" (defArgs s__law_few) (defBody s__law_few) (defScope s__law_few) .none kV18 dc18 pm18 an18 cd18 ct18), sl18⟩) (c18 : PySem.W.codeIn K cd18 "_law_few" = true) (k18 : PySem.W.keepIn K (.ref a__law_few) = true)
    {od19 an19 : Option Addr} {sl19 : Array (Option Value)} {oc19 kV19 dc19 pm19 cd19 ct19 : Value}
    (p19 : PySem.W.nsIn K mainGlobals "law" = some (some (.ref a_law))) (l19 : K.lookup a_law = some ⟨oc19, od19, .func (PySem.W.fnOf "law" "law" (defArgs s_law) (defBody s_law) (defScope s_law) .none kV19 dc19 pm19 an19 cd19 ct19), sl19⟩) (c19 : PySem.W.codeIn K cd19 "law" = true) (k19 : PySem.W.keepIn K (.ref a_law) = true)
    (z_int : PySem.W.nsIn K mainGlobals "int" = some none)
    (z_isinstance : PySem.W.nsIn K mainGlobals "isinstance" = some none)
    (z_len : PySem.W.nsIn K mainGlobals "len" = some none)
    (z_max : PySem.W.nsIn K mainGlobals "max" = some none)
    (z_range : PySem.W.nsIn K mainGlobals "range" = some none)
    (z_repr : PySem.W.nsIn K mainGlobals "repr" = some none)
    (z_sorted : PySem.W.nsIn K mainGlobals "sorted" = some none)
    (z_sum : PySem.W.nsIn K mainGlobals "sum" = some none)
    (z_tuple : PySem.W.nsIn K mainGlobals "tuple" = some none)
    : ∃ fd : FuncData, (∀ (s : Shared) (v : Value), BindsTo s fd ⟨[v], []⟩ [("_law_script", v)]) ∧ ∀ base : Heap, K.In base → base.Ns mainGlobals mg → FnOk l.prog w K mg base CX0 9 fa fd ["_law_script"] (spLaw K) := by
  have e := hfa.symm.trans (PySem.W.mg_of X G p19)
  cases e
  have F0 := fun_mk (st := s_size) l0 c0 k0
  have b0 := F0.binds (ps := ["x"]) fun _ _ _ _ _ _ us hl => match us, hl with | [_], _ => rfl
  have F1 := fun_mk (st := s_height) l1 c1 k1
  have b1 := F1.binds (ps := ["x"]) fun _ _ _ _ _ _ us hl => match us, hl with | [_], _ => rfl
  have F2 := fun_mk (st := s_size_of) l2 c2 k2
  have b2 := F2.binds (ps := ["x"]) fun _ _ _ _ _ _ us hl => match us, hl with | [_], _ => rfl
  have F3 := fun_mk (st := s_height_of) l3 c3 k3
  have b3 := F3.binds (ps := ["x"]) fun _ _ _ _ _ _ us hl => match us, hl with | [_], _ => rfl
  have F4 := fun_mk (st := s__law_begin) l4 c4 k4
  have b4 := F4.binds (ps := ["_law_script"]) fun _ _ _ _ _ _ us hl => match us, hl with | [_], _ => rfl
  have F5 := fun_mk (st := s__law_draw) l5 c5 k5
  have b5 := F5.binds (ps := ["_law_tape", "_law_limit"]) fun _ _ _ _ _ _ us hl => match us, hl with | [_, _], _ => rfl
  have F6 := fun_mk (st := s__law_pick) l6 c6 k6
  have b6 := F6.binds (ps := ["_law_tape", "_law_some"]) fun _ _ _ _ _ _ us hl => match us, hl with | [_, _], _ => rfl
  have F7 := fun_mk (st := s__law_turns) l7 c7 k7
  have b7 := F7.binds (ps := ["_law_number"]) fun _ _ _ _ _ _ us hl => match us, hl with | [_], _ => rfl
  have F8 := fun_mk (st := s__law_int) l8 c8 k8
  have b8 := F8.binds (ps := ["_law_places"]) fun _ _ _ _ _ _ us hl => match us, hl with | [_], _ => rfl
  have F9 := fun_mk (st := s__law_form) l9 c9 k9
  have b9 := F9.binds (ps := ["_law_number"]) fun _ _ _ _ _ _ us hl => match us, hl with | [_], _ => rfl
  have F10 := fun_mk (st := s__law_row_form) l10 c10 k10
  have b10 := F10.binds (ps := ["_law_places"]) fun _ _ _ _ _ _ us hl => match us, hl with | [_], _ => rfl
  have F11 := fun_mk (st := s__law_size) l11 c11 k11
  have b11 := F11.binds (ps := ["_law_form_here"]) fun _ _ _ _ _ _ us hl => match us, hl with | [_], _ => rfl
  have F12 := fun_mk (st := s__law_height) l12 c12 k12
  have b12 := F12.binds (ps := ["_law_form_here"]) fun _ _ _ _ _ _ us hl => match us, hl with | [_], _ => rfl
  have F13 := fun_mk (st := s__law_fields) l13 c13 k13
  have b13 := F13.binds (ps := ["_law_tape", "_law_many"]) fun _ _ _ _ _ _ us hl => match us, hl with | [_, _], _ => rfl
  have F14 := fun_mk (st := s__law_moved) l14 c14 k14
  have b14 := F14.binds (ps := ["_law_code_here", "_law_fields_here"]) fun _ _ _ _ _ _ us hl => match us, hl with | [_, _], _ => rfl
  have F15 := fun_mk (st := s__law_form_of_codes) l15 c15 k15
  have b15 := F15.binds (ps := ["_law_codes_here", "_law_fields_here"]) fun _ _ _ _ _ _ us hl => match us, hl with | [_, _], _ => rfl
  have F16 := fun_mk (st := s__law_code) l16 c16 k16
  have b16 := F16.binds (ps := ["_law_tape", "_law_many", "_law_known"]) fun _ _ _ _ _ _ us hl => match us, hl with | [_, _, _], _ => rfl
  have F17 := HX.funD_mk (st := s__law_codes) (dv := .non) l17 c17 k17 lT17 rfl rfl
  have b17 := HX.binds_nil (F17.binds1 (ps := ["_law_tape", "_law_many", "_law_count", "_law_known"]) 4 1 (by simp) rfl fun _ _ _ _ _ _ _ us its hl hl2 => match us, hl, its, hl2 with | [_, _, _, _], _, [_], _ => ⟨_, rfl, rfl⟩)
  obtain ⟨ds17, dv17, bd17⟩ := F17.binds1 (ps := ["_law_tape", "_law_many", "_law_count", "_law_known"]) 3 0 (by simp) rfl fun _ _ _ _ _ _ _ us its hl hl2 => match us, hl, its, hl2 with | [_, _, _], _, [_], _ => ⟨_, rfl, rfl⟩
  have F18 := fun_mk (st := s__law_few) l18 c18 k18
  have b18 := F18.binds (ps := ["_law_tape", "_law_most"]) fun _ _ _ _ _ _ us hl => match us, hl with | [_, _], _ => rfl
  have F19 := fun_mk (st := s_law) l19 c19 k19
  have b19 := F19.binds (ps := ["_law_script"]) fun _ _ _ _ _ _ us hl => match us, hl with | [_], _ => rfl
  have T : Top K mg := ⟨_, _, F0, PySem.W.mg_of X G p0, b0, _, _, F1, PySem.W.mg_of X G p1, b1, _, _, F2, PySem.W.mg_of X G p2, b2, _, _, F3, PySem.W.mg_of X G p3, b3, _, _, F4, PySem.W.mg_of X G p4, b4, _, _, F5, PySem.W.mg_of X G p5, b5, _, _, F6, PySem.W.mg_of X G p6, b6, _, _, F7, PySem.W.mg_of X G p7, b7, _, _, F8, PySem.W.mg_of X G p8, b8, _, _, F9, PySem.W.mg_of X G p9, b9, _, _, F10, PySem.W.mg_of X G p10, b10, _, _, F11, PySem.W.mg_of X G p11, b11, _, _, F12, PySem.W.mg_of X G p12, b12, _, _, F13, PySem.W.mg_of X G p13, b13, _, _, F14, PySem.W.mg_of X G p14, b14, _, _, F15, PySem.W.mg_of X G p15, b15, _, _, F16, PySem.W.mg_of X G p16, b16, _, _, F17, ds17, dv17, bd17, PySem.W.mg_of X G p17, b17, _, _, F18, PySem.W.mg_of X G p18, b18, _, _, F19, PySem.W.mg_of X G p19, b19, PySem.W.mg_none_of X G z_int, PySem.W.mg_none_of X G z_isinstance, PySem.W.mg_none_of X G z_len, PySem.W.mg_none_of X G z_max, PySem.W.mg_none_of X G z_range, PySem.W.mg_none_of X G z_repr, PySem.W.mg_none_of X G z_sorted, PySem.W.mg_none_of X G z_sum, PySem.W.mg_none_of X G z_tuple⟩
  exact ⟨PySem.W.fnOf "law" "law" (defArgs s_law) (defBody s_law) (defScope s_law) .none kV19 dc19 pm19 an19 cd19 ct19, fun s v => .of_eq rfl, fun base _ _ => ok_law T F19⟩
end K03
open PySem PySem.W PyProof.Rows
set_option maxHeartbeats 0 in
theorem PySem.Challenge.cw_farbits_k03_sizes_and_heights_holds : PySem.Challenge.rw_farbits_k03_sizes_and_heights.Holds := by
  w_on; o_law; k_head; (case hw => w_witness2)
  k_fill
  refine L2.walk_of (l := PySem.Challenge.rw_farbits_k03_sizes_and_heights) (n := 63) (k := 9) (x := "_law_script") (CX := fun _ => L2.CX0) (sp := fun w => K03.spLaw _) rfl (by decide) rfl ⟨rfl, by decide, by decide⟩ (fun w h Y => PySem.W.kIn_of Y) ?F (fun _ _ a ns hl _ hS => ⟨a, ns, rfl, hS, hl, fun _ => rfl⟩) (fun _ _ _ _ _ h => h)
  case F =>
    intro w mg fa h KX G hmg
    refine' K03.all_mk KX G hmg ?p0 ?l0 ?c0 ?k0 ?p1 ?l1 ?c1 ?k1 ?p2 ?l2 ?c2 ?k2 ?p3 ?l3 ?c3 ?k3 ?p4 ?l4 ?c4 ?k4 ?p5 ?l5 ?c5 ?k5 ?p6 ?l6 ?c6 ?k6 ?p7 ?l7 ?c7 ?k7 ?p8 ?l8 ?c8 ?k8 ?p9 ?l9 ?c9 ?k9 ?p10 ?l10 ?c10 ?k10 ?p11 ?l11 ?c11 ?k11 ?p12 ?l12 ?c12 ?k12 ?p13 ?l13 ?c13 ?k13 ?p14 ?l14 ?c14 ?k14 ?p15 ?l15 ?c15 ?k15 ?p16 ?l16 ?c16 ?k16 ?p17 ?l17 ?c17 ?k17 ?lT17 ?p18 ?l18 ?c18 ?k18 ?p19 ?l19 ?c19 ?k19 ?z_int ?z_isinstance ?z_len ?z_max ?z_range ?z_repr ?z_sorted ?z_sum ?z_tuple
    (case p0 => k_is); (case l0 => k_is); (case c0 => k_is); (case k0 => k_is); (case p1 => k_is); (case l1 => k_is); (case c1 => k_is); (case k1 => k_is)
    (case p2 => k_is); (case l2 => k_is); (case c2 => k_is); (case k2 => k_is); (case p3 => k_is); (case l3 => k_is); (case c3 => k_is); (case k3 => k_is)
    (case p4 => k_is); (case l4 => k_is); (case c4 => k_is); (case k4 => k_is); (case p5 => k_is); (case l5 => k_is); (case c5 => k_is); (case k5 => k_is)
    (case p6 => k_is); (case l6 => k_is); (case c6 => k_is); (case k6 => k_is); (case p7 => k_is); (case l7 => k_is); (case c7 => k_is); (case k7 => k_is)
    (case p8 => k_is); (case l8 => k_is); (case c8 => k_is); (case k8 => k_is); (case p9 => k_is); (case l9 => k_is); (case c9 => k_is); (case k9 => k_is)
    (case p10 => k_is); (case l10 => k_is); (case c10 => k_is); (case k10 => k_is); (case p11 => k_is); (case l11 => k_is); (case c11 => k_is); (case k11 => k_is)
    (case p12 => k_is); (case l12 => k_is); (case c12 => k_is); (case k12 => k_is); (case p13 => k_is); (case l13 => k_is); (case c13 => k_is); (case k13 => k_is)
    (case p14 => k_is); (case l14 => k_is); (case c14 => k_is); (case k14 => k_is); (case p15 => k_is); (case l15 => k_is); (case c15 => k_is); (case k15 => k_is)
    (case p16 => k_is); (case l16 => k_is); (case c16 => k_is); (case k16 => k_is); (case p17 => k_is); (case l17 => k_is); (case c17 => k_is); (case k17 => k_is)
    (case lT17 => k_is); (case p18 => k_is); (case l18 => k_is); (case c18 => k_is); (case k18 => k_is); (case p19 => k_is); (case l19 => k_is); (case c19 => k_is)
    (case k19 => k_is); (case z_int => k_is); (case z_isinstance => k_is); (case z_len => k_is); (case z_max => k_is); (case z_range => k_is); (case z_repr => k_is); (case z_sorted => k_is)
    (case z_sum => k_is); (case z_tuple => k_is)
