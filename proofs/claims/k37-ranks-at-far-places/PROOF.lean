import PyProof.Rows.All
import Wide.All
import OpenK.AllK
import Wide.FinOn
import HandS.ForMost
import HandS.WideBits
import HandS.Style
import HandS.IsInst
import HandS.TupAny
import HandS.Defaults
import HandS.Wide
import HandS.Small
import HandS.Flow
import HandS.RaiseMore
import HandS.Nested
import HandS.ExcInit
import KE.KExcSuper
import HandS.ExcIs
import HandS.ExcField
import HandS.Exc
import HandS.TryMany
import HandS.WordsExc
import KE.KOpsOwn
import HandS.SlotsOwn
import HandS.Property
import HandS.Lambda
import HandS.EndTab
import KE.KNest
import KE.KStateDown
import HandS.Head0
import HandS.Head1
import HandS.Head2
import HandS.HeadEnd
import HandS.HeadHook1
import HandS.HeadHook2
import HandS.HeadHook3
import HandS.HeadHook4
import HandS.HeadNt
import OpenK.KMeth
import KE.GoesMore
import KE.GoesEnum
import KE.KBits
import KE.BitLaws
import PySem.PyData
import PyProof.Claim2
import HandS.Iter
import HandS.CallSlots
import HandS.OwnEq
import PyProof.NeKinds
import KE.LtSeq
import PySem.Challenge.RW_farbits_k37_whole_ranks_at_far_places
set_option Elab.async false
set_option linter.all false
set_option maxRecDepth 100000
/-! small helpers over the hand layer, for every law -/
namespace HX
open PySem PySem.Spec PyProof.Rows L2

/-- ends that take P behind, and else what D takes -/
structure Jn (D : Ends) (P : L2.St → Hp → Prop) (D' : Ends) : Prop where
  nx : ∀ σ' H', P σ' H' → D'.nx σ' H'
  ct : ∀ σ' H', D.ct σ' H' → D'.ct σ' H'
  bk : ∀ σ' H', D.bk σ' H' → D'.bk σ' H'
  rt : ∀ v H', D.rt v H' → D'.rt v H'
theorem if_join {c : Prop} [Decidable c] {t u : TS} {D : Ends} {σ : L2.St} {H : Hp} (P : L2.St → Hp → Prop) (hr : ∀ σ' H', P σ' H' → D.nx σ' H')
    (h1 : ∀ D', Jn D P D' → c → t D' σ H) (h2 : ∀ D', Jn D P D' → ¬ c → u D' σ H) : if c then t D σ H else u D σ H := by
  by_cases h : c
  · rw [if_pos h]
    exact h1 _ ⟨hr, fun _ _ h => h, fun _ _ h => h, fun _ _ h => h⟩ h
  · rw [if_neg h]
    exact h2 _ ⟨hr, fun _ _ h => h, fun _ _ h => h, fun _ _ h => h⟩ h
/-- a statement, then the rest: P stands between -/
theorem cut {t u : TS} {D : Ends} {σ : L2.St} {H : Hp} (P : L2.St → Hp → Prop) (h1 : ∀ D', Jn D P D' → t D' σ H) (h2 : ∀ σ' H', P σ' H' → u D σ' H') : tSeq t u D σ H :=
  h1 { D with nx := u D } ⟨h2, fun _ _ h => h, fun _ _ h => h, fun _ _ h => h⟩
theorem ifD {p A B : Prop} [Decidable p] (h1 : p → A) (h2 : ¬ p → B) : if decide p = true then A else B := by
  by_cases h : p
  · rw [if_pos (decide_eq_true h)]
    exact h1 h
  · rw [if_neg (by rw [decide_eq_false h]; exact Bool.false_ne_true)]
    exact h2 h
theorem ifN {p A B : Prop} [Decidable p] (h1 : ¬ p → A) (h2 : p → B) : if (!decide p) = true then A else B := by
  by_cases h : p
  · rw [decide_eq_true h]
    exact iteF (h2 h)
  · rw [decide_eq_false h]
    exact iteT (h1 h)
theorem ifE {a b : Int} {A B : Prop} (h1 : a = b → A) (h2 : a ≠ b → B) : if decide (V.int a = V.int b) = true then A else B :=
  ifD (fun e => h1 (V.int.inj e)) (fun e => h2 fun z => e (congrArg V.int z))
theorem ifNE {a b : Int} {A B : Prop} (h1 : a ≠ b → A) (h2 : a = b → B) : if (!decide (V.int a = V.int b)) = true then A else B :=
  ifN (fun e => h1 fun z => e (congrArg V.int z)) (fun e => h2 (V.int.inj e))
/-- what is shown once and used on several ways -/
theorem keep {Y G : Prop} (hY : Y) (h : Y → G) : G := h hY
/-- a and b: where a is false, and where b is false, the same comes -/
theorem ifAnd {p A X Y : Prop} [Decidable p] (hY : Y) (h : p → Y → A) : if decide p = true then A else (if false = true then X else Y) :=
  ifD (fun hp => h hp hY) (fun _ => iteF hY)
/-- a < b < c as a test: where the first is false, and where the second is -/
theorem ifChain {p A B X : Prop} [Decidable p] (hB : B) (h : p → B → X) : if decide p = true then X else (∃ k, V.bl false = V.bl k ∧ if k = true then A else B) :=
  ifD (fun hp => h hp hB) (fun _ => ⟨false, rfl, iteF hB⟩)
theorem ifOr {p A X Y : Prop} [Decidable p] (hX : X) (h : ¬ p → X → A) : if decide p = true then (if true = true then X else Y) else A :=
  ifD (fun _ => iteT hX) (fun hp => h hp hX)
theorem ifY {c A B : Prop} [Decidable c] (hc : c) (h : A) : if c then A else B := by
  rw [if_pos hc]
  exact h
theorem ifZ {c A B : Prop} [Decidable c] (hc : ¬ c) (h : B) : if c then A else B := by
  rw [if_neg hc]
  exact h
/-- the ends of a loop's body, by what they are known to take -/
structure Bd (D : Ends) (N : L2.St → Hp → Prop) (D' : Ends) : Prop where
  nx : ∀ σ' H', N σ' H' → D'.nx σ' H'
  ct : ∀ σ' H', N σ' H' → D'.ct σ' H'
  bk : ∀ σ' H', D.nx σ' H' → D'.bk σ' H'
  rt : ∀ v H', D.rt v H' → D'.rt v H'
/-- a while's turn: the body for any ends -/
theorem wb {tb : TS} {D : Ends} {m : Nat} {σ : L2.St} {H1 : Hp} {W : Nat → L2.St → Hp → Prop} (h : ∀ D', Bd D (fun σ' H' => ∃ m', m' < m ∧ W m' σ' H') D' → tb D' σ H1) :
    ∃ N : L2.St → Hp → Prop, (∀ σ' H', N σ' H' → ∃ m', m' < m ∧ W m' σ' H') ∧ tb { D with nx := N, ct := N, bk := D.nx } σ H1 :=
  ⟨_, fun _ _ h => h, h _ ⟨fun _ _ h => h, fun _ _ h => h, fun _ _ h => h, fun _ _ h => h⟩⟩
theorem flL {K : PySem.W.Frag} {a : Addr} {xs : List V} {g : TG} {tb : TS} {D : Ends} {σ : L2.St} {H : Hp} (Pv : Nat → L2.St → Hp → Prop) (h0 : Pv 0 σ H) (hl : ∀ i σ H, i ≤ xs.length → Pv i σ H → SqL K H a xs)
    (hs : ∀ i x σ H, xs[i]? = some x → Pv i σ H → ∀ D', Bd D (Pv (i + 1)) D' → g x σ H fun σ2 H2 => tb D' σ2 H2) (hd : ∀ σ H, Pv xs.length σ H → D.nx σ H) :
    ∃ W : Nat → Nat → L2.St → Hp → Prop, (∃ m, W 0 m σ H) ∧ ∀ i m σ H, W i m σ H →
      ((Itl K a).stop i H ∧ D.nx σ H) ∨ ((Itl K a).go i H ∧ ∃ N : L2.St → Hp → Prop, (∀ σ' H', N σ' H' → ∃ m', m' < m ∧ W (i + 1) m' σ' H') ∧ ∀ x H', (Itl K a).yld i H x H' → g x σ H' fun σ2 H2 => tb { D with nx := N, ct := N, bk := D.nx } σ2 H2) :=
  for_list Pv h0 hl (fun i x σ H hx p => hs i x σ H hx p _ ⟨fun _ _ h => h, fun _ _ h => h, fun _ _ h => h, fun _ _ h => h⟩) hd
theorem flT {K : PySem.W.Frag} {a : Addr} {xs : List V} {g : TG} {tb : TS} {D : Ends} {σ : L2.St} {H : Hp} (Pv : Nat → L2.St → Hp → Prop) (h0 : Pv 0 σ H) (hl : ∀ i σ H, i ≤ xs.length → Pv i σ H → SqT K H a xs)
    (hs : ∀ i x σ H, xs[i]? = some x → Pv i σ H → ∀ D', Bd D (Pv (i + 1)) D' → g x σ H fun σ2 H2 => tb D' σ2 H2) (hd : ∀ σ H, Pv xs.length σ H → D.nx σ H) :
    ∃ W : Nat → Nat → L2.St → Hp → Prop, (∃ m, W 0 m σ H) ∧ ∀ i m σ H, W i m σ H →
      ((Itt K a).stop i H ∧ D.nx σ H) ∨ ((Itt K a).go i H ∧ ∃ N : L2.St → Hp → Prop, (∀ σ' H', N σ' H' → ∃ m', m' < m ∧ W (i + 1) m' σ' H') ∧ ∀ x H', (Itt K a).yld i H x H' → g x σ H' fun σ2 H2 => tb { D with nx := N, ct := N, bk := D.nx } σ2 H2) :=
  for_tup Pv h0 hl (fun i x σ H hx p => hs i x σ H hx p _ ⟨fun _ _ h => h, fun _ _ h => h, fun _ _ h => h, fun _ _ h => h⟩) hd
theorem flR {lo : Int} {n : Nat} {g : TG} {tb : TS} {D : Ends} {σ : L2.St} {H : Hp} (Pv : Nat → L2.St → Hp → Prop) (h0 : Pv 0 σ H)
    (hs : ∀ i σ H, i < n → Pv i σ H → ∀ D', Bd D (Pv (i + 1)) D' → g (.int (lo + i)) σ H fun σ2 H2 => tb D' σ2 H2) (hd : ∀ σ H, Pv n σ H → D.nx σ H) :
    ∃ W : Nat → Nat → L2.St → Hp → Prop, (∃ m, W 0 m σ H) ∧ ∀ i m σ H, W i m σ H →
      ((Itr lo n).stop i H ∧ D.nx σ H) ∨ ((Itr lo n).go i H ∧ ∃ N : L2.St → Hp → Prop, (∀ σ' H', N σ' H' → ∃ m', m' < m ∧ W (i + 1) m' σ' H') ∧ ∀ x H', (Itr lo n).yld i H x H' → g x σ H' fun σ2 H2 => tb { D with nx := N, ct := N, bk := D.nx } σ2 H2) :=
  for_range Pv h0 (fun i σ H hx p => hs i σ H hx p _ ⟨fun _ _ h => h, fun _ _ h => h, fun _ _ h => h, fun _ _ h => h⟩) hd
theorem seqC {i : Nat} {v : V} {u : TS} {D : Ends} {σ : L2.St} {H : Hp} (h : u D (σ.set i (some v)) H) : tSeq (tAsg (tC v) (gName i)) u D σ H := h
theorem asgC {i : Nat} {v : V} {D : Ends} {σ : L2.St} {H : Hp} (h : D.nx (σ.set i (some v)) H) : tAsg (tC v) (gName i) D σ H := h
/-- an expression that the proof never comes to -/
def tNevE : TE := fun _ _ _ => False
theorem pe_never {X : Cx} {e : Expr} : PE X e tNevE := ⟨fun _ _ _ _ _ _ h => h.elim⟩
theorem sm_upd {H : Hp} {p : Addr} {o : HO} (h : H p = none) : Same H (upd H p o) := fun b x e => by
  rw [upd_ne (ne_of_none e h)]
  exact e
theorem upd_at {H : Hp} {p : Addr} {o : HO} (_ : H p = none) : upd H p o p = some o := upd_same
theorem sm_mut {H H' : Hp} {p : Addr} {o : HO} (e : Same H H') (h : H p = none) : Same H (upd H' p o) := fun b x z => by
  rw [upd_ne (ne_of_none z h)]
  exact e b x z
theorem new_step {H G : Hp} {p : Addr} {o : HO} (h : H p = none) (e : upd H p o = G) : Same H G ∧ G p = some o := e ▸ ⟨sm_upd h, upd_same⟩
/-- all but p is as it was -/
def But (p : Addr) (H H' : Hp) : Prop := ∀ b o, b ≠ p → H b = some o → H' b = some o
theorem But.refl {p : Addr} (H : Hp) : But p H H := fun _ _ _ h => h
theorem But.trans {p : Addr} {H H1 H2 : Hp} (a : But p H H1) (b : But p H1 H2) : But p H H2 := fun c o h e => b c o h (a c o h e)
theorem But.of {p : Addr} {H H' : Hp} (a : Same H H') : But p H H' := fun b o _ e => a b o e
theorem But.upd {p : Addr} {H H' : Hp} {o : HO} (a : But p H H') : But p H (upd H' p o) := fun b x h e => by
  rw [upd_ne h]
  exact a b x h e
theorem But.new {p q : Addr} {H H' : Hp} {o : HO} (a : But p H H') (h : H' q = none) : But p H (L2.upd H' q o) := a.trans (But.of (sm_upd h))
theorem But.same {p : Addr} {H0 H H' : Hp} (e : Same H0 H) (n : H0 p = none) (a : But p H H') : Same H0 H' := fun b o h => a b o (ne_of_none h n) (e b o h)
/-- a new object, its heap by what is known of it -/
theorem new_by {H : Hp} {o : HO} {Q : Addr → Hp → Prop} (h : ∀ p H', H p = none → Same H H' → H' p = some o → (∀ b, b ≠ p → H' b = H b) → Q p H') : ∀ p, H p = none → Q p (upd H p o) := fun p hp =>
  h p _ hp (sm_upd hp) upd_same fun _ hb => upd_ne hb
theorem Same.tup {K : PySem.W.Frag} {H H' : Hp} {a : Addr} {xs : List V} (e : Same H H') (h : SqT K H a xs) : SqT K H' a xs := by
  rcases h with (h | ⟨o, h⟩) | h
  · exact .inl (.inl (e _ _ h))
  · exact .inl (.inr ⟨o, e _ _ h⟩)
  · exact .inr h
theorem len_le {n : Nat} (h : n ≤ 16000000) : n ≤ sizeLine := Nat.le_trans h (by decide)
theorem len_lt {n : Nat} (h : n < 16000000) : n < sizeLine := Nat.lt_of_lt_of_le h (by decide)
/-- ints that are counted from 0 on -/
def nv (ps : List Nat) : List V := ps.map fun q => .int (q : Nat)
theorem nv_app (ps : List Nat) (q : Nat) : nv (ps ++ [q]) = nv ps ++ [.int (q : Nat)] := by simp [nv]
theorem nv_len (ps : List Nat) : (nv ps).length = ps.length := by simp [nv]
theorem nv_get {ps : List Nat} {i : Nat} {v : V} (h : (nv ps)[i]? = some v) : ∃ q, ps[i]? = some q ∧ v = .int (q : Nat) := by
  unfold nv at h
  rw [List.getElem?_map] at h
  cases e : ps[i]? with
  | none => rw [e] at h; cases h
  | some q => rw [e] at h; exact ⟨q, rfl, (Option.some.inj h).symm⟩
theorem atI_neg1 {xs : List V} {v : V} (h : xs[xs.length - 1]? = some v) : atI xs (-1) = some v := by
  have hne : xs ≠ [] := by
    rintro rfl
    cases h
  have e : xs = xs.dropLast ++ [xs.getLast hne] := (List.dropLast_concat_getLast hne).symm
  have e2 : xs.getLast hne = v := by
    rw [List.getLast_eq_getElem]
    have := List.getElem?_eq_some_iff.mp h
    exact this.2
  rw [e, e2]
  exact atI_last _ _
/-! ### the readings of some calls, by names -/
def rLen (K : PySem.W.Frag) : List V → Hp → VK → Prop := fun xs H Q => ∃ p ys, xs = [.ref p] ∧ (SqL K H p ys ∨ SqT K H p ys) ∧ Q (.int ys.length) H
def rTupOf (K : PySem.W.Frag) : List V → Hp → VK → Prop := fun xs H Q => ∃ p ys, xs = [.ref p] ∧ ((SqL K H p ys ∧ ∀ l, H l = none → Q (.ref l) (upd H l (.tup ys))) ∨ (SqT K H p ys ∧ Q (.ref p) H))
def rLstOf (K : PySem.W.Frag) : List V → Hp → VK → Prop := fun xs H Q => ∃ p ys, xs = [.ref p] ∧ (SqL K H p ys ∨ SqT K H p ys) ∧ ∀ l, H l = none → Q (.ref l) (upd H l (.lst ys))
/-! ### isinstance -/
theorem isi_int {K : PySem.W.Frag} {H : Hp} {i : Int} {n : String} {b : Bool} {Q : VK} (h : kitB "int" n = some b) (q : Q (.bl b) H) : rIsi K [.int i, .ty n] H Q := ⟨_, _, _, _, b, rfl, .ty n, .base (.int i), kit_ty h, q⟩
theorem isi_bl {K : PySem.W.Frag} {H : Hp} {i : Bool} {n : String} {b : Bool} {Q : VK} (h : kitB "bool" n = some b) (q : Q (.bl b) H) : rIsi K [.bl i, .ty n] H Q := ⟨_, _, _, _, b, rfl, .ty n, .base (.bl i), kit_ty h, q⟩
theorem isi_tup {K : PySem.W.Frag} {H : Hp} {a : Addr} {xs : List V} {n : String} {b : Bool} {Q : VK} (e : SqT K H a xs) (h : kitB "tuple" n = some b) (q : Q (.bl b) H) : rIsi K [.ref a, .ty n] H Q := by
  rcases e with (e | ⟨o, e⟩) | ⟨o, its, m, e, c, _⟩
  · exact ⟨_, _, _, _, b, rfl, .ty n, .base (.tup e), kit_ty h, q⟩
  · exact ⟨_, _, _, _, b, rfl, .ty n, .fTuple e, kit_ty h, q⟩
  · exact ⟨_, _, _, _, b, rfl, .ty n, .kTuple e c, kit_ty h, q⟩
theorem isi_lst {K : PySem.W.Frag} {H : Hp} {a : Addr} {xs : List V} {n : String} {b : Bool} {Q : VK} (e : H a = some (.lst xs)) (h : kitB "list" n = some b) (q : Q (.bl b) H) : rIsi K [.ref a, .ty n] H Q := ⟨_, _, _, _, b, rfl, .ty n, .base (.lst e), kit_ty h, q⟩
theorem tyT {K : PySem.W.Frag} {H : Hp} {a : Addr} {xs : List V} (e : SqT K H a xs) : TyX K H (.ref a) (.type "tuple") := by
  rcases e with (e | ⟨o, e⟩) | ⟨o, its, m, e, c, _⟩
  · exact .base (.tup e)
  · exact .fTuple e
  · exact .kTuple e c
theorem tyI {K : PySem.W.Frag} {H : Hp} (i : Int) : TyX K H (.int i) (.type "int") := .base (.int i)
theorem k_ii : kitB "int" "int" = some true := by decide +kernel
theorem k_ib : kitB "int" "bool" = some false := by decide +kernel
theorem k_it : kitB "int" "tuple" = some false := by decide +kernel
theorem k_tt : kitB "tuple" "tuple" = some true := by decide +kernel
theorem k_ti : kitB "tuple" "int" = some false := by decide +kernel
theorem k_tb : kitB "tuple" "bool" = some false := by decide +kernel
/-! ### a dict of three text keys -/
def tri (k1 k2 k3 : Str) (a b c : V) : List (Key × V) := [(.inr k1, a), (.inr k2, b), (.inr k3, c)]
structure Dif (k1 k2 k3 : Str) : Prop where
  n12 : k1 ≠ k2
  n13 : k1 ≠ k3
  n23 : k2 ≠ k3
section
variable {k1 k2 k3 : Str} {a b c v : V} {H : Hp} {p : Addr}
theorem inr_ne {x y : Str} (h : x ≠ y) : ¬ (Sum.inr x : Key) = Sum.inr y := fun e => h (Sum.inr.inj e)
theorem tri_get1 (h : H p = some (.dK (tri k1 k2 k3 a b c))) : DGet H p (.str k1) (some a) := by
  have := DGet.k (k := (.inr k1 : Key)) h
  unfold tri at this
  rw [valV_pos rfl] at this
  exact this
theorem tri_get2 (d : Dif k1 k2 k3) (h : H p = some (.dK (tri k1 k2 k3 a b c))) : DGet H p (.str k2) (some b) := by
  have := DGet.k (k := (.inr k2 : Key)) h
  unfold tri at this
  rw [valV_neg (inr_ne d.n12), valV_pos rfl] at this
  exact this
theorem tri_get3 (d : Dif k1 k2 k3) (h : H p = some (.dK (tri k1 k2 k3 a b c))) : DGet H p (.str k3) (some c) := by
  have := DGet.k (k := (.inr k3 : Key)) h
  unfold tri at this
  rw [valV_neg (inr_ne d.n13), valV_neg (inr_ne d.n23), valV_pos rfl] at this
  exact this
theorem tri_put2 (d : Dif k1 k2 k3) (h : H p = some (.dK (tri k1 k2 k3 a b c))) : DPut H p (.str k2) v (upd H p (.dK (tri k1 k2 k3 a v c))) := by
  have := DPut.k (k := (.inr k2 : Key)) (v := v) h (by show 3 < sizeLine; decide)
  have e : putK (tri k1 k2 k3 a b c) (.inr k2) v = tri k1 k2 k3 a v c := by
    simp [putK, tri, d.n12, d.n23, Ne.symm d.n23]
  rw [e] at this
  exact this
theorem tri_put3 (d : Dif k1 k2 k3) (h : H p = some (.dK (tri k1 k2 k3 a b c))) : DPut H p (.str k3) v (upd H p (.dK (tri k1 k2 k3 a b v))) := by
  have := DPut.k (k := (.inr k3 : Key)) (v := v) h (by show 3 < sizeLine; decide)
  have e : putK (tri k1 k2 k3 a b c) (.inr k3) v = tri k1 k2 k3 a b v := by
    simp [putK, tri, d.n13, d.n23]
  rw [e] at this
  exact this
theorem tri_disp (d : Dif k1 k2 k3) : mergeK [] (tri k1 k2 k3 a b c) = tri k1 k2 k3 a b c := by
  simp [mergeK, putK, tri, d.n12, d.n13, d.n23]
end
/-! ### data -/
theorem dp_ints {K : PySem.W.Frag} {H : Hp} : ∀ ns : List Int, DpAll K H (ns.map V.int) (ns.map PyData.int)
  | [] => .nil
  | n :: r => .cons (.int n) (dp_ints r)
theorem lay_ints : ∀ ns : List Int, PyData.canLayAll0 (ns.map PyData.int) = true
  | [] => rfl
  | n :: r => by
    show (PyData.canLay0 (.int n) && PyData.canLayAll0 (r.map PyData.int)) = true
    rw [lay_ints r]
    rfl
theorem dep_ints : ∀ ns : List Int, PyData.depthAll (ns.map PyData.int) = 0
  | [] => rfl
  | n :: r => by
    show max (PyData.depth (.int n)) (PyData.depthAll (r.map PyData.int)) = 0
    rw [dep_ints r]
    rfl
theorem shaped_ints (ns : List Int) : SeqAt.shaped (.list (ns.map PyData.int)) = true := by
  show (PyData.canLayAll0 (ns.map PyData.int) && decide (PyData.depthAll (ns.map PyData.int) + 1 ≤ 64)) = true
  rw [lay_ints, dep_ints]
  rfl
theorem shaped_intsT (ns : List Int) : SeqAt.shaped (.tuple (ns.map PyData.int)) = true := shaped_ints ns
theorem eqv_nil (ds : List PyData) : PyData.eqv (.list ds) (.list []) = ds.isEmpty := by
  cases ds <;> rfl
/-! ### defs with one default -/
section
variable {P : Program} {w : World} {K : PySem.W.Frag} {mg : Str → Option Value} {base : Heap}
theorem funD_ok0 {x qual : Str} {st : Stmt} {dvs : List V} {kws : List (Str × V)} {f : Addr} {fd : FuncData} {N ps : List Str} {k : Nat} {sp : Sp} (F : FunD K x qual (defArgs st) (defBody st) (defScope st) dvs kws f fd)
    (S : FnScope N ps (defScope st)) (len : ∀ vs H Q E, sp vs H Q E → vs.length = ps.length)
    (hb : ∀ (cdv : Value) (A : Around) (outer : List Env) (s : Shared) (H : Hp) (vs : List V) (Q : VK) (E : XK), Room k (A.deeper (envOfC qual (defScope st) s.heap.objs.size f cdv)) → sp vs H Q E →
      ∃ t, PSs (cxOf CX0 P w K mg base N qual (defScope st) f cdv A outer s H E).nox (defBody st) t ∧ t { nx := fun _ H' => Q .non H', rt := Q } (start N vs) H) : FnOk P w K mg base CX0 (k + 1) f fd ps sp :=
  F.ok S len fun cdv A outer s H vs Q E hr h => by
    obtain ⟨t, h1, h2⟩ := hb cdv A outer s H vs Q E hr h
    exact ⟨t, h1.nox, h2⟩
theorem funD_mk {x qual : Str} {st : Stmt} {dv : V} {u : Value} {f T : Addr} {oc : Value} {od an : Option Addr} {osl : Array (Option Value)} {kV doc pm cdv ct : Value} {oT : Obj} {n : Nat}
    (l : K.lookup f = some ⟨oc, od, .func (PySem.W.fnOf x qual (defArgs st) (defBody st) (defScope st) (.ref T) kV doc pm an cdv ct), osl⟩) (c : PySem.W.codeIn K cdv qual = true) (k : PySem.W.keepIn K (.ref f) = true)
    (lT : K.lookup T = some oT) (hT : oT.data = .seq #[u] n) (r : RelV dv u) :
    FunD K x qual (defArgs st) (defBody st) (defScope st) [dv] [] f (PySem.W.fnOf x qual (defArgs st) (defBody st) (defScope st) (.ref T) kV doc pm an cdv ct) :=
  ⟨⟨oc, od, _, kV, doc, pm, an, cdv, ct, osl, rfl, l, c, .inr ⟨by simp, T, oT, [u], n, rfl, lT, hT, .cons r .nil⟩, .inl rfl⟩, k⟩
theorem binds_nil {fd : FuncData} {ps : List Str} (h : ∃ ds, Vals [] ds ∧ Binds K fd ps ds) : Binds K fd ps [] := by
  obtain ⟨ds, h1, h2⟩ := h
  cases h1
  exact h2
end
/-! ### f(k = v, ..): keywords alone -/
section
variable {X : Cx} {CX : CXT} {k : Nat} {f : Addr} {fd : FuncData} {ps ks : List Str} {sp : Sp} {E : XK} {x : Str} {p pos : Pos} {kws : List Keyword} {tk : TA} {g : List Value → List Value → List Value} {gV : List V → List V → List V}
theorem pe_callN0 (F : FnOk X.prog X.w X.K X.mg X.base CX k f fd ps sp) (hr : Room k X.A) (hg : Gl X x) (hm : X.mg x = some (.ref f)) (hk : PySem.W.keepIn X.K (.ref f) = true) (hb : KBn X.K fd ps 0 ks g gV) (hx : Passes CX X E) (hkw : PK X kws tk)
    (hall : (backToKw pos (keywordEach kws X.env)).all (·.1.isSome) = true := by rfl) (hks : (backToKw pos (keywordEach kws X.env)).filterMap (·.1) = ks := by rfl) (hdb : (x == ("__debug__" : Str)) = false := by decide)
    (hpl : ((backTo pos (starEach [] X.env)).any (·.1) || (backToKw pos (keywordEach kws X.env)).any (·.1.isNone)) = false := by rfl) :
    PE X (.Call (.Name x p) [] kws pos) (tCallN 0 ks.length sp gV E tNil tk) := by
  refine ⟨fun pins s σ H Q I h => ?_⟩
  refine wpAny_Call_Name_kw (ld_glob I hg hm ?_ hdb)
  refine PySem.W.callWith_KW0 (h₀ := X.base) I.ok.mod.kin hk hall ?_ hpl
  refine thn (hkw.run pos pins s σ H _ I h) fun ws s2 ⟨zs, H2, I2, rz, l1, l2, q2⟩ => ⟨I2.kIn, ?_⟩
  rw [hks]
  exact run_fnN (us := []) (vs := []) F hr hb hx I2 .nil rz rfl l2 q2
end
theorem kb_of {K : PySem.W.Frag} {x qual : Str} {st : Stmt} {f : Addr} {fd : FuncData} {ps ks : List Str} {n : Nat} {g : List Value → List Value → List Value} {gV : List V → List V → List V} (F : Fun K x qual st f fd)
    (h : ∀ (kV doc pm : Value) (an : Option Addr) (cdv ct : Value) (us ws : List Value), us.length = n → ws.length = ks.length → bindArgs (PySem.W.fnOf x qual (defArgs st) (defBody st) (defScope st) .none kV doc pm an cdv ct) ⟨us, ks.zip ws⟩ = pure (ps.zip (g us ws)))
    (rel : ∀ {vs : List V} {us : List Value} {zs : List V} {ws : List Value}, Vals vs us → Vals zs ws → Vals (gV vs zs) (g us ws)) : KBn K fd ps n ks g gV := by
  obtain ⟨oc, od, kV, doc, pm, an, cdv, ct, osl, rfl, lk, hcd⟩ := F.ex
  exact ⟨fun s us ws _ h1 h2 => .of_eq (h kV doc pm an cdv ct us ws h1 h2), rel⟩
end HX
set_option Elab.async false
set_option linter.all false
set_option maxRecDepth 100000
/-! defs that ask for a text of nested data (repr): nothing is being shown around them -/
namespace HX
open PySem PySem.Spec PyProof.Rows L2
/-- a def keeps its promise where no repr is under way -/
structure FnG (P : Program) (w : World) (K : PySem.W.Frag) (mg : Str → Option Value) (base : Heap) (k : Nat) (f : Addr) (fd : FuncData) (ps : List Str) (sp : Sp) : Prop where
  ln : ∀ vs H Q E, sp vs H Q E → vs.length = ps.length
  go : ∀ (A : Around) (outer : List Env) (s : Shared) (H : Hp) (args : Args) (us : List Value) (vs : List V) (Q : VK) (E : XK), A.guards = some [] → Room k A → Env0 P w K mg base A outer s H →
    BindsTo s fd args (ps.zip us) → Vals vs us → sp vs H Q E → codeAny (model P w) A (.call (.ref f) args) (CR CX0 outer P w H s Q E) s
theorem FnG.of {P : Program} {w : World} {K : PySem.W.Frag} {mg : Str → Option Value} {base : Heap} {k : Nat} {f : Addr} {fd : FuncData} {ps : List Str} {sp : Sp} (F : FnOk P w K mg base CX0 k f fd ps sp) : FnG P w K mg base k f fd ps sp :=
  ⟨F.len, fun A o s H args us vs Q E _ hr => F.run A o s H args us vs Q E hr⟩
theorem funG {P : Program} {w : World} {K : PySem.W.Frag} {mg : Str → Option Value} {base : Heap} {x qual : Str} {st : Stmt} {f : Addr} {fd : FuncData} {N ps : List Str} {k : Nat} {sp : Sp} (F : Fun K x qual st f fd) (S : FnScope N ps (defScope st))
    (ln : ∀ vs H Q E, sp vs H Q E → vs.length = ps.length)
    (hb : ∀ (cdv : Value) (A : Around) (outer : List Env) (s : Shared) (H : Hp) (vs : List V) (Q : VK) (E : XK), A.guards = some [] → Room k (A.deeper (envOfC qual (defScope st) s.heap.objs.size f cdv)) → sp vs H Q E →
      ∃ t, PSs (cxOf CX0 P w K mg base N qual (defScope st) f cdv A outer s H E).nox (defBody st) t ∧ t { nx := fun _ H' => Q .non H', rt := Q } (start N vs) H) : FnG P w K mg base (k + 1) f fd ps sp := by
  obtain ⟨oc, od, kV, doc, pm, an, cdv, ct, osl, rfl, lk, hcd⟩ := F.ex
  refine ⟨ln, fun A outer s H args us vs Q E hg hr e0 hbd r hsp => ?_⟩
  have hle := ln _ _ _ _ hsp
  have KX : K.In s.heap := e0.mod.kin.keeps (fun b o z => (e0.bs b o z).1)
  have nl : s.heap.NoLimit := e0.mod.nolimit.keeps (fun b o z => (e0.bs b o z).1)
  have hkd : ∀ y ∈ ps.zip us, (defScope st).names.lookup y.1 = some .local ∨ ((defScope st).names.lookup y.1 = some .cell ∧ ((cellsFrom (s.heap.objs.size + 1) (defScope st).names []).lookup y.1).isSome = true) := by
    rintro ⟨n, v⟩ hy
    exact (S.par n (List.of_mem_zip hy).1).elim (fun q => .inl q) (fun q => .inr ⟨q, PySem.W.cellsFrom_some _ _ _ (.inl q)⟩)
  refine codeAny_call_function hr.depth (KX _ _ lk) rfl S.co S.gen rfl (PySem.W.codeRec_of KX hcd) (hbd _ _ _ _ (wpAny_newFunctionEnv_cells S.kind hkd fun env he s1 x => ?_))
  subst he
  refine ⟨nl.keeps x.toInCall.keep, codeAny_func ?_⟩
  obtain ⟨t, ht, hq⟩ := hb cdv A outer s H vs Q E hg (hr.deeper _) hsp
  have I0 : Inv (cxOf CX0 P w K mg base N qual (defScope st) f cdv A outer s H E) [] (start N vs) H s1 := inv_start S hr.hd e0 hle r x
  refine wpAny_mono (ht.nox.run [] s1 (start N vs) H _ I0 hq) (fun fl s' hs => ?_) (fun _ _ z => z)
  match fl, hs with
  | .ret u, ⟨v, σ', H', J, rv, q⟩ => exact ⟨v, H', J.os, J.bare, J.base, J.hok, rv, q⟩
  | .next, ⟨σ', H', J, q⟩ => exact ⟨V.non, H', J.os, J.bare, J.base, J.hok, rfl, q⟩
  | .brk, ⟨_, _, _, q⟩ => exact False.elim q
  | .cont, ⟨_, _, _, q⟩ => exact False.elim q
section
variable {X : Cx} {k : Nat} {f : Addr} {fd : FuncData} {ps : List Str} {sp : Sp} {dvs : List V} {ds : List Value} {E : XK} {x : Str} {p pos : Pos} {e : Expr} {es : List Expr} {t : TA}
theorem pe_callG (F : FnG X.prog X.w X.K X.mg X.base k f fd ps sp) (hgd : X.A.guards = some []) (hr : Room k X.A) (hg : Gl X x) (hm : X.mg x = some (.ref f)) (hk : PySem.W.keepIn X.K (.ref f) = true) (hb : Binds X.K fd ps ds) (hd : Vals dvs ds) (hx : Passes CX0 X E)
    (ha : PA X (e :: es) t) (hdb : (x == ("__debug__" : Str)) = false := by decide) (he : starEach (e :: es) X.env = (false, eval e X.env) :: starEach es X.env := by rfl) (hpl : (backTo pos (starEach es X.env)).any (·.1) = false := by rfl) :
    PE X (.Call (.Name x p) (e :: es) [] pos) (tCall sp dvs E t) := by
  constructor
  intro pins s σ H Q I h
  refine wpAny_Call_Name_kw (ld_glob I hg hm (PySem.W.callWith_K (h₀ := X.base) I.ok.mod.kin hk (thn (ha.run pos pins s σ H _ I h) fun us s1 ⟨vs, H1, I1, r, q⟩ => ⟨I1.kIn, ?_⟩) he hpl) hdb)
  have r2 : Vals (vs ++ dvs) (us ++ ds) := r.append hd
  have hl : (us ++ ds).length = ps.length := by rw [← r2.length]; exact F.ln _ _ _ _ q
  refine wpAny_call (codeAny_mono (F.go X.A X.stack s1 H1 ⟨us, []⟩ (us ++ ds) (vs ++ dvs) Q E hgd hr I1.env0 (hb s1 us I1.kIn hl) r2 q) fun fl s' hq => ?_)
  match fl, hq with
  | .error z, hq => exact hx pins σ H1 s1 z s' I1 hq
  | .ok (.ret u), hq => exact I1.after hq
  | .ok .next, hq => exact False.elim hq
  | .ok .brk, hq => exact False.elim hq
  | .ok .cont, hq => exact False.elim hq
end
/-! ### the law's own call -/
theorem law_callG {P : Program} {w : World} {K : PySem.W.Frag} {mg mb : Str → Option Value} {k : Nat} {fa a : Addr} {fd : FuncData} {x : Str} {sp : Sp} {st : Shared} {vs : List Value} {ns : List Int}
    (KX : K.In st.heap) (hns : st.heap.Ns mainGlobals mg) (hb : st.heap.Ns builtinsNs mb) (hbb : ∀ x : Str, x ≠ "__name__" → mb x = bootBuiltins x) (nl : st.heap.NoLimit) (hg : st.gens = #[])
    (ha : st.heap.get? a = some { cls := .type "list", data := .seq vs.toArray }) (hi : IntsAre vs ns) (hl : ns.length ≤ sizeLine) (hr : Room k callerA)
    (F : ∀ base : Heap, K.In base → base.Ns mainGlobals mg → FnG P w K mg base k fa fd [x] sp) (hbd : ∀ (s : Shared) (u : Value), BindsTo s fd ⟨[u], []⟩ [(x, u)])
    (hsp : ∀ H : Hp, Only H → SqL K H a (ns.map V.int) → sp [.ref a] H (fun v _ => v = .bl true) fun _ _ _ => False) :
    codeAny (model P w) callerA (.call (.ref fa) ⟨[.ref a], []⟩) (fun r s' => r = .ok (.ret (.bool true)) ∧ OldK st.heap s'.heap ∧ s'.os = st.os ∧ AllBare s'.gens) st := by
  have rv := vals_ints hi
  have lv := hi.length
  have main : ∀ H : Hp, Only H → SqL K H a (ns.map V.int) → HOk P w H st.heap → (∀ b, H b ≠ none → b = a) → (H a ≠ none → K.lookup a = none) →
      codeAny (model P w) callerA (.call (.ref fa) ⟨[.ref a], []⟩) (fun r s' => r = .ok (.ret (.bool true)) ∧ OldK st.heap s'.heap ∧ s'.os = st.os ∧ AllBare s'.gens) st := by
    intro H hO hS hok hA hK
    have free : ∀ b, (∀ u, H b = some u → b = a → False) → H b = none := fun b z => by
      match q : H b with
      | none => rfl
      | some u => exact (z u q (hA b (by rw [q]; exact Option.some_ne_none u))).elim
    have nsK : ∀ {b : Addr} {m : Str → Option Value}, st.heap.Ns b m → (hidT st.heap H).Ns b m := fun {b m} ⟨o, es, ep, e, d, r⟩ => ⟨o, es, ep, hidT_get e (free b fun u q z => by
      subst z
      rw [ha] at e
      cases e
      exact nomatch (show Data.seq vs.toArray _ = Data.dict es ep from d)), d, r⟩
    have hKb : K.In (hidT st.heap H) := fun b o e => hidT_get (KX b o e) (free b fun u q z => by
      subst z
      rw [hK (by rw [q]; exact Option.some_ne_none u)] at e
      cases e)
    obtain ⟨mc, c1, c2⟩ := nl
    have e0 : Env0 P w K mg (hidT st.heap H) callerA [] st H := ⟨rfl, ⟨hKb, nsK hns, ⟨mb, nsK hb, hbb⟩, ⟨mc, nsK c1, c2⟩⟩, fun b o e => of_hidT e, Nat.le_of_eq (hidT_size _ _), trivial, (fun b hb => absurd (show b ∈ ([] : List Addr) from hb) List.not_mem_nil), hok, .of_eq hg⟩
    refine codeAny_mono ((F _ hKb (nsK hns)).go callerA [] st H ⟨[.ref a], []⟩ [.ref a] [.ref a] _ _ rfl hr e0 (hbd st (.ref a)) (.cons rfl .nil) (hsp H hO hS)) fun r s' h => ?_
    match r, h with
    | .error e, h => exact (h : False).elim
    | .ok .next, h => exact (h : False).elim
    | .ok .brk, h => exact (h : False).elim
    | .ok .cont, h => exact (h : False).elim
    | .ok (.ret u), ⟨v, H', os, bare, un, hok', r', q⟩ =>
      obtain rfl : v = .bl true := q
      obtain rfl : u = Value.bool true := r'
      refine ⟨rfl, OldK.of_keep fun b o e => ?_, os, bare⟩
      match q : H b with
      | none => exact un.keep b o e q (fun z => absurd (show b ∈ ([] : List Addr) from z) List.not_mem_nil) List.not_mem_nil
      | some u =>
        rcases hO b with z | ⟨ob, ys, z⟩
        · exact nomatch q.symm.trans z
        · have e1 := (hok b _ z).1
          rw [e] at e1
          cases e1
          exact (hok' b _ (un.frzs b _ _ z)).1
  match hk : K.lookup a with
  | some o =>
    have e := KX a o hk
    rw [ha] at e
    cases e
    exact main (fun _ => none) (fun _ => .inl rfl) (.inr ⟨_, vs.toArray, _, hk, rfl, rfl, rfl, by rw [List.size_toArray, lv]; exact hl, by simpa using rv⟩) (fun b u z => nomatch (show (none : Option HO) = some u from z)) (fun b z => absurd rfl z) fun z => absurd rfl z
  | none =>
    refine main (fun b => if b = a then some (.frz { cls := .type "list", data := .seq vs.toArray } (.lst (ns.map V.int))) else none) (fun b => ?_) (.inl (.inr ⟨{ cls := .type "list", data := .seq vs.toArray }, if_pos rfl⟩)) (fun b u z => ?_) (fun b z => ?_) fun _ => hk
    · by_cases hc : b = a
      · exact .inr ⟨_, _, if_pos hc⟩
      · exact .inl (if_neg hc)
    · by_cases hc : b = a
      · cases (if_pos hc).symm.trans z
        subst hc
        exact ⟨ha, by rw [List.length_map]; exact hl, vs, _, rv, ha⟩
      · cases (if_neg hc).symm.trans z
    · by_cases hc : b = a
      · exact hc
      · exact absurd (if_neg hc) z
theorem walk_ofG {l : PySem.W.OpenLaw} {n k : Nat} {q : Program} {loose : List Str} {XP : (Str → Option Value) → Heap → Prop} {YP : World → Heap → Prop} {d : DefRec} {K : Params → PySem.W.Frag} {sp : World → Sp} {x : Str}
    (hn : l.most = some n) (hn2 : n ≤ sizeLine) (hdf : d.params.defaults = []) (hr : Room k callerA) (hY : ∀ (w : World) (h : Heap), YP w h → (K w.params).In h)
    (F : ∀ (w : World) (mg : Str → Option Value) (fa : Addr) (h : Heap), (K w.params).In h → h.Ns mainGlobals mg → mg d.name = some (.ref fa) →
      ∃ fd : FuncData, (∀ (s : Shared) (u : Value), BindsTo s fd ⟨[u], []⟩ [(x, u)]) ∧ ∀ base : Heap, (K w.params).In base → base.Ns mainGlobals mg → FnG l.prog w (K w.params) mg base k fa fd [x] (sp w))
    (hsp : ∀ (w : World) (H : Hp) (a : Addr) (ns : List Int), ns.length ≤ n → Only H → SqL (K w.params) H a (ns.map V.int) → sp w [.ref a] H (fun v _ => v = .bl true) fun _ _ _ => False) :
    PySem.W.WalkO q loose XP YP l.row.toRowW d [] (fun f vs => PySem.call f vs) :=
  Att.attach_call hn hdf fun w s0 s1 mg mb fa o pm cd doc a vs ns G Y ho hd hcd hmg hobj hints hlen hg => by
    obtain ⟨fd, hb, hF⟩ := F w mg fa _ (hY w _ Y) G.T.g hmg
    exact law_callG (hY w _ Y) G.T.g G.T.b G.T.builtins G.T.nolimit hg hobj hints (Nat.le_trans hlen hn2) hr hF hb fun H hO hS => hsp w H a ns hlen hO hS
/-! ### repr of data -/
def rRepr (K : PySem.W.Frag) : List V → Hp → VK → Prop := fun xs H Q => ∃ v d, xs = [v] ∧ Dp K H v d ∧ d.showable = true ∧ d.hasDict = false ∧ d.depth ≤ 60 ∧ d.shown.length ≤ sizeLine ∧ Q (.str d.shown) H
theorem call_repr_data {X : Cx} (hgd : X.A.guards = some []) (hu : X.A.units + 64 < cLine) : CallR X (.builtin "repr") (rRepr X.K) := by
  intro pins s σ H xs us Q I r h
  obtain ⟨v, d, rfl, hd, hs, hn, hdp, hz, q⟩ := h
  obtain ⟨u, rfl, rv⟩ := vals1 r
  obtain ⟨as, rd⟩ := Dp.reads I d v u hd rv
  have ref : ∀ {a : Addr}, u = .ref a → wpAny (model X.prog X.w) X.A (call (.builtin "repr") [u]) (EP X pins σ Q) X.xe s := by
    rintro a rfl
    exact repr_of_reads' rd hs (fun z => absurd (hn.symm.trans z) Bool.false_ne_true) hgd (by omega) (fun _ _ e => e) (fun h' u tk hk => ⟨.str _, H, I.kept hk, ⟨_, rfl⟩, q⟩) hz
  cases rd with
  | none => exact PySem.P.repr_of_none ⟨.str _, H, I.tok _, ⟨_, rfl⟩, q⟩
  | bool b => exact PySem.P.repr_of_bool ⟨.str _, H, I.tok _, ⟨_, rfl⟩, q⟩
  | int i t => exact PySem.P.repr_of_int (by simpa [PyData.showable] using hs) ⟨.str _, H, I.tok _, ⟨_, rfl⟩, q⟩
  | str x t => exact PySem.P.repr_of_str ⟨.str _, H, I.tok _, ⟨_, rfl⟩, q⟩ hz
  | list h1 h2 h3 h4 => exact ref rfl
  | tuple h1 h2 h3 h4 => exact ref rfl
  | dict h1 h2 h3 h4 h5 => exact ref rfl
/-! ### data that can be shown: how long the text is, how deep -/
structure Rp (d : PyData) (n k : Nat) : Prop where
  sh : d.showable = true
  nd : d.hasDict = false
  dp : d.depth ≤ k
  ln : d.shown.length ≤ n
structure RpAll (ds : List PyData) (n k : Nat) : Prop where
  sh : PyData.showableAll ds = true
  nd : PyData.hasDictAll ds = false
  dp : PyData.depthAll ds ≤ k
  ln : piled (PyData.shownAll ds) ≤ n
theorem Rp.mono {d : PyData} {n k n' k' : Nat} (h : Rp d n k) (a : n ≤ n') (b : k ≤ k') : Rp d n' k' := ⟨h.sh, h.nd, Nat.le_trans h.dp b, Nat.le_trans h.ln a⟩
theorem RpAll.mono {d : List PyData} {n k n' k' : Nat} (h : RpAll d n k) (a : n ≤ n') (b : k ≤ k') : RpAll d n' k' := ⟨h.sh, h.nd, Nat.le_trans h.dp b, Nat.le_trans h.ln a⟩
theorem RpAll.nil : RpAll [] 0 0 := ⟨by simp [PyData.showableAll], by simp [PyData.hasDictAll], by simp [PyData.depthAll], by simp [PyData.shownAll, piled]⟩
theorem RpAll.cons {d : PyData} {ds : List PyData} {n m k : Nat} (h : Rp d n k) (hs : RpAll ds m k) : RpAll (d :: ds) (n + 2 + m) k := by
  refine ⟨by simp [PyData.showableAll, h.sh, hs.sh], by simp [PyData.hasDictAll, h.nd, hs.nd], ?_, ?_⟩
  · simp only [PyData.depthAll]
    have := h.dp
    have := hs.dp
    omega
  · simp only [PyData.shownAll, piled_cons]
    have := h.ln
    have := hs.ln
    omega
theorem Rp.tup {ds : List PyData} {n k : Nat} (h : RpAll ds n k) : Rp (.tuple ds) (n + 3) (k + 1) := by
  refine ⟨by simp [PyData.showable, h.sh], by simp [PyData.hasDict, h.nd], by simp only [PyData.depth]; have := h.dp; omega, ?_⟩
  simp only [PyData.shown]
  have hl := h.ln
  generalize PyData.shownAll ds = ts at *
  have hj : (Str.join ", " ts).length ≤ piled ts := by
    by_cases e : ts = []
    · subst e
      decide
    · have := join_length_add ts e
      omega
  unfold tupleText
  rw [strLen_append, strLen_append]
  have h1 : (("(" : Str)).length = 1 := by decide +kernel
  have h2 : ∀ b : Bool, ((if b = true then ",)" else ")" : String) : Str).length ≤ 2 := by decide +kernel
  have := h2 (ts.length == 1)
  omega
theorem Rp.lst {ds : List PyData} {n k : Nat} (h : RpAll ds n k) : Rp (.list ds) (n + 3) (k + 1) := by
  refine ⟨by simp [PyData.showable, h.sh], by simp [PyData.hasDict, h.nd], by simp only [PyData.depth]; have := h.dp; omega, ?_⟩
  simp only [PyData.shown]
  have hl := h.ln
  generalize PyData.shownAll ds = ts at *
  cases ts with
  | nil =>
    rw [listText_nil]
    have : (("[]" : Str)).length = 2 := by decide +kernel
    omega
  | cons t r =>
    have h1 := textFrom_length_pos r 1 (("[" : Str) ++ (if (0 : Nat) > 0 then ", " else "" : String) ++ t) (Nat.succ_pos 0)
    have h2 : (("[" : Str) ++ (if (0 : Nat) > 0 then ", " else "" : String) ++ t).length = 1 + t.length := by
      rw [strLen_append, strLen_append]
      rfl
    have h3 : (listText (t :: r)).length = (textFrom 1 (("[" : Str) ++ (if (0 : Nat) > 0 then ", " else "" : String) ++ t) r).length + 1 := by
      show (textFrom 0 "[" (t :: r) ++ "]").length = _
      rw [strLen_append]
      rfl
    rw [piled_cons] at hl
    omega
theorem Rp.bool (b : Bool) : Rp (.bool b) 5 0 := ⟨by simp [PyData.showable], by simp [PyData.hasDict], by simp [PyData.depth], by cases b <;> decide +kernel⟩
theorem Rp.int {i : Int} (h : i.natAbs < 10 ^ 20) : Rp (.int i) 21 0 := by
  have hz := int_text_length_le10 (k := 20) (by decide) h
  refine ⟨?_, by simp [PyData.hasDict], by simp [PyData.depth], ?_⟩
  · simp only [PyData.showable, decide_eq_true_eq]
    by_cases e : i.natAbs = 0
    · rw [e]
      decide
    · rw [Nat.log2_lt e]
      exact Nat.lt_of_lt_of_le h (Nat.le_trans (by decide : 10 ^ 20 ≤ 2 ^ 70) (Nat.pow_le_pow_right (by decide) (by decide)))
  · simp only [PyData.shown]
    rw [PySem.ofString_length]
    exact hz
theorem Rp.str {x : Str} {n : Nat} (h : (reprText x).length ≤ n) : Rp (.str x) n 0 := ⟨by simp [PyData.showable], by simp [PyData.hasDict], by simp [PyData.depth], by simpa [PyData.shown] using h⟩
/-! ### tuples cut and joined: one way on -/
def rSlB (K : PySem.W.Frag) : V → Option Int → Option Int → Hp → VK → Prop := fun x lo hi H Q => ∃ a xs, x = .ref a ∧ SqT K H a xs ∧ ∀ l H', Same H H' → SqT K H' l (cutV xs lo hi) → Q (.ref l) H'
def rCatB (K : PySem.W.Frag) : R2 := fun x y H Q => ∃ a b xs ys, x = .ref a ∧ y = .ref b ∧ SqT K H a xs ∧ SqT K H b ys ∧ xs.length + ys.length ≤ sizeLine ∧ ∀ l H', Same H H' → SqT K H' l (xs ++ ys) → Q (.ref l) H'
theorem sl_tupB {X : Cx} : SlR X (rSlB X.K) := by
  intro pins s σ H x v vl vu lo hi sl Q I rx hs pl pu h
  obtain ⟨a, xs, rfl, hx, q⟩ := h
  refine sl_tupA pins s σ H _ v vl vu lo hi sl Q I rx hs pl pu ⟨a, xs, rfl, hx, fun hc => q a H (Same.refl _) ?_, fun _ p np => q p _ (sm_upd np) (.inl (.inl upd_same))⟩
  have e : cutV xs lo hi = xs := by
    unfold cutV
    rw [hc.1, hc.2, List.drop_zero, Nat.sub_zero, List.take_length]
  rw [e]
  exact hx
theorem op_catB {X : Cx} : OpR X (binaryOp .Add) (rCatB X.K) := by
  intro pins s σ H x y v u Q I rx ry h
  obtain ⟨a, b, xs, ys, rfl, rfl, ha, hb, hz, q⟩ := h
  refine op_catA pins s σ H _ _ v u Q I rx ry ⟨a, b, xs, ys, rfl, rfl, ha, hb, hz, fun e => q b H (Same.refl _) ?_, fun _ e => q a H (Same.refl _) ?_, fun _ _ p np => q p _ (sm_upd np) (.inl (.inl upd_same))⟩
  · rw [e]
    exact hb
  · rw [e, List.append_nil]
    exact ha
theorem cut_to {xs : List V} {m : Nat} : cutV xs none (some (m : Int)) = xs.take m := by
  unfold cutV
  rw [HT.sIx_nat xs.length xs.length m, HT.sIx_none]
  show List.take (min m xs.length - 0) xs = _
  rw [Nat.sub_zero, List.take_eq_take_iff]
  omega
theorem cut_from {xs : List V} {m : Nat} : cutV xs (some (m : Int)) none = xs.drop m := by
  unfold cutV
  rw [HT.sIx_nat xs.length 0 m, HT.sIx_none]
  by_cases h : m ≤ xs.length
  · rw [Nat.min_eq_left h, List.take_of_length_le (by rw [List.length_drop]; exact Nat.le_refl _)]
  · rw [Nat.min_eq_right (by omega), List.drop_of_length_le (Nat.le_refl _), List.drop_of_length_le (by omega)]
    simp
end HX
set_option Elab.async false
set_option linter.all false
set_option maxRecDepth 100000
/-! the package's error classes: __init__ begins with super().__init__(..) -/
namespace HX
open PySem PySem.Spec PyProof.Rows L2 NdefX
/-- what the written part says of such a class at C and of its __init__ at fI: the cell cc of __class__, the code object at cda -/
structure SupC (P : Program) (K : PySem.W.Frag) (mg : Str → Option Value) (C fI cc : Addr) (F : NF) : Prop where
  oex : OexC K C
  fn : ∃ oc od doc pm ctv osl, K.lookup fI = some ⟨oc, od, .func (F.fd doc pm ctv), osl⟩
  cd : PySem.W.codeIn K (.ref F.c) F.qual = true
  file : ∃ ccl cdd vs ccs file tf, K.lookup F.c = some ⟨ccl, cdd, .fields vs, ccs⟩ ∧ vs[2]? = some (.str file tf) ∧ ((P.main.file : Str) == file) = true
  cl : F.cl = [(("__class__" : Str), cc)]
  cell : ∃ cl cld csl, K.lookup cc = some ⟨cl, cld, .cell (some (.ref C)), csl⟩
  sub : PySem.W.mroIn K C (.ref C) = some true
  ve : PySem.W.subIn K (.ref C) (.type "ValueError") = some true
  any : PySem.W.nsIn K cStatics "thirdparty.any" = some none
  sup : PySem.W.ks_superIn K C C "__init__" = some (some (.builtin "ValueError.__init__"))
  ms : mg "super" = none
  top : (P.main.scope.names.lookup ("super" : Str)).isSome = false
section
variable {P : Program} {w : World} {K : PySem.W.Frag} {mg : Str → Option Value} {base : Heap} {C fI cc : Addr} {F : NF}
theorem fn_super {k : Nat} {N ps : List Str} {sp : Sp} {e : Expr} {es : List Expr} {rest : List Stmt} {p0 p1 p2 p3 p4 : Pos} {ar : Arg} {doc0 pm0 ctv0 : Value} {oc0 : Value} {od0 : Option Addr} {osl0 : Array (Option Value)} (T : SupC P K mg C fI cc F)
    (lk : K.lookup fI = some ⟨oc0, od0, .func (F.fd doc0 pm0 ctv0), osl0⟩) (S : NScope N ps ["__class__"] F.scope)
    (hb : F.body = .Expr (.Call (.Attribute (.Call (.Name "super" p0) [] [] p1) "__init__" p2) (e :: es) [] p3) p4 :: rest) (hp : (F.params.posonlyargs ++ F.params.args).head? = some ar) (har : ps[0]? = some ar.arg)
    (hks : F.scope.names.lookup ("super" : Str) = some .globalImplicit) (len : ∀ vs H Q E, sp vs H Q E → vs.length = ps.length)
    (hbody : ∀ (A : Around) (outer : List Env) (s : Shared) (H : Hp) (vs : List V) (Q : VK) (E : XK), Room k (A.deeper (envF F fI s.heap.objs.size)) → sp vs H Q E →
      ∃ (a : Addr) (ys : List V) (ta : TA) (t : TS), vs = .ref a :: ys ∧ H a = some (exo a C none) ∧ PA (ncx CX0 P w K mg base N F fI A outer s H E) (e :: es) ta ∧ PSs (ncx CX0 P w K mg base N F fI A outer s H E) rest t ∧
        ta (startF N vs [none]) H (fun us H1 => H1 = H ∧ us.length ≤ 1000) ∧ t { nx := fun _ H' => Q .non H', rt := Q } (startF N vs [none]) H)
    {pl : Addr → Sem Bool} (he : ∀ L : Addr, eval (.Call (.Attribute (.Call (.Name "super" p0) [] [] p1) "__init__" p2) (e :: es) [] p3) (envF F fI L) = (do
      let ov ← attributeBase (.Call (.Name "super" p0) [] [] p1) "__init__" (envF F fI L) (eval (.Call (.Name "super" p0) [] [] p1) (envF F fI L))
      standAt p2.atName
      let (f, first) ← holding [ov] (getMethod ov "__init__" (pl L))
      callWith p3 f first (backTo p3 (starEach (e :: es) (envF F fI L))) []))
    (hs : ∀ L : Addr, swapsWith (.Call (.Attribute (.Call (.Name "super" p0) [] [] p1) "__init__" p2) (e :: es) [] p3) none p4.line (envF F fI L) = pure false) (hi : ∀ L : Addr, interactive (envF F fI L) = false)
    (hst : ∀ L : Addr, starEach (e :: es) (envF F fI L) = (false, eval e (envF F fI L)) :: starEach es (envF F fI L)) (hpl : ∀ L : Addr, (backTo p3 (starEach es (envF F fI L))).any (·.1) = false) :
    FnOk P w K mg base CX0 (k + 1) fI (F.fd doc0 pm0 ctv0) ps sp := by
  refine ⟨len, fun A outer s H args us vs Q E hr e0 hbd r hsp => ?_⟩
  have hl := len _ _ _ _ hsp
  have KX : K.In s.heap := e0.mod.kin.keeps (fun b o z => (e0.bs b o z).1)
  have nl : s.heap.NoLimit := e0.mod.nolimit.keeps (fun b o z => (e0.bs b o z).1)
  obtain ⟨cl, cld, csl, hcell⟩ := T.cell
  obtain ⟨ccl, cdd, fvs, ccs, file, tf, hcode, hvs, hfile⟩ := T.file
  have cells : CellsAt F.cl ["__class__"] [none] s.heap H := by
    rw [T.cl]
    refine ⟨rfl, fun y c hy => ?_, fun x y c hx hy => ?_, fun i y hi => ?_⟩
    · have e1 : c = cc := by
        by_cases hyc : y = ("__class__" : Str)
        · subst hyc
          simpa [List.lookup] using hy.symm
        · have : (y == ("__class__" : Str)) = false := by simpa using hyc
          simp [List.lookup, this] at hy
      subst e1
      exact ⟨(e0.bs _ _ (e0.mod.kin _ _ hcell)).2, _, ⟨_, KX _ _ hcell, rfl⟩⟩
    · have key : ∀ {z : Str} {c : Addr}, List.lookup z [(("__class__" : Str), cc)] = some c → z = "__class__" := fun {z c} h => by
        by_cases hz : z = ("__class__" : Str)
        · exact hz
        · have : (z == ("__class__" : Str)) = false := by simpa using hz
          simp [List.lookup, this] at h
      rw [key hx, key hy]
    · have : y = "__class__" ∧ i = 0 := by
        cases i with
        | zero => exact ⟨by simpa using hi.symm, rfl⟩
        | succ i => simp at hi
      obtain ⟨rfl, rfl⟩ := this
      refine ⟨cc, by simp [List.lookup], fun v hv => ?_⟩
      simp at hv
  obtain ⟨a, ys, ta, t, rfl, ea, pa, prest, ha, hq⟩ := hbody A outer s H vs Q E (hr.deeper _) hsp
  refine PySem.ks_codeAny_call_defAt (fd := F.fd doc0 pm0 ctv0) (body := F.body) (binds := ps.zip us) hr.depth (KX _ _ lk) rfl nl (PySem.W.codeRec_of KX T.cd) rfl hbd S.nocell (fun ⟨n, _⟩ hy => S.par n (List.of_mem_zip hy).1) (fun h1 hns kp => ?_) S.co S.gen S.kind
  have I : Inv (ncx CX0 P w K mg base N F fI A outer s H E) [] (startF N (.ref a :: ys) [none]) H { s with heap := h1, toks := s.toks + (ps.zip us).length } := inv_startN S hr.hd e0 hl r cells hns kp
  show PySem.wpAt (model P w) (A.deeper (envF F fI s.heap.objs.size)) (.func F.body (envF F fI s.heap.objs.size)) (execs F.body (envF F fI s.heap.objs.size)) _ _ _
  rw [hb]
  refine PySem.ks_wpAt_execs_cons (PySem.ks_wpAt_Expr_any (PySem.ks_wpAt_MethodCall (PySem.ks_wpAt_super_base hks (S.frk _ (by simp)) (by decide) rfl (kp _ _ (KX _ _ lk)) rfl hp rfl (kp _ _ (KX _ _ hcode)) rfl hvs hfile T.top ?_) (he _)) (hi _) (hs _))
  have K1 : K.In h1 := I.kIn
  have G1 : h1.Ns mainGlobals mg := I.mod.glob.keeps I.bk
  obtain ⟨mb, B1, B2⟩ := I.mod.blt
  refine PySem.W.ks_loadName_global S.kind hks (Calls.loadGlobal_builtin (env := envF F fI s.heap.objs.size) G1 T.ms (B1.keeps I.bk) ((B2 _ (by decide +kernel)).trans (by decide +kernel)) ⟨rfl, ?_⟩)
  refine wpAny_loadName_free S.kind (S.frk _ (by simp)) (by show List.lookup _ F.cl = some cc; rw [T.cl]; rfl) ⟨_, K1 _ _ hcell, rfl⟩ ?_
  obtain ⟨t1, ho⟩ := exo_at I.hok ea
  have hz : us[0]? = some (.ref a) := by
    cases r with
    | cons r1 r2 =>
      cases r1
      rfl
  have ndP : ps.Nodup := by
    have q := S.nd.sublist (List.take_sublist (ps.length + 1) N)
    rw [show N.take (ps.length + 1) = ps ++ [("__class__" : Str)] from S.pre] at q
    exact (List.nodup_append.mp q).1
  refine wpAny_loadName_local S.kind (S.par _ (List.mem_of_getElem? har)) hns (zip_look ndP har hz) ?_
  obtain ⟨nm, q, Nn, bs, bm, sn, sub, ab, col, dd, k0, k1, k2, k3, k5, hC, hbm⟩ := T.oex.cls
  have ia : PySem.W.InstAt h1 a { cls := .ref C, dict := none, data := .fields #[.ref t1, .none, .none, .none, .bool false, .none] } C none := ⟨ho, rfl, rfl, trivial⟩
  refine ks_wpAny_isType_cls (K1 _ _ hC) rfl ⟨rfl, ?_⟩
  refine ks_wpAny_call_super (K1 _ _ hC) rfl ho rfl (fun c z => nomatch z) (PySem.W.looks_mroIn K1 T.sub) (fun h2 eso k2' => ?_)
  have hcl : PySem.W.clsIn K C = some { name := nm, bases := bs, mro := .ref C :: bm, ns := Nn, qualname := q, hasDict := true, slotNames := sn, subclasses := sub, abstract := ab, collection := col, hasDel := false } := by
    unfold PySem.W.clsIn
    rw [hC]
    all_goals rfl
  have K2 : K.In h2 := fun b o z => k2' b o (K1 b o z)
  have ia2 : PySem.W.InstAt h2 a { cls := .ref C, dict := none, data := .fields #[.ref t1, .none, .none, .none, .bool false, .none] } C none := ⟨k2' _ _ ho, rfl, rfl, trivial⟩
  have hsup := T.sup
  unfold PySem.W.ks_superIn at hsup
  rw [hcl] at hsup
  have lt12 : h1.objs.size < h2.objs.size := Heap.lt_size eso
  refine PySem.W.kxs_getMethod PySem.W.kxs_ValueError eso (PySem.W.looks_opaque K2 T.any) (l₀ := .ref C :: bm) ((PySem.W.looks_clsIn K2 hcl).andThen .now) rfl K2 hsup (ia2.type.andThen (PySem.W.looks_subIn K2 T.ve)) (PySem.W.ks_ne K2 ia2 hcl) (by decide) ?_
  have k3' : ∀ b o, h1.get? b = some o → (h2.push (PySem.W.kxs_mw "ValueError.__init__" a)).get? b = some o := fun b o z => Heap.get?_push_of_some _ (k2' b o z)
  have I3 := I.kept (h' := h2.push (PySem.W.kxs_mw "ValueError.__init__" a)) (t' := s.toks + (ps.zip us).length + 1) k3'
  have hu3 : (h2.push (PySem.W.kxs_mw "ValueError.__init__" a)).get? h2.objs.size = some (PySem.W.kxs_mw "ValueError.__init__" a) := Heap.get?_push_size _ rfl
  have I4 : Inv (ncx CX0 P w K mg base N F fI A outer s H E) [(h2.objs.size, PySem.W.kxs_mw "ValueError.__init__" a)] (startF N (.ref a :: ys) [none]) H { s with heap := h2.push (PySem.W.kxs_mw "ValueError.__init__" a), toks := s.toks + (ps.zip us).length + 1 } :=
    I3.pins_of fun p hp' => by
      have e' : p = (h2.objs.size, PySem.W.kxs_mw "ValueError.__init__" a) := by simpa using hp'
      subst e'
      exact ⟨hu3, I.hok.fresh (Nat.le_of_lt lt12), Nat.ne_of_gt (Nat.lt_trans I.lt lt12), I.nofs (Nat.le_of_lt lt12), fun v z => nomatch z⟩
  show wpAny _ _ (callWith p3 (.ref h2.objs.size) [] (backTo p3 (starEach (e :: es) (envF F fI s.heap.objs.size))) []) _ _ _
  have hall : (backTo p3 (starEach (e :: es) (envF F fI s.heap.objs.size))).any (·.1) = false := by
    rw [hst]
    show (false || (backTo p3 (starEach es (envF F fI s.heap.objs.size))).any (·.1)) = false
    rw [hpl]
    rfl
  refine PySem.W.kxs_callWith (i := "ValueError.__init__") (x := a) hall ?_
  have hsp2 : wpAny (model P w) (A.deeper (envF F fI s.heap.objs.size)) (spliced (backTo p3 (starEach (e :: es) (envF F fI s.heap.objs.size)))) (fun vs' s1 => ∃ zs : List V, Inv (ncx CX0 P w K mg base N F fI A outer s H E) [(h2.objs.size, PySem.W.kxs_mw "ValueError.__init__" a)] (startF N (.ref a :: ys) [none]) H s1 ∧ Vals zs vs' ∧ zs.length ≤ 1000)
      (ncx CX0 P w K mg base N F fI A outer s H E).xe { s with heap := h2.push (PySem.W.kxs_mw "ValueError.__init__" a), toks := s.toks + (ps.zip us).length + 1 } :=
    thn (pa.run p3 _ _ _ H _ I4 ha) fun us' s1 ⟨zs, H1, J, rz, eH, hz'⟩ => by
      subst eH
      exact ⟨zs, J, rz, hz'⟩
  rw [hst] at hsp2 ⊢
  refine Calls.evalArgs_plain (wpAny_mono hsp2 (fun us' s1 h => ?_) fun _ _ z => z)
  obtain ⟨zs, J, rz, hz'⟩ := h
  have hu5 := (J.pin (h2.objs.size, PySem.W.kxs_mw "ValueError.__init__" a) (by simp)).1
  refine ⟨hu5, ?_⟩
  obtain ⟨t5, ho5⟩ := exo_at J.hok ea
  have K5 : K.In s1.heap := J.kIn
  have hlz : us'.length ≤ sizeLine := by
    rw [← rz.length, sizeLine_eq]
    omega
  -- behind super().__init__(..) the rest is as it was
  have fin : ∀ s6, Inv (ncx CX0 P w K mg base N F fI A outer s H E) [(h2.objs.size, PySem.W.kxs_mw "ValueError.__init__" a)] (startF N (.ref a :: ys) [none]) H s6 →
      wpAny (model P w) (A.deeper (envF F fI s.heap.objs.size)) (execs rest (envF F fI s.heap.objs.size)) (fun f s' => CR CX0 outer P w H s Q E (.ok (.ret (match f with | .ret v => v | _ => .none))) s') (ncx CX0 P w K mg base N F fI A outer s H E).xe s6 := fun s6 J6 => by
    refine wpAny_mono (prest.run _ s6 _ H _ J6 hq) (fun fl s' hs' => ?_) (fun _ _ z => z)
    match fl, hs' with
    | .ret u, ⟨v, σ', H', J, rv, q'⟩ => exact ⟨v, H', J.os, J.bare, J.base, J.hok, rv, q'⟩
    | .next, ⟨σ', H', J, q'⟩ => exact ⟨V.non, H', J.os, J.bare, J.base, J.hok, rfl, q'⟩
    | .brk, ⟨_, _, _, q'⟩ => exact False.elim q'
    | .cont, ⟨_, _, _, q'⟩ => exact False.elim q'
  have fin2 : ∀ h', (∀ b o, b ≠ a → s1.heap.get? b = some o → h'.get? b = some o) → h'.get? a = some ({ cls := .ref C, dict := none, data := .fields #[.ref s1.heap.objs.size, .none, .none, .none, .bool false, .none] } : Obj) →
      Inv (ncx CX0 P w K mg base N F fI A outer s H E) [(h2.objs.size, PySem.W.kxs_mw "ValueError.__init__" a)] (startF N (.ref a :: ys) [none]) H { s1 with heap := h' } := fun h' kk hx => by
    have J7 := J.write (t' := s1.toks) (x := a) (e := a) (o := exo a C none) (by rw [ea]; exact True.intro) (.inl rfl) kk ⟨_, hx⟩ (exo_ok hx)
    have eu : upd H a (exo a C none) = H := by
      funext b
      by_cases hb' : b = a
      · rw [hb', upd_same, ea]
      · rw [upd_ne hb']
    rw [eu] at J7
    exact J7
  obtain ⟨hh, g, d, tk, os⟩ := s1
  show wpAny _ _ (call (.ref h2.objs.size) us') _ _ _
  refine wpAny_call (codeAny_of_tree ?_)
  show wpAny _ (A.deeper (envF F fI s.heap.objs.size)).in1 (callAny (.ref h2.objs.size) ⟨us', []⟩) _ _ _
  simp only [callAny]
  refine wpAny_bind (wpAny_load hu5 ?_)
  simp only [PySem.W.kxs_mw, show (Value.type "method-wrapper" == Value.type "method" || Value.type "method-wrapper" == Value.type "builtin_function_or_method" || Value.type "method-wrapper" == Value.type "method-wrapper") = true by decide, if_true]
  refine PySem.W.KFB.if_so (by decide) ?_
  refine wpAny_bind (PySem.W.check_bound_init PySem.F.excBase_ValueError.toExcCallFacts (K5 _ _ hC) ho5 rfl ?_)
  refine wpAny_bind (wpAny_pure (wpAny_pure ?_))
  refine ⟨plainId_quiet PySem.F.excBase_ValueError.init.plain _, codeAny_builtin PySem.F.excBase_ValueError.initEntry ?_⟩
  refine PySem.W.exc_init_tree (cls := .ref C) (t0 := t5) (dv := none) (c2 := .none) (c3 := .none) (b4 := .bool false) ho5 hlz (fun h' kk hx _ => ?_)
  exact PySem.wpAt_of_wpAny (fin _ (fin2 h' kk hx))
end
end HX
set_option Elab.async false
set_option linter.all false
set_option maxRecDepth 100000
/-! errors with fields: isinstance(e, C) in an except suite; __init__ of one and of two fields; raise -/
namespace HX
open PySem PySem.Spec PySem.Calls PyProof.Rows L2 NdefX
section
open PySem.W
variable {prog : Program} {w : World} {A : Around} {E : Value → Shared → Prop} {s : Shared} {K : Frag} {x D : Addr} {ox : Obj} {od : Option Obj}
theorem findObj_any {C : Addr} {name : Str} {a g : Value} (hc : (clsIn K C).isSome = true) (ha : findIn K (.ref C) name = some (some a)) (hg : specialIn K a "__get__" = some (some g)) (ht : takesIn K a = some true) : findObj K C od name = some (.bind g a) := by
  obtain ⟨cd, hcd⟩ := Option.isSome_iff_exists.mp hc
  unfold findObj
  rw [hcd, Option.bind_some, ha, Option.bind_some]
  simp [hg, ht]
theorem kin_classF {Q : Option Value → Shared → Prop} (C : ExcC K D) (X : K.In s.heap) (I : InstAt s.heap x ox D od) (h : Q (some (.ref D)) { s with toks := s.toks + 1 }) : wpAny (model prog w) A (getAttr? (.ref x) "__class__") Q E s := by
  have hf : findObj K D od "__class__" = some (.bind (.builtin "getset_descriptor.__get__") (.builtin "object.__class__")) := findObj_any (by obtain ⟨cd, hc, _⟩ := any_some C.hd; rw [hc]; rfl) C.ha C.hn C.ht
  obtain ⟨hp, g, d, t, os⟩ := s
  have L0 := I.type (M := model prog w)
  have L3 := looks_find (M := model prog w) X I hf
  have sub : Looks (model prog w) hp (isInstance (.ref x) (.type "BaseException")) true := L0.andThen (looks_subIn X C.hs)
  have hx2 : (Value.builtin "BaseException.__getattribute__" == Value.builtin "object.__getattribute__") = false := by decide +kernel
  unfold getAttr? getAttrBy? getAttrBy
  refine wpAny_bind (wpAny_mkText (wpAny_bind (wpAny_attempt (wpAny_holding (wpAny_bind (L0.at (wpAny_bind ((looks_findIn (M := model prog w) X C.hg).at ?_))))))))
  show wpAny _ _ (if (onTheHeap (Value.ref D) && Value.builtin "BaseException.__getattribute__" == Value.builtin "object.__getattribute__") = true then _ else _) _ _ _
  rw [show (onTheHeap (Value.ref D) && Value.builtin "BaseException.__getattribute__" == Value.builtin "object.__getattribute__") = false by rw [hx2]; rfl, if_neg Bool.false_ne_true]
  unfold getAttrByItsOwn hookBefore
  refine wpAny_bind ?_
  rw [if_pos (show onTheHeap (Value.ref D) = true from rfl)]
  refine (looks_findIn (M := model prog w) X C.hk).at (wpAny_bind (wpAny_attempt (wpAny_holding ?_)))
  unfold callGetattribute
  rw [show (false && onTheHeap (Value.builtin "BaseException.__getattribute__")) = false from rfl, if_neg Bool.false_ne_true]
  unfold boundAndCalled
  rw [PySem.F.excAttr_ValueError.ga.bind (.ref x)]
  refine wpAny_bind (wpAny_pure ?_)
  show wpAny _ _ (call (.builtin "BaseException.__getattribute__") [.ref x, .str "__class__" t]) _ _ _
  refine wpAny_call (codeAny_call_builtin PySem.F.excAttr_ValueError.ga.plain PySem.F.entry_bexc_ga (@check_slot (model prog w) _ _ ⟨hp, g, d, t + 1, os⟩ "BaseException.__getattribute__" "BaseException" "__getattribute__" (.ref x) [.str "__class__" t] [] _ (by decide +kernel) (by decide +kernel) sub (PySem.F.args_bexc_ga (.ref x) (.str "__class__" t)) ?_))
  unfold Builtin.«object.__getattribute__»
  refine wpAny_bind (wpAny_of_eq (a := ((Value.ref x : Value), [Value.str "__class__" t])) (by first | rfl | (simp only [slotArgs]; rfl)) ?_)
  refine wpAny_bind (wpAny_pure (wpAny_bind (L0.at (wpAny_bind (L3.at ?_)))))
  show wpAny _ _ (holding [Value.builtin "object.__class__"] (call (.builtin "getset_descriptor.__get__") [.builtin "object.__class__", .ref x, .ref D]) >>= ret) _ _ _
  refine wpAny_bind (wpAny_holding (wpAny_call (class_get (s := ⟨hp, g, d, t + 1, os⟩) (ox := ox) (od := od) X I C.hm (wpAny_pure ?_))))
  show wpAny _ _ (handedOut (.ref D)) _ _ _
  rw [handedOut_of (v := .ref D) rfl]
  first
    | exact wpAny_pure (wpAny_pure h)
    | exact wpAny_pure h
    | exact wpAny_pure (wpAny_bind (wpAny_pure (wpAny_pure h)))
theorem kitx_excF (C : ExcC K D) : KitX K (.ref x) (.ref D) (fun h => ∃ od, InstAt h x ox D od) where
  ty := fun _ _ _ ⟨_, I⟩ => I.type
  it := fun _ _ X _ => by
    obtain ⟨cdD, hcD, _⟩ := any_some C.hd
    unfold clsIn at hcD
    split at hcD
    · rename_i c' d' cd' sl' ho
      exact fun A' Q' E' s' k q => by
        unfold isType loadHead
        exact wpAny_bind (wpAny_loadPart (k _ _ (X _ _ ho)) (wpAny_pure q))
    · cases hcD
  ne := fun h tp dd its n sl X htp => Bool.eq_false_iff.mpr fun q => by
    obtain ⟨cdD, hcD, _⟩ := any_some C.hd
    have e : D = tp := Value.ref.inj (beq_iff_eq.mp q)
    subst e
    unfold clsIn at hcD
    split at hcD
    · rename_i c' d' cd' sl' ho
      cases (X _ _ ho).symm.trans htp
    · cases hcD
  ca := fun X ⟨_, I⟩ k => kin_classF C X I k
end
/-- isinstance(e, c), e the error with fields that the suite holds -/
def rIsF (K : PySem.W.Frag) (a : Addr) (cls : Value) (d : Option Addr) : List V → Hp → VK → Prop := fun xs H Q => ∃ (D dd : Addr) (c : V) (cv : Value) (b : Bool) (fs : List (Str × V)), cls = .ref D ∧ d = some dd ∧ ExcC K D ∧ xs = [.ref a, c] ∧ (∀ u, L2.RelV c u → u = cv) ∧ PySem.W.kitOne K (.ref D) cv = some b ∧ H dd = some (.xd fs) ∧ Q (.bl b) H
theorem call_isF {X : Cx} {a : Addr} {cls : Value} {d : Option Addr} {oe : Obj} {pn : List (Addr × Obj)} (hz : Zc cls d oe) (hf : ∃ vs, oe.data = .fields vs) : CallR (X.suite a ((a, oe) :: pn)) (.builtin "isinstance") (rIsF X.K a cls d) := by
  intro pins s σ H xs us Q I r h
  obtain ⟨D, dd, c, cv, b, fs, rfl, rfl, C, rfl, hcv, e, ed, q⟩ := h
  obtain ⟨u1, u2, rfl, rx, rt⟩ := vals2 r
  cases rx
  have ec := hcv _ rt
  subst ec
  obtain ⟨hget, _⟩ := I.pin (a, oe) (List.mem_append.mpr (.inl List.mem_cons_self))
  obtain ⟨vs, hv⟩ := hf
  have hx : ObjOk X.prog X.w H s.heap dd (.xd fs) := I.hok dd _ ed
  obtain ⟨mA, hns, _⟩ := hx
  obtain ⟨oD, es, ep, hoD, _⟩ := hns
  have J : ∃ od, PySem.W.InstAt s.heap a oe D od := by
    obtain ⟨oc, odd, oda, osl⟩ := oe
    obtain ⟨h1, h2⟩ := hz
    dsimp only at h1 h2 hv
    subst h1 h2 hv
    exact ⟨some oD, hget, rfl, rfl, hoD⟩
  exact PySem.W.kia_one (kitx_excF C) I.kIn J e (fun z => nomatch z) fun tk => ⟨.bl b, H, I.kept (t' := tk) fun _ _ z => z, rfl, q⟩
/-- what the written part says of an error class at C under the name x, of its __init__ at fI -/
structure Err (K : PySem.W.Frag) (mg : Str → Option Value) (x : Str) (fields : List Str) (C fI cc : Addr) (F : NF) : Prop where
  g : mg x = some (.ref C)
  oex : OexC K C
  iC : PySem.W.findIn K (.ref C) "__init__" = some (some (.ref fI))
  tI : PySem.W.typeIn K (.ref fI) = some (.type "function")
  noF : ∀ f ∈ fields, PySem.W.findIn K (.ref C) f = some none
  fn : ∃ oc od doc pm ctv osl, K.lookup fI = some ⟨oc, od, .func (F.fd doc pm ctv), osl⟩
  cd : PySem.W.codeIn K (.ref F.c) F.qual = true
  file : ∃ ccl cdd vs ccs tf, K.lookup F.c = some ⟨ccl, cdd, .fields vs, ccs⟩ ∧ vs[2]? = some (.str "/claim/cut.py" tf)
  cl : F.cl = [(("__class__" : Str), cc)]
  cell : ∃ cl cld csl, K.lookup cc = some ⟨cl, cld, .cell (some (.ref C)), csl⟩
  sub : PySem.W.mroIn K C (.ref C) = some true
  ve : PySem.W.subIn K (.ref C) (.type "ValueError") = some true
  any : PySem.W.nsIn K cStatics "thirdparty.any" = some none
  sup : PySem.W.ks_superIn K C C "__init__" = some (some (.builtin "ValueError.__init__"))
  ms : mg "super" = none
  xf : XfC K C
  ex : ExcC K C
  te : PySem.W.exmOne K (.ref C) (.ref C) = some true
  kv : PySem.W.kitOne K (.ref C) (.type "ValueError") = some true
/-- what the program must say, so that super() finds its frame -/
structure PF (P : Program) : Prop where
  file : ((P.main.file : Str) == "/claim/cut.py") = true
  top : (P.main.scope.names.lookup ("super" : Str)).isSome = false
theorem Err.sup' {P : Program} {K : PySem.W.Frag} {mg : Str → Option Value} {x : Str} {fs : List Str} {C fI cc : Addr} {F : NF} (T : Err K mg x fs C fI cc F) (hP : PF P) : SupC P K mg C fI cc F := by
  obtain ⟨ccl, cdd, vs, ccs, tf, h1, h2⟩ := T.file
  exact ⟨T.oex, T.fn, T.cd, ⟨ccl, cdd, vs, ccs, _, tf, h1, h2, hP.file⟩, T.cl, T.cell, T.sub, T.ve, T.any, T.sup, T.ms, hP.top⟩
/-- __init__ of one field, of two fields -/
def spE1 (C : Addr) (f : Str) : Sp := fun vs H Q _ => ∃ (a : Addr) (y : V), vs = [.ref a, y] ∧ H a = some (exo a C none) ∧ ∀ dx, H dx = none → dx ≠ a → Q .non (upd (upd H dx (exd dx [(f, y)])) a (exo a C (some dx)))
def spE2 (C : Addr) (f g : Str) : Sp := fun vs H Q _ => ∃ (a : Addr) (y z : V), vs = [.ref a, y, z] ∧ H a = some (exo a C none) ∧ ∀ dx, H dx = none → dx ≠ a → Q .non (upd (upd (upd H dx (exd dx [(f, y)])) a (exo a C (some dx))) dx (exd dx [(g, z), (f, y)]))
theorem made_eq {H1 H2 : Hp} {a d : Addr} {o : HO} (ha : H1 a = none) (h : ∀ b, b ≠ a → b ≠ d → H2 b = H1 b) (hne : d ≠ a) : upd (del H2 a) d o = upd H1 d o := by
  funext b
  by_cases hd : b = d
  · rw [hd, upd_same, upd_same]
  · rw [upd_ne hd, upd_ne hd]
    by_cases hb : b = a
    · rw [hb, del_same, ha]
    · rw [del_ne hb, h b hb hd]
theorem raise1 {C : Addr} {f : Str} {H1 : Hp} {y : V} {Q : XK} (h : ∀ d, H1 d = none → Q (.ref C) (some d) (upd H1 d (.xd [(f, y)]))) :
    [y].length ≤ 1000 ∧ ∀ a, H1 a = none → spE1 C f (.ref a :: ([y] ++ [])) (upd H1 a (exo a C none))
      (fun v H2 => v = .non ∧ ∃ (d : Addr) (fs : List (Str × V)), H2 a = some (exo a C (some d)) ∧ H2 d = some (exd d fs) ∧ H1 d = none ∧ Q (.ref C) (some d) (upd (del H2 a) d (.xd fs))) (fun _ _ _ => False) := by
  refine ⟨by show 1 ≤ 1000; decide, fun a na => ⟨a, y, rfl, upd_same, fun dx ndx ne => ?_⟩⟩
  rw [upd_ne ne] at ndx
  refine ⟨rfl, dx, _, upd_same, (upd_ne ne).trans upd_same, ndx, ?_⟩
  rw [made_eq na (fun b hb hd => by rw [upd_ne hb, upd_ne hd, upd_ne hb]) ne]
  exact h dx ndx
theorem raise2 {C : Addr} {f g : Str} {H1 : Hp} {y z : V} {Q : XK} (h : ∀ d, H1 d = none → Q (.ref C) (some d) (upd H1 d (.xd [(g, z), (f, y)]))) :
    [y, z].length ≤ 1000 ∧ ∀ a, H1 a = none → spE2 C f g (.ref a :: ([y, z] ++ [])) (upd H1 a (exo a C none))
      (fun v H2 => v = .non ∧ ∃ (d : Addr) (fs : List (Str × V)), H2 a = some (exo a C (some d)) ∧ H2 d = some (exd d fs) ∧ H1 d = none ∧ Q (.ref C) (some d) (upd (del H2 a) d (.xd fs))) (fun _ _ _ => False) := by
  refine ⟨by show 2 ≤ 1000; decide, fun a na => ⟨a, y, z, rfl, upd_same, fun dx ndx ne => ?_⟩⟩
  rw [upd_ne ne] at ndx
  refine ⟨rfl, dx, _, (upd_ne (Ne.symm ne)).trans upd_same, upd_same, ndx, ?_⟩
  rw [made_eq na (fun b hb hd => by rw [upd_ne hd, upd_ne hb, upd_ne hd, upd_ne hb]) ne]
  exact h dx ndx
theorem pass00 {X : Cx} {E : XK} : Passes CX0 X E := fun _ _ _ _ _ _ _ h => h.elim
end HX
set_option Elab.async false
set_option linter.all false
set_option maxRecDepth 100000
/-! own classes whose instances have operators: x op y, op x, comparisons -/
namespace HX
open PySem PySem.Spec PyProof.Rows L2
/-- an operator of the class at C, its def at g -/
structure OpOwn (K : PySem.W.Frag) (C : Addr) (op : Operator) (g : Addr) : Prop where
  sf : PySem.W.selfFirst K C = true
  hs : PySem.W.findIn K (.ref C) (PySem.dunder op.info.2) = some (some (.ref g))
  hf : PySem.W.isFn K (.ref g) = true
  hr : ∃ rc, PySem.W.findIn K (.ref C) (dunderR op.info.2) = some rc ∧ (rc = none ∨ ∃ g : Addr, rc = some (.ref g))
  h1 : ∃ fo, PySem.W.findIn K (.type "int") (PySem.dunder op.info.2) = some fo
  h2 : ∃ ro, PySem.W.findIn K (.type "int") (dunderR op.info.2) = some ro
  hsub : PySem.W.subIn K (.type "int") (.ref C) = some false
/-- a comparison of the class at C, its def at g -/
structure CmpOwn (K : PySem.W.Frag) (C : Addr) (op : CmpOp) (g : Addr) : Prop where
  hs : PySem.W.findIn K (.ref C) (cmpInfo op).2.1 = some (some (.ref g))
  hf : PySem.W.isFn K (.ref g) = true
  nI : PySem.W.notFirst K C (.type "int") = true
  nC : PySem.W.notFirst K C (.ref C) = true
/-- an int, or an instance of the class at C -/
def Opd (C : Addr) (y : V) (H : Hp) : Prop := (∃ i, y = .int i) ∨ ∃ b dy gs, y = .ref b ∧ H b = some (.ins C dy gs)
/-- x op y by the def of x -/
def rOwnB (C : Addr) (sp : Sp) (E : XK) : R2 := fun x y H Q => ∃ a dx fs, x = .ref a ∧ H a = some (.ins C dx fs) ∧ Opd C y H ∧ sp [x, y] H Q E
section
variable {X : Cx} {CX : CXT} {E : XK} {C g : Addr} {k : Nat} {fd : FuncData} {ps : List Str} {sp : Sp}
theorem run_own {pins : List (Addr × Obj)} {σ : L2.St} {H : Hp} {s : Shared} {Q : VK} {us : List Value} {vs : List V} (F : FnOk X.prog X.w X.K X.mg X.base CX k g fd ps sp) (hr : Room k X.A) (hb : L2.Binds X.K fd ps []) (hx : Passes CX X E) (I : Inv X pins σ H s) (r : Vals vs us) (h : sp vs H Q E) :
    wpAny (model X.prog X.w) X.A (call (.ref g) us) (PySem.W.CmpBack (EP X pins σ Q)) X.xe s :=
  wpAny_mono (run_fn F hr hb .nil hx I r (by rw [List.append_nil]; exact h)) (fun w s' z => by
    obtain ⟨z', H', I', rz, qz⟩ := z
    exact SlX.cmpback rz ⟨z', H', I', rz, qz⟩) fun _ _ x => x
theorem op_ownB {op : Operator} (O : OpOwn X.K C op g) (F : FnOk X.prog X.w X.K X.mg X.base CX k g fd ps sp) (hr : Room k X.A) (hb : L2.Binds X.K fd ps []) (hx : Passes CX X E) : OpR X (binaryOp op) (rOwnB C sp E) := by
  intro pins s σ H x y v u Q I rx ry h
  obtain ⟨a, dx, fs, rfl, ha, hy, q⟩ := h
  cases (show v = Value.ref a from rx)
  obtain ⟨mA, OM, _⟩ := ins_get I.hok ha
  obtain ⟨od, J, _⟩ := OM.look
  obtain ⟨m, hF⟩ := I.fr
  rcases hy with ⟨i, rfl⟩ | ⟨b, dy, gs, rfl, hb'⟩
  · obtain ⟨t, e⟩ := (show ∃ t, u = Value.int i t from ry)
    subst e
    obtain ⟨rc, hr1, hr2⟩ := O.hr
    obtain ⟨fo, h1⟩ := O.h1
    obtain ⟨ro, h2⟩ := O.h2
    exact PySem.W.ksp_binT (T := "int") hF I.ok.mod.kin J rfl O.sf O.hs O.hf hr1 hr2 h1 h2 O.hsub (run_own (us := [.ref a, .int i t]) (vs := [.ref a, .int i]) F hr hb hx I (.cons rfl (.cons ⟨t, rfl⟩ .nil)) q)
  · cases (show u = Value.ref b from ry)
    obtain ⟨mB, OB, _⟩ := ins_get I.hok hb'
    obtain ⟨od', J', _⟩ := OB.look
    exact PySem.W.binop_K hF I.ok.mod.kin J J'.type O.sf O.hs O.hf (run_own (us := [.ref a, .ref b]) (vs := [.ref a, .ref b]) F hr hb hx I (.cons rfl (.cons rfl .nil)) q)
theorem op_ownC {op : CmpOp} (hop : ∀ a b, compareOp op a b = richCompare op a b) (O : CmpOwn X.K C op g) (F : FnOk X.prog X.w X.K X.mg X.base CX k g fd ps sp) (hr : Room k X.A) (hb : L2.Binds X.K fd ps []) (hx : Passes CX X E) : OpR X (compareOp op) (rOwnB C sp E) := by
  intro pins s σ H x y v u Q I rx ry h
  obtain ⟨a, dx, fs, rfl, ha, hy, q⟩ := h
  cases (show v = Value.ref a from rx)
  obtain ⟨mA, OM, _⟩ := ins_get I.hok ha
  obtain ⟨od, J, _⟩ := OM.look
  obtain ⟨m, hF⟩ := I.fr
  rw [hop]
  rcases hy with ⟨i, rfl⟩ | ⟨b, dy, gs, rfl, hb'⟩
  · obtain ⟨t, e⟩ := (show ∃ t, u = Value.int i t from ry)
    subst e
    exact PySem.W.cmp_K (op := op) (tb := .type "int") hr.units0 hF I.ok.mod.kin J (PySem.W.Looks.of_pure rfl) O.nI O.hs O.hf (run_own (us := [.ref a, .int i t]) (vs := [.ref a, .int i]) F hr hb hx I (.cons rfl (.cons ⟨t, rfl⟩ .nil)) q)
  · cases (show u = Value.ref b from ry)
    obtain ⟨mB, OB, _⟩ := ins_get I.hok hb'
    obtain ⟨od', J', _⟩ := OB.look
    exact PySem.W.cmp_K (op := op) (tb := .ref C) hr.units0 hF I.ok.mod.kin J J'.type O.nC O.hs O.hf (run_own (us := [.ref a, .ref b]) (vs := [.ref a, .ref b]) F hr hb hx I (.cons rfl (.cons rfl .nil)) q)
/-- x != y by the == of x -/
def rOwnN (C : Addr) (sp : Sp) (E : XK) : R2 := fun x y H Q => ∃ a dx fs, x = .ref a ∧ H a = some (.ins C dx fs) ∧ Opd C y H ∧ sp [x, y] H (fun v H' => ∃ b, v = .bl b ∧ Q (.bl (!b)) H') E
/-- what != of an own class without __ne__ asks of the class -/
structure NeOwn (K : PySem.W.Frag) (C : Addr) : Prop where
  ne : PySem.W.findIn K (.ref C) "__ne__" = some (some (.builtin "object.__ne__"))
  ob : PySem.W.subIn K (.ref C) (.type "object") = some true
set_option maxHeartbeats 4000000 in
theorem ne_own {pins : List (Addr × Obj)} {σ : L2.St} {H : Hp} {s : Shared} {a : Addr} {ox : Obj} {od : Option Obj} {b tb : Value} {y : V} {Q : VK} (N : NeOwn X.K C) (O : CmpOwn X.K C .Eq g) (F : FnR X.prog X.w X.K X.mg X.base CX k g sp) (hr : Room (k + 1) X.A) (hx : Passes CX X E)
    (I : Inv X pins σ H s) (J : PySem.W.InstAt s.heap a ox C od) (hb : PySem.W.Looks (model X.prog X.w) s.heap (typeOf b) tb) (hn : PySem.W.notFirst X.K C tb = true) (rb : RelV y b) (q : sp [.ref a, y] H (fun v H' => ∃ b, v = .bl b ∧ Q (.bl (!b)) H') E) :
    wpAny (model X.prog X.w) X.A (richCompare .NotEq (.ref a) b) (EP X pins σ Q) X.xe s := by
  have XK := I.kIn
  have hi : PySem.W.Looks (model X.prog X.w) s.heap (isInstance (.ref a) (.type "object")) true := J.type.andThen (PySem.W.looks_subIn XK N.ob)
  have hr1 : Room k X.A.in1 := Room.in1 hr
  have hu1 := hr1.units0
  have eqc : wpAny (model X.prog X.w) X.A.in1 (call (.ref g) [.ref a, b]) (fun v s' => ∃ r, v = .bool r ∧ EP X pins σ Q (.bool (!r)) s') X.xe s := by
    refine wpAny_mono (wpAny_call (SlX.run_at (us := [.ref a, b]) (ws := [.ref a, y]) F hr1 I.env0.in1 hx I (.cons rfl (.cons rb .nil)) q)) (fun w s' z => ?_) fun _ _ x => x
    obtain ⟨z', H', I', rz, b', rfl, qz⟩ := z
    exact ⟨b', rz, .bl (!b'), H', I', rfl, qz⟩
  have body : wpAny (model X.prog X.w) X.A.in1 (Builtin.«object.__ne__» ⟨[.ref a, b], []⟩) (fun fin s' => ∃ r, fin = .done (.ret (.bool r)) ∧ EP X pins σ Q (.bool r) s') X.xe s := by
    unfold Builtin.«object.__ne__»
    obtain ⟨hp, gg, d, tk, os⟩ := s
    repeat (first
      | with_reducible refine wpAny_cRoomFor hu1 ?_
      | (refine wpAny_bind (m := callSpecialIfBound? (.ref a) (Str.ofString "__eq__") [b])
          (PySem.W.ifBound_K XK J O.hs O.hf (wpAny_mono eqc (fun r s' hr => by
            obtain ⟨b, rfl, hq⟩ := hr
            repeat (first | exact ⟨_, rfl, hq⟩ | exact wpAny_pure ⟨_, rfl, hq⟩ | exact wpAny_truthy_bool ⟨_, rfl, hq⟩ | (refine wpAny_bind (m := truthy (.bool _)) (wpAny_truthy_bool ?_)) | wp_step)) fun _ _ e => e)))
      | wp_step)
  have one : wpAny (model X.prog X.w) X.A (tryCompare (.ref a) (cmpInfo .NotEq).2.1 b) (fun r s' => ∃ v, r = some v ∧ EP X pins σ Q v s') X.xe s := by
    unfold tryCompare
    refine wpAny_bind ?_
    simp only [callSpecialIfBound?, bindSpecialIfBound?]
    refine wpAny_holding (wpAny_bind (wpAny_bind (wpAny_bind (J.type.here ((PySem.W.looks_findIn XK (show PySem.W.findIn X.K (.ref C) (cmpInfo .NotEq).2.1 = _ from N.ne)).here ?_)))))
    simp only [PySem.F.cmp_object.ne.bind]
    refine wpAny_bind (wpAny_askSetting (wpAny_ite ?_))
    have cl : wpAny (model X.prog X.w) X.A (call (.builtin "object.__ne__") [.ref a, b]) (fun v s' => ∃ r, v = .bool r ∧ EP X pins σ Q (.bool r) s') X.xe s := by
      refine wpAny_call (codeAny_call_builtin PySem.F.cmp_object.ne.plain PySem.F.cmpEntry_ne (PySem.W.check_slot PySem.F.cmpKind_ne PySem.F.cmpSplit_ne hi (PySem.F.cmpArgs_ne _ _) (wpAny_mono body (fun fin s' z => ?_) fun _ _ z => z)))
      obtain ⟨r, rfl, z⟩ := z
      exact ⟨r, rfl, z⟩
    have fin : wpAny (model X.prog X.w) X.A (call (.builtin "object.__ne__") ([.ref a] ++ [b]) >>= fun v => pure (some v)) (fun r s' => wpAny (model X.prog X.w) X.A (match r with | some .notImplemented | none => pure none | some v => pure (some v)) (fun r s' => ∃ v, r = some v ∧ EP X pins σ Q v s') X.xe s') X.xe s :=
      wpAny_bind (wpAny_mono cl (fun v s' z => by
        obtain ⟨r, rfl, z⟩ := z
        exact wpAny_pure (wpAny_pure ⟨_, rfl, z⟩)) fun _ _ z => z)
    split
    · exact wpAny_bind (wpAny_pure (wpAny_pure (by exact fin)))
    · exact wpAny_tryCatch (wpAny_bind (wpAny_pure (wpAny_pure (by exact fin))))
  unfold richCompare
  simp only [oneThing_ref]
  refine wpAny_holding (wpAny_bind (wpAny_cRoomFor hr.units0 ?_))
  refine wpAny_bind (J.type.here (wpAny_bind (hb.here ?_)))
  split
  · rename_i q'
    have e : PySem.W.subIn X.K tb (.ref C) = some false := by
      rcases Bool.or_eq_true_iff.mp hn with e | e
      · rw [beq_iff_eq.mp e] at q'; simp at q'
      · exact beq_iff_eq.mp e
    refine wpAny_bind ((PySem.W.looks_subIn XK e).here ?_)
    simp only [Bool.false_eq_true, if_false]
    refine wpAny_bind (wpAny_mono one (fun r s' z => ?_) fun _ _ e => e)
    obtain ⟨v, rfl, hq⟩ := z
    exact wpAny_pure hq
  · refine wpAny_bind (wpAny_pure ?_)
    simp only [Bool.false_eq_true, if_false]
    refine wpAny_bind (wpAny_mono one (fun r s' z => ?_) fun _ _ e => e)
    obtain ⟨v, rfl, hq⟩ := z
    exact wpAny_pure hq
theorem op_ownN (N : NeOwn X.K C) (O : CmpOwn X.K C .Eq g) (F : FnOk X.prog X.w X.K X.mg X.base CX k g fd ps sp) (hr : Room (k + 1) X.A) (hb : L2.Binds X.K fd ps []) (hx : Passes CX X E) : OpR X (compareOp .NotEq) (rOwnN C sp E) := by
  intro pins s σ H x y v u Q I rx ry h
  obtain ⟨a, dx, fs, rfl, ha, hy, q⟩ := h
  cases (show v = Value.ref a from rx)
  obtain ⟨mA, OM, _⟩ := ins_get I.hok ha
  obtain ⟨od, J, _⟩ := OM.look
  have F' := F.raw hb .nil
  have q' : (fun vs H Q E => sp (vs ++ []) H Q E) [.ref a, y] H (fun v H' => ∃ b, v = .bl b ∧ Q (.bl (!b)) H') E := q
  show wpAny _ _ (richCompare .NotEq (.ref a) u) _ _ _
  rcases hy with ⟨i, rfl⟩ | ⟨b, dy, gs, rfl, hb'⟩
  · obtain ⟨t, e⟩ := (show ∃ t, u = Value.int i t from ry)
    subst e
    exact ne_own (y := .int i) (b := .int i t) N O F' hr hx I J (PySem.W.Looks.of_pure rfl) O.nI ⟨t, rfl⟩ q'
  · cases (show u = Value.ref b from ry)
    obtain ⟨mB, OB, _⟩ := ins_get I.hok hb'
    obtain ⟨od', J', _⟩ := OB.look
    exact ne_own (y := .ref b) (b := .ref b) N O F' hr hx I J J'.type O.nC rfl q'
end
/-- what isinstance asks of the class at C, and whose instances are instances of what -/
structure IsiOwn (K : PySem.W.Frag) (C : Addr) : Prop where
  ca : PySem.W.findIn K (.ref C) "__class__" = some (some (.builtin "object.__class__"))
  cn : PySem.W.specialIn K (.builtin "object.__class__") "__get__" = some (some (.builtin "getset_descriptor.__get__"))
  ct : PySem.W.takesIn K (.builtin "object.__class__") = some true
  cm : PySem.W.mroIn K C (.type "object") = some true
  ks : PySem.W.kitOne K (.ref C) (.ref C) = some true
  ki : PySem.W.kitOne K (.ref C) (.type "int") = some false
  kt : PySem.W.kitOne K (.ref C) (.type "tuple") = some false
  kb : PySem.W.kitOne K (.ref C) (.type "bool") = some false
  ik : PySem.W.kitOne K (.type "int") (.ref C) = some false
  bk : PySem.W.kitOne K (.type "bool") (.ref C) = some false
  nk : PySem.W.kitOne K (.type "NoneType") (.ref C) = some false
  sk : PySem.W.kitOne K (.type "str") (.ref C) = some false
  tk : PySem.W.kitOne K (.type "tuple") (.ref C) = some false
  lk : PySem.W.kitOne K (.type "list") (.ref C) = some false
  dk : PySem.W.kitOne K (.type "dict") (.ref C) = some false
end HX
set_option Elab.async false
set_option linter.all false
set_option maxRecDepth 100000
/-! the law's own call: tables of code objects (lambdas in its body), and nothing is being shown around it -/
namespace HX
open PySem PySem.Spec PyProof.Rows L2
def empT : Obj := { cls := .none, data := .fields #[] }
theorem law_callTG {P : Program} {w : World} {K : PySem.W.Frag} {mg mb : Str → Option Value} {k : Nat} {fa a : Addr} {cs : List (Addr × Addr)} {fd : FuncData} {x : Str} {sp : Sp} {st : Shared} {vs : List Value} {ns : List Int}
    (KX : K.In st.heap) (hns : st.heap.Ns mainGlobals mg) (hb : st.heap.Ns builtinsNs mb) (hbb : ∀ x : Str, x ≠ "__name__" → mb x = bootBuiltins x) (nl : st.heap.NoLimit) (hg : st.gens = #[])
    (hT : ∀ p ∈ cs, st.heap.get? p.2 = some empT) (nT : ∀ p ∈ cs, K.lookup p.2 = none) (C : ∀ p ∈ cs, PySem.W.CodeHd st.heap p.1 p.2)
    (hbm : ∃ (bm : Addr) (ob : Obj), mg "__builtins__" = some (.ref bm) ∧ bm ≠ builtinsNs ∧ st.heap.get? bm = some ob ∧ ob.cls = .type "module" ∧ ob.dict = some builtinsNs ∧ ob.data = .plain)
    (ha : st.heap.get? a = some { cls := .type "list", data := .seq vs.toArray }) (hi : IntsAre vs ns) (hl : ns.length ≤ sizeLine) (hr : Room k callerA)
    (F : ∀ base : Heap, K.In base → base.Ns mainGlobals mg → (∀ p ∈ cs, LamX.TabB base mg p.1 p.2) → FnG P w K mg base k fa fd [x] sp) (hbd : ∀ (s : Shared) (u : Value), BindsTo s fd ⟨[u], []⟩ [(x, u)])
    (hsp : ∀ H : Hp, (∀ p ∈ cs, H p.2 = some (.tbl #[])) → SqL K H a (ns.map V.int) → sp [.ref a] H (fun v _ => v = .bl true) fun _ _ _ => False) :
    codeAny (model P w) callerA (.call (.ref fa) ⟨[.ref a], []⟩) (fun r s' => r = .ok (.ret (.bool true)) ∧ OldK st.heap s'.heap ∧ s'.os = st.os ∧ AllBare s'.gens) st := by
  have rv := vals_ints hi
  have lv := hi.length
  let Tb : Addr → Prop := fun b => ∃ p ∈ cs, p.2 = b
  have tbE : ∀ {b : Addr}, Tb b → st.heap.get? b = some empT := fun {b} ⟨p, hp, e⟩ => e ▸ hT p hp
  have aT : ¬ Tb a := fun z => by
    have := (tbE z).symm.trans ha
    exact nomatch congrArg Obj.data (Option.some.inj this)
  have main : ∀ H : Hp, (∀ b, Tb b → H b = some (.tbl #[])) → (∀ b, H b = none ∨ Tb b ∨ (b = a ∧ ∃ ob ys, H b = some (.frz ob (.lst ys)))) → SqL K H a (ns.map V.int) → HOk P w H st.heap → (H a ≠ none → K.lookup a = none) →
      codeAny (model P w) callerA (.call (.ref fa) ⟨[.ref a], []⟩) (fun r s' => r = .ok (.ret (.bool true)) ∧ OldK st.heap s'.heap ∧ s'.os = st.os ∧ AllBare s'.gens) st := by
    intro H hH hO hS hok hK
    -- what is neither a list nor an empty row of fields is not followed
    have free : ∀ {b : Addr} {o : Obj}, st.heap.get? b = some o → o.data ≠ (Data.seq vs.toArray : Data) → o.data ≠ .fields #[] → H b = none := fun {b o} e h1 h2 => by
      rcases hO b with z | z | ⟨z, _⟩
      · exact z
      · rw [tbE z] at e
        cases e
        exact absurd rfl h2
      · rw [z, ha] at e
        cases e
        exact absurd rfl h1
    have nsK : ∀ {b : Addr} {m : Str → Option Value}, st.heap.Ns b m → (hidT st.heap H).Ns b m := fun {b m} ⟨o, es, ep, e, d, r⟩ =>
      ⟨o, es, ep, hidT_get e (free e (fun z => nomatch d.symm.trans z) (fun z => nomatch d.symm.trans z)), d, r⟩
    have hKb : K.In (hidT st.heap H) := fun b o e => hidT_get (KX b o e) (by
      rcases hO b with z | ⟨p, hp, z⟩ | ⟨z, ob, ys, z2⟩
      · exact z
      · rw [← z, nT p hp] at e
        cases e
      · subst z
        rw [hK (by rw [z2]; exact Option.some_ne_none _)] at e
        cases e)
    obtain ⟨mc, c1, c2⟩ := nl
    have TB : ∀ p ∈ cs, LamX.TabB (hidT st.heap H) mg p.1 p.2 := fun p hp => by
      refine ⟨?_, ?_, fun z => ?_⟩
      · obtain ⟨o, us, file, tf, flags, tg, inF, text, tt, e1, r1, r2, r3, rest⟩ := C p hp
        refine ⟨o, us, file, tf, flags, tg, inF, text, tt, hidT_get e1 (free e1 (fun z => nomatch r2.symm.trans z) fun z => ?_), r1, r2, r3, rest⟩
        have := Data.fields.inj (r2.symm.trans z)
        rw [this] at r3
        simp at r3
      · obtain ⟨bm, ob, b1, b2, b3, b4, b5, b6⟩ := hbm
        refine ⟨bm, ob, b1, b2, fun q => ?_, fun q => ?_, hidT_get b3 (free b3 (fun z => nomatch b6.symm.trans z) (fun z => nomatch b6.symm.trans z)), b4, b5, b6⟩
        · obtain ⟨o, es, ep, e, hd, _⟩ := hns
          rw [q, e] at b3
          cases b3
          exact nomatch hd.symm.trans b6
        · rw [q, hT p hp] at b3
          cases b3
          cases b6
      · obtain ⟨o, es, ep, e, hd, _⟩ := hns
        rw [z, hT p hp] at e
        cases e
        cases hd
    have e0 : Env0 P w K mg (hidT st.heap H) callerA [] st H := ⟨rfl, ⟨hKb, nsK hns, ⟨mb, nsK hb, hbb⟩, ⟨mc, nsK c1, c2⟩⟩, fun b o e => of_hidT e, Nat.le_of_eq (hidT_size _ _), trivial, (fun b hb => absurd (show b ∈ ([] : List Addr) from hb) List.not_mem_nil), hok, .of_eq hg⟩
    refine codeAny_mono ((F _ hKb (nsK hns) TB).go callerA [] st H ⟨[.ref a], []⟩ [.ref a] [.ref a] _ _ rfl hr e0 (hbd st (.ref a)) (.cons rfl .nil) (hsp H (fun p hp => hH p.2 ⟨p, hp, rfl⟩) hS)) fun r s' h => ?_
    match r, h with
    | .error e, h => exact (h : False).elim
    | .ok .next, h => exact (h : False).elim
    | .ok .brk, h => exact (h : False).elim
    | .ok .cont, h => exact (h : False).elim
    | .ok (.ret u), ⟨v, H', os, bare, un, hok', r', q⟩ =>
      obtain rfl : v = .bl true := q
      obtain rfl : u = Value.bool true := r'
      have keep : ∀ b o, ¬ Tb b → st.heap.get? b = some o → s'.heap.get? b = some o := fun b o nb e => by
        rcases hO b with z | z | ⟨_, ob, ys, z⟩
        · exact un.keep b o e z (fun y => absurd (show b ∈ ([] : List Addr) from y) List.not_mem_nil) List.not_mem_nil
        · exact absurd z nb
        · have e1 := (hok b _ z).1
          rw [e] at e1
          cases e1
          exact (hok' b _ (un.frzs b _ _ z)).1
      have grown : ∀ b, Tb b → ∃ more : Array Value, s'.heap.get? b = some { cls := .none, data := .fields more } := fun b hb => by
        obtain ⟨more, z⟩ := un.tbls b #[] (hH b hb)
        exact ⟨_, hok' b _ z⟩
      refine ⟨rfl, ⟨fun b o e => ?_, fun b o e => ?_⟩, os, bare⟩
      · by_cases hb : Tb b
        · obtain ⟨more, hm⟩ := grown b hb
          obtain ⟨p, hp, ep⟩ := hb
          subst ep
          rw [hT p hp] at e
          cases e
          exact .inr (.inl ⟨((C p hp).tab (hT p hp)).isCodeTable, rfl, #[], more, rfl, by rw [Array.empty_append]; exact hm⟩)
        · exact .inl (keep b o hb e)
      · by_cases hb : Tb b
        · obtain ⟨more, hm⟩ := grown b hb
          exact ⟨_, hm⟩
        · exact ⟨o, keep b o hb e⟩
  have dec : ∀ b, Decidable (Tb b) := fun b => Classical.propDecidable _
  match hk : K.lookup a with
  | some o =>
    have e := KX a o hk
    rw [ha] at e
    cases e
    refine main (fun b => @ite _ (Tb b) (dec b) (some (.tbl #[])) none) (fun b hb => if_pos hb) (fun b => ?_) (.inr ⟨_, vs.toArray, _, hk, rfl, rfl, rfl, by rw [List.size_toArray, lv]; exact hl, by simpa using rv⟩) (fun b u z => ?_) fun z => absurd (if_neg aT) z
    · by_cases hb : Tb b
      · exact .inr (.inl hb)
      · exact .inl (if_neg hb)
    · by_cases hb : Tb b
      · cases (if_pos hb).symm.trans z
        exact tbE hb
      · cases (if_neg hb).symm.trans z
  | none =>
    refine main (fun b => if b = a then some (.frz { cls := .type "list", data := .seq vs.toArray } (.lst (ns.map V.int))) else @ite _ (Tb b) (dec b) (some (.tbl #[])) none) (fun b hb => ?_) (fun b => ?_) (.inl (.inr ⟨{ cls := .type "list", data := .seq vs.toArray }, if_pos rfl⟩)) (fun b u z => ?_) fun _ => hk
    · exact (if_neg (show ¬ b = a from fun e => aT (e ▸ hb))).trans (if_pos hb)
    · by_cases hc : b = a
      · exact .inr (.inr ⟨hc, _, _, if_pos hc⟩)
      · by_cases hb : Tb b
        · exact .inr (.inl hb)
        · exact .inl ((if_neg hc).trans (if_neg hb))
    · by_cases hc : b = a
      · cases (if_pos hc).symm.trans z
        subst hc
        exact ⟨ha, by rw [List.length_map]; exact hl, vs, _, rv, ha⟩
      · have z1 := (if_neg hc).symm.trans z
        by_cases hb : Tb b
        · cases (if_pos hb).symm.trans z1
          exact tbE hb
        · cases (if_neg hb).symm.trans z1
/-- what is known of the law's promise at the head's heap -/
structure LawG (l : PySem.W.OpenLaw) (w : World) (K : PySem.W.Frag) (k n : Nat) (x : Str) (mg : Str → Option Value) (fa : Addr) (h : Heap) (fd : FuncData) (cs : List (Addr × Addr)) (sp : Sp) : Prop where
  tab : ∀ p ∈ cs, h.get? p.2 = some empT
  out : ∀ p ∈ cs, K.lookup p.2 = none
  hd : ∀ p ∈ cs, PySem.W.CodeHd h p.1 p.2
  bnd : ∀ (s : Shared) (u : Value), BindsTo s fd ⟨[u], []⟩ [(x, u)]
  say : ∀ (H : Hp) (a : Addr) (ns : List Int), ns.length ≤ n → (∀ p ∈ cs, H p.2 = some (.tbl #[])) → SqL K H a (ns.map V.int) → sp [.ref a] H (fun v _ => v = .bl true) fun _ _ _ => False
  fn : ∀ base : Heap, K.In base → base.Ns mainGlobals mg → (∀ p ∈ cs, LamX.TabB base mg p.1 p.2) → FnG l.prog w K mg base k fa fd [x] sp
theorem walk_ofTG {l : PySem.W.OpenLaw} {n k : Nat} {q : Program} {loose : List Str} {XP : (Str → Option Value) → Heap → Prop} {YP : World → Heap → Prop} {d : DefRec} {K : Params → PySem.W.Frag} {x : Str}
    (hn : l.most = some n) (hn2 : n ≤ sizeLine) (hdf : d.params.defaults = []) (hr : Room k callerA) (hY : ∀ (w : World) (h : Heap), YP w h → (K w.params).In h)
    (F : ∀ (w : World) (mg : Str → Option Value) (fa : Addr) (h : Heap), YP w h → (K w.params).In h → h.Ns mainGlobals mg → mg d.name = some (.ref fa) →
      (∀ (y : Str) (c P : Addr), ((recsOf q).any fun e => e.name == y) = true → PySem.W.tabIn (K w.params) y = some (c, P) → PySem.W.CodeHd h c P ∧ h.get? P = some empT) → ∃ fd cs sp, LawG l w (K w.params) k n x mg fa h fd cs sp) :
    PySem.W.WalkO q loose XP YP l.row.toRowW d [] (fun f vs => PySem.call f vs) :=
  Att.attach_call hn hdf fun w s0 s1 mg mb fa o pm cd doc a vs ns G Y ho hd hcd hmg hobj hints hlen hg => by
    obtain ⟨fd, cs, sp, L⟩ := F w mg fa _ Y (hY w _ Y) G.T.g hmg fun y c P hy ht => by
      obtain ⟨e, he⟩ : ∃ e, (recsOf q).find? (fun e => e.name == y) = some e := by
        rw [← Option.isSome_iff_exists, List.find?_isSome]
        simpa [List.any_eq_true] using hy
      exact PySem.W.tab_of G.T (hY w _ Y) he ht
    exact law_callTG (hY w _ Y) G.T.g G.T.b G.T.builtins G.T.nolimit hg L.tab L.out L.hd G.T.bmain hobj hints (Nat.le_trans hlen hn2) hr L.fn L.bnd fun H hH hS => L.say H a ns hlen hH hS
end HX
set_option Elab.async false
set_option linter.all false
set_option maxRecDepth 100000
/-! heads of large programs: the facts read off an explicit list of addresses; the run's equation by parts -/
namespace HX
open PySem PySem.Spec PyProof.Rows L2
/-! ### error classes with fields -/
def iniA (K : PySem.W.Frag) (x : Str) : Addr := He.ma K (He.ga K x) "__init__"
abbrev IniV : Type := Option (Str × Str × Arguments × FuncBody × Scope × Addr × List Str × Addr)
def iniObs (K : PySem.W.Frag) (x : Str) : IniV := match K.lookup (iniA K x) with
  | some ⟨_, _, .func fd, _⟩ => some (fd.name, fd.qualname, fd.params, fd.body, fd.scope, fd.globals, fd.closure.map (·.1), fd.builtins)
  | _ => none
/-- an error class of the text -/
structure ErD where
  x : Str
  qual : Str
  fields : List Str
  params : Arguments
  body : List Stmt
  scope : Scope
def ErD.val (d : ErD) : IniV := some ("__init__", d.qual, d.params, .stmts d.body, d.scope, mainGlobals, ["__class__"], builtinsNs)
def iniCell (K : PySem.W.Frag) (x : Str) : Addr := match K.lookup (iniA K x) with
  | some ⟨_, _, .func fd, _⟩ => (match fd.closure with
    | [(_, c)] => c
    | _ => 0)
  | _ => 0
def iniCode (K : PySem.W.Frag) (x : Str) : Addr := match K.lookup (iniA K x) with
  | some ⟨_, _, .func fd, _⟩ => (match fd.code with
    | .ref c => c
    | _ => 0)
  | _ => 0
def ErD.nf (K : PySem.W.Frag) (d : ErD) : NdefX.NF := ⟨"__init__", d.qual, d.params, d.body, d.scope, [(("__class__" : Str), iniCell K d.x)], iniCode K d.x⟩
def vNone : Value → Bool
  | .none => true
  | _ => false
theorem vNone_ok {v : Value} (h : vNone v = true) : v = .none := by
  cases v <;> first | rfl | cases h
def vRef : Value → Bool
  | .ref _ => true
  | _ => false
theorem vRef_ok {v : Value} (h : vRef v = true) : ∃ c, v = .ref c := by
  cases v <;> first | exact ⟨_, rfl⟩ | cases h
def iniRest (K : PySem.W.Frag) (x : Str) : Bool := match K.lookup (iniA K x) with
  | some ⟨_, _, .func fd, _⟩ => vNone fd.defaults && (vNone fd.kwdefaults && (fd.annotations.isNone && vRef fd.code))
  | _ => false
theorem ini_ok {K : PySem.W.Frag} {d : ErD} (e : iniObs K d.x = d.val) (h : iniRest K d.x = true) : ∃ oc od doc pm ctv osl, K.lookup (iniA K d.x) = some ⟨oc, od, .func ((d.nf K).fd doc pm ctv), osl⟩ := by
  unfold iniObs at e
  unfold iniRest at h
  unfold ErD.nf iniCell iniCode
  cases q : K.lookup (iniA K d.x) with
  | none =>
    rw [q] at h
    cases h
  | some o =>
    obtain ⟨oc, od, dt, osl⟩ := o
    rw [q] at h e
    cases dt with
    | func fd =>
      obtain ⟨n1, n2, n3, n4, n5, n6, n7, n8, n9, n10, n11, n12, n13, n14, n15⟩ := fd
      have e2 : (some (n1, n2, n3, n4, n5, n6, n7.map (·.1), n15) : IniV) = (some (("__init__" : Str), d.qual, d.params, FuncBody.stmts d.body, d.scope, mainGlobals, [("__class__" : Str)], builtinsNs) : IniV) := e
      simp only [Option.some.injEq, Prod.mk.injEq] at e2
      obtain ⟨h1, h2, h3, h4, h5, h6, h7, h8⟩ := e2
      subst h1 h2 h3 h4 h5 h6 h8
      obtain ⟨k1, h'⟩ := He.ba (show (vNone n8 && (vNone n9 && (n12.isNone && vRef n13))) = true from h)
      obtain ⟨k2, h'⟩ := He.ba h'
      obtain ⟨k3, k4⟩ := He.ba h'
      obtain rfl := vNone_ok k1
      obtain rfl := vNone_ok k2
      obtain ⟨c, rfl⟩ := vRef_ok k4
      cases n12 with
      | some _ => cases k3
      | none =>
        match n7, h7 with
        | [(y, cc)], h7 =>
          have ey : y = ("__class__" : Str) := by
            have : [y] = [("__class__" : Str)] := h7
            exact List.head_eq_of_cons_eq this
          subst ey
          exact ⟨oc, od, n10, n11, n14, osl, rfl⟩
    | _ => cases h
def oexB (K : PySem.W.Frag) (C : Addr) : Bool := (match K.lookup C with
  | some ⟨.type t, _, .cls cd, sl⟩ => (match cd.mro, sl.toList with
    | .ref C' :: bm, [_, _, _, _, some (.builtin n), _] => decide (t = "type") && (decide (C' = C) && (decide (n = "ValueError.__new__") && (!cd.hasDel && (cd.hasDict && PySem.HandSPX.refsVE bm))))
    | _, _ => false)
  | _ => false) && (He.eqO (PySem.W.findIn K (.ref C) "__setattr__") (some (some (.builtin "object.__setattr__"))) && (decide (PySem.W.subIn K (.ref C) (.type "BaseException") = some true) && (decide (PySem.W.typeIn K (.ref C) = some (.type "type")) && PySem.W.keepIn K (.ref C))))
theorem oexB_ok {K : PySem.W.Frag} {C : Addr} (h : oexB K C = true) : OexC K C := by
  obtain ⟨h1, h⟩ := He.ba h
  obtain ⟨h2, h⟩ := He.ba h
  obtain ⟨h3, h⟩ := He.ba h
  obtain ⟨h4, h5⟩ := He.ba h
  refine ⟨?_, He.eqO_ok h2, of_decide_eq_true h3, of_decide_eq_true h4, h5⟩
  clear h2 h3 h4 h5 h
  split at h1
  · rename_i t dd cd sl ho
    split at h1
    · rename_i C' bm k0 k1 k2 k3 n k5 hm hs
      obtain ⟨q1, h1⟩ := He.ba h1
      obtain ⟨q2, h1⟩ := He.ba h1
      obtain ⟨q3, h1⟩ := He.ba h1
      obtain ⟨q4, h1⟩ := He.ba h1
      obtain ⟨q5, q6⟩ := He.ba h1
      have e1 := of_decide_eq_true q1
      have e2 := of_decide_eq_true q2
      have e3 := of_decide_eq_true q3
      obtain ⟨nm, bs, mro, ns, qn, hd, sn, sub, ab, col, del⟩ := cd
      dsimp only at hm q4 q5
      have e4 : del = false := by simpa using q4
      subst e1 e2 e3 e4 hm q5
      have hsl : sl = #[k0, k1, k2, k3, some (.builtin "ValueError.__new__"), k5] := by
        obtain ⟨l⟩ := sl
        simp only at hs
        rw [hs]
      subst hsl
      exact ⟨nm, qn, ns, bs, bm, sn, sub, ab, col, dd, k0, k1, k2, k3, k5, ho, q6⟩
    · cases h1
  · cases h1
def fileB (K : PySem.W.Frag) (c : Addr) : Bool := match K.lookup c with
  | some ⟨_, _, .fields vs, _⟩ => (match (vs : Array Value)[2]? with
    | some (Value.str z _) => decide (z = ("/claim/cut.py" : Str))
    | _ => false)
  | _ => false
theorem fileB_ok {K : PySem.W.Frag} {c : Addr} (h : fileB K c = true) : ∃ (ccl : Value) (cdd : Option Addr) (vs : Array Value) (ccs : Array (Option Value)) (tf : Tok), K.lookup c = some ⟨ccl, cdd, .fields vs, ccs⟩ ∧ vs[2]? = some (.str "/claim/cut.py" tf) := by
  unfold fileB at h
  split at h
  · rename_i ccl cdd vs ccs e
    split at h
    · rename_i z tf e2
      have := of_decide_eq_true h
      subst this
      exact ⟨_, _, _, _, _, e, e2⟩
    · cases h
  · cases h
def cellB (K : PySem.W.Frag) (c C : Addr) : Bool := match K.lookup c with
  | some ⟨_, _, .cell (some (.ref D)), _⟩ => decide (D = C)
  | _ => false
theorem cellB_ok {K : PySem.W.Frag} {c C : Addr} (h : cellB K c C = true) : ∃ cl cld csl, K.lookup c = some ⟨cl, cld, .cell (some (.ref C)), csl⟩ := by
  unfold cellB at h
  split at h
  · rename_i cl cld D csl e
    have := of_decide_eq_true h
    subst this
    exact ⟨_, _, _, e⟩
  · cases h
def ErD.ok1 (K : PySem.W.Frag) (d : ErD) : Bool := oexB K (He.ga K d.x) && (He.eqO (PySem.W.findIn K (.ref (He.ga K d.x)) "__init__") (some (some (.ref (iniA K d.x)))) && (decide (PySem.W.typeIn K (.ref (iniA K d.x)) = some (.type "function")) &&
  ((d.fields.all fun f => He.eqO (PySem.W.findIn K (.ref (He.ga K d.x)) f) (some none)) && (iniRest K d.x && (PySem.W.codeIn K (.ref (iniCode K d.x)) d.qual && (fileB K (iniCode K d.x) && (cellB K (iniCell K d.x) (He.ga K d.x) && He.eqO (PySem.W.nsIn K mainGlobals d.x) (some (some (.ref (He.ga K d.x)))))))))))
def ErD.ok2 (K : PySem.W.Frag) (d : ErD) : Bool := decide (PySem.W.mroIn K (He.ga K d.x) (.ref (He.ga K d.x)) = some true) && (decide (PySem.W.subIn K (.ref (He.ga K d.x)) (.type "ValueError") = some true) && (He.eqO (PySem.W.ks_superIn K (He.ga K d.x) (He.ga K d.x) "__init__") (some (some (.builtin "ValueError.__init__"))) &&
  (He.eqO (PySem.W.findIn K (.ref (He.ga K d.x)) "__getattribute__") (some (some (.builtin "BaseException.__getattribute__"))) && (He.eqO (PySem.W.findIn K (.ref (He.ga K d.x)) "__getattr__") (some none) && (PySem.W.hasDictIn K (He.ga K d.x) &&
  (He.eqO (PySem.W.findIn K (.ref (He.ga K d.x)) "__class__") (some (some (.builtin "object.__class__"))) && (decide (PySem.W.mroIn K (He.ga K d.x) (.type "object") = some true) && (decide (PySem.W.exmOne K (.ref (He.ga K d.x)) (.ref (He.ga K d.x)) = some true) && decide (PySem.W.kitOne K (.ref (He.ga K d.x)) (.type "ValueError") = some true)))))))))
/-- what all error classes lean on -/
def erAll (K : PySem.W.Frag) : Bool := He.eqO (PySem.W.nsIn K cStatics "thirdparty.any") (some none) && (He.eqO (PySem.W.nsIn K mainGlobals "super") (some none) && (He.eqO (PySem.W.specialIn K (.builtin "object.__class__") "__get__") (some (some (.builtin "getset_descriptor.__get__"))) && decide (PySem.W.takesIn K (.builtin "object.__class__") = some true)))
theorem err_ok {K : PySem.W.Frag} {h : Heap} {mg : Str → Option Value} {d : ErD} (X : K.In h) (G : h.Ns mainGlobals mg) (a : erAll K = true) (e : iniObs K d.x = d.val) (k1 : d.ok1 K = true) (k2 : d.ok2 K = true) :
    Err K mg d.x d.fields (He.ga K d.x) (iniA K d.x) (iniCell K d.x) (d.nf K) := by
  obtain ⟨a1, a⟩ := He.ba a
  obtain ⟨a2, a⟩ := He.ba a
  obtain ⟨a3, a4⟩ := He.ba a
  obtain ⟨b1, k1⟩ := He.ba k1
  obtain ⟨b2, k1⟩ := He.ba k1
  obtain ⟨b3, k1⟩ := He.ba k1
  obtain ⟨b4, k1⟩ := He.ba k1
  obtain ⟨b5, k1⟩ := He.ba k1
  obtain ⟨b6, k1⟩ := He.ba k1
  obtain ⟨b7, k1⟩ := He.ba k1
  obtain ⟨b8, b9⟩ := He.ba k1
  obtain ⟨c1, k2⟩ := He.ba k2
  obtain ⟨c2, k2⟩ := He.ba k2
  obtain ⟨c3, k2⟩ := He.ba k2
  obtain ⟨c4, k2⟩ := He.ba k2
  obtain ⟨c5, k2⟩ := He.ba k2
  obtain ⟨c6, k2⟩ := He.ba k2
  obtain ⟨c7, k2⟩ := He.ba k2
  obtain ⟨c8, k2⟩ := He.ba k2
  obtain ⟨c9, c10⟩ := He.ba k2
  have O := oexB_ok b1
  exact {
    g := PySem.W.mg_of X G (He.eqO_ok b9)
    oex := O
    iC := He.eqO_ok b2
    tI := of_decide_eq_true b3
    noF := fun f hf => He.eqO_ok (List.all_eq_true.mp b4 f hf)
    fn := ini_ok e b5
    cd := b6
    file := fileB_ok b7
    cl := rfl
    cell := cellB_ok b8
    sub := of_decide_eq_true c1
    ve := of_decide_eq_true c2
    any := He.eqO_ok a1
    sup := He.eqO_ok c3
    ms := PySem.W.mg_none_of X G (He.eqO_ok a2)
    xf := ⟨He.eqO_ok c4, He.eqO_ok c5, O.exC, c6⟩
    ex := ⟨He.eqO_ok c4, He.eqO_ok c5, O.exC, c6, He.eqO_ok c7, He.eqO_ok a3, of_decide_eq_true a4, of_decide_eq_true c8⟩
    te := of_decide_eq_true c9
    kv := of_decide_eq_true c10 }
/-! ### the Hook -/
abbrev AlK : Type := He.AlD × List IniV × Bool
def obsK (as : List Addr) (fa : List He.Fa) (fn : List He.DefD) (er : List ErD) (tf : List He.Defn) (ex : PySem.W.Frag → Bool) (g : Addr → Option Obj) : AlK :=
  (He.obsD fa fn (He.frT g as), er.map fun d => iniObs (He.frT g as) d.x, (er.all fun d => d.ok1 (He.frT g as) && d.ok2 (He.frT g as)) && (ex (He.frT g as) && He.tabsB g tf (He.frT g as)))
def valK (fn : List He.DefD) (er : List ErD) : AlK := (He.valD fn, er.map ErD.val, true)
structure SaysK (fa : List He.Fa) (fn : List He.DefD) (er : List ErD) (tf : List He.Defn) (ex : PySem.W.Frag → Bool) (h : Heap) (K : PySem.W.Frag) : Prop where
  d : He.SaysD fa fn K
  e : er.map (fun d => iniObs K d.x) = er.map ErD.val
  eok : ∀ d ∈ er, d.ok1 K = true ∧ d.ok2 K = true
  more : ex K = true
  tab : ∀ p ∈ tf, PySem.W.codeHdIn K (He.cT K p).1 (He.cT K p).2 = true ∧ K.lookup (He.cT K p).2 = none ∧ h.get? (He.cT K p).2 = some { cls := .none, data := .fields #[] }
theorem saysK_of {as : List Addr} {fa : List He.Fa} {fn : List He.DefD} {er : List ErD} {tf : List He.Defn} {ex : PySem.W.Frag → Bool} {h : Heap} (z : obsK as fa fn er tf ex h.get? = valK fn er) : SaysK fa fn er tf ex h (He.frT h.get? as) := by
  have z1 : He.obsD fa fn (He.frT h.get? as) = He.valD fn := congrArg (fun u : AlK => u.1) z
  have z2 : er.map (fun d => iniObs (He.frT h.get? as) d.x) = er.map ErD.val := congrArg (fun u : AlK => u.2.1) z
  have z3 : ((er.all fun d => d.ok1 (He.frT h.get? as) && d.ok2 (He.frT h.get? as)) && (ex (He.frT h.get? as) && He.tabsB h.get? tf (He.frT h.get? as))) = true := congrArg (fun u : AlK => u.2.2) z
  obtain ⟨y1, z3⟩ := He.ba z3
  obtain ⟨y2, y3⟩ := He.ba z3
  refine ⟨z1, z2, fun d hd => He.ba (List.all_eq_true.mp y1 d hd), y2, fun p hp => ?_⟩
  obtain ⟨t1, t2⟩ := He.ba (List.all_eq_true.mp y3 p hp)
  revert t2
  generalize hq : h.get? (He.cT (He.frT h.get? as) p).2 = o
  intro t2
  match o, hq, t2 with
  | some o, hq, t2 => exact ⟨t1, He.frT_none hq t2, by rw [He.emptyTab_eq t2]⟩
def hookK (as : List Addr) (fa : List He.Fa) (fn : List He.DefD) (er : List ErD) (tf : List He.Defn) (ex : PySem.W.Frag → Bool) : PySem.W.Hook where
  α := AlK
  obs := fun s => obsK as fa fn er tf ex s.heap.get?
  val := fun _ => valK fn er
  says := fun _ h => ∃ K : PySem.W.Frag, K.In h ∧ SaysK fa fn er tf ex h K
  of := fun _ _ e => ⟨_, He.frT_in, saysK_of e⟩
  keeps := fun _ _ _ ⟨K, hK, c⟩ k => ⟨K, PySem.W.Frag.In.keeps hK k, c.d, c.e, c.eok, c.more, fun p hp => ⟨(c.tab p hp).1, (c.tab p hp).2.1, k _ _ (c.tab p hp).2.2⟩⟩
theorem obsK_eq {as : List Addr} {fa : List He.Fa} {fn : List He.DefD} {er : List ErD} {tf : List He.Defn} {ex : PySem.W.Frag → Bool} {g : Addr → Option Obj} {s : Shared} (h : ∀ a, g a = s.heap.get? a) : obsK as fa fn er tf ex g = (hookK as fa fn er tf ex).obs s := by
  have e : g = s.heap.get? := funext h
  rw [e] <;> rfl
theorem SaysK.ini {fa : List He.Fa} {fn : List He.DefD} {er : List ErD} {tf : List He.Defn} {ex : PySem.W.Frag → Bool} {h : Heap} {K : PySem.W.Frag} (c : SaysK fa fn er tf ex h K) (i : Nat) {d : ErD} (hd : er[i]? = some d) : iniObs K d.x = d.val := by
  have e2 : (er.map fun d => iniObs K d.x)[i]? = (er.map ErD.val)[i]? := by rw [c.e]
  rw [List.getElem?_map, List.getElem?_map, hd] at e2
  exact Option.some.inj e2
/-! ### the run by parts -/
theorem run_join {σ γ β1 β2 β3 β4 β5 β6 β7 β8 β9 : Type} (o : Option σ) (l : σ → Bool) (sq : σ → β1 × β2 × β3 × β4 × β5 × β6 × β7 × β8 × β9) (ob : σ → γ) (good : β1 × β2 × β3 × β4 × β5 × β6 × β7 × β8 × β9) (v : γ)
    (h1 : o.map (fun s => (l s, (sq s).1, (sq s).2.1, (sq s).2.2.2.1)) = some (true, good.1, good.2.1, good.2.2.2.1))
    (h2 : o.map (fun s => ((sq s).2.2.1, (sq s).2.2.2.2.1, (sq s).2.2.2.2.2.1)) = some (good.2.2.1, good.2.2.2.2.1, good.2.2.2.2.2.1))
    (h3 : o.map (fun s => ((sq s).2.2.2.2.2.2.1, (sq s).2.2.2.2.2.2.2.1, (sq s).2.2.2.2.2.2.2.2)) = some (good.2.2.2.2.2.2.1, good.2.2.2.2.2.2.2.1, good.2.2.2.2.2.2.2.2))
    (h4 : o.map ob = some v) : o.map (fun s => (l s, sq s, ob s)) = some (true, good, v) := by
  cases o with
  | none => cases h4
  | some s =>
    have e1 := Option.some.inj h1
    have e2 := Option.some.inj h2
    have e3 := Option.some.inj h3
    have e4 : ob s = v := Option.some.inj h4
    simp only [Prod.mk.injEq] at e1 e2 e3
    obtain ⟨a1, a2, a3, a4⟩ := e1
    obtain ⟨b1, b2, b3⟩ := e2
    obtain ⟨c1, c2, c3⟩ := e3
    show some (l s, sq s, ob s) = some (true, good, v)
    rw [a1, e4]
    congr 2
    exact Prod.ext (Prod.ext a2 (Prod.ext a3 (Prod.ext b1 (Prod.ext a4 (Prod.ext b2 (Prod.ext b3 (Prod.ext c1 (Prod.ext c2 c3)))))))) rfl
/-! ### the end -/
theorem walk_ofGE {l : PySem.W.OpenLaw} {n k : Nat} {q : Program} {loose : List Str} {XP : (Str → Option Value) → Heap → Prop} {YP : World → Heap → Prop} {d : DefRec} {x : Str}
    (hn : l.most = some n) (hn2 : n ≤ sizeLine) (hdf : d.params.defaults = []) (hr : Room k callerA)
    (F : ∀ (w : World) (mg : Str → Option Value) (fa : Addr) (h : Heap), YP w h → h.Ns mainGlobals mg → mg d.name = some (.ref fa) →
      ∃ (K : PySem.W.Frag) (fd : FuncData) (sp : Sp), K.In h ∧ (∀ (s : Shared) (u : Value), BindsTo s fd ⟨[u], []⟩ [(x, u)]) ∧
        (∀ (H : Hp) (a : Addr) (ns : List Int), ns.length ≤ n → Only H → SqL K H a (ns.map V.int) → sp [.ref a] H (fun v _ => v = .bl true) fun _ _ _ => False) ∧
        ∀ base : Heap, K.In base → base.Ns mainGlobals mg → FnG l.prog w K mg base k fa fd [x] sp) :
    PySem.W.WalkO q loose XP YP l.row.toRowW d [] (fun f vs => PySem.call f vs) :=
  Att.attach_call hn hdf fun w s0 s1 mg mb fa o pm cd doc a vs ns G Y ho hd hcd hmg hobj hints hlen hg => by
    obtain ⟨K, fd, sp, KX, hb, hsp, hF⟩ := F w mg fa _ Y G.T.g hmg
    exact law_callG KX G.T.g G.T.b G.T.builtins G.T.nolimit hg hobj hints (Nat.le_trans hlen hn2) hr hF hb fun H hO hS => hsp H a ns hlen hO hS
/-! ### facts of an own class, by truth values -/
def cmpB (K : PySem.W.Frag) (C : Addr) (op : CmpOp) (g : Addr) : Bool := He.eqO (PySem.W.findIn K (.ref C) (cmpInfo op).2.1) (some (some (.ref g))) && (PySem.W.isFn K (.ref g) && (PySem.W.notFirst K C (.type "int") && PySem.W.notFirst K C (.ref C)))
theorem cmpB_ok {K : PySem.W.Frag} {C g : Addr} {op : CmpOp} (h : cmpB K C op g = true) : CmpOwn K C op g := by
  obtain ⟨h1, h⟩ := He.ba h
  obtain ⟨h2, h⟩ := He.ba h
  obtain ⟨h3, h4⟩ := He.ba h
  exact ⟨He.eqO_ok h1, h2, h3, h4⟩
def neB (K : PySem.W.Frag) (C : Addr) : Bool := He.eqO (PySem.W.findIn K (.ref C) "__ne__") (some (some (.builtin "object.__ne__"))) && decide (PySem.W.subIn K (.ref C) (.type "object") = some true)
theorem neB_ok {K : PySem.W.Frag} {C : Addr} (h : neB K C = true) : NeOwn K C := by
  obtain ⟨h1, h2⟩ := He.ba h
  exact ⟨He.eqO_ok h1, of_decide_eq_true h2⟩
def isiB (K : PySem.W.Frag) (C : Addr) : Bool := He.eqO (PySem.W.findIn K (.ref C) "__class__") (some (some (.builtin "object.__class__"))) && (He.eqO (PySem.W.specialIn K (.builtin "object.__class__") "__get__") (some (some (.builtin "getset_descriptor.__get__"))) &&
  (decide (PySem.W.takesIn K (.builtin "object.__class__") = some true) && (decide (PySem.W.mroIn K C (.type "object") = some true) && (decide (PySem.W.kitOne K (.ref C) (.ref C) = some true) && (decide (PySem.W.kitOne K (.ref C) (.type "int") = some false) &&
  (decide (PySem.W.kitOne K (.ref C) (.type "tuple") = some false) && (decide (PySem.W.kitOne K (.ref C) (.type "bool") = some false) && (decide (PySem.W.kitOne K (.type "int") (.ref C) = some false) && (decide (PySem.W.kitOne K (.type "bool") (.ref C) = some false) &&
  (decide (PySem.W.kitOne K (.type "NoneType") (.ref C) = some false) && (decide (PySem.W.kitOne K (.type "str") (.ref C) = some false) && (decide (PySem.W.kitOne K (.type "tuple") (.ref C) = some false) && (decide (PySem.W.kitOne K (.type "list") (.ref C) = some false) &&
  decide (PySem.W.kitOne K (.type "dict") (.ref C) = some false))))))))))))))
theorem isiB_ok {K : PySem.W.Frag} {C : Addr} (h : isiB K C = true) : IsiOwn K C := by
  obtain ⟨h1, h⟩ := He.ba h
  obtain ⟨h2, h⟩ := He.ba h
  obtain ⟨h3, h⟩ := He.ba h
  obtain ⟨h4, h⟩ := He.ba h
  obtain ⟨h5, h⟩ := He.ba h
  obtain ⟨h6, h⟩ := He.ba h
  obtain ⟨h7, h⟩ := He.ba h
  obtain ⟨h8, h⟩ := He.ba h
  obtain ⟨h9, h⟩ := He.ba h
  obtain ⟨h10, h⟩ := He.ba h
  obtain ⟨h11, h⟩ := He.ba h
  obtain ⟨h12, h⟩ := He.ba h
  obtain ⟨h13, h⟩ := He.ba h
  obtain ⟨h14, h15⟩ := He.ba h
  exact ⟨He.eqO_ok h1, He.eqO_ok h2, of_decide_eq_true h3, of_decide_eq_true h4, of_decide_eq_true h5, of_decide_eq_true h6, of_decide_eq_true h7, of_decide_eq_true h8, of_decide_eq_true h9, of_decide_eq_true h10, of_decide_eq_true h11, of_decide_eq_true h12, of_decide_eq_true h13, of_decide_eq_true h14, of_decide_eq_true h15⟩
end HX
set_option Elab.async false
set_option linter.all false
set_option maxRecDepth 100000
namespace HX
open PySem PySem.Spec PyProof.Rows L2
def refO : Option (Option Value) → Bool
  | some none => true
  | some (some (.ref _)) => true
  | _ => false
theorem refO_ok {o : Option (Option Value)} (h : refO o = true) : ∃ rc, o = some rc ∧ (rc = none ∨ ∃ g : Addr, rc = some (.ref g)) := by
  match o, h with
  | some none, _ => exact ⟨none, rfl, .inl rfl⟩
  | some (some (.ref g)), _ => exact ⟨_, rfl, .inr ⟨g, rfl⟩⟩
/-- an operator of an own class, by a truth value -/
def opB (K : PySem.W.Frag) (C : Addr) (op : Operator) (g : Addr) : Bool := PySem.W.selfFirst K C && (He.eqO (PySem.W.findIn K (.ref C) (PySem.dunder op.info.2)) (some (some (.ref g))) && (PySem.W.isFn K (.ref g) && (refO (PySem.W.findIn K (.ref C) (dunderR op.info.2)) &&
  ((PySem.W.findIn K (.type "int") (PySem.dunder op.info.2)).isSome && ((PySem.W.findIn K (.type "int") (dunderR op.info.2)).isSome && decide (PySem.W.subIn K (.type "int") (.ref C) = some false))))))
theorem opB_ok {K : PySem.W.Frag} {C g : Addr} {op : Operator} (h : opB K C op g = true) : OpOwn K C op g := by
  obtain ⟨h1, h⟩ := He.ba h
  obtain ⟨h2, h⟩ := He.ba h
  obtain ⟨h3, h⟩ := He.ba h
  obtain ⟨h4, h⟩ := He.ba h
  obtain ⟨h5, h⟩ := He.ba h
  obtain ⟨h6, h7⟩ := He.ba h
  exact ⟨h1, He.eqO_ok h2, h3, refO_ok h4, Option.isSome_iff_exists.mp h5, Option.isSome_iff_exists.mp h6, of_decide_eq_true h7⟩
end HX
set_option Elab.async false
set_option linter.all false
set_option maxRecDepth 100000
/-! x[i] of an instance of an own class with a def of its own for it -/
namespace RC
open PySem PySem.Spec PyProof.Rows L2 HX PySem.Calls
structure ItOwn (K : PySem.W.Frag) (C g : Addr) : Prop where
  hs : PySem.W.findIn K (.ref C) "__getitem__" = some (some (.ref g))
  hf : PySem.W.fnIn K g = true
  hn : PySem.W.isFn K (.ref g) = true
def rIxOwn (C : Addr) (sp : Sp) (E : XK) : R2 := fun x y H Q => ∃ a dx fs, x = .ref a ∧ H a = some (.ins C dx fs) ∧ sp [.ref a, y] H Q E
/-- what stands as an index of a plain subscript of an own instance -/
def PlainIxT (b : Expr) : Prop := ∀ o i, subscripted b true o i = runValue (.builtin "lifetime.subscript" ⟨[o, i], []⟩)
section
variable {X : Cx} {CX : CXT} {E : XK} {C g : Addr} {k : Nat} {fd : FuncData} {ps : List Str} {sp : Sp} {a b : Expr} {ta tb : TE} {pos : Pos}
theorem pe_ixOwn (O : ItOwn X.K C g) (F : FnOk X.prog X.w X.K X.mg X.base CX k g fd ps sp) (hr : Room (k + 1) X.A) (hb : L2.Binds X.K fd ps []) (hx : Passes CX X E) (ha : PE X a ta) (hi : PE X b tb) (hs : PlainIxT b) :
    PE X (.Subscript a b pos) (tOp (rIxOwn C sp E) ta tb) := by
  refine ⟨fun pins s σ H Q I h => ?_⟩
  refine Subscript_ (binT ha hi I h fun v u s2 x y H2 I2 rx ry q => ?_)
  obtain ⟨p, dx, fs, rfl, hp, q⟩ := q
  cases (show v = Value.ref p from rx)
  obtain ⟨mA, OM, _⟩ := ins_get I2.hok hp
  obtain ⟨od, J, _⟩ := OM.look
  obtain ⟨m, hF⟩ := I2.fr
  have hr1 : Room k X.A.in1 := Room.in1 hr
  refine PySem.W.sub_K hF I2.ok.mod.kin J O.hs O.hf O.hn ?_ (hs _ _)
  refine wpAny_mono (wpAny_call (SlX.run_at (us := [.ref p, u]) (ws := [.ref p, y]) (sp := fun vs H Q E => sp (vs ++ []) H Q E) (Q := Q) (F.raw hb .nil) hr1 I2.env0.in1 hx I2 (.cons rfl (.cons ry .nil)) q)) (fun w s' z => ?_) fun _ _ x => x
  obtain ⟨z', H', I', rz, qz⟩ := z
  exact ⟨z', H', I', rz, qz⟩
end
def itB (K : PySem.W.Frag) (C g : Addr) : Bool := He.eqO (PySem.W.findIn K (.ref C) "__getitem__") (some (some (.ref g))) && (PySem.W.fnIn K g && PySem.W.isFn K (.ref g))
theorem itB_ok {K : PySem.W.Frag} {C g : Addr} (h : itB K C g = true) : ItOwn K C g := by
  obtain ⟨h1, h⟩ := He.ba h
  obtain ⟨h2, h3⟩ := He.ba h
  exact ⟨He.eqO_ok h1, h2, h3⟩
end RC
set_option Elab.async false
set_option linter.all false
set_option maxRecDepth 100000
namespace K37
open PySem PySem.Spec PyProof.Rows L2
def topS (i : Nat) : Stmt := PySem.Challenge.pw_farbits_k37_whole_ranks_at_far_places.main.body.getD i (.Pass ⟨0, 0, 0, 0⟩)
abbrev s_turns_of_int : Stmt := topS 27
theorem sc_turns_of_int : FnScope ["number", "marks", "found", "lowest"] ["number"] (defScope s_turns_of_int) := ⟨rfl, rfl, rfl, by decide +kernel, rfl, by decide +kernel, by decide +kernel⟩
abbrev s_turns : Stmt := topS 28
theorem sc_turns : FnScope ["x"] ["x"] (defScope s_turns) := ⟨rfl, rfl, rfl, by decide +kernel, rfl, by decide +kernel, by decide +kernel⟩
abbrev s_made : Stmt := topS 30
theorem sc_made : FnScope ["found", "last", "number", "at", "place"] ["found"] (defScope s_made) := ⟨rfl, rfl, rfl, by decide +kernel, rfl, by decide +kernel, by decide +kernel⟩
abbrev s_of_int : Stmt := topS 31
theorem sc_of_int : FnScope ["number"] ["number"] (defScope s_of_int) := ⟨rfl, rfl, rfl, by decide +kernel, rfl, by decide +kernel, by decide +kernel⟩
abbrev s_negative : Stmt := topS 32
theorem sc_negative : FnScope ["x"] ["x"] (defScope s_negative) := ⟨rfl, rfl, rfl, by decide +kernel, rfl, by decide +kernel, by decide +kernel⟩
abbrev s_order : Stmt := topS 33
theorem sc_order : FnScope ["x", "y", "ours", "theirs", "common", "most", "side"] ["x", "y"] (defScope s_order) := ⟨rfl, rfl, rfl, by decide +kernel, rfl, by decide +kernel, by decide +kernel⟩
abbrev s_bit : Stmt := topS 34
theorem sc_bit : FnScope ["x", "place", "passed", "turn"] ["x", "place"] (defScope s_bit) := ⟨rfl, rfl, rfl, by decide +kernel, rfl, by decide +kernel, by decide +kernel⟩
abbrev s_merged : Stmt := topS 35
theorem sc_merged : FnScope ["ours", "theirs", "rows", "i", "j", "side"] ["ours", "theirs"] (defScope s_merged) := ⟨rfl, rfl, rfl, by decide +kernel, rfl, by decide +kernel, by decide +kernel⟩
abbrev s_combined : Stmt := topS 36
theorem sc_combined : FnScope ["x", "y", "table", "found", "ours", "theirs", "before", "place", "mine", "other", "here"] ["x", "y", "table"] (defScope s_combined) := ⟨rfl, rfl, rfl, by decide +kernel, rfl, by decide +kernel, by decide +kernel⟩
abbrev s_toggled : Stmt := topS 37
theorem sc_toggled : FnScope ["found", "place", "at"] ["found", "place"] (defScope s_toggled) := ⟨rfl, rfl, rfl, by decide +kernel, rfl, by decide +kernel, by decide +kernel⟩
abbrev s_plus_one : Stmt := topS 38
theorem sc_plus_one : FnScope ["x"] ["x"] (defScope s_plus_one) := ⟨rfl, rfl, rfl, by decide +kernel, rfl, by decide +kernel, by decide +kernel⟩
abbrev s_inverted : Stmt := topS 39
theorem sc_inverted : FnScope ["x"] ["x"] (defScope s_inverted) := ⟨rfl, rfl, rfl, by decide +kernel, rfl, by decide +kernel, by decide +kernel⟩
abbrev s_negated : Stmt := topS 40
theorem sc_negated : FnScope ["x"] ["x"] (defScope s_negated) := ⟨rfl, rfl, rfl, by decide +kernel, rfl, by decide +kernel, by decide +kernel⟩
abbrev s_total : Stmt := topS 41
theorem sc_total : FnScope ["x", "y", "carry", "rows", "found", "ours", "theirs", "before", "at", "place", "mine", "other", "here", "rest", "following"] ["x", "y", "carry"] (defScope s_total) := ⟨rfl, rfl, rfl, by decide +kernel, rfl, by decide +kernel, by decide +kernel⟩
abbrev s_minus : Stmt := topS 42
theorem sc_minus : FnScope ["x", "y"] ["x", "y"] (defScope s_minus) := ⟨rfl, rfl, rfl, by decide +kernel, rfl, by decide +kernel, by decide +kernel⟩
abbrev s_power_of_two : Stmt := topS 46
theorem sc_power_of_two : FnScope ["place"] ["place"] (defScope s_power_of_two) := ⟨rfl, rfl, rfl, by decide +kernel, rfl, by decide +kernel, by decide +kernel⟩
abbrev s_size : Stmt := topS 50
theorem sc_size : FnScope ["x", "turn"] ["x"] (defScope s_size) := ⟨rfl, rfl, rfl, by decide +kernel, rfl, by decide +kernel, by decide +kernel⟩
abbrev s_height : Stmt := topS 51
theorem sc_height : FnScope ["x", "greatest", "turn"] ["x"] (defScope s_height) := ⟨rfl, rfl, rfl, by decide +kernel, rfl, by decide +kernel, by decide +kernel⟩
abbrev s_kept : Stmt := topS 52
theorem sc_kept : FnScope ["x", "parts", "levels"] ["x"] (defScope s_kept) := ⟨rfl, rfl, rfl, by decide +kernel, rfl, by decide +kernel, by decide +kernel⟩
abbrev s_order_of : Stmt := topS 56
theorem sc_order_of : FnScope ["x", "y"] ["x", "y"] (defScope s_order_of) := ⟨rfl, rfl, rfl, by decide +kernel, rfl, by decide +kernel, by decide +kernel⟩
abbrev s_bit_of : Stmt := topS 57
theorem sc_bit_of : FnScope ["x", "p"] ["x", "p"] (defScope s_bit_of) := ⟨rfl, rfl, rfl, by decide +kernel, rfl, by decide +kernel, by decide +kernel⟩
abbrev s_is_int : Stmt := topS 101
theorem sc_is_int : FnScope ["value"] ["value"] (defScope s_is_int) := ⟨rfl, rfl, rfl, by decide +kernel, rfl, by decide +kernel, by decide +kernel⟩
abbrev s_row_form : Stmt := topS 102
theorem sc_row_form : FnScope ["members", "found", "at", "member", "form"] ["members"] (defScope s_row_form) := ⟨rfl, rfl, rfl, by decide +kernel, rfl, by decide +kernel, by decide +kernel⟩
abbrev s_given_form : Stmt := topS 103
theorem sc_given_form : FnScope ["value"] ["value"] (defScope s_given_form) := ⟨rfl, rfl, rfl, by decide +kernel, rfl, by decide +kernel, by decide +kernel⟩
abbrev s_operand : Stmt := topS 104
theorem sc_operand : FnScope ["value"] ["value"] (defScope s_operand) := ⟨rfl, rfl, rfl, by decide +kernel, rfl, by decide +kernel, by decide +kernel⟩
abbrev s_number_form : Stmt := topS 105
theorem sc_number_form : FnScope ["value", "found"] ["value"] (defScope s_number_form) := ⟨rfl, rfl, rfl, by decide +kernel, rfl, by decide +kernel, by decide +kernel⟩
abbrev s_place_form : Stmt := topS 106
theorem sc_place_form : FnScope ["value", "found"] ["value"] (defScope s_place_form) := ⟨rfl, rfl, rfl, by decide +kernel, rfl, by decide +kernel, by decide +kernel⟩
abbrev s_sum_of_ones : Stmt := topS 111
theorem sc_sum_of_ones : FnScope ["rows", "found", "at", "turn"] ["rows"] (defScope s_sum_of_ones) := ⟨rfl, rfl, rfl, by decide +kernel, rfl, by decide +kernel, by decide +kernel⟩
abbrev s_count_below : Stmt := topS 112
theorem sc_count_below : FnScope ["x", "place", "rows", "turn"] ["x", "place"] (defScope s_count_below) := ⟨rfl, rfl, rfl, by decide +kernel, rfl, by decide +kernel, by decide +kernel⟩
abbrev s_one_at_or_after : Stmt := topS 113
theorem sc_one_at_or_after : FnScope ["x", "place", "turn"] ["x", "place"] (defScope s_one_at_or_after) := ⟨rfl, rfl, rfl, by decide +kernel, rfl, by decide +kernel, by decide +kernel⟩
abbrev s_far_or_none : Stmt := topS 114
theorem sc_far_or_none : FnScope ["form"] ["form"] (defScope s_far_or_none) := ⟨rfl, rfl, rfl, by decide +kernel, rfl, by decide +kernel, by decide +kernel⟩
abbrev s_ones_below : Stmt := topS 115
theorem sc_ones_below : FnScope ["x", "p", "ours"] ["x", "p"] (defScope s_ones_below) := ⟨rfl, rfl, rfl, by decide +kernel, rfl, by decide +kernel, by decide +kernel⟩
abbrev s_zeros_below : Stmt := topS 116
theorem sc_zeros_below : FnScope ["x", "p", "ours"] ["x", "p"] (defScope s_zeros_below) := ⟨rfl, rfl, rfl, by decide +kernel, rfl, by decide +kernel, by decide +kernel⟩
abbrev s_one_from : Stmt := topS 117
theorem sc_one_from : FnScope ["x", "p", "ours"] ["x", "p"] (defScope s_one_from) := ⟨rfl, rfl, rfl, by decide +kernel, rfl, by decide +kernel, by decide +kernel⟩
abbrev s_zero_from : Stmt := topS 118
theorem sc_zero_from : FnScope ["x", "p", "ours"] ["x", "p"] (defScope s_zero_from) := ⟨rfl, rfl, rfl, by decide +kernel, rfl, by decide +kernel, by decide +kernel⟩
abbrev s__law_pen : Stmt := topS 120
theorem sc__law_pen : FnScope ["_law_script"] ["_law_script"] (defScope s__law_pen) := ⟨rfl, rfl, rfl, by decide +kernel, rfl, by decide +kernel, by decide +kernel⟩
abbrev s__law_draw : Stmt := topS 121
theorem sc__law_draw : FnScope ["_law_pen_here", "_law_number", "_law_digit", "_law_at", "_law_cell", "_law_mixed"] ["_law_pen_here", "_law_number"] (defScope s__law_draw) := ⟨rfl, rfl, rfl, by decide +kernel, rfl, by decide +kernel, by decide +kernel⟩
abbrev s__law_pick : Stmt := topS 122
theorem sc__law_pick : FnScope ["_law_pen_here", "_law_items"] ["_law_pen_here", "_law_items"] (defScope s__law_pick) := ⟨rfl, rfl, rfl, by decide +kernel, rfl, by decide +kernel, by decide +kernel⟩
abbrev s__law_turns : Stmt := topS 123
theorem sc__law_turns : FnScope ["_law_number", "_law_found", "_law_before", "_law_at"] ["_law_number"] (defScope s__law_turns) := ⟨rfl, rfl, rfl, by decide +kernel, rfl, by decide +kernel, by decide +kernel⟩
abbrev s__law_row : Stmt := topS 124
theorem sc__law_row : FnScope ["_law_spec", "_law_more"] ["_law_spec", "_law_more"] (defScope s__law_row) := ⟨rfl, rfl, rfl, by decide +kernel, rfl, by decide +kernel, by decide +kernel⟩
abbrev s__law_written : Stmt := topS 125
theorem sc__law_written : FnScope ["_law_specs_here", "_law_parts_here", "_law_found", "_law_below", "_law_index", "_law_here", "_law_some", "_law_one"] ["_law_specs_here", "_law_parts_here"] (defScope s__law_written) := ⟨rfl, rfl, rfl, by decide +kernel, rfl, by decide +kernel, by decide +kernel⟩
abbrev s__law_specs : Stmt := topS 126
theorem sc__law_specs : FnScope ["_law_pen_here", "_law_limit", "_law_menu", "_law_found", "_law_index"] ["_law_pen_here", "_law_limit"] (defScope s__law_specs) := ⟨rfl, rfl, rfl, by decide +kernel, rfl, by decide +kernel, by decide +kernel⟩
abbrev s__law_parts : Stmt := topS 127
theorem sc__law_parts : FnScope ["_law_pen_here", "_law_specs_here", "_law_one"] ["_law_pen_here", "_law_specs_here"] (defScope s__law_parts) := ⟨rfl, rfl, rfl, by decide +kernel, rfl, by decide +kernel, by decide +kernel⟩
abbrev s__law_spots : Stmt := topS 128
theorem sc__law_spots : FnScope ["_law_specs_here", "_law_parts_here", "_law_none", "_law_found", "_law_below", "_law_one", "_law_index", "_law_here", "_law_some", "_law_tower"] ["_law_specs_here", "_law_parts_here"] (defScope s__law_spots) := ⟨rfl, rfl, rfl, by decide +kernel, rfl, by decide +kernel, by decide +kernel⟩
abbrev s__law_plus : Stmt := topS 129
theorem sc__law_plus : FnScope ["_law_one", "_law_second", "_law_times", "_law_index"] ["_law_one", "_law_second", "_law_times"] (defScope s__law_plus) := ⟨rfl, rfl, rfl, by decide +kernel, rfl, by decide +kernel, by decide +kernel⟩
abbrev s__law_less : Stmt := topS 130
theorem sc__law_less : FnScope ["_law_one", "_law_second"] ["_law_one", "_law_second"] (defScope s__law_less) := ⟨rfl, rfl, rfl, by decide +kernel, rfl, by decide +kernel, by decide +kernel⟩
abbrev s__law_lengths : Stmt := topS 131
theorem sc__law_lengths : FnScope ["_law_rows", "_law_behind", "_law_found", "_law_index"] ["_law_rows", "_law_behind"] (defScope s__law_lengths) := ⟨rfl, rfl, rfl, by decide +kernel, rfl, by decide +kernel, by decide +kernel⟩
abbrev s__law_inner : Stmt := topS 132
theorem sc__law_inner : FnScope ["_law_specs_here", "_law_one"] ["_law_specs_here"] (defScope s__law_inner) := ⟨rfl, rfl, rfl, by decide +kernel, rfl, by decide +kernel, by decide +kernel⟩
abbrev s__law_place : Stmt := topS 133
theorem sc__law_place : FnScope ["_law_pen_here", "_law_rows", "_law_wide", "_law_few", "_law_found"] ["_law_pen_here", "_law_rows", "_law_wide"] (defScope s__law_place) := ⟨rfl, rfl, rfl, by decide +kernel, rfl, by decide +kernel, by decide +kernel⟩
abbrev s__law_next : Stmt := topS 134
theorem sc__law_next : FnScope ["_law_rows", "_law_place_here", "_law_way", "_law_passed", "_law_one", "_law_behind"] ["_law_rows", "_law_place_here", "_law_way"] (defScope s__law_next) := ⟨rfl, rfl, rfl, by decide +kernel, rfl, by decide +kernel, by decide +kernel⟩
abbrev s__law_is_at : Stmt := topS 135
theorem sc__law_is_at : FnScope ["_law_inner_here", "_law_told", "_law_due"] ["_law_inner_here", "_law_told", "_law_due"] (defScope s__law_is_at) := ⟨rfl, rfl, rfl, by decide +kernel, rfl, by decide +kernel, by decide +kernel⟩
abbrev s_law : Stmt := topS 136
theorem sc_law : FnScope ["_law_script", "_law_pen_here", "_law_specs_here", "_law_parts_here", "_law_inner_here", "_law_number", "_law_rows", "_law_again", "_law_place_here", "_law_spot", "_law_due", "_law_one", "_law_told"] ["_law_script"] (defScope s_law) := ⟨rfl, rfl, rfl, by decide +kernel, rfl, by decide +kernel, by decide +kernel⟩
abbrev s_Far___init__ : Stmt := inClass (topS 109) 0
theorem sc_Far___init__ : FnScope ["self", "value"] ["self", "value"] (defScope s_Far___init__) := ⟨rfl, rfl, rfl, by decide +kernel, rfl, by decide +kernel, by decide +kernel⟩
abbrev s_Far___eq__ : Stmt := inClass (topS 109) 35
theorem sc_Far___eq__ : FnScope ["self", "other", "given"] ["self", "other"] (defScope s_Far___eq__) := ⟨rfl, rfl, rfl, by decide +kernel, rfl, by decide +kernel, by decide +kernel⟩
abbrev s_Far___getitem__ : Stmt := inClass (topS 109) 41
theorem sc_Far___getitem__ : FnScope ["self", "place"] ["self", "place"] (defScope s_Far___getitem__) := ⟨rfl, rfl, rfl, by decide +kernel, rfl, by decide +kernel, by decide +kernel⟩
set_option maxHeartbeats 8000000 in
structure Top (K : PySem.W.Frag) (mg : Str → Option Value) where
  f_turns_of_int : Addr
  fd_turns_of_int : FuncData
  F_turns_of_int : Fun K "turns_of_int" "turns_of_int" s_turns_of_int f_turns_of_int fd_turns_of_int
  g_turns_of_int : mg "turns_of_int" = some (.ref f_turns_of_int)
  b_turns_of_int : Binds K fd_turns_of_int ["number"] []
  f_turns : Addr
  fd_turns : FuncData
  F_turns : Fun K "turns" "turns" s_turns f_turns fd_turns
  g_turns : mg "turns_raw" = some (.ref f_turns)
  b_turns : Binds K fd_turns ["x"] []
  f_made : Addr
  fd_made : FuncData
  F_made : Fun K "made" "made" s_made f_made fd_made
  g_made : mg "made" = some (.ref f_made)
  b_made : Binds K fd_made ["found"] []
  f_of_int : Addr
  fd_of_int : FuncData
  F_of_int : Fun K "of_int" "of_int" s_of_int f_of_int fd_of_int
  g_of_int : mg "of_int" = some (.ref f_of_int)
  b_of_int : Binds K fd_of_int ["number"] []
  f_negative : Addr
  fd_negative : FuncData
  F_negative : Fun K "negative" "negative" s_negative f_negative fd_negative
  g_negative : mg "negative" = some (.ref f_negative)
  b_negative : Binds K fd_negative ["x"] []
  f_order : Addr
  fd_order : FuncData
  F_order : Fun K "order" "order" s_order f_order fd_order
  g_order : mg "order" = some (.ref f_order)
  b_order : Binds K fd_order ["x", "y"] []
  f_bit : Addr
  fd_bit : FuncData
  F_bit : Fun K "bit" "bit" s_bit f_bit fd_bit
  g_bit : mg "bit" = some (.ref f_bit)
  b_bit : Binds K fd_bit ["x", "place"] []
  f_merged : Addr
  fd_merged : FuncData
  F_merged : Fun K "merged" "merged" s_merged f_merged fd_merged
  g_merged : mg "merged" = some (.ref f_merged)
  b_merged : Binds K fd_merged ["ours", "theirs"] []
  f_combined : Addr
  fd_combined : FuncData
  F_combined : Fun K "combined" "combined" s_combined f_combined fd_combined
  g_combined : mg "combined" = some (.ref f_combined)
  b_combined : Binds K fd_combined ["x", "y", "table"] []
  f_toggled : Addr
  fd_toggled : FuncData
  F_toggled : Fun K "toggled" "toggled" s_toggled f_toggled fd_toggled
  g_toggled : mg "toggled" = some (.ref f_toggled)
  b_toggled : Binds K fd_toggled ["found", "place"] []
  f_plus_one : Addr
  fd_plus_one : FuncData
  F_plus_one : Fun K "plus_one" "plus_one" s_plus_one f_plus_one fd_plus_one
  g_plus_one : mg "plus_one" = some (.ref f_plus_one)
  b_plus_one : Binds K fd_plus_one ["x"] []
  f_inverted : Addr
  fd_inverted : FuncData
  F_inverted : Fun K "inverted" "inverted" s_inverted f_inverted fd_inverted
  g_inverted : mg "inverted" = some (.ref f_inverted)
  b_inverted : Binds K fd_inverted ["x"] []
  f_negated : Addr
  fd_negated : FuncData
  F_negated : Fun K "negated" "negated" s_negated f_negated fd_negated
  g_negated : mg "negated" = some (.ref f_negated)
  b_negated : Binds K fd_negated ["x"] []
  f_total : Addr
  fd_total : FuncData
  F_total : Fun K "total" "total" s_total f_total fd_total
  g_total : mg "total" = some (.ref f_total)
  b_total : Binds K fd_total ["x", "y", "carry"] []
  f_minus : Addr
  fd_minus : FuncData
  F_minus : Fun K "minus" "minus" s_minus f_minus fd_minus
  g_minus : mg "minus" = some (.ref f_minus)
  b_minus : Binds K fd_minus ["x", "y"] []
  f_power_of_two : Addr
  fd_power_of_two : FuncData
  F_power_of_two : Fun K "power_of_two" "power_of_two" s_power_of_two f_power_of_two fd_power_of_two
  g_power_of_two : mg "power_of_two" = some (.ref f_power_of_two)
  b_power_of_two : Binds K fd_power_of_two ["place"] []
  f_size : Addr
  fd_size : FuncData
  F_size : Fun K "size" "size" s_size f_size fd_size
  g_size : mg "size" = some (.ref f_size)
  b_size : Binds K fd_size ["x"] []
  f_height : Addr
  fd_height : FuncData
  F_height : Fun K "height" "height" s_height f_height fd_height
  g_height : mg "height" = some (.ref f_height)
  b_height : Binds K fd_height ["x"] []
  f_kept : Addr
  fd_kept : FuncData
  F_kept : Fun K "kept" "kept" s_kept f_kept fd_kept
  g_kept : mg "kept" = some (.ref f_kept)
  b_kept : Binds K fd_kept ["x"] []
  f_order_of : Addr
  fd_order_of : FuncData
  F_order_of : Fun K "order_of" "order_of" s_order_of f_order_of fd_order_of
  g_order_of : mg "order_of" = some (.ref f_order_of)
  b_order_of : Binds K fd_order_of ["x", "y"] []
  f_bit_of : Addr
  fd_bit_of : FuncData
  F_bit_of : Fun K "bit_of" "bit_of" s_bit_of f_bit_of fd_bit_of
  g_bit_of : mg "bit_of" = some (.ref f_bit_of)
  b_bit_of : Binds K fd_bit_of ["x", "p"] []
  f_is_int : Addr
  fd_is_int : FuncData
  F_is_int : Fun K "is_int" "is_int" s_is_int f_is_int fd_is_int
  g_is_int : mg "is_int" = some (.ref f_is_int)
  b_is_int : Binds K fd_is_int ["value"] []
  f_row_form : Addr
  fd_row_form : FuncData
  F_row_form : Fun K "row_form" "row_form" s_row_form f_row_form fd_row_form
  g_row_form : mg "row_form" = some (.ref f_row_form)
  b_row_form : Binds K fd_row_form ["members"] []
  f_given_form : Addr
  fd_given_form : FuncData
  F_given_form : Fun K "given_form" "given_form" s_given_form f_given_form fd_given_form
  g_given_form : mg "given_form" = some (.ref f_given_form)
  b_given_form : Binds K fd_given_form ["value"] []
  f_operand : Addr
  fd_operand : FuncData
  F_operand : Fun K "operand" "operand" s_operand f_operand fd_operand
  g_operand : mg "operand" = some (.ref f_operand)
  b_operand : Binds K fd_operand ["value"] []
  f_number_form : Addr
  fd_number_form : FuncData
  F_number_form : Fun K "number_form" "number_form" s_number_form f_number_form fd_number_form
  g_number_form : mg "number_form" = some (.ref f_number_form)
  b_number_form : Binds K fd_number_form ["value"] []
  f_place_form : Addr
  fd_place_form : FuncData
  F_place_form : Fun K "place_form" "place_form" s_place_form f_place_form fd_place_form
  g_place_form : mg "place_form" = some (.ref f_place_form)
  b_place_form : Binds K fd_place_form ["value"] []
  f_sum_of_ones : Addr
  fd_sum_of_ones : FuncData
  F_sum_of_ones : Fun K "sum_of_ones" "sum_of_ones" s_sum_of_ones f_sum_of_ones fd_sum_of_ones
  g_sum_of_ones : mg "sum_of_ones" = some (.ref f_sum_of_ones)
  b_sum_of_ones : Binds K fd_sum_of_ones ["rows"] []
  f_count_below : Addr
  fd_count_below : FuncData
  F_count_below : Fun K "count_below" "count_below" s_count_below f_count_below fd_count_below
  g_count_below : mg "count_below" = some (.ref f_count_below)
  b_count_below : Binds K fd_count_below ["x", "place"] []
  f_one_at_or_after : Addr
  fd_one_at_or_after : FuncData
  F_one_at_or_after : Fun K "one_at_or_after" "one_at_or_after" s_one_at_or_after f_one_at_or_after fd_one_at_or_after
  g_one_at_or_after : mg "one_at_or_after" = some (.ref f_one_at_or_after)
  b_one_at_or_after : Binds K fd_one_at_or_after ["x", "place"] []
  f_far_or_none : Addr
  fd_far_or_none : FuncData
  F_far_or_none : Fun K "far_or_none" "far_or_none" s_far_or_none f_far_or_none fd_far_or_none
  g_far_or_none : mg "far_or_none" = some (.ref f_far_or_none)
  b_far_or_none : Binds K fd_far_or_none ["form"] []
  f_ones_below : Addr
  fd_ones_below : FuncData
  F_ones_below : Fun K "ones_below" "ones_below" s_ones_below f_ones_below fd_ones_below
  g_ones_below : mg "ones_below" = some (.ref f_ones_below)
  b_ones_below : Binds K fd_ones_below ["x", "p"] []
  f_zeros_below : Addr
  fd_zeros_below : FuncData
  F_zeros_below : Fun K "zeros_below" "zeros_below" s_zeros_below f_zeros_below fd_zeros_below
  g_zeros_below : mg "zeros_below" = some (.ref f_zeros_below)
  b_zeros_below : Binds K fd_zeros_below ["x", "p"] []
  f_one_from : Addr
  fd_one_from : FuncData
  F_one_from : Fun K "one_from" "one_from" s_one_from f_one_from fd_one_from
  g_one_from : mg "one_from" = some (.ref f_one_from)
  b_one_from : Binds K fd_one_from ["x", "p"] []
  f_zero_from : Addr
  fd_zero_from : FuncData
  F_zero_from : Fun K "zero_from" "zero_from" s_zero_from f_zero_from fd_zero_from
  g_zero_from : mg "zero_from" = some (.ref f_zero_from)
  b_zero_from : Binds K fd_zero_from ["x", "p"] []
  f__law_pen : Addr
  fd__law_pen : FuncData
  F__law_pen : Fun K "_law_pen" "_law_pen" s__law_pen f__law_pen fd__law_pen
  g__law_pen : mg "_law_pen" = some (.ref f__law_pen)
  b__law_pen : Binds K fd__law_pen ["_law_script"] []
  f__law_draw : Addr
  fd__law_draw : FuncData
  F__law_draw : Fun K "_law_draw" "_law_draw" s__law_draw f__law_draw fd__law_draw
  g__law_draw : mg "_law_draw" = some (.ref f__law_draw)
  b__law_draw : Binds K fd__law_draw ["_law_pen_here", "_law_number"] []
  f__law_pick : Addr
  fd__law_pick : FuncData
  F__law_pick : Fun K "_law_pick" "_law_pick" s__law_pick f__law_pick fd__law_pick
  g__law_pick : mg "_law_pick" = some (.ref f__law_pick)
  b__law_pick : Binds K fd__law_pick ["_law_pen_here", "_law_items"] []
  f__law_turns : Addr
  fd__law_turns : FuncData
  F__law_turns : Fun K "_law_turns" "_law_turns" s__law_turns f__law_turns fd__law_turns
  g__law_turns : mg "_law_turns" = some (.ref f__law_turns)
  b__law_turns : Binds K fd__law_turns ["_law_number"] []
  f__law_row : Addr
  fd__law_row : FuncData
  F__law_row : Fun K "_law_row" "_law_row" s__law_row f__law_row fd__law_row
  g__law_row : mg "_law_row" = some (.ref f__law_row)
  b__law_row : Binds K fd__law_row ["_law_spec", "_law_more"] []
  f__law_written : Addr
  fd__law_written : FuncData
  F__law_written : Fun K "_law_written" "_law_written" s__law_written f__law_written fd__law_written
  g__law_written : mg "_law_written" = some (.ref f__law_written)
  b__law_written : Binds K fd__law_written ["_law_specs_here", "_law_parts_here"] []
  f__law_specs : Addr
  fd__law_specs : FuncData
  F__law_specs : Fun K "_law_specs" "_law_specs" s__law_specs f__law_specs fd__law_specs
  g__law_specs : mg "_law_specs" = some (.ref f__law_specs)
  b__law_specs : Binds K fd__law_specs ["_law_pen_here", "_law_limit"] []
  f__law_parts : Addr
  fd__law_parts : FuncData
  F__law_parts : Fun K "_law_parts" "_law_parts" s__law_parts f__law_parts fd__law_parts
  g__law_parts : mg "_law_parts" = some (.ref f__law_parts)
  b__law_parts : Binds K fd__law_parts ["_law_pen_here", "_law_specs_here"] []
  f__law_spots : Addr
  fd__law_spots : FuncData
  F__law_spots : Fun K "_law_spots" "_law_spots" s__law_spots f__law_spots fd__law_spots
  g__law_spots : mg "_law_spots" = some (.ref f__law_spots)
  b__law_spots : Binds K fd__law_spots ["_law_specs_here", "_law_parts_here"] []
  f__law_plus : Addr
  fd__law_plus : FuncData
  F__law_plus : Fun K "_law_plus" "_law_plus" s__law_plus f__law_plus fd__law_plus
  g__law_plus : mg "_law_plus" = some (.ref f__law_plus)
  b__law_plus : Binds K fd__law_plus ["_law_one", "_law_second", "_law_times"] []
  f__law_less : Addr
  fd__law_less : FuncData
  F__law_less : Fun K "_law_less" "_law_less" s__law_less f__law_less fd__law_less
  g__law_less : mg "_law_less" = some (.ref f__law_less)
  b__law_less : Binds K fd__law_less ["_law_one", "_law_second"] []
  f__law_lengths : Addr
  fd__law_lengths : FuncData
  F__law_lengths : Fun K "_law_lengths" "_law_lengths" s__law_lengths f__law_lengths fd__law_lengths
  g__law_lengths : mg "_law_lengths" = some (.ref f__law_lengths)
  b__law_lengths : Binds K fd__law_lengths ["_law_rows", "_law_behind"] []
  f__law_inner : Addr
  fd__law_inner : FuncData
  F__law_inner : Fun K "_law_inner" "_law_inner" s__law_inner f__law_inner fd__law_inner
  g__law_inner : mg "_law_inner" = some (.ref f__law_inner)
  b__law_inner : Binds K fd__law_inner ["_law_specs_here"] []
  f__law_place : Addr
  fd__law_place : FuncData
  F__law_place : Fun K "_law_place" "_law_place" s__law_place f__law_place fd__law_place
  g__law_place : mg "_law_place" = some (.ref f__law_place)
  b__law_place : Binds K fd__law_place ["_law_pen_here", "_law_rows", "_law_wide"] []
  f__law_next : Addr
  fd__law_next : FuncData
  F__law_next : Fun K "_law_next" "_law_next" s__law_next f__law_next fd__law_next
  g__law_next : mg "_law_next" = some (.ref f__law_next)
  b__law_next : Binds K fd__law_next ["_law_rows", "_law_place_here", "_law_way"] []
  f__law_is_at : Addr
  fd__law_is_at : FuncData
  F__law_is_at : Fun K "_law_is_at" "_law_is_at" s__law_is_at f__law_is_at fd__law_is_at
  g__law_is_at : mg "_law_is_at" = some (.ref f__law_is_at)
  b__law_is_at : Binds K fd__law_is_at ["_law_inner_here", "_law_told", "_law_due"] []
  f_law : Addr
  fd_law : FuncData
  F_law : Fun K "law" "law" s_law f_law fd_law
  g_law : mg "law" = some (.ref f_law)
  b_law : Binds K fd_law ["_law_script"] []
  f_Far___init__ : Addr
  fd_Far___init__ : FuncData
  F_Far___init__ : FunD K "__init__" "Far.__init__" (defArgs s_Far___init__) (defBody s_Far___init__) (defScope s_Far___init__) [.int (0)] [] f_Far___init__ fd_Far___init__
  ds_Far___init__ : List Value
  dv_Far___init__ : Vals [.int (0)] ds_Far___init__
  bd_Far___init__ : Binds K fd_Far___init__ ["self", "value"] ds_Far___init__
  b_Far___init__ : Binds K fd_Far___init__ ["self", "value"] []
  f_Far___eq__ : Addr
  fd_Far___eq__ : FuncData
  F_Far___eq__ : Fun K "__eq__" "Far.__eq__" s_Far___eq__ f_Far___eq__ fd_Far___eq__
  b_Far___eq__ : Binds K fd_Far___eq__ ["self", "other"] []
  f_Far___getitem__ : Addr
  fd_Far___getitem__ : FuncData
  F_Far___getitem__ : Fun K "__getitem__" "Far.__getitem__" s_Far___getitem__ f_Far___getitem__ fd_Far___getitem__
  b_Far___getitem__ : Binds K fd_Far___getitem__ ["self", "place"] []
  t_LAST_PLAIN_TURN : Tok
  c_LAST_PLAIN_TURN : mg "LAST_PLAIN_TURN" = some (.int (64) t_LAST_PLAIN_TURN)
  t_PLAIN_LEAST : Tok
  c_PLAIN_LEAST : mg "PLAIN_LEAST" = some (.int (-18446744073709551616) t_PLAIN_LEAST)
  t_PLAIN_MOST : Tok
  c_PLAIN_MOST : mg "PLAIN_MOST" = some (.int (18446744073709551615) t_PLAIN_MOST)
  t_MOST_HEIGHT : Tok
  c_MOST_HEIGHT : mg "MOST_HEIGHT" = some (.int (6) t_MOST_HEIGHT)
  t_MOST_SIZE : Tok
  c_MOST_SIZE : mg "MOST_SIZE" = some (.int (2000) t_MOST_SIZE)
  C_Far : Addr
  g_Far : mg "Far" = some (.ref C_Far)
  k_Far : Cls K C_Far
  n_Far : NoAttr K C_Far "own_form"
  Mk_Far : Mk K C_Far f_Far___init__
  M_Far___eq__ : Meth K C_Far "__eq__" f_Far___eq__
  M_Far___getitem__ : Meth K C_Far "__getitem__" f_Far___getitem__
  O_Eq : HX.CmpOwn K C_Far .Eq f_Far___eq__
  N_ne : HX.NeOwn K C_Far
  IT_Far : RC.ItOwn K C_Far f_Far___getitem__
  I_Far : HX.IsiOwn K C_Far
  m_bool : mg "bool" = none
  m_enumerate : mg "enumerate" = none
  m_int : mg "int" = none
  m_isinstance : mg "isinstance" = none
  m_len : mg "len" = none
  m_list : mg "list" = none
  m_max : mg "max" = none
  m_min : mg "min" = none
  m_range : mg "range" = none
  m_sum : mg "sum" = none
  m_tuple : mg "tuple" = none
end K37
set_option Elab.async false
set_option linter.all false
set_option maxRecDepth 100000
namespace K37
open PySem PySem.Spec PyProof.Rows L2
def dd_turns_of_int : He.DefD := ⟨("turns_of_int", none), "turns_of_int", "turns_of_int", defArgs s_turns_of_int, defBody s_turns_of_int, defScope s_turns_of_int, [], []⟩
def dd_turns : He.DefD := ⟨("turns_raw", none), "turns", "turns", defArgs s_turns, defBody s_turns, defScope s_turns, [], []⟩
def dd_made : He.DefD := ⟨("made", none), "made", "made", defArgs s_made, defBody s_made, defScope s_made, [], []⟩
def dd_of_int : He.DefD := ⟨("of_int", none), "of_int", "of_int", defArgs s_of_int, defBody s_of_int, defScope s_of_int, [], []⟩
def dd_negative : He.DefD := ⟨("negative", none), "negative", "negative", defArgs s_negative, defBody s_negative, defScope s_negative, [], []⟩
def dd_order : He.DefD := ⟨("order", none), "order", "order", defArgs s_order, defBody s_order, defScope s_order, [], []⟩
def dd_bit : He.DefD := ⟨("bit", none), "bit", "bit", defArgs s_bit, defBody s_bit, defScope s_bit, [], []⟩
def dd_merged : He.DefD := ⟨("merged", none), "merged", "merged", defArgs s_merged, defBody s_merged, defScope s_merged, [], []⟩
def dd_combined : He.DefD := ⟨("combined", none), "combined", "combined", defArgs s_combined, defBody s_combined, defScope s_combined, [], []⟩
def dd_toggled : He.DefD := ⟨("toggled", none), "toggled", "toggled", defArgs s_toggled, defBody s_toggled, defScope s_toggled, [], []⟩
def dd_plus_one : He.DefD := ⟨("plus_one", none), "plus_one", "plus_one", defArgs s_plus_one, defBody s_plus_one, defScope s_plus_one, [], []⟩
def dd_inverted : He.DefD := ⟨("inverted", none), "inverted", "inverted", defArgs s_inverted, defBody s_inverted, defScope s_inverted, [], []⟩
def dd_negated : He.DefD := ⟨("negated", none), "negated", "negated", defArgs s_negated, defBody s_negated, defScope s_negated, [], []⟩
def dd_total : He.DefD := ⟨("total", none), "total", "total", defArgs s_total, defBody s_total, defScope s_total, [], []⟩
def dd_minus : He.DefD := ⟨("minus", none), "minus", "minus", defArgs s_minus, defBody s_minus, defScope s_minus, [], []⟩
def dd_power_of_two : He.DefD := ⟨("power_of_two", none), "power_of_two", "power_of_two", defArgs s_power_of_two, defBody s_power_of_two, defScope s_power_of_two, [], []⟩
def dd_size : He.DefD := ⟨("size", none), "size", "size", defArgs s_size, defBody s_size, defScope s_size, [], []⟩
def dd_height : He.DefD := ⟨("height", none), "height", "height", defArgs s_height, defBody s_height, defScope s_height, [], []⟩
def dd_kept : He.DefD := ⟨("kept", none), "kept", "kept", defArgs s_kept, defBody s_kept, defScope s_kept, [], []⟩
def dd_order_of : He.DefD := ⟨("order_of", none), "order_of", "order_of", defArgs s_order_of, defBody s_order_of, defScope s_order_of, [], []⟩
def dd_bit_of : He.DefD := ⟨("bit_of", none), "bit_of", "bit_of", defArgs s_bit_of, defBody s_bit_of, defScope s_bit_of, [], []⟩
def dd_is_int : He.DefD := ⟨("is_int", none), "is_int", "is_int", defArgs s_is_int, defBody s_is_int, defScope s_is_int, [], []⟩
def dd_row_form : He.DefD := ⟨("row_form", none), "row_form", "row_form", defArgs s_row_form, defBody s_row_form, defScope s_row_form, [], []⟩
def dd_given_form : He.DefD := ⟨("given_form", none), "given_form", "given_form", defArgs s_given_form, defBody s_given_form, defScope s_given_form, [], []⟩
def dd_operand : He.DefD := ⟨("operand", none), "operand", "operand", defArgs s_operand, defBody s_operand, defScope s_operand, [], []⟩
def dd_number_form : He.DefD := ⟨("number_form", none), "number_form", "number_form", defArgs s_number_form, defBody s_number_form, defScope s_number_form, [], []⟩
def dd_place_form : He.DefD := ⟨("place_form", none), "place_form", "place_form", defArgs s_place_form, defBody s_place_form, defScope s_place_form, [], []⟩
def dd_sum_of_ones : He.DefD := ⟨("sum_of_ones", none), "sum_of_ones", "sum_of_ones", defArgs s_sum_of_ones, defBody s_sum_of_ones, defScope s_sum_of_ones, [], []⟩
def dd_count_below : He.DefD := ⟨("count_below", none), "count_below", "count_below", defArgs s_count_below, defBody s_count_below, defScope s_count_below, [], []⟩
def dd_one_at_or_after : He.DefD := ⟨("one_at_or_after", none), "one_at_or_after", "one_at_or_after", defArgs s_one_at_or_after, defBody s_one_at_or_after, defScope s_one_at_or_after, [], []⟩
def dd_far_or_none : He.DefD := ⟨("far_or_none", none), "far_or_none", "far_or_none", defArgs s_far_or_none, defBody s_far_or_none, defScope s_far_or_none, [], []⟩
def dd_ones_below : He.DefD := ⟨("ones_below", none), "ones_below", "ones_below", defArgs s_ones_below, defBody s_ones_below, defScope s_ones_below, [], []⟩
def dd_zeros_below : He.DefD := ⟨("zeros_below", none), "zeros_below", "zeros_below", defArgs s_zeros_below, defBody s_zeros_below, defScope s_zeros_below, [], []⟩
def dd_one_from : He.DefD := ⟨("one_from", none), "one_from", "one_from", defArgs s_one_from, defBody s_one_from, defScope s_one_from, [], []⟩
def dd_zero_from : He.DefD := ⟨("zero_from", none), "zero_from", "zero_from", defArgs s_zero_from, defBody s_zero_from, defScope s_zero_from, [], []⟩
def dd__law_pen : He.DefD := ⟨("_law_pen", none), "_law_pen", "_law_pen", defArgs s__law_pen, defBody s__law_pen, defScope s__law_pen, [], []⟩
def dd__law_draw : He.DefD := ⟨("_law_draw", none), "_law_draw", "_law_draw", defArgs s__law_draw, defBody s__law_draw, defScope s__law_draw, [], []⟩
def dd__law_pick : He.DefD := ⟨("_law_pick", none), "_law_pick", "_law_pick", defArgs s__law_pick, defBody s__law_pick, defScope s__law_pick, [], []⟩
def dd__law_turns : He.DefD := ⟨("_law_turns", none), "_law_turns", "_law_turns", defArgs s__law_turns, defBody s__law_turns, defScope s__law_turns, [], []⟩
def dd__law_row : He.DefD := ⟨("_law_row", none), "_law_row", "_law_row", defArgs s__law_row, defBody s__law_row, defScope s__law_row, [], []⟩
def dd__law_written : He.DefD := ⟨("_law_written", none), "_law_written", "_law_written", defArgs s__law_written, defBody s__law_written, defScope s__law_written, [], []⟩
def dd__law_specs : He.DefD := ⟨("_law_specs", none), "_law_specs", "_law_specs", defArgs s__law_specs, defBody s__law_specs, defScope s__law_specs, [], []⟩
def dd__law_parts : He.DefD := ⟨("_law_parts", none), "_law_parts", "_law_parts", defArgs s__law_parts, defBody s__law_parts, defScope s__law_parts, [], []⟩
def dd__law_spots : He.DefD := ⟨("_law_spots", none), "_law_spots", "_law_spots", defArgs s__law_spots, defBody s__law_spots, defScope s__law_spots, [], []⟩
def dd__law_plus : He.DefD := ⟨("_law_plus", none), "_law_plus", "_law_plus", defArgs s__law_plus, defBody s__law_plus, defScope s__law_plus, [], []⟩
def dd__law_less : He.DefD := ⟨("_law_less", none), "_law_less", "_law_less", defArgs s__law_less, defBody s__law_less, defScope s__law_less, [], []⟩
def dd__law_lengths : He.DefD := ⟨("_law_lengths", none), "_law_lengths", "_law_lengths", defArgs s__law_lengths, defBody s__law_lengths, defScope s__law_lengths, [], []⟩
def dd__law_inner : He.DefD := ⟨("_law_inner", none), "_law_inner", "_law_inner", defArgs s__law_inner, defBody s__law_inner, defScope s__law_inner, [], []⟩
def dd__law_place : He.DefD := ⟨("_law_place", none), "_law_place", "_law_place", defArgs s__law_place, defBody s__law_place, defScope s__law_place, [], []⟩
def dd__law_next : He.DefD := ⟨("_law_next", none), "_law_next", "_law_next", defArgs s__law_next, defBody s__law_next, defScope s__law_next, [], []⟩
def dd__law_is_at : He.DefD := ⟨("_law_is_at", none), "_law_is_at", "_law_is_at", defArgs s__law_is_at, defBody s__law_is_at, defScope s__law_is_at, [], []⟩
def dd_law : He.DefD := ⟨("law", none), "law", "law", defArgs s_law, defBody s_law, defScope s_law, [], []⟩
def dd_Far___init__ : He.DefD := ⟨("Far", some "__init__"), "__init__", "Far.__init__", defArgs s_Far___init__, defBody s_Far___init__, defScope s_Far___init__, [.int (0)], []⟩
def dd_Far___eq__ : He.DefD := ⟨("Far", some "__eq__"), "__eq__", "Far.__eq__", defArgs s_Far___eq__, defBody s_Far___eq__, defScope s_Far___eq__, [], []⟩
def dd_Far___getitem__ : He.DefD := ⟨("Far", some "__getitem__"), "__getitem__", "Far.__getitem__", defArgs s_Far___getitem__, defBody s_Far___getitem__, defScope s_Far___getitem__, [], []⟩
def fnL : List He.DefD := [dd_turns_of_int, dd_turns, dd_made, dd_of_int, dd_negative, dd_order, dd_bit, dd_merged, dd_combined, dd_toggled, dd_plus_one, dd_inverted, dd_negated, dd_total, dd_minus, dd_power_of_two, dd_size, dd_height, dd_kept, dd_order_of, dd_bit_of, dd_is_int, dd_row_form, dd_given_form, dd_operand, dd_number_form, dd_place_form, dd_sum_of_ones, dd_count_below, dd_one_at_or_after, dd_far_or_none, dd_ones_below, dd_zeros_below, dd_one_from, dd_zero_from, dd__law_pen, dd__law_draw, dd__law_pick, dd__law_turns, dd__law_row, dd__law_written, dd__law_specs, dd__law_parts, dd__law_spots, dd__law_plus, dd__law_less, dd__law_lengths, dd__law_inner, dd__law_place, dd__law_next, dd__law_is_at, dd_law, dd_Far___init__, dd_Far___eq__, dd_Far___getitem__]
def fa0 : List He.Fa := [.glo "turns_of_int", .glo "turns_raw", .glo "made", .glo "of_int", .glo "negative", .glo "order", .glo "bit", .glo "merged", .glo "combined", .glo "toggled", .glo "plus_one", .glo "inverted", .glo "negated", .glo "total", .glo "minus", .glo "power_of_two", .glo "size", .glo "height", .glo "kept", .glo "order_of", .glo "bit_of", .glo "is_int", .glo "row_form", .glo "given_form", .glo "operand", .glo "number_form", .glo "place_form", .glo "sum_of_ones", .glo "count_below", .glo "one_at_or_after", .glo "far_or_none", .glo "ones_below", .glo "zeros_below", .glo "one_from", .glo "zero_from", .glo "_law_pen", .glo "_law_draw", .glo "_law_pick", .glo "_law_turns", .glo "_law_row"]
def fa1 : List He.Fa := [.glo "_law_written", .glo "_law_specs", .glo "_law_parts", .glo "_law_spots", .glo "_law_plus", .glo "_law_less", .glo "_law_lengths", .glo "_law_inner", .glo "_law_place", .glo "_law_next", .glo "_law_is_at", .glo "law", .int "LAST_PLAIN_TURN" (64), .int "PLAIN_LEAST" (-18446744073709551616), .int "PLAIN_MOST" (18446744073709551615), .int "MOST_HEIGHT" (6), .int "MOST_SIZE" (2000), .glo "Far", .cls "Far", .noat "Far" "own_form", .mkr "Far", .meth "Far" "__eq__", .meth "Far" "__getitem__", .free "bool", .free "enumerate", .free "int", .free "isinstance", .free "len", .free "list", .free "max", .free "min", .free "range", .free "sum", .free "tuple"]
def faL : List He.Fa := fa0 ++ (fa1)
def erL : List HX.ErD := []
def exL (K : PySem.W.Frag) : Bool := HX.cmpB K (He.ga K "Far") .Eq (He.fAd K ("Far", some "__eq__")) && (HX.neB K (He.ga K "Far") && (RC.itB K (He.ga K "Far") (He.fAd K ("Far", some "__getitem__")) && (HX.isiB K (He.ga K "Far") && (true))))
def names0 : List PySem.Str := ["_wall", "__name__", "FarError", "NotANumber", "NoPlace", "InvalidRange", "InvalidTurns", "TooLarge", "TooManyTerms", "InvalidPower", "NegativeShift", "NotPower", "BadText", "UnknownName", "PLAIN_LEAST", "PLAIN_MOST"]
def names1 : List PySem.Str := ["LAST_PLAIN_TURN", "MOST_SIZE", "MOST_HEIGHT", "MOST_TERMS", "MOST_POWER", "MOST_DIGITS", "MOST_NESTED", "AND", "OR", "XOR", "turns_of_int", "turns", "turns_raw", "made", "of_int", "negative"]
def names2 : List PySem.Str := ["order", "bit", "merged", "combined", "toggled", "plus_one", "inverted", "negated", "total", "minus", "shifted", "dropped", "product", "power_of_two", "exponent_of", "run_of"]
def names3 : List PySem.Str := ["first_turn", "size", "height", "kept", "size_of", "height_of", "order_of", "bit_of", "negate", "add", "subtract", "bit_not", "bit_and", "bit_or", "bit_xor", "shift_left"]
def names4 : List PySem.Str := ["shift_right", "multiply", "is_exponent", "power", "power_products", "divide", "LETTERS", "RESERVED", "LONGEST_NAME", "is_name", "DIGITS", "COMPARISONS", "SIGNS", "LEVELS", "BINARY", "AHEAD"]
def names5 : List PySem.Str := ["run_stop", "sign_at", "token_at", "tokens_of", "Reader", "code_of", "ahead", "between", "evaluated", "value_of", "exponent", "run_text", "parts_of", "write_form", "is_int", "row_form"]
def names6 : List PySem.Str := ["given_form", "operand", "number_form", "place_form", "range_forms", "read_values", "Far", "sum_of_ones", "count_below", "one_at_or_after", "far_or_none", "ones_below", "zeros_below", "one_from", "zero_from", "_law_pen"]
def names7 : List PySem.Str := ["_law_draw", "_law_pick", "_law_turns", "_law_row", "_law_written", "_law_specs", "_law_parts", "_law_spots", "_law_plus", "_law_less", "_law_lengths", "_law_inner", "_law_place", "_law_next", "_law_is_at"]
def names : List PySem.Str := names0 ++ (names1 ++ (names2 ++ (names3 ++ (names4 ++ (names5 ++ (names6 ++ (names7)))))))
def adr0 : List Addr := [3, 1146, 1145, 275, 282, 289, 296, 303, 310, 317, 324, 331, 338, 345, 352, 359]
def adr1 : List Addr := [366, 373, 397, 423, 430, 437, 458, 465, 766, 773, 780, 787, 794, 801, 1157, 1162]
def adr2 : List Addr := [1169, 1176, 1183, 1190, 1197, 1204, 1211, 1218, 1225, 1232, 1239, 1244, 1251, 1256, 1261, 1266]
def adr3 : List Addr := [1273, 1280, 1285, 1292, 1297, 1304, 1309, 828, 1087, 1129, 274, 281, 288, 295, 302, 309]
def adr4 : List Addr := [316, 323, 330, 337, 344, 351, 358, 365, 372, 396, 422, 429, 436, 457, 464, 765]
def adr5 : List Addr := [772, 779, 786, 793, 800, 1156, 1161, 1168, 1175, 1182, 1189, 1196, 1203, 1210, 1217, 1224]
def adr6 : List Addr := [1231, 1238, 1243, 1250, 1255, 1260, 1265, 1272, 1279, 1284, 1291, 1296, 1303, 1308, 827, 821]
def adr7 : List Addr := [1086, 1128, 269, 270, 271, 272, 273, 276, 277, 278, 279, 280, 283, 284, 285, 286]
def adr8 : List Addr := [287, 290, 291, 292, 293, 294, 297, 298, 299, 300, 301, 304, 305, 306, 307, 308]
def adr9 : List Addr := [311, 312, 313, 314, 315, 318, 319, 320, 321, 322, 325, 326, 327, 328, 329, 332]
def adr10 : List Addr := [333, 334, 335, 336, 339, 340, 341, 342, 343, 346, 347, 348, 349, 350, 353, 354]
def adr11 : List Addr := [355, 356, 357, 360, 361, 362, 363, 364, 367, 368, 369, 370, 371, 391, 392, 393]
def adr12 : List Addr := [394, 395, 419, 420, 421, 424, 425, 426, 427, 428, 431, 432, 433, 434, 435, 452]
def adr13 : List Addr := [453, 454, 455, 456, 459, 460, 461, 462, 463, 760, 761, 762, 763, 764, 767, 768]
def adr14 : List Addr := [769, 770, 771, 774, 775, 776, 777, 778, 781, 782, 783, 784, 785, 788, 789, 790]
def adr15 : List Addr := [791, 792, 795, 796, 797, 798, 799, 1151, 1152, 1153, 1154, 1155, 1158, 1159, 1160, 1163]
def adr16 : List Addr := [1164, 1165, 1166, 1167, 1170, 1171, 1172, 1173, 1174, 1177, 1178, 1179, 1180, 1181, 1184, 1185]
def adr17 : List Addr := [1186, 1187, 1188, 1191, 1192, 1193, 1194, 1195, 1198, 1199, 1200, 1201, 1202, 1205, 1206, 1207]
def adr18 : List Addr := [1208, 1209, 1212, 1213, 1214, 1215, 1216, 1219, 1220, 1221, 1222, 1223, 1226, 1227, 1228, 1229]
def adr19 : List Addr := [1230, 1233, 1234, 1235, 1236, 1237, 1240, 1241, 1242, 1245, 1246, 1247, 1248, 1249, 1252, 1253]
def adr20 : List Addr := [1254, 1257, 1258, 1259, 1262, 1263, 1264, 1267, 1268, 1269, 1270, 1271, 1274, 1275, 1276, 1277]
def adr21 : List Addr := [1278, 1281, 1282, 1283, 1286, 1287, 1288, 1289, 1290, 1293, 1294, 1295, 1298, 1299, 1300, 1301]
def adr22 : List Addr := [1302, 1305, 1306, 1307, 822, 823, 824, 825, 826, 1081, 1082, 1083, 1084, 1085, 1123, 1124]
def adr23 : List Addr := [1125, 1126, 1127, 2]
def adrs : List Addr := adr0 ++ (adr1 ++ (adr2 ++ (adr3 ++ (adr4 ++ (adr5 ++ (adr6 ++ (adr7 ++ (adr8 ++ (adr9 ++ (adr10 ++ (adr11 ++ (adr12 ++ (adr13 ++ (adr14 ++ (adr15 ++ (adr16 ++ (adr17 ++ (adr18 ++ (adr19 ++ (adr20 ++ (adr21 ++ (adr22 ++ (adr23)))))))))))))))))))))))
abbrev R : PySem.W.OpenRow := PySem.W.OpenLaw.row PySem.Challenge.rw_farbits_k37_whole_ranks_at_far_places
abbrev qv : Program := PySem.W.view R.prog [136]
abbrev hk : PySem.W.Hook := HX.hookK adrs faL fnL erL [] exL
def ob (s : PySem.W.SharedT) : HX.AlK := HX.obsK adrs faL fnL erL [] exL (HandSHeadRun.getT s)
theorem ob_eq (s : PySem.W.SharedT) : ob s = hk.obs s.abs := HX.obsK_eq (HandSHeadRun.getT_eq s)
abbrev fw (w : World) (b : Bool) : World := w.withFollow "special-get-raises" b
noncomputable abbrev endR (w : World) (os : OsState) : Option PySem.W.SharedT := HandSHeadRun.endF (HandSHeadRun.stepQ (HandSHeadRun.denQ HandSHeadRun.tabQ) R.prog w) 12000 R.prog w os
noncomputable abbrev lk (w : World) (s : PySem.W.SharedT) : Bool := HandSHeadRun.looksF R.prog (PySem.W.boot_heap w.params) s.abs
noncomputable abbrev sq (s : PySem.W.SharedT) := HandSHeadRun.seenQ qv names (importedModules R.prog.main.body) (fun s => PySem.W.xlAt qv [] s && PySem.W.recOk R.toRowW.records s) s.abs
end K37
set_option Elab.async false
set_option linter.all false
set_option maxRecDepth 100000
namespace K37
open PySem PySem.Spec PyProof.Rows L2
set_option maxHeartbeats 0 in
theorem run1_false (w : World) (os : OsState) : (endR (fw w false) os).map (fun s => (lk (fw w false) s, (sq s).1, (sq s).2.1, (sq s).2.2.2.1)) = some (true, (PySem.W.openGood qv names).1, (PySem.W.openGood qv names).2.1, (PySem.W.openGood qv names).2.2.2.1) := by kernel_rfl
set_option maxHeartbeats 0 in
theorem run1_true (w : World) (os : OsState) : (endR (fw w true) os).map (fun s => (lk (fw w true) s, (sq s).1, (sq s).2.1, (sq s).2.2.2.1)) = some (true, (PySem.W.openGood qv names).1, (PySem.W.openGood qv names).2.1, (PySem.W.openGood qv names).2.2.2.1) := by kernel_rfl
end K37
set_option Elab.async false
set_option linter.all false
set_option maxRecDepth 100000
namespace K37
open PySem PySem.Spec PyProof.Rows L2
set_option maxHeartbeats 0 in
theorem run2_false (w : World) (os : OsState) : (endR (fw w false) os).map (fun s => ((sq s).2.2.1, (sq s).2.2.2.2.1, (sq s).2.2.2.2.2.1)) = some ((PySem.W.openGood qv names).2.2.1, (PySem.W.openGood qv names).2.2.2.2.1, (PySem.W.openGood qv names).2.2.2.2.2.1) := by kernel_rfl
set_option maxHeartbeats 0 in
theorem run2_true (w : World) (os : OsState) : (endR (fw w true) os).map (fun s => ((sq s).2.2.1, (sq s).2.2.2.2.1, (sq s).2.2.2.2.2.1)) = some ((PySem.W.openGood qv names).2.2.1, (PySem.W.openGood qv names).2.2.2.2.1, (PySem.W.openGood qv names).2.2.2.2.2.1) := by kernel_rfl
end K37
set_option Elab.async false
set_option linter.all false
set_option maxRecDepth 100000
namespace K37
open PySem PySem.Spec PyProof.Rows L2
set_option maxHeartbeats 0 in
theorem run3_false (w : World) (os : OsState) : (endR (fw w false) os).map (fun s => ((sq s).2.2.2.2.2.2.1, (sq s).2.2.2.2.2.2.2.1, (sq s).2.2.2.2.2.2.2.2)) = some ((PySem.W.openGood qv names).2.2.2.2.2.2.1, (PySem.W.openGood qv names).2.2.2.2.2.2.2.1, (PySem.W.openGood qv names).2.2.2.2.2.2.2.2) := by kernel_rfl
set_option maxHeartbeats 0 in
theorem run3_true (w : World) (os : OsState) : (endR (fw w true) os).map (fun s => ((sq s).2.2.2.2.2.2.1, (sq s).2.2.2.2.2.2.2.1, (sq s).2.2.2.2.2.2.2.2)) = some ((PySem.W.openGood qv names).2.2.2.2.2.2.1, (PySem.W.openGood qv names).2.2.2.2.2.2.2.1, (PySem.W.openGood qv names).2.2.2.2.2.2.2.2) := by kernel_rfl
end K37
set_option Elab.async false
set_option linter.all false
set_option maxRecDepth 100000
namespace K37
open PySem PySem.Spec PyProof.Rows L2
set_option maxHeartbeats 0 in
theorem run4_false (w : World) (os : OsState) : (endR (fw w false) os).map (fun s => ob s) = some (HX.valK fnL erL) := by kernel_rfl
set_option maxHeartbeats 0 in
theorem run4_true (w : World) (os : OsState) : (endR (fw w true) os).map (fun s => ob s) = some (HX.valK fnL erL) := by kernel_rfl
end K37
set_option Elab.async false
set_option linter.all false
set_option maxRecDepth 100000
/-! for i, x in enumerate(a tuple) -/
namespace HX
open PySem PySem.Spec PyProof.Rows L2
set_option maxHeartbeats 1000000 in
theorem meets_enumT (l : Addr) (items : Array Value) :
    Meets (Builtin.«enumerate.__new__» ⟨[.type "enumerate", .ref l], []⟩) (fun _ R s => s.heap.IsTuple l items ∧
      R (.ok (.ret (.ref (s.heap.push { cls := .type "tuple_iterator", data := .fields #[.ref l, .int 0 0] }).objs.size)))
        { s with heap := (s.heap.push { cls := .type "tuple_iterator", data := .fields #[.ref l, .int 0 0] }).push { cls := .type "enumerate", data := .fields #[.none, .bool false, .ref s.heap.objs.size, rawInt 0, .none, .none] } }) :=
  .of_wp fun prog w A R s h => by
    obtain ⟨hp, g, d, tk, os⟩ := s
    obtain ⟨hT, h⟩ := h
    have hsub := sub_enumerate
    have q1 : ∀ {A' : Around} {E : Value → Shared → Prop} {Q : Value → Shared → Prop}, Q (.ref hp.objs.size) ⟨hp.push { cls := .type "tuple_iterator", data := .fields #[.ref l, .int 0 0] }, g, d, tk, os⟩ → wpAny (model prog w) A' (pyIter (.ref l)) Q E ⟨hp, g, d, tk, os⟩ :=
      fun q => wpAny_pyIter_tuple (s := ⟨hp, g, d, tk, os⟩) hT q
    wp_walk using q1
    refine wpAny_stack_any fun st => wpAny_pure ?_
    split
    · rename_i c _ _ _ _ _
      by_cases hc : (c == Value.type "enumerate") = true
      all_goals (wp_walk using q1; exact ⟨_, rfl, h⟩)
    · wp_walk using q1
      exact ⟨_, rfl, h⟩
theorem call_enumT {prog : Program} {w : World} {A : Around} {E : Value → Shared → Prop} {s : Shared} {l : Addr} {items : Array Value} {Q : Value → Shared → Prop} (hT : s.heap.IsTuple l items)
    (h : ∀ h', IsEnum h' (s.heap.objs.size + 1) s.heap.objs.size 0 .none → h'.IsTupleIter s.heap.objs.size l 0 → h'.objs.size = s.heap.objs.size + 2 → (∀ b o, s.heap.get? b = some o → h'.get? b = some o) →
      Q (.ref (s.heap.objs.size + 1)) { s with heap := h' }) : wpAny (model prog w) A (call (.type "enumerate") [.ref l]) Q E s := by
  refine callType_new F.called_enumerate (by decide) (F.typeCall_enumerate_1 _) (F.newCall_enumerate_1 _) (fun obj => F.args_object_init_2 obj _) F.entry_enumerate_new (meets_enumT l items) ⟨hT, ?_⟩
  have hz : (s.heap.push { cls := .type "tuple_iterator", data := .fields #[.ref l, .int 0 0] }).objs.size = s.heap.objs.size + 1 := Heap.size_push ..
  show _ ∧ _
  rw [hz]
  have he : IsEnum ((s.heap.push { cls := .type "tuple_iterator", data := .fields #[.ref l, .int 0 0] }).push { cls := .type "enumerate", data := .fields #[.none, .bool false, .ref s.heap.objs.size, rawInt 0, .none, .none] }) (s.heap.objs.size + 1) s.heap.objs.size 0 .none := by
    have q := Heap.get?_push_size (s.heap.push { cls := .type "tuple_iterator", data := .fields #[.ref l, .int 0 0] }) (o := { cls := .type "enumerate", data := .fields #[.none, .bool false, .ref s.heap.objs.size, rawInt 0, .none, .none] }) rfl
    rw [hz] at q
    exact q
  exact ⟨⟨_, he, rfl⟩, h _ he ⟨_, Heap.get?_push_of_some _ (Heap.get?_push_size _ rfl), rfl, rfl⟩ (by rw [Heap.size_push, hz]) fun b o x => Heap.get?_push_of_some _ (Heap.get?_push_of_some _ x)⟩
/-- the tuple at a, each item in a new pair -/
def IteT (K : PySem.W.Frag) (a : Addr) : It :=
  ⟨fun i H => ∃ (xs : List V) (x : V), SqT K H a xs ∧ xs[i]? = some x, fun i H v H' => ∃ T x, v = .ref T ∧ H T = none ∧ H' = upd H T (.tup [.int (i : Nat), x]) ∧ ∀ xs, SqT K H a xs → xs[i]? = some x, fun i H => ∃ xs : List V, SqT K H a xs ∧ xs.length ≤ i⟩
theorem turn_enumT {P : Program} {w : World} {K : PySem.W.Frag} {elts : List Expr} {kk : Nat} {tpos : Pos} (a e it : Addr) :
    Turn P w K (.Tuple elts kk tpos) (IteT K a) [e, it] e (fun i h => (∃ old, IsEnum h e it ((i : Nat) : Int) old) ∧ h.IsTupleIter it a i ∧ e ≠ it) where
  mem := by simp
  obj := fun i h st b hb => by
    obtain ⟨⟨old, he⟩, ⟨o, ho, hc, hd⟩, _⟩ := st
    rcases (show b = e ∨ b = it by simpa using hb) with z | z
    · subst z
      exact ⟨_, he, fun v q => nomatch q⟩
    · subst z
      exact ⟨o, ho, fun v q => nomatch hd.symm.trans q⟩
  keep := fun i h h' st k => let ⟨⟨old, he⟩, hi, hne⟩ := st; ⟨⟨old, k e (by simp) _ he⟩, hi.at (fun o q => k it (by simp) o q), hne⟩
  item := by
    intro X hP hw hK hc i pins s σ H E I hf st hg
    subst hP hw hK
    obtain ⟨⟨old, he⟩, hit, hne⟩ := st
    obtain ⟨xs, x, hq, hx⟩ := hg
    obtain ⟨its, rv, p, hz⟩ := I.tuple hq
    obtain ⟨u, hu, ru⟩ := rv.get hx
    have p' : s.heap.IsTuple a its.toArray := p
    have hel : e < s.heap.objs.size := Heap.lt_size he
    have hil : it < s.heap.objs.size := by
      obtain ⟨_, q, _⟩ := hit
      exact Heap.lt_size q
    have hai : a ≠ it := fun z => by
      obtain ⟨o1, g1, c1, _⟩ := hit
      obtain ⟨o2, g2, c2, _⟩ := p'
      rw [z, g1] at g2
      cases g2
      exact nomatch (show ("tuple_iterator" : String) = "tuple" from Value.type.inj (c1.symm.trans c2))
    have hae : e ≠ a := fun z => by
      obtain ⟨o2, g2, c2, _⟩ := p'
      rw [← z] at g2
      have he' : s.heap.get? e = some _ := he
      rw [he'] at g2
      cases g2
      exact nomatch (show ("enumerate" : String) = "tuple" from Value.type.inj c2)
    have hii : i < its.length := (List.getElem?_eq_some_iff.mp hu).1
    refine wpAny_pyNext_enum_itemD (Draws.tuple (A := X.A.in1) (I.ok.hd hc) it a hai its.toArray) he ⟨hit, p'⟩ (by simpa using hii) hne (by simp [hne, hae]) fun y h' tk hPy ho hit' hT hsz hk => ?_
    have hyu : y = u := by
      have q : its.toArray[i]? = some y := hPy
      have q2 : its[i]? = some y := by simpa using q
      rw [hu] at q2
      exact (Option.some.inj q2).symm
    subst hyu
    refine ⟨_, rfl, wpAny_letOwnedTupleGo_enum (s := { s with heap := h', toks := tk + 1 }) ho fun h'' he' sb => ?_⟩
    have hT2 : h''.get? s.heap.objs.size = some { cls := .type "tuple", data := .seq #[.int i tk, y] } := (sb.2 _ (Nat.ne_of_gt hel)).trans hT
    have new : ObjOk X.prog X.w (upd H s.heap.objs.size (.tup [.int (i : Nat), x])) h'' s.heap.objs.size (.tup [.int (i : Nat), x]) :=
      ⟨by show 2 ≤ sizeLine; decide, [.int i tk, y], .cons ⟨_, rfl⟩ (.cons ru .nil), ⟨_, hT2, rfl, _, rfl⟩⟩
    have I1 : Inv X pins σ (upd H s.heap.objs.size (.tup [.int (i : Nat), x])) { s with heap := h'', toks := tk + 1 } :=
      I.turnedNew (ch := [e, it]) (fun b ob hb q => (sb.2 b (fun z => hb (by simp [z]))).trans (hk b ob (fun z => hb (by simp [z])) (fun z => hb (by simp [z])) q)) hf (Nat.le_refl _) new
    refine ⟨.ref s.heap.objs.size, _, I1, rfl, ⟨_, x, rfl, I.hok.fresh (Nat.le_refl _), rfl, fun ys hy => by rw [I.tuple_inj hy hq]; exact hx⟩, ⟨⟨y, ?_⟩, hit'.1.at (fun o q => (sb.2 it (Ne.symm hne)).trans q), hne⟩, fun b hb => ?_⟩
    · rw [show ((i + 1 : Nat) : Int) = (i : Int) + 1 by omega]
      exact he'
    · have hb' : b < s.heap.objs.size := (show b = e ∨ b = it by simpa using hb).elim (fun z => z ▸ hel) (fun z => z ▸ hil)
      rw [upd_ne (Nat.ne_of_lt hb')]
      exact (hf b hb).1
  done := by
    intro X hP hw hK hc i pins s σ H E I hf st hg
    subst hP hw hK
    obtain ⟨⟨old, he⟩, hit, hne⟩ := st
    obtain ⟨xs, hq, hx⟩ := hg
    obtain ⟨its, rv, p, hz⟩ := I.tuple hq
    have p' : s.heap.IsTuple a its.toArray := p
    obtain ⟨f0, f1, f2, f3, f4, f5⟩ := hf it (by simp)
    have hl := rv.length
    have hT : s.TypeIs (.ref e) "enumerate" := ⟨_, he, rfl⟩
    unfold pyNext
    refine wpAny_bind (wpAny_attempt (wpAny_callSpecial?_slot (name := Str.ofString "__next__") hT F.slot_enumerate_next (wpAny_call_entry F.slot_enumerate_next hT F.entry_enumerate_next ?_ (F.args_enumerate_next_1 _))))
    show wpAny _ _ (field (.ref e) 2 >>= _) _ _ _
    refine wpAny_bind (wpAny_field he rfl (x := .ref it) rfl ?_)
    refine wpAny_bind (wpAny_nextOf_tuple_end (A := X.A.in1) (I.ok.hd hc) hit p' (by simp; omega) fun h' z he' hz' => ?_)
    obtain ⟨o, ho, hc'⟩ := hz'
    refine wpAny_bind (wpAny_isInstance (T := "StopIteration") (b := true) ⟨o, ho, hc'⟩ isSubtype_stop ?_)
    exact wpAny_pure ⟨rfl, I.turned (t' := s.toks) (fun b o hb q => he' b o hb q) f0 f1 f3 f4 f5⟩
  self := fun A i s Q E st h => let ⟨⟨_, he⟩, _⟩ := st; wpAny_pyIter_enum he h
def iEnumT (K : PySem.W.Frag) (ta : TA) : TI := fun σ H R => ta σ H fun vs H1 => ∃ a xs, vs = [.ref a] ∧ SqT K H1 a xs ∧ R (IteT K a) H1
theorem pi_enumT {X : Cx} {e : Expr} {ta : TA} {p pos tpos : Pos} {elts : List Expr} {kk : Nat} (hg : Gl X "enumerate") (hm : X.mg "enumerate" = none) (ha : PA X [e] ta) (hs : starEach [e] X.env = [(false, eval e X.env)] := by rfl) :
    PI X (.Tuple elts kk tpos) (.Call (.Name "enumerate" p) [e] [] pos) (iEnumT X.K ta) := by
  constructor
  intro pins s σ H R I h
  refine Call_ (ld_blt I hg hm boot_enumerate (PyProof.Rows.callWith_type1 (thn (ha.run pos pins s σ H _ I h) fun us s1 ⟨vs, H1, I1, r1, q1⟩ => ?_) hs rfl))
  obtain ⟨a, xs, rfl, hq, q⟩ := q1
  obtain ⟨u, rfl, ru⟩ := vals1 r1
  cases ru
  obtain ⟨its, rv, p', hz⟩ := I1.tuple hq
  refine call_enumT (show s1.heap.IsTuple a its.toArray from p') fun h' he hit hsz hk => wpAny_pyIter_enum he ?_
  have I2 : Inv X pins σ H1 { s1 with heap := h' } := I1.kept (t' := s1.toks) hk
  refine ⟨s1.heap.objs.size + 1, [s1.heap.objs.size + 1, s1.heap.objs.size], _, _, H1, rfl, I2, turn_enumT a (s1.heap.objs.size + 1) s1.heap.objs.size, ⟨⟨.none, he⟩, hit, Nat.succ_ne_self _⟩, fun b hb => ?_, q⟩
  have hle : s1.heap.objs.size ≤ b := (show b = s1.heap.objs.size + 1 ∨ b = s1.heap.objs.size by simpa using hb).elim (fun z => z ▸ Nat.le_add_right _ _) (fun z => Nat.le_of_eq z.symm)
  exact I1.fpOk hle (I1.hok.fresh hle)
/-- the loops: the pair is taken apart -/
theorem flE {K : PySem.W.Frag} {a : Addr} {xs : List V} {g : TG} {tb : TS} {D : Ends} {σ : L2.St} {H : Hp} (Pv : Nat → L2.St → Hp → Prop) (h0 : Pv 0 σ H) (hl : ∀ i σ H, i ≤ xs.length → Pv i σ H → SqL K H a xs)
    (hs : ∀ i x σ H, xs[i]? = some x → Pv i σ H → ∀ T, H T = none → ∀ D', Bd D (Pv (i + 1)) D' → g (.ref T) σ (upd H T (.tup [.int (i : Nat), x])) fun σ2 H2 => tb D' σ2 H2) (hd : ∀ σ H, Pv xs.length σ H → D.nx σ H) :
    ∃ W : Nat → Nat → L2.St → Hp → Prop, (∃ m, W 0 m σ H) ∧ ∀ i m σ H, W i m σ H →
      ((Ite K a).stop i H ∧ D.nx σ H) ∨ ((Ite K a).go i H ∧ ∃ N : L2.St → Hp → Prop, (∀ σ' H', N σ' H' → ∃ m', m' < m ∧ W (i + 1) m' σ' H') ∧ ∀ x H', (Ite K a).yld i H x H' → g x σ H' fun σ2 H2 => tb { D with nx := N, ct := N, bk := D.nx } σ2 H2) := by
  refine ⟨fun i m σ H => i + m = xs.length ∧ Pv i σ H, ⟨xs.length, by omega, h0⟩, ?_⟩
  rintro i m σ H ⟨he, hp⟩
  have hq := hl i σ H (by omega) hp
  cases m with
  | zero => exact .inl ⟨⟨xs, hq, by omega⟩, hd σ H ((show i = xs.length by omega) ▸ hp)⟩
  | succ m =>
    have hi : i < xs.length := by omega
    refine .inr ⟨⟨xs, xs[i], hq, by simp [hi]⟩, fun σ' H' => Pv (i + 1) σ' H', fun σ' H' h => ⟨m, Nat.lt_succ_self m, by omega, h⟩, ?_⟩
    rintro v H' ⟨T, x, rfl, nT, rfl, hx⟩
    exact hs i x σ H (hx xs hq) hp T nT _ ⟨fun _ _ h => h, fun _ _ h => h, fun _ _ h => h, fun _ _ h => h⟩
theorem flET {K : PySem.W.Frag} {a : Addr} {xs : List V} {g : TG} {tb : TS} {D : Ends} {σ : L2.St} {H : Hp} (Pv : Nat → L2.St → Hp → Prop) (h0 : Pv 0 σ H) (hl : ∀ i σ H, i ≤ xs.length → Pv i σ H → SqT K H a xs)
    (hs : ∀ i x σ H, xs[i]? = some x → Pv i σ H → ∀ T, H T = none → ∀ D', Bd D (Pv (i + 1)) D' → g (.ref T) σ (upd H T (.tup [.int (i : Nat), x])) fun σ2 H2 => tb D' σ2 H2) (hd : ∀ σ H, Pv xs.length σ H → D.nx σ H) :
    ∃ W : Nat → Nat → L2.St → Hp → Prop, (∃ m, W 0 m σ H) ∧ ∀ i m σ H, W i m σ H →
      ((IteT K a).stop i H ∧ D.nx σ H) ∨ ((IteT K a).go i H ∧ ∃ N : L2.St → Hp → Prop, (∀ σ' H', N σ' H' → ∃ m', m' < m ∧ W (i + 1) m' σ' H') ∧ ∀ x H', (IteT K a).yld i H x H' → g x σ H' fun σ2 H2 => tb { D with nx := N, ct := N, bk := D.nx } σ2 H2) := by
  refine ⟨fun i m σ H => i + m = xs.length ∧ Pv i σ H, ⟨xs.length, by omega, h0⟩, ?_⟩
  rintro i m σ H ⟨he, hp⟩
  have hq := hl i σ H (by omega) hp
  cases m with
  | zero => exact .inl ⟨⟨xs, hq, by omega⟩, hd σ H ((show i = xs.length by omega) ▸ hp)⟩
  | succ m =>
    have hi : i < xs.length := by omega
    refine .inr ⟨⟨xs, xs[i], hq, by simp [hi]⟩, fun σ' H' => Pv (i + 1) σ' H', fun σ' H' h => ⟨m, Nat.lt_succ_self m, by omega, h⟩, ?_⟩
    rintro v H' ⟨T, x, rfl, nT, rfl, hx⟩
    exact hs i x σ H (hx xs hq) hp T nT _ ⟨fun _ _ h => h, fun _ _ h => h, fun _ _ h => h, fun _ _ h => h⟩
end HX
set_option linter.all false
/-! turns and values: integers by the places where their bits change (plain mathematics) -/
namespace TV
/-- the value of ascending turns, the first with sign s -/
def tvs : Int → List Nat → Int
  | _, [] => 0
  | s, t :: r => s * 2 ^ t + tvs (-s) r
def tv (ts : List Nat) : Int := tvs (-1) ts
def Asc : List Nat → Prop
  | [] => True
  | [_] => True
  | a :: b :: r => a < b ∧ Asc (b :: r)
theorem Asc.tail {a : Nat} {r : List Nat} (h : Asc (a :: r)) : Asc r := by
  cases r with
  | nil => trivial
  | cons b r => exact h.2
theorem Asc.lt {a : Nat} : ∀ {r : List Nat}, Asc (a :: r) → ∀ b ∈ r, a < b
  | [], _, b, hb => by simp at hb
  | c :: r, h, b, hb => by
    rcases List.mem_cons.mp hb with rfl | hb
    · exact h.1
    · exact Nat.lt_trans h.1 (Asc.lt h.2 b hb)
theorem asc_cons {a : Nat} {r : List Nat} (h : ∀ b ∈ r, a < b) (hr : Asc r) : Asc (a :: r) := by
  cases r with
  | nil => trivial
  | cons b r => exact ⟨h b (by simp), hr⟩
theorem asc_pairwise : ∀ {l : List Nat}, Asc l ↔ l.Pairwise (· < ·)
  | [] => by simp [Asc]
  | a :: r => by
    rw [List.pairwise_cons]
    constructor
    · intro h
      exact ⟨fun b hb => Asc.lt h b hb, asc_pairwise.mp h.tail⟩
    · rintro ⟨h1, h2⟩
      exact asc_cons h1 (asc_pairwise.mpr h2)
theorem tvs_neg (s : Int) : ∀ ts, tvs (-s) ts = -tvs s ts
  | [] => by simp [tvs]
  | t :: r => by
    have := tvs_neg (-s) r
    simp only [tvs, Int.neg_neg] at *
    rw [Int.neg_mul]
    omega
theorem tv_cons (t : Nat) (r : List Nat) : tv (t :: r) = -(2 ^ t) - tv r := by
  show (-1 : Int) * 2 ^ t + tvs (- -1) r = -(2 ^ t) - tvs (-1) r
  rw [tvs_neg (-1) r]
  omega
theorem tv_nil : tv [] = 0 := rfl
/-- the bit of n at p -/
def tb (n : Int) (p : Nat) : Bool := decide (n / 2 ^ p % 2 = 1)
theorem tb_zero (n : Int) : tb n 0 = decide (n % 2 = 1) := by simp [tb]
theorem tb_succ (n : Int) (p : Nat) : tb n (p + 1) = tb (n / 2) p := by
  unfold tb
  rw [Int.pow_succ, Int.mul_comm, ← Int.ediv_ediv_of_nonneg (by decide)]
/-- how many turns are at most p -/
def cnt (ts : List Nat) (p : Nat) : Nat := ts.countP fun t => decide (t ≤ p)
theorem cnt_nil (p : Nat) : cnt [] p = 0 := rfl
theorem cnt_cons (t : Nat) (r : List Nat) (p : Nat) : cnt (t :: r) p = cnt r p + if t ≤ p then 1 else 0 := by
  unfold cnt
  rw [List.countP_cons]
  simp
theorem cnt_zero {ts : List Nat} {p : Nat} (h : ∀ t ∈ ts, p < t) : cnt ts p = 0 := by
  unfold cnt
  rw [List.countP_eq_zero]
  intro t ht
  have := h t ht
  simp
  omega
/-- halving: the value of shifted turns -/
theorem tv_map_succ : ∀ ts : List Nat, tv (ts.map (· + 1)) = 2 * tv ts
  | [] => rfl
  | t :: r => by
    rw [List.map_cons, tv_cons, tv_cons, tv_map_succ r, Int.pow_succ]
    omega
theorem pred_map {ts : List Nat} (h : ∀ t ∈ ts, 0 < t) : (ts.map (· - 1)).map (· + 1) = ts := by
  rw [List.map_map]
  conv => rhs; rw [← List.map_id ts]
  apply List.map_congr_left
  intro t ht
  have := h t ht
  show t - 1 + 1 = t
  omega
theorem asc_pred : ∀ {ts : List Nat}, Asc ts → (∀ t ∈ ts, 0 < t) → Asc (ts.map (· - 1))
  | [], _, _ => trivial
  | [_], _, _ => trivial
  | a :: b :: r, h, h0 => by
    have ha := h0 a (by simp)
    refine ⟨by have := h.1; show a - 1 < b - 1; omega, asc_pred h.2 fun t ht => h0 t (by simp [ht])⟩
theorem cnt_succ {ts : List Nat} (h : ∀ t ∈ ts, 0 < t) (p : Nat) : cnt ts (p + 1) = cnt (ts.map (· - 1)) p := by
  unfold cnt
  rw [List.countP_map]
  apply List.countP_congr
  intro t ht
  have := h t ht
  simp

/-- the bits of a row of turns: how many are passed, odd or even -/
theorem tb_tv : ∀ (p : Nat) {ts : List Nat}, Asc ts → tb (tv ts) p = decide (cnt ts p % 2 = 1)
  | 0, [], _ => by decide
  | 0, t :: r, h => by
    have hr : ∀ b ∈ r, 0 < b := fun b hb => by have := Asc.lt h b hb; omega
    have e : tv r = 2 * tv (r.map (· - 1)) := by
      rw [← tv_map_succ, pred_map hr]
    rw [tb_zero, tv_cons, cnt_cons, cnt_zero hr, e]
    cases t with
    | zero => simp
    | succ t =>
      rw [Int.pow_succ]
      simp

  | p + 1, [], _ => by
    rw [tb_succ]
    exact tb_tv p (ts := []) trivial
  | p + 1, t :: r, h => by
    have hr : ∀ b ∈ r, 0 < b := fun b hb => by have := Asc.lt h b hb; omega
    have er : tv r = 2 * tv (r.map (· - 1)) := by
      rw [← tv_map_succ, pred_map hr]
    rw [tb_succ]
    cases t with
    | succ t =>
      have h0 : ∀ b ∈ (t + 1) :: r, 0 < b := fun b hb => by
        rcases List.mem_cons.mp hb with rfl | hb
        · omega
        · exact hr b hb
      have e : tv ((t + 1) :: r) = 2 * tv (((t + 1) :: r).map (· - 1)) := by
        rw [← tv_map_succ, pred_map h0]
      rw [e, Int.mul_ediv_cancel_left _ (by decide), tb_tv p (asc_pred h h0), cnt_succ h0]
    | zero =>
      -- n = -1 - 2 m = 2 (-m - 1) + 1
      rw [tv_cons, er]
      have e2 : (-(2 ^ 0) - 2 * tv (r.map (· - 1)) : Int) / 2 = -tv (r.map (· - 1)) - 1 := by
        rw [Int.pow_zero]
        omega
      rw [e2, cnt_cons, if_pos (Nat.zero_le _)]
      have hA : Asc (r.map (· - 1)) := asc_pred h.tail hr
      have ih := tb_tv p hA
      -- the bits of -m - 1 are those of m turned
      have e3 : tb (-tv (r.map (· - 1)) - 1) p = !tb (tv (r.map (· - 1))) p := by
        unfold tb
        generalize tv (r.map (· - 1)) = m
        have hp : (0 : Int) < 2 ^ p := Int.pow_pos (by decide)
        have e4 : (-m - 1) / 2 ^ p = -(m / 2 ^ p) - 1 := by
          have h1 := Int.emod_nonneg m (Int.ne_of_gt hp)
          have h2 := Int.emod_lt_of_pos m hp
          have h3 := Int.mul_ediv_add_emod m (2 ^ p)
          rw [show -m - 1 = (2 ^ p - 1 - m % 2 ^ p) + 2 ^ p * (-(m / 2 ^ p) - 1) by
            rw [Int.mul_sub, Int.mul_neg]
            omega]
          rw [Int.add_mul_ediv_left _ _ (Int.ne_of_gt hp), Int.ediv_eq_zero_of_lt (by omega) (by omega), Int.zero_add]
        rw [e4]
        generalize m / 2 ^ p = q
        rcases Int.emod_two_eq q with e | e
        · simp [e]; omega
        · simp [e]; omega
      rw [e3, ih, cnt_succ hr]
      rcases Nat.mod_two_eq_zero_or_one (cnt (r.map (· - 1)) p) with e | e
      · simp [e]; omega
      · simp [e]; omega
/-- integers with the same bits are equal -/
theorem tb_ext {n m : Int} (h : ∀ p, tb n p = tb m p) : n = m := by
  have key : ∀ (k : Nat) (n m : Int), (∀ p, tb n p = tb m p) → (n - m) % 2 ^ k = 0 := by
    intro k
    induction k with
    | zero => intro n m _; simp
    | succ k ih =>
      intro n m h
      have h0 := h 0
      rw [tb_zero, tb_zero] at h0
      have h1 := ih (n / 2) (m / 2) fun p => by
        have := h (p + 1)
        rwa [tb_succ, tb_succ] at this
      have hm : n % 2 = m % 2 := by
        have e1 := Int.emod_two_eq n
        have e2 := Int.emod_two_eq m
        rcases e1 with e1 | e1 <;> rcases e2 with e2 | e2 <;> simp [e1, e2] at h0 ⊢
      obtain ⟨c, hc⟩ := Int.dvd_of_emod_eq_zero h1
      have : n - m = 2 ^ (k + 1) * c := by
        have e1 : n - m = 2 * (n / 2 - m / 2) := by omega
        rw [e1, hc, Int.pow_succ]
        rw [← Int.mul_assoc, Int.mul_comm 2]
      rw [this, Int.mul_emod_right]
  apply Classical.byContradiction
  intro hne
  have hd := key (n - m).natAbs n m h
  have hlt : (n - m).natAbs < 2 ^ (n - m).natAbs := Nat.lt_two_pow_self
  obtain ⟨c, hc⟩ := Int.dvd_of_emod_eq_zero hd
  have h1 : (n - m).natAbs = 2 ^ (n - m).natAbs * c.natAbs := by
    conv => lhs; rw [hc]
    rw [Int.natAbs_mul, Int.natAbs_pow]
    rfl
  have h2 : c.natAbs ≠ 0 := by
    intro e
    rw [e] at h1
    omega
  have h3 : 2 ^ (n - m).natAbs * 1 ≤ 2 ^ (n - m).natAbs * c.natAbs := Nat.mul_le_mul_left _ (by omega)
  omega
theorem mem_cnt {ts : List Nat} (h : Asc ts) (p : Nat) : p ∈ ts ↔ cnt ts p ≠ (if p = 0 then 0 else cnt ts (p - 1)) := by
  induction ts with
  | nil => simp [cnt]
  | cons t r ih =>
    have ih := ih h.tail
    rw [List.mem_cons, cnt_cons, cnt_cons]
    have hlt := fun b hb => Asc.lt h b hb
    by_cases e : p = t
    · subst e
      have hz : cnt r p = 0 := cnt_zero hlt
      by_cases p0 : p = 0
      · simp [p0] at *

      · have hz2 : cnt r (p - 1) = 0 := cnt_zero fun b hb => by have := hlt b hb; omega
        simp [p0, hz, hz2]
        omega
    · by_cases p0 : p = 0
      · subst p0
        have hz : cnt r 0 = 0 := cnt_zero fun b hb => by have := hlt b hb; omega
        simp at *
        constructor
        · rintro (z | z)
          · omega
          · have := hlt 0 z; omega
        · intro z
          omega
      · simp only [p0, if_false] at *
        rw [ih]
        simp only [e, false_or]
        by_cases c : t ≤ p
        · have c2 : t ≤ p - 1 := by omega
          simp [c, c2]
        · have c2 : ¬ t ≤ p - 1 := by omega
          simp [c, c2]
theorem cnt_mono (ts : List Nat) (p : Nat) : Asc ts → cnt ts p ≤ cnt ts (p + 1) ∧ cnt ts (p + 1) ≤ cnt ts p + 1 := by
  intro h
  induction ts with
  | nil => simp [cnt]
  | cons t r ih =>
    have ih := ih h.tail
    have hlt := fun b hb => Asc.lt h b hb
    rw [cnt_cons, cnt_cons]
    by_cases c : t ≤ p
    · have : t ≤ p + 1 := by omega
      simp [c, this]
      omega
    · by_cases c2 : t ≤ p + 1
      · have e : t = p + 1 := by omega
        have hz : cnt r (p + 1) = 0 := cnt_zero fun b hb => by have := hlt b hb; omega
        have hz2 : cnt r p = 0 := cnt_zero fun b hb => by have := hlt b hb; omega
        simp [c, c2, hz, hz2]
      · simp [c, c2]
        omega
/-- p is a turn exactly if the bit there differs from the one before -/
theorem mem_tb {ts : List Nat} (h : Asc ts) (p : Nat) : p ∈ ts ↔ tb (tv ts) p ≠ (if p = 0 then false else tb (tv ts) (p - 1)) := by
  rw [mem_cnt h, tb_tv p h]
  by_cases p0 : p = 0
  · subst p0
    have : cnt ts 0 ≤ 1 := by
      cases ts with
      | nil => simp [cnt]
      | cons t r =>
        rw [cnt_cons, cnt_zero fun b hb => by have := Asc.lt h b hb; omega]
        split <;> omega
    simp
    omega
  · obtain ⟨q, rfl⟩ : ∃ q, p = q + 1 := ⟨p - 1, by omega⟩
    simp only [Nat.add_sub_cancel, Nat.add_one_ne_zero, if_false]
    rw [tb_tv q h]
    have := cnt_mono ts q h
    have h2 := Nat.mod_two_eq_zero_or_one (cnt ts q)
    have h3 := Nat.mod_two_eq_zero_or_one (cnt ts (q + 1))
    rcases h2 with e2 | e2 <;> rcases h3 with e3 | e3 <;> simp [e2, e3] <;> omega
theorem asc_ext : ∀ {ts us : List Nat}, Asc ts → Asc us → (∀ p, p ∈ ts ↔ p ∈ us) → ts = us
  | [], [], _, _, _ => rfl
  | [], u :: _, _, _, h => absurd ((h u).mpr (by simp)) (by simp)
  | t :: _, [], _, _, h => absurd ((h t).mp (by simp)) (by simp)
  | t :: r, u :: q, h1, h2, h => by
    have e : t = u := by
      have a := (h t).mp (by simp)
      have b := (h u).mpr (by simp)
      rcases List.mem_cons.mp a with a | a
      · exact a
      · rcases List.mem_cons.mp b with b | b
        · exact b.symm
        · have := Asc.lt h2 t a
          have := Asc.lt h1 u b
          omega
    subst e
    congr 1
    refine asc_ext h1.tail h2.tail fun p => ?_
    constructor
    · intro hp
      have := Asc.lt h1 p hp
      rcases List.mem_cons.mp ((h p).mp (by simp [hp])) with z | z
      · omega
      · exact z
    · intro hp
      have := Asc.lt h2 p hp
      rcases List.mem_cons.mp ((h p).mpr (by simp [hp])) with z | z
      · omega
      · exact z
/-- one integer, one row of turns -/
theorem tv_inj {ts us : List Nat} (h1 : Asc ts) (h2 : Asc us) (h : tv ts = tv us) : ts = us :=
  asc_ext h1 h2 fun p => by rw [mem_tb h1, mem_tb h2, h]
/-! ### every integer has its turns -/
theorem asc_succ : ∀ {ts : List Nat}, Asc ts → Asc (ts.map (· + 1))
  | [], _ => trivial
  | [_], _ => trivial
  | a :: b :: r, h => ⟨by have := h.1; show a + 1 < b + 1; omega, asc_succ h.2⟩
theorem turns_ex : ∀ n : Int, ∃ ts, Asc ts ∧ tv ts = n := by
  have key : ∀ (k : Nat) (n : Int), 2 * n.natAbs + (if 0 < n then 1 else 0) ≤ k → ∃ ts, Asc ts ∧ tv ts = n := by
    intro k
    induction k with
    | zero =>
      intro n h
      have : n = 0 := by omega
      subst this
      exact ⟨[], trivial, rfl⟩
    | succ k ih =>
      intro n h
      by_cases h0 : n = 0
      · subst h0
        exact ⟨[], trivial, rfl⟩
      rcases Int.emod_two_eq n with e | e
      · obtain ⟨ts, h1, h2⟩ := ih (n / 2) (by split at h <;> split <;> omega)
        exact ⟨ts.map (· + 1), asc_succ h1, by rw [tv_map_succ, h2]; omega⟩
      · obtain ⟨ts, h1, h2⟩ := ih (-(n / 2) - 1) (by split at h <;> split <;> omega)
        refine ⟨0 :: ts.map (· + 1), asc_cons (fun b hb => ?_) (asc_succ h1), ?_⟩
        · obtain ⟨c, _, rfl⟩ := List.mem_map.mp hb
          omega
        · rw [tv_cons, tv_map_succ, h2, Int.pow_zero]
          omega
  intro n
  exact key _ n (Nat.le_refl _)
/-! ### the marks: a one at each turn -/
open PySem PyProof.Rows PySem.W in
theorem tb_and (x y : Int) : ∀ p, tb (Builtin.bitAnd x y) p = (tb x p && tb y p) := by
  intro p
  induction p generalizing x y with
  | zero =>
    rw [tb_zero, tb_zero, tb_zero, kbt_halves x y]
    have h1 := Int.emod_two_eq x
    have h2 := Int.emod_two_eq y
    rcases h1 with h1 | h1 <;> rcases h2 with h2 | h2 <;> simp [h1, h2] <;> omega
  | succ p ih =>
    rw [tb_succ, tb_succ, tb_succ, ← ih]
    congr 1
    rw [kbt_halves x y]
    split <;> omega
open PySem PyProof.Rows PySem.W in
theorem tb_xor (x y : Int) : ∀ p, tb (Builtin.bitXor x y) p = (tb x p ^^ tb y p) := by
  intro p
  induction p generalizing x y with
  | zero =>
    rw [tb_zero, tb_zero, tb_zero, bitXor_and x y]
    have h1 := Int.emod_two_eq x
    have h2 := Int.emod_two_eq y
    rcases h1 with h1 | h1 <;> rcases h2 with h2 | h2 <;> simp [h1, h2] <;> omega
  | succ p ih =>
    rw [tb_succ, tb_succ, tb_succ, ← ih]
    congr 1
    rw [bitXor_and, bitXor_and, kbt_halves x y]
    have h1 := Int.emod_two_eq x
    have h2 := Int.emod_two_eq y
    rcases h1 with h1 | h1 <;> rcases h2 with h2 | h2 <;> simp [h1, h2] <;> omega
/-- the sum of the powers of two at the turns -/
def psum : List Nat → Int
  | [] => 0
  | t :: r => 2 ^ t + psum r
theorem psum_map_succ : ∀ ts : List Nat, psum (ts.map (· + 1)) = 2 * psum ts
  | [] => rfl
  | t :: r => by
    rw [List.map_cons, psum, psum, psum_map_succ r, Int.pow_succ]
    omega
theorem psum_nonneg : ∀ ts : List Nat, 0 ≤ psum ts
  | [] => Int.le_refl _
  | t :: r => by
    have := psum_nonneg r
    have : (0 : Int) < 2 ^ t := Int.pow_pos (by decide)
    show 0 ≤ 2 ^ t + psum r
    omega
theorem psum_low {t : Nat} : ∀ {r : List Nat}, (∀ b ∈ r, t < b) → ∃ c, psum r = 2 ^ (t + 1) * c
  | [], _ => ⟨0, by simp [psum]⟩
  | b :: r, h => by
    obtain ⟨c, e⟩ := psum_low (r := r) fun x hx => h x (by simp [hx])
    have hb := h b (by simp)
    refine ⟨2 ^ (b - (t + 1)) + c, ?_⟩
    rw [psum, e, Int.mul_add, ← Int.pow_add]
    congr 3
    omega
theorem psum_cons {t : Nat} {r : List Nat} (h : Asc (t :: r)) : ∃ c, psum (t :: r) = 2 ^ t * (2 * c + 1) := by
  obtain ⟨c, e⟩ := psum_low fun b hb => Asc.lt h b hb
  refine ⟨c, ?_⟩
  rw [psum, e, Int.pow_succ, Int.mul_add, Int.mul_one, ← Int.mul_assoc]
  omega
theorem tb_psum : ∀ (p : Nat) {ts : List Nat}, Asc ts → tb (psum ts) p = decide (p ∈ ts)
  | p, [], _ => by simp [psum, tb]
  | 0, t :: r, h => by
    have hr : ∀ b ∈ r, 0 < b := fun b hb => by have := Asc.lt h b hb; omega
    have e : psum r = 2 * psum (r.map (· - 1)) := by rw [← psum_map_succ, pred_map hr]
    have hn : 0 ∉ r := fun z => by have := hr 0 z; omega
    rw [tb_zero, psum, e]
    cases t with
    | zero => simp
    | succ t =>
      rw [Int.pow_succ]
      simp [hn]

  | p + 1, t :: r, h => by
    have hr : ∀ b ∈ r, 0 < b := fun b hb => by have := Asc.lt h b hb; omega
    have er : psum r = 2 * psum (r.map (· - 1)) := by rw [← psum_map_succ, pred_map hr]
    have hA := asc_pred h.tail hr
    have hm : ∀ {l : List Nat}, (∀ b ∈ l, 0 < b) → (p ∈ l.map (· - 1) ↔ p + 1 ∈ l) := fun {l} hl => by
      rw [List.mem_map]
      constructor
      · rintro ⟨a, ha, e⟩
        have := hl a ha
        have : a = p + 1 := by omega
        exact this ▸ ha
      · intro hp
        exact ⟨p + 1, hp, by omega⟩
    rw [tb_succ, psum]
    cases t with
    | zero =>
      rw [er, show ((2 : Int) ^ 0 + 2 * psum (r.map (· - 1))) / 2 = psum (r.map (· - 1)) by rw [Int.pow_zero]; omega, tb_psum p hA]
      simp [hm hr]
    | succ t =>
      have h0 : ∀ b ∈ (t + 1) :: r, 0 < b := fun b hb => by
        rcases List.mem_cons.mp hb with rfl | hb
        · omega
        · exact hr b hb
      have e : (2 : Int) ^ (t + 1) + psum r = 2 * psum (((t + 1) :: r).map (· - 1)) := by
        show psum ((t + 1) :: r) = _
        rw [← psum_map_succ, pred_map h0]
      rw [e, Int.mul_ediv_cancel_left _ (by decide), tb_psum p (asc_pred h h0)]
      exact decide_eq_decide.mpr (hm h0)
theorem tb_dbl (n : Int) (p : Nat) : tb (n * 2) p = if p = 0 then false else tb n (p - 1) := by
  cases p with
  | zero => simp [tb_zero]
  | succ p => rw [tb_succ, Int.mul_ediv_cancel _ (by decide)]; simp
open PySem PyProof.Rows PySem.W in
theorem marks {ts : List Nat} (h : Asc ts) : Builtin.bitXor (tv ts) (tv ts * 2) = psum ts := by
  apply tb_ext
  intro p
  rw [tb_xor, tb_dbl, tb_psum p h]
  have := mem_tb h p
  by_cases hp : p ∈ ts
  · rw [decide_eq_true hp]
    have := this.mp hp
    revert this
    cases tb (tv ts) p <;> cases (if p = 0 then false else tb (tv ts) (p - 1)) <;> simp
  · rw [decide_eq_false hp]
    have h2 : ¬ _ := fun z => hp (this.mpr z)
    revert h2
    cases tb (tv ts) p <;> cases (if p = 0 then false else tb (tv ts) (p - 1)) <;> simp
open PySem PyProof.Rows PySem.W in
/-- one step of reading the marks -/
theorem low_mark {t : Nat} {r : List Nat} (h : Asc (t :: r)) : Builtin.bitAnd (psum (t :: r)) (-psum (t :: r)) = 2 ^ t := by
  obtain ⟨c, e⟩ := psum_cons h
  rw [e]
  exact kbt_low t c
open PySem PyProof.Rows PySem.W in
theorem off_mark {t : Nat} {r : List Nat} (h : Asc (t :: r)) : Builtin.bitXor (psum (t :: r)) (2 ^ t) = psum r := by
  obtain ⟨c, e⟩ := psum_cons h
  have hp : (0 : Int) < 2 ^ t := Int.pow_pos (by decide)
  rw [bitXor_and, kbt_bit]
  have e2 : psum (t :: r) / 2 ^ t % 2 = 1 := by
    rw [e, Int.mul_ediv_cancel_left _ (Int.ne_of_gt hp)]
    omega
  rw [e2, psum]
  omega
theorem psum_pos {t : Nat} {r : List Nat} : 0 < psum (t :: r) := by
  have := psum_nonneg r
  have : (0 : Int) < 2 ^ t := Int.pow_pos (by decide)
  show 0 < 2 ^ t + psum r
  omega
/-! ### the sign of a row of turns -/
theorem tv_bound : ∀ {ts : List Nat} {k : Nat}, Asc ts → (∀ t ∈ ts, t < k) → -(2 ^ k) < tv ts ∧ tv ts < 2 ^ k
  | [], k, _, _ => by
    have : (0 : Int) < 2 ^ k := Int.pow_pos (by decide)
    rw [tv_nil]
    omega
  | [t], k, h, hb => by
    have h1 := hb t (by simp)
    have h2 : (2 : Int) ^ t < 2 ^ k := Int.pow_lt_pow_of_lt (by decide) h1
    have h3 : (0 : Int) < 2 ^ t := Int.pow_pos (by decide)
    rw [tv_cons, tv_nil]
    omega
  | t :: u :: r, k, h, hb => by
    -- the rest is between -2^k and 2^k, and has a low part
    have ih := tv_bound h.tail (fun x hx => hb x (by simp [hx]))
    have h1 := hb t (by simp)
    have h3 : (0 : Int) < 2 ^ t := Int.pow_pos (by decide)
    -- tv (u :: r) is a multiple of 2 ^ (t + 1)
    have hm : ∀ {l : List Nat}, (∀ b ∈ l, t < b) → ∃ c, tv l = 2 ^ (t + 1) * c := by
      intro l
      induction l with
      | nil => intro _; exact ⟨0, by simp [tv_nil]⟩
      | cons b l ihl =>
        intro hl
        obtain ⟨c, e⟩ := ihl fun x hx => hl x (by simp [hx])
        have hbt := hl b (by simp)
        refine ⟨-(2 ^ (b - (t + 1))) - c, ?_⟩
        rw [tv_cons, e, Int.mul_sub, Int.mul_neg, ← Int.pow_add]
        congr 3
        omega
    obtain ⟨c, e⟩ := hm fun b hb => Asc.lt h b hb
    have e2 : (2 : Int) ^ k = 2 ^ (t + 1) * 2 ^ (k - (t + 1)) := by
      rw [← Int.pow_add]
      congr 1
      omega
    rw [tv_cons]
    have h4 : (2 : Int) ^ (t + 1) = 2 * 2 ^ t := by rw [Int.pow_succ]; omega
    rw [e, e2] at ih
    have hq : (0 : Int) < 2 ^ (t + 1) := Int.pow_pos (by decide)
    have a1 : -(2 ^ (k - (t + 1))) < c := by
      have := ih.1
      rw [← Int.mul_neg] at this
      exact Int.lt_of_mul_lt_mul_left this (Int.le_of_lt hq)
    have a2 : c < 2 ^ (k - (t + 1)) := Int.lt_of_mul_lt_mul_left ih.2 (Int.le_of_lt hq)
    rw [e, e2]
    generalize hz : (2 : Int) ^ (k - (t + 1)) = z at *
    generalize hy : (2 : Int) ^ (t + 1) = y at *
    have b1 : y * (c + 1) ≤ y * z := Int.mul_le_mul_of_nonneg_left (by omega) (by omega)
    have b2 : y * (-z + 1) ≤ y * c := Int.mul_le_mul_of_nonneg_left (by omega) (by omega)
    rw [Int.mul_add, Int.mul_one] at b1 b2
    rw [Int.mul_neg] at b2
    omega
/-- the sign of a row: odd rows are below 0 -/
theorem tv_sign : ∀ {ts : List Nat} {t : Nat}, Asc (ts ++ [t]) → (tv (ts ++ [t]) < 0 ↔ ts.length % 2 = 0) ∧ tv (ts ++ [t]) ≠ 0 := by
  intro ts t h
  have hlow : ∀ x ∈ ts, x < t := by
    have := asc_pairwise.mp h
    rw [List.pairwise_append] at this
    exact fun x hx => this.2.2 x hx t (by simp)
  have hA : Asc ts := by
    have := asc_pairwise.mp h
    rw [List.pairwise_append] at this
    exact asc_pairwise.mpr this.1
  have hb := tv_bound hA hlow
  have e : tv (ts ++ [t]) = tv ts + (if ts.length % 2 = 0 then -(2 ^ t) else 2 ^ t) := by
    clear hb hA hlow h
    induction ts with
    | nil => simp [tv_cons, tv_nil]
    | cons a r ih =>
      rw [List.cons_append, tv_cons, tv_cons, ih, List.length_cons]
      split <;> split <;> omega
  rw [e]
  split <;> constructor <;> omega
end TV
set_option linter.all false
/-! forms as data: their values; forms of one value are one form -/
namespace FM
open PySem TV
/-! ### ranges -/
theorem tb_shift (n : Int) (k p : Nat) : tb (n / 2 ^ k) p = tb n (k + p) := by
  unfold tb
  rw [Int.pow_add, Int.ediv_ediv_of_nonneg (Int.le_of_lt (Int.pow_pos (by decide)))]
theorem tb_top (p : Nat) : tb 0 p = false := by simp [tb]
theorem tb_neg1 : ∀ p : Nat, tb (-1) p = true
  | 0 => by decide
  | p + 1 => by
    rw [tb_succ]
    exact tb_neg1 p
theorem cnt_all {ts : List Nat} {p : Nat} (h : ∀ t ∈ ts, t ≤ p) : cnt ts p = ts.length := by
  unfold cnt
  rw [List.countP_eq_length]
  intro t ht
  simp
  exact h t ht
/-- all turns at most k: exactly the integers of k bits and a sign -/
theorem tv_range {ts : List Nat} {k : Nat} (h : Asc ts) : (∀ t ∈ ts, t ≤ k) ↔ -(2 ^ k) ≤ tv ts ∧ tv ts < 2 ^ k := by
  have hp : (0 : Int) < 2 ^ k := Int.pow_pos (by decide)
  have iff1 : (-(2 ^ k) ≤ tv ts ∧ tv ts < 2 ^ k) ↔ (tv ts / 2 ^ k = 0 ∨ tv ts / 2 ^ k = -1) := by
    have h1 := Int.emod_nonneg (tv ts) (Int.ne_of_gt hp)
    have h2 := Int.emod_lt_of_pos (tv ts) hp
    have h3 := Int.mul_ediv_add_emod (tv ts) (2 ^ k)
    generalize tv ts / 2 ^ k = q at *
    generalize tv ts % 2 ^ k = r at *
    generalize (2 : Int) ^ k = z at *
    constructor
    · rintro ⟨a, b⟩
      have c1 : q < 1 := by
        apply Int.lt_of_mul_lt_mul_left (a := z) _ (by omega)
        omega
      have c2 : -2 < q := by
        apply Int.lt_of_mul_lt_mul_left (a := z) _ (by omega)
        omega
      omega
    · rintro (e | e)
      · subst e; omega
      · subst e; omega
  rw [iff1]
  constructor
  · intro ha
    have hc : ∀ p, tb (tv ts / 2 ^ k) p = decide (ts.length % 2 = 1) := fun p => by
      rw [tb_shift, tb_tv _ h, cnt_all fun t ht => by have := ha t ht; omega]
    by_cases e : ts.length % 2 = 1
    · right
      apply tb_ext
      intro p
      rw [hc, tb_neg1, decide_eq_true e]
    · left
      apply tb_ext
      intro p
      rw [hc, tb_top, decide_eq_false e]
  · intro hq t ht
    apply Nat.le_of_not_lt
    intro hlt
    have := (mem_tb h t).mp ht
    apply this
    rw [if_neg (by omega)]
    have hc : ∀ p q, k ≤ p → k ≤ q → tb (tv ts) p = tb (tv ts) q := fun p q hp hq' => by
      have e1 : tb (tv ts) p = tb (tv ts / 2 ^ k) (p - k) := by rw [tb_shift]; congr 1; omega
      have e2 : tb (tv ts) q = tb (tv ts / 2 ^ k) (q - k) := by rw [tb_shift]; congr 1; omega
      rw [e1, e2]
      rcases hq with e | e <;> rw [e]
      · rw [tb_top, tb_top]
      · rw [tb_neg1, tb_neg1]
    exact hc _ _ (by omega) (by omega)
theorem asc_len {k : Nat} : ∀ {ts : List Nat} {a : Nat}, Asc ts → (∀ t ∈ ts, a ≤ t ∧ t ≤ k) → ts.length ≤ k + 1 - a
  | [], a, _, _ => Nat.zero_le _
  | t :: r, a, h, hb => by
    have h1 := hb t (by simp)
    have := asc_len (a := t + 1) h.tail fun x hx => ⟨Asc.lt h x hx, (hb x (by simp [hx])).2⟩
    rw [List.length_cons]
    omega
/-! ### forms -/
mutual
def val : PyData → Int
  | .int i => i
  | .tuple ds => tv (vals ds)
  | _ => 0
def vals : List PyData → List Nat
  | [] => []
  | d :: r => (val d).toNat :: vals r
end
mutual
def Fm : PyData → Prop
  | .int i => -(2 ^ 64) ≤ i ∧ i < 2 ^ 64
  | .tuple ds => FmAll ds ∧ Asc (vals ds) ∧ ∃ t ∈ vals ds, 64 < t
  | _ => False
def FmAll : List PyData → Prop
  | [] => True
  | d :: r => Fm d ∧ 0 ≤ val d ∧ FmAll r
end
theorem val_int (i : Int) : val (.int i) = i := by simp [val]
theorem val_tuple (ds : List PyData) : val (.tuple ds) = tv (vals ds) := by simp [val]
theorem vals_nil : vals [] = [] := by simp [vals]
theorem vals_cons (d : PyData) (r : List PyData) : vals (d :: r) = (val d).toNat :: vals r := by simp [vals]
theorem fm_int (i : Int) : Fm (.int i) ↔ -(2 ^ 64) ≤ i ∧ i < 2 ^ 64 := by simp [Fm]
theorem fm_tuple (ds : List PyData) : Fm (.tuple ds) ↔ FmAll ds ∧ Asc (vals ds) ∧ ∃ t ∈ vals ds, 64 < t := by simp [Fm]
theorem fmAll_nil : FmAll [] := by simp [FmAll]
theorem fmAll_cons (d : PyData) (r : List PyData) : FmAll (d :: r) ↔ Fm d ∧ 0 ≤ val d ∧ FmAll r := by simp [FmAll]
theorem vals_len : ∀ ds : List PyData, (vals ds).length = ds.length
  | [] => by simp [vals]
  | d :: r => by rw [vals_cons, List.length_cons, vals_len r, List.length_cons]
theorem vals_app : ∀ ds es : List PyData, vals (ds ++ es) = vals ds ++ vals es
  | [], es => by simp [vals]
  | d :: r, es => by rw [List.cons_append, vals_cons, vals_cons, vals_app r es, List.cons_append]
theorem fmAll_app : ∀ ds es : List PyData, FmAll (ds ++ es) ↔ FmAll ds ∧ FmAll es
  | [], es => by simp [FmAll]
  | d :: r, es => by
    rw [List.cons_append, fmAll_cons, fmAll_cons, fmAll_app r es]
    exact ⟨fun ⟨a, b, c, e⟩ => ⟨⟨a, b, c⟩, e⟩, fun ⟨⟨a, b, c⟩, e⟩ => ⟨a, b, c, e⟩⟩
theorem fmAll_mem : ∀ {ds : List PyData}, FmAll ds → ∀ d ∈ ds, Fm d ∧ 0 ≤ val d
  | [], _, d, hd => by simp at hd
  | e :: r, h, d, hd => by
    rw [fmAll_cons] at h
    rcases List.mem_cons.mp hd with rfl | hd
    · exact ⟨h.1, h.2.1⟩
    · exact fmAll_mem h.2.2 d hd
theorem mem_vals : ∀ {ds : List PyData} {t : Nat}, t ∈ vals ds ↔ ∃ d ∈ ds, (val d).toNat = t
  | [], t => by simp [vals]
  | e :: r, t => by
    rw [vals_cons, List.mem_cons, mem_vals (ds := r)]
    constructor
    · rintro (h | ⟨d, h1, h2⟩)
      · exact ⟨e, by simp, h.symm⟩
      · exact ⟨d, by simp [h1], h2⟩
    · rintro ⟨d, h1, h2⟩
      rcases List.mem_cons.mp h1 with rfl | h1
      · exact .inl h2.symm
      · exact .inr ⟨d, h1, h2⟩
/-- a tuple form is no plain integer -/
theorem tuple_far {ds : List PyData} (h : Fm (.tuple ds)) : ¬ (-(2 ^ 64) ≤ val (.tuple ds) ∧ val (.tuple ds) < 2 ^ 64) := by
  rw [fm_tuple] at h
  rw [val_tuple, ← tv_range h.2.1]
  intro hc
  obtain ⟨t, ht, h64⟩ := h.2.2
  have := hc t ht
  omega
mutual
theorem fm_inj : ∀ {d e : PyData}, Fm d → Fm e → val d = val e → d = e
  | .int i, .int j, _, _, h => by
    rw [val_int, val_int] at h
    rw [h]
  | .int i, .tuple es, hd, he, h => by
    rw [fm_int] at hd
    rw [val_int] at h
    exact absurd (h ▸ hd) (tuple_far he)
  | .tuple ds, .int j, hd, he, h => by
    rw [fm_int] at he
    rw [val_int] at h
    exact absurd (h ▸ he) (tuple_far hd)
  | .tuple ds, .tuple es, hd, he, h => by
    have hd' := (fm_tuple ds).mp hd
    have he' := (fm_tuple es).mp he
    rw [val_tuple, val_tuple] at h
    rw [fmAll_inj hd'.1 he'.1 (tv_inj hd'.2.1 he'.2.1 h)]
  | .none, _, hd, _, _ => by simp [Fm] at hd
  | .bool _, _, hd, _, _ => by simp [Fm] at hd
  | .str _, _, hd, _, _ => by simp [Fm] at hd
  | .list _, _, hd, _, _ => by simp [Fm] at hd
  | .dict _, _, hd, _, _ => by simp [Fm] at hd
  | .int _, .none, _, he, _ => by simp [Fm] at he
  | .int _, .bool _, _, he, _ => by simp [Fm] at he
  | .int _, .str _, _, he, _ => by simp [Fm] at he
  | .int _, .list _, _, he, _ => by simp [Fm] at he
  | .int _, .dict _, _, he, _ => by simp [Fm] at he
  | .tuple _, .none, _, he, _ => by simp [Fm] at he
  | .tuple _, .bool _, _, he, _ => by simp [Fm] at he
  | .tuple _, .str _, _, he, _ => by simp [Fm] at he
  | .tuple _, .list _, _, he, _ => by simp [Fm] at he
  | .tuple _, .dict _, _, he, _ => by simp [Fm] at he
theorem fmAll_inj : ∀ {ds es : List PyData}, FmAll ds → FmAll es → vals ds = vals es → ds = es
  | [], [], _, _, _ => rfl
  | [], e :: r, _, _, h => by
    rw [vals_nil, vals_cons] at h
    cases h
  | d :: r, [], _, _, h => by
    rw [vals_nil, vals_cons] at h
    cases h
  | d :: r, e :: q, hd, he, h => by
    rw [vals_cons, vals_cons] at h
    injection h with h1 h2
    rw [fmAll_cons] at hd he
    have h0 := hd.2.1
    have h0' := he.2.1
    rw [fm_inj hd.1 he.1 (by omega), fmAll_inj hd.2.2 he.2.2 h2]
end
/-! ### sizes -/
mutual
def wt : PyData → Nat
  | .tuple ds => 1 + wtAll ds
  | _ => 1
def wtAll : List PyData → Nat
  | [] => 0
  | d :: r => wt d + wtAll r
end
theorem wt_int (i : Int) : wt (.int i) = 1 := by simp [wt]
theorem wt_tuple (ds : List PyData) : wt (.tuple ds) = 1 + wtAll ds := by simp [wt]
theorem wtAll_nil : wtAll [] = 0 := by simp [wtAll]
theorem wtAll_cons (d : PyData) (r : List PyData) : wtAll (d :: r) = wt d + wtAll r := by simp [wtAll]
theorem wtAll_app : ∀ ds es : List PyData, wtAll (ds ++ es) = wtAll ds + wtAll es
  | [], es => by simp [wtAll]
  | d :: r, es => by rw [List.cons_append, wtAll_cons, wtAll_cons, wtAll_app r es, Nat.add_assoc]
/-- small turns as data -/
def iD (ts : List Nat) : List PyData := ts.map fun t => .int (t : Nat)
theorem vals_iD : ∀ ts : List Nat, vals (iD ts) = ts
  | [] => by simp [iD, vals]
  | t :: r => by
    show vals (.int (t : Nat) :: iD r) = _
    rw [vals_cons, vals_iD r, val_int]
    rfl
theorem fmAll_iD : ∀ {ts : List Nat}, (∀ t ∈ ts, t < 2 ^ 64) → FmAll (iD ts)
  | [], _ => by simp [iD, FmAll]
  | t :: r, h => by
    show FmAll (.int (t : Nat) :: iD r)
    rw [fmAll_cons, val_int, fm_int]
    have := h t (by simp)
    exact ⟨by omega, by omega, fmAll_iD fun x hx => h x (by simp [hx])⟩
theorem wtAll_iD : ∀ ts : List Nat, wtAll (iD ts) = ts.length
  | [] => by simp [iD, wtAll]
  | t :: r => by
    show wtAll (.int (t : Nat) :: iD r) = _
    rw [wtAll_cons, wtAll_iD r, wt_int, List.length_cons]
    omega
/-- no other value has this form: the plain forms, the forms of few turns -/
theorem fm_small {ts : List Nat} (h : Asc ts) (hb : ∀ t ∈ ts, t < 2 ^ 64) (h64 : ∃ t ∈ ts, 64 < t) : Fm (.tuple (iD ts)) ∧ val (.tuple (iD ts)) = tv ts := by
  rw [fm_tuple, val_tuple, vals_iD]
  exact ⟨⟨fmAll_iD hb, h, h64⟩, rfl⟩
end FM
set_option Elab.async false
set_option linter.all false
set_option maxRecDepth 100000
/-! data in the heap: forms stay where nothing but lists, dicts and objects change -/
namespace DX
open PySem PySem.Spec PyProof.Rows L2 HX TV FM
/-- what can't be written stays -/
def Tk (H H' : Hp) : Prop := ∀ a o, H a = some o → ¬ Mut (some o) → (∀ ps, o ≠ .tbl ps) → H' a = some o
theorem Tk.refl (H : Hp) : Tk H H := fun _ _ h _ _ => h
theorem Tk.trans {H H1 H2 : Hp} (a : Tk H H1) (b : Tk H1 H2) : Tk H H2 := fun x o h m n => b x o (a x o h m n) m n
theorem tk_same {H H' : Hp} (a : Same H H') : Tk H H' := fun x o h _ _ => a x o h
theorem tk_but {p : Addr} {H H' : Hp} (a : But p H H') (m : Mut (H p)) : Tk H H' := fun x o h n _ => a x o (fun e => by
  subst e
  rw [h] at m
  exact n m) h
theorem tk_mut {p : Addr} {H : Hp} {o : HO} (m : Mut (H p)) : Tk H (upd H p o) := fun x u h n _ => by
  rw [upd_ne (fun e => by
    subst e
    rw [h] at m
    exact n m)]
  exact h
theorem tk_tup {K : PySem.W.Frag} {H H' : Hp} {a : Addr} {xs : List V} (e : Tk H H') (h : SqT K H a xs) : SqT K H' a xs := by
  rcases h with (h | ⟨o, h⟩) | h
  · exact .inl (.inl (e _ _ h (fun z => z) fun ps z => nomatch z))
  · exact .inl (.inr ⟨o, e _ _ h (fun z => z) fun ps z => nomatch z⟩)
  · exact .inr h
mutual
theorem dp_tk {K : PySem.W.Frag} {H H' : Hp} (e : Tk H H') : ∀ {d : PyData} {v : V}, Fm d → Dp K H v d → Dp K H' v d
  | .int i, _, _, h => by
    cases h
    exact .int i
  | .tuple ds, _, f, h => by
    rw [fm_tuple] at f
    cases h with
    | tup h1 h2 => exact .tup (tk_tup e h1) (dpAll_tk e f.1 h2)
  | .none, _, f, _ => by simp [Fm] at f
  | .bool _, _, f, _ => by simp [Fm] at f
  | .str _, _, f, _ => by simp [Fm] at f
  | .list _, _, f, _ => by simp [Fm] at f
  | .dict _, _, f, _ => by simp [Fm] at f
theorem dpAll_tk {K : PySem.W.Frag} {H H' : Hp} (e : Tk H H') : ∀ {ds : List PyData} {vs : List V}, FmAll ds → DpAll K H vs ds → DpAll K H' vs ds
  | [], _, _, h => by
    cases h
    exact .nil
  | d :: r, _, f, h => by
    rw [fmAll_cons] at f
    cases h with
    | cons h1 h2 => exact .cons (dp_tk e f.1 h1) (dpAll_tk e f.2.2 h2)
end
theorem dpAll_len {K : PySem.W.Frag} {H : Hp} : ∀ {ds : List PyData} {vs : List V}, DpAll K H vs ds → vs.length = ds.length
  | [], _, h => by
    cases h
    rfl
  | d :: r, _, h => by
    cases h with
    | cons h1 h2 => rw [List.length_cons, dpAll_len h2, List.length_cons]
theorem dpAll_app {K : PySem.W.Frag} {H : Hp} : ∀ {ds es : List PyData} {vs us : List V}, DpAll K H vs ds → DpAll K H us es → DpAll K H (vs ++ us) (ds ++ es)
  | [], _, _, _, h, h' => by
    cases h
    exact h'
  | d :: r, _, _, _, h, h' => by
    cases h with
    | cons h1 h2 => exact .cons h1 (dpAll_app h2 h')
theorem dpAll_get {K : PySem.W.Frag} {H : Hp} : ∀ {ds : List PyData} {vs : List V} {i : Nat} {v : V}, DpAll K H vs ds → vs[i]? = some v → ∃ d, ds[i]? = some d ∧ Dp K H v d
  | [], _, i, v, h, e => by
    cases h
    simp at e
  | d :: r, _, i, v, h, e => by
    cases h with
    | cons h1 h2 =>
      cases i with
      | zero =>
        simp at e
        subst e
        exact ⟨d, rfl, h1⟩
      | succ i =>
        obtain ⟨d', h3, h4⟩ := dpAll_get (i := i) (v := v) h2 (by simpa using e)
        exact ⟨d', by simpa using h3, h4⟩
theorem dp_nv {K : PySem.W.Frag} {H : Hp} : ∀ ts : List Nat, DpAll K H (nv ts) (iD ts)
  | [] => .nil
  | t :: r => .cons (.int _) (dp_nv r)
/-! data that can be laid and compared: forms -/
mutual
theorem fm_lay : ∀ {d : PyData}, Fm d → PyData.canLay0 d = true
  | .int i, _ => by simp [PyData.canLay0]
  | .tuple ds, f => by
    rw [fm_tuple] at f
    simp only [PyData.canLay0]
    exact fmAll_lay f.1
  | .none, f => by simp [Fm] at f
  | .bool _, f => by simp [Fm] at f
  | .str _, f => by simp [Fm] at f
  | .list _, f => by simp [Fm] at f
  | .dict _, f => by simp [Fm] at f
theorem fmAll_lay : ∀ {ds : List PyData}, FmAll ds → PyData.canLayAll0 ds = true
  | [], _ => by simp [PyData.canLayAll0]
  | d :: r, f => by
    rw [fmAll_cons] at f
    simp only [PyData.canLayAll0, fm_lay f.1, fmAll_lay f.2.2, Bool.and_self]
end
theorem shaped_fm {d : PyData} (h : Fm d) (hd : d.depth ≤ 64) : SeqAt.shaped d = true := by
  unfold SeqAt.shaped
  rw [fm_lay h, decide_eq_true hd]
  rfl
theorem shaped_fms {ds : List PyData} (h : FmAll ds) (hd : PyData.depthAll ds ≤ 60) : SeqAt.shaped (.list ds) = true := by
  show (PyData.canLayAll0 ds && decide (PyData.depthAll ds + 1 ≤ 64)) = true
  rw [fmAll_lay h, decide_eq_true (by omega)]
  rfl
theorem depth_int (i : Int) : PyData.depth (.int i) = 0 := by simp [PyData.depth]
theorem depth_tuple (ds : List PyData) : PyData.depth (.tuple ds) = PyData.depthAll ds + 1 := by simp [PyData.depth]
theorem depthAll_nil : PyData.depthAll [] = 0 := by simp [PyData.depthAll]
theorem depthAll_cons (d : PyData) (r : List PyData) : PyData.depthAll (d :: r) = max d.depth (PyData.depthAll r) := by simp [PyData.depthAll]
theorem depthAll_le : ∀ {ds : List PyData} {k : Nat}, PyData.depthAll ds ≤ k ↔ ∀ d ∈ ds, d.depth ≤ k
  | [], k => by simp [PyData.depthAll]
  | d :: r, k => by
    rw [depthAll_cons]
    constructor
    · intro h e he
      rcases List.mem_cons.mp he with rfl | he
      · omega
      · exact depthAll_le.mp (by omega) e he
    · intro h
      have h1 := h d (by simp)
      have h2 := depthAll_le (ds := r) (k := k) |>.mpr fun e he => h e (by simp [he])
      omega
theorem depthAll_iD (ts : List Nat) : PyData.depthAll (iD ts) = 0 := by
  have : PyData.depthAll (iD ts) ≤ 0 := depthAll_le.mpr fun d hd => by
    obtain ⟨t, _, rfl⟩ := List.mem_map.mp hd
    rw [depth_int]
    exact Nat.le_refl _
  omega
theorem shaped_iD (ts : List Nat) : SeqAt.shaped (.list (iD ts)) = true := by
  have : iD ts = (ts.map fun t => ((t : Nat) : Int)).map PyData.int := by
    unfold iD
    rw [List.map_map]
    rfl
  rw [this]
  exact shaped_ints _
end DX
set_option Elab.async false
set_option linter.all false
set_option maxRecDepth 100000
/-! fields and codes: the law's own far places (plain mathematics) -/
namespace FB
open PySem TV FM DX
theorem even_pos {ts : List Nat} (h : Asc ts) (hn : ts ≠ []) (he : ts.length % 2 = 0) : 0 < tv ts := by
  obtain ⟨a, r, e⟩ : ∃ a r, ts = r ++ [a] := ⟨ts.getLast hn, ts.dropLast, (List.dropLast_concat_getLast hn).symm⟩
  subst e
  have := tv_sign h
  simp at he
  have h1 : ¬ tv (r ++ [a]) < 0 := fun z => by
    have := this.1.mp z
    omega
  have := this.2
  omega
theorem big_of {ts : List Nat} {t k : Nat} (h : Asc ts) (h0 : 0 ≤ tv ts) (ht : t ∈ ts) (hk : k < t) : 2 ^ k ≤ tv ts := by
  apply Int.le_of_not_gt
  intro hc
  have hp : (0 : Int) < 2 ^ k := Int.pow_pos (by decide)
  have := (tv_range h).mpr ⟨by omega, hc⟩ t ht
  omega
theorem pow_big {n : Nat} (h : 10 ≤ n) : n + 500 ≤ 2 ^ n := by
  induction n with
  | zero => omega
  | succ n ih =>
    by_cases e : n = 9
    · subst e
      decide
    · have := ih (by omega)
      rw [Nat.pow_succ]
      omega
/-- the four fields: a small place and far ones with many zero bits at the low end, ascending with room between them -/
structure Fields (fs : List PyData) : Prop where
  ex : ∃ (f1 : Nat) (es2 es3 : List PyData), fs = [.int 0, .int (f1 : Nat), .tuple es2, .tuple es3] ∧ 130 ≤ f1 ∧ f1 < 2 ^ 64 ∧ Fm (.tuple es2) ∧ Fm (.tuple es3) ∧ (∀ t ∈ vals es2, 150 ≤ t) ∧ (∀ t ∈ vals es3, 150 ≤ t) ∧
    (2 : Int) ^ 140 ≤ val (.tuple es2) ∧ val (.tuple es2) + 400 ≤ val (.tuple es3) ∧ PyData.depthAll es2 ≤ 0 ∧ PyData.depthAll es3 ≤ 2 ∧ es2.length ≤ 100 ∧ es3.length ≤ 100 ∧ wtAll es2 ≤ 14 ∧ wtAll es3 ≤ 14
/-- a second field: turns from 200 on -/
structure Sec (ts : List Nat) : Prop where
  asc : Asc ts
  ne : ts ≠ []
  even : ts.length % 2 = 0
  low : ∀ t ∈ ts, 200 ≤ t
  top : ∀ t ∈ ts, t < 2 ^ 64
  len : ts.length ≤ 4
theorem Sec.fm {ts : List Nat} (h : Sec ts) : Fm (.tuple (iD ts)) ∧ val (.tuple (iD ts)) = tv ts ∧ (2 : Int) ^ 140 ≤ tv ts := by
  obtain ⟨a, ha⟩ := List.exists_mem_of_ne_nil ts h.ne
  obtain ⟨f, e⟩ := fm_small h.asc h.top ⟨a, ha, by have := h.low a ha; omega⟩
  exact ⟨f, e, big_of h.asc (Int.le_of_lt (even_pos h.asc h.ne h.even)) ha (by have := h.low a ha; omega)⟩
theorem tv2 (a b : Nat) : tv [a, b] = 2 ^ b - 2 ^ a := by
  rw [tv_cons, tv_cons, tv_nil]
  omega
/-- the third field, in its three makes: some turn of it is the second field -/
theorem fields_of {f1 : Nat} {ts : List Nat} {es : List PyData} (h1 : 130 ≤ f1) (h2 : f1 < 2 ^ 64) (S : Sec ts) (hF : FmAll es) (hA : Asc (vals es)) (he : es.length % 2 = 0) (hl : ∀ t ∈ vals es, 150 ≤ t) (hm : .tuple (iD ts) ∈ es)
    (hd : PyData.depthAll es ≤ 2) (hlen : es.length ≤ 100) (hw : wtAll es ≤ 14) : Fields [.int 0, .int (f1 : Nat), .tuple (iD ts), .tuple es] := by
  obtain ⟨f, e, hb⟩ := S.fm
  have hmem : (val (.tuple (iD ts))).toNat ∈ vals es := mem_vals.mpr ⟨_, hm, rfl⟩
  have hne : vals es ≠ [] := List.ne_nil_of_mem hmem
  have hev : (vals es).length % 2 = 0 := by rw [vals_len]; exact he
  have hpos := even_pos hA hne hev
  have h140 : (2 : Nat) ^ 140 ≤ (val (.tuple (iD ts))).toNat := by
    rw [e]
    have : ((2 ^ 140 : Nat) : Int) = (2 : Int) ^ 140 := by simp
    omega
  have h64 : ∃ t ∈ vals es, 64 < t := ⟨_, hmem, Nat.lt_of_lt_of_le (by decide) h140⟩
  refine ⟨f1, iD ts, es, rfl, h1, h2, f, (fm_tuple _).mpr ⟨hF, hA, h64⟩, fun t ht => ?_, hl, e ▸ hb, ?_, by rw [depthAll_iD]; exact Nat.le_refl _, hd, by have := S.len; simp [iD]; omega, hlen, by rw [wtAll_iD]; have := S.len; omega, hw⟩
  · rw [vals_iD] at ht
    have := S.low t ht
    omega
  · rw [val_tuple es]
    have hb2 := big_of hA (Int.le_of_lt hpos) hmem (k := (val (.tuple (iD ts))).toNat - 1) (by omega)
    have hp := pow_big (n := (val (.tuple (iD ts))).toNat - 1) (by omega)
    have hc : (((2 : Nat) ^ ((val (.tuple (iD ts))).toNat - 1) : Nat) : Int) = (2 : Int) ^ ((val (.tuple (iD ts))).toNat - 1) := by simp
    generalize (2 : Int) ^ ((val (.tuple (iD ts))).toNat - 1) = z at *
    generalize (2 : Nat) ^ ((val (.tuple (iD ts))).toNat - 1) = y at *
    have e0 : 0 ≤ val (.tuple (iD ts)) := by omega
    omega
/-- what a third field must be -/
structure Third (ts : List Nat) (es : List PyData) : Prop where
  fm : FmAll es
  asc : Asc (vals es)
  even : es.length % 2 = 0
  low : ∀ t ∈ vals es, 150 ≤ t
  mem : .tuple (iD ts) ∈ es
  dep : PyData.depthAll es ≤ 2
  len : es.length ≤ 100
  wt : wtAll es ≤ 14
theorem Third.fields {f1 : Nat} {ts : List Nat} {es : List PyData} (h : Third ts es) (h1 : 130 ≤ f1) (h2 : f1 < 2 ^ 64) (S : Sec ts) : Fields [.int 0, .int (f1 : Nat), .tuple (iD ts), .tuple es] :=
  fields_of h1 h2 S h.fm h.asc h.even h.low h.mem h.dep h.len h.wt
theorem Sec.big {ts : List Nat} (S : Sec ts) : 2 ^ 140 ≤ (tv ts).toNat := by
  have h := S.fm.2.2
  have : ((2 ^ 140 : Nat) : Int) = (2 : Int) ^ 140 := by simp
  omega
theorem thirdA {ts : List Nat} {g : Nat} (S : Sec ts) (h1 : 150 ≤ g) (h2 : g < 400) : Third ts [.int (g : Nat), .tuple (iD ts)] := by
  obtain ⟨f, e, hb⟩ := S.fm
  have hB := S.big
  have hv : vals [.int (g : Nat), .tuple (iD ts)] = [g, (tv ts).toNat] := by
    rw [vals_cons, vals_cons, vals_nil, val_int, e]
    rfl
  have h140 : (400 : Nat) < 2 ^ 140 := by decide
  refine ⟨?_, ?_, by simp, ?_, by simp, ?_, by simp, by simp only [wtAll_cons, wtAll_nil, wt_int, wt_tuple, wtAll_iD, List.length_cons]; have := S.len; omega⟩
  · rw [fmAll_cons, fmAll_cons, fm_int, val_int]
    exact ⟨by omega, by omega, f, by omega, fmAll_nil⟩
  · rw [hv]
    exact ⟨by omega, trivial⟩
  · rw [hv]
    intro t ht
    simp at ht
    omega
  · rw [depthAll_cons, depthAll_cons, depthAll_nil, depth_int, depth_tuple, depthAll_iD]
    decide
theorem thirdB {ts : List Nat} {x : Nat} (S : Sec ts) (h2 : x < 64) : Third ts [.tuple (iD ts), .tuple (iD (x :: 64 :: ts))] := by
  obtain ⟨f, e, hb⟩ := S.fm
  have hB := S.big
  have h140 : (2 : Nat) ^ 65 < 2 ^ 140 := by decide
  have hA : Asc (x :: 64 :: ts) := asc_cons (fun b hb => by
    rcases List.mem_cons.mp hb with rfl | hb
    · exact h2
    · have := S.low b hb; omega) (asc_cons (fun b hb => by have := S.low b hb; omega) S.asc)
  have ht : ∀ t ∈ x :: 64 :: ts, t < 2 ^ 64 := fun t ht => by
    rcases List.mem_cons.mp ht with rfl | ht
    · omega
    · rcases List.mem_cons.mp ht with rfl | ht
      · omega
      · exact S.top t ht
  obtain ⟨a, ha⟩ := List.exists_mem_of_ne_nil ts S.ne
  obtain ⟨f2, e2⟩ := fm_small hA ht ⟨a, by simp [ha], by have := S.low a ha; omega⟩
  have e3 : tv (x :: 64 :: ts) = 2 ^ 64 - 2 ^ x + tv ts := by
    rw [tv_cons, tv_cons]
    omega
  have hx : (2 : Int) ^ x < 2 ^ 64 := Int.pow_lt_pow_of_lt (by decide) h2
  have hv : vals [.tuple (iD ts), .tuple (iD (x :: 64 :: ts))] = [(tv ts).toNat, (2 ^ 64 - 2 ^ x + tv ts).toNat] := by
    rw [vals_cons, vals_cons, vals_nil, e, e2, e3]
  refine ⟨?_, ?_, by simp, ?_, by simp, ?_, by simp, by simp only [wtAll_cons, wtAll_nil, wt_int, wt_tuple, wtAll_iD, List.length_cons]; have := S.len; omega⟩
  · rw [fmAll_cons, fmAll_cons]
    exact ⟨f, by omega, f2, by omega, fmAll_nil⟩
  · rw [hv]
    exact ⟨by omega, trivial⟩
  · rw [hv]
    intro t ht
    simp at ht
    omega
  · rw [depthAll_cons, depthAll_cons, depthAll_nil, depth_tuple, depth_tuple, depthAll_iD, depthAll_iD]
    decide
theorem thirdC {ts : List Nat} {g : Nat} (S : Sec ts) (h1 : 150 ≤ g) (h2 : g < 400) : Third ts [.int (g : Nat), .int ((g + 1 : Nat) : Int), .tuple (iD ts), .tuple [.int (g : Nat), .tuple (iD ts)]] := by
  obtain ⟨f, e, hb⟩ := S.fm
  have hB := S.big
  have h140 : (2 : Nat) ^ 65 < 2 ^ 140 := by decide
  have TA := thirdA S h1 h2
  have hva : vals [.int (g : Nat), .tuple (iD ts)] = [g, (tv ts).toNat] := by
    rw [vals_cons, vals_cons, vals_nil, val_int, e]
    rfl
  have hpos := even_pos TA.asc (by rw [hva]; simp) (by rw [hva]; simp)
  have hbig := big_of TA.asc (Int.le_of_lt hpos) (t := (tv ts).toNat) (k := (tv ts).toNat - 1) (by rw [hva]; simp) (by omega)
  have hp := pow_big (n := (tv ts).toNat - 1) (by omega)
  have hc : (((2 : Nat) ^ ((tv ts).toNat - 1) : Nat) : Int) = (2 : Int) ^ ((tv ts).toNat - 1) := by simp
  have fA : Fm (.tuple [.int (g : Nat), .tuple (iD ts)]) := (fm_tuple _).mpr ⟨TA.fm, TA.asc, (tv ts).toNat, by rw [hva]; simp, by omega⟩
  rw [← val_tuple] at hbig hpos
  have hv : vals [.int (g : Nat), .int ((g + 1 : Nat) : Int), .tuple (iD ts), .tuple [.int (g : Nat), .tuple (iD ts)]] = [g, g + 1, (tv ts).toNat, (val (.tuple [.int (g : Nat), .tuple (iD ts)])).toNat] := by
    rw [vals_cons, vals_cons, vals_cons, vals_cons, vals_nil, val_int, val_int, e]
    rfl
  generalize hW : val (.tuple [.int (g : Nat), .tuple (iD ts)]) = W at *
  generalize (2 : Int) ^ ((tv ts).toNat - 1) = z at *
  generalize (2 : Nat) ^ ((tv ts).toNat - 1) = y at *
  refine ⟨?_, ?_, by simp, ?_, by simp, ?_, by simp, by simp only [wtAll_cons, wtAll_nil, wt_int, wt_tuple, wtAll_iD, List.length_cons]; have := S.len; omega⟩
  · rw [fmAll_cons, fmAll_cons, fmAll_cons, fmAll_cons, fm_int, fm_int, val_int, val_int, hW]
    exact ⟨by omega, by omega, by omega, by omega, f, by omega, fA, by omega, fmAll_nil⟩
  · rw [hv]
    exact ⟨by omega, by omega, by omega, trivial⟩
  · rw [hv]
    intro t ht
    simp at ht
    omega
  · have h5 : PyData.depthAll [.int (g : Nat), .tuple (iD ts)] = 1 := by
      rw [depthAll_cons, depthAll_cons, depthAll_nil, depth_int, depth_tuple, depthAll_iD]
      decide
    rw [depthAll_cons, depthAll_cons, depthAll_cons, depthAll_cons, depthAll_nil, depth_int, depth_int, depth_tuple, depth_tuple, depthAll_iD, h5]
    decide
end FB
set_option Elab.async false
set_option linter.all false
set_option maxRecDepth 100000
/-! order of turns; codes and the far numbers they stand for (plain mathematics) -/
namespace FC
open PySem TV FM DX FB
theorem tv_snoc (r : List Nat) (a : Nat) : tv (r ++ [a]) = tv r + (if r.length % 2 = 0 then -(2 ^ a) else 2 ^ a) := by
  induction r with
  | nil => simp [tv_cons, tv_nil]
  | cons x r ih =>
    rw [List.cons_append, tv_cons, tv_cons, ih, List.length_cons]
    split <;> split <;> omega
theorem tv_append (r s : List Nat) : tv (r ++ s) = tv r + (if r.length % 2 = 0 then tv s else -tv s) := by
  induction r with
  | nil => simp [tv_nil]
  | cons x r ih =>
    rw [List.cons_append, tv_cons, tv_cons, ih, List.length_cons]
    split <;> split <;> omega
theorem asc_snoc {r : List Nat} {a : Nat} : Asc (r ++ [a]) ↔ Asc r ∧ ∀ x ∈ r, x < a := by
  rw [asc_pairwise, asc_pairwise, List.pairwise_append]
  constructor
  · rintro ⟨h1, _, h3⟩
    exact ⟨h1, fun x hx => h3 x hx a (by simp)⟩
  · rintro ⟨h1, h2⟩
    exact ⟨h1, by simp, fun x hx y hy => by simp at hy; subst hy; exact h2 x hx⟩
/-- the order of two rows of turns, from the top -/
def lessD : List Nat → List Nat → Bool
  | [], [] => false
  | [], _ :: s => decide (s.length % 2 = 1)
  | _ :: r, [] => decide (r.length % 2 = 0)
  | a :: r, b :: s =>
    if r.length % 2 ≠ s.length % 2 then decide (r.length % 2 = 0)
    else if a = b then lessD r s
    else if a < b then decide (s.length % 2 = 1)
    else decide (r.length % 2 = 0)
theorem snoc_cases (l : List Nat) : l = [] ∨ ∃ r a, l = r ++ [a] := by
  by_cases h : l = []
  · exact .inl h
  · exact .inr ⟨l.dropLast, l.getLast h, (List.dropLast_concat_getLast h).symm⟩
theorem top_out {r : List Nat} {a k : Nat} (h : Asc (r ++ [a])) (hk : k < a) : (r.length % 2 = 1 → 2 ^ k ≤ tv (r ++ [a])) ∧ (r.length % 2 = 0 → tv (r ++ [a]) < -(2 ^ k)) := by
  have hs := tv_sign h
  have hp : (0 : Int) < 2 ^ k := Int.pow_pos (by decide)
  have hr := (tv_range (k := k) h)
  have hno : ¬ (-(2 ^ k) ≤ tv (r ++ [a]) ∧ tv (r ++ [a]) < 2 ^ k) := fun z => by
    have := hr.mpr z a (by simp)
    omega
  constructor
  · intro hl
    have h1 : ¬ tv (r ++ [a]) < 0 := fun z => by
      have := hs.1.mp z
      omega
    omega
  · intro hl
    have h1 := hs.1.mpr hl
    omega
theorem less_iff : ∀ (n : Nat) (ts us : List Nat), ts.length ≤ n → Asc ts → Asc us → (lessD ts.reverse us.reverse = true ↔ tv ts < tv us) := by
  intro n
  induction n with
  | zero =>
    intro ts us hn hA hB
    have : ts = [] := List.length_eq_zero_iff.mp (by omega)
    subst this
    rcases snoc_cases us with rfl | ⟨s, b, rfl⟩
    · simp [lessD]
    · have hs := tv_sign hB
      rw [List.reverse_append]
      show decide (s.reverse.length % 2 = 1) = true ↔ tv [] < _
      rw [decide_eq_true_iff, List.length_reverse, tv_nil]
      constructor
      · intro h
        have : ¬ tv (s ++ [b]) < 0 := fun z => by have := hs.1.mp z; omega
        have := hs.2
        omega
      · intro h
        have : ¬ s.length % 2 = 0 := fun z => by have := hs.1.mpr z; omega
        omega
  | succ n ih =>
    intro ts us hn hA hB
    rcases snoc_cases ts with rfl | ⟨r, a, rfl⟩
    · exact ih [] us (Nat.zero_le _) hA hB
    rcases snoc_cases us with rfl | ⟨s, b, rfl⟩
    · have hs := tv_sign hA
      rw [List.reverse_append]
      show decide (r.reverse.length % 2 = 0) = true ↔ _ < tv []
      rw [decide_eq_true_iff, List.length_reverse, tv_nil]
      exact hs.1.symm
    · have hsA := tv_sign hA
      have hsB := tv_sign hB
      obtain ⟨hr, hra⟩ := asc_snoc.mp hA
      obtain ⟨hs, hsb⟩ := asc_snoc.mp hB
      rw [List.reverse_append, List.reverse_append]
      show (if r.reverse.length % 2 ≠ s.reverse.length % 2 then decide (r.reverse.length % 2 = 0) else if a = b then lessD r.reverse s.reverse else if a < b then decide (s.reverse.length % 2 = 1) else decide (r.reverse.length % 2 = 0)) = true ↔ _
      rw [List.length_reverse, List.length_reverse]
      by_cases hpar : r.length % 2 ≠ s.length % 2
      · rw [if_pos hpar, decide_eq_true_iff]
        constructor
        · intro h
          have h1 := hsA.1.mpr h
          have h2 : ¬ tv (s ++ [b]) < 0 := fun z => by have := hsB.1.mp z; omega
          omega
        · intro h
          apply Classical.byContradiction
          intro hc
          have h1 : ¬ tv (r ++ [a]) < 0 := fun z => hc (hsA.1.mp z)
          have h2 := hsB.1.mpr (by omega)
          omega
      · rw [if_neg hpar]
        have hpar' : r.length % 2 = s.length % 2 := by omega
        by_cases e : a = b
        · subst e
          rw [if_pos rfl, ih r s (by simp at hn; omega) hr hs, tv_snoc, tv_snoc, hpar']
          split <;> omega
        · rw [if_neg e]
          by_cases hlt : a < b
          · rw [if_pos hlt, decide_eq_true_iff]
            have hin : ∀ t ∈ r ++ [a], t ≤ b - 1 := fun t ht => by
              rcases List.mem_append.mp ht with ht | ht
              · have := hra t ht; omega
              · simp at ht; omega
            have hrg := (tv_range hA).mp hin
            have ho := top_out hB (k := b - 1) (by omega)
            constructor
            · intro h
              have := ho.1 h
              omega
            · intro h
              apply Classical.byContradiction
              intro hc
              have := ho.2 (by omega)
              omega
          · rw [if_neg hlt, decide_eq_true_iff]
            have hin : ∀ t ∈ s ++ [b], t ≤ a - 1 := fun t ht => by
              rcases List.mem_append.mp ht with ht | ht
              · have := hsb t ht; omega
              · simp at ht; omega
            have hrg := (tv_range hB).mp hin
            have ho := top_out hA (k := a - 1) (by omega)
            constructor
            · intro h
              have := ho.2 h
              omega
            · intro h
              apply Classical.byContradiction
              intro hc
              have := ho.1 (by omega)
              omega
theorem less_map {f : Nat → Nat} : ∀ (r s : List Nat), (∀ x ∈ r, ∀ y ∈ s, (x < y → f x < f y) ∧ (y < x → f y < f x)) → lessD (r.map f) (s.map f) = lessD r s
  | [], [], _ => rfl
  | [], b :: s, _ => by simp [lessD]
  | a :: r, [], _ => by simp [lessD]
  | a :: r, b :: s, h => by
    have hab := h a (by simp) b (by simp)
    show lessD (f a :: r.map f) (f b :: s.map f) = lessD (a :: r) (b :: s)
    simp only [lessD, List.length_map]
    have e1 : (f a = f b) ↔ a = b := by
      constructor
      · intro e
        rcases Nat.lt_trichotomy a b with c | c | c
        · have := hab.1 c; omega
        · exact c
        · have := hab.2 c; omega
      · rintro rfl; rfl
    have e2 : (f a < f b) ↔ a < b := by
      constructor
      · intro e
        rcases Nat.lt_trichotomy a b with c | c | c
        · exact c
        · subst c; omega
        · have := hab.2 c; omega
      · exact hab.1
    rw [less_map r s fun x hx y hy => h x (by simp [hx]) y (by simp [hy])]
    simp only [e1, e2]
theorem asc_map {f : Nat → Nat} {ts : List Nat} (h : Asc ts) (hf : ∀ x ∈ ts, ∀ y ∈ ts, x < y → f x < f y) : Asc (ts.map f) := by
  rw [asc_pairwise] at *
  rw [List.pairwise_map]
  exact h.imp_of_mem fun ha hb hab => hf _ ha _ hb hab
/-- places moved, the order kept: the values keep their order -/
theorem tv_map_lt {f : Nat → Nat} {ts us : List Nat} (hA : Asc ts) (hB : Asc us) (hf : ∀ x ∈ ts ++ us, ∀ y ∈ ts ++ us, x < y → f x < f y) (h : tv ts < tv us) : tv (ts.map f) < tv (us.map f) := by
  have hA' := asc_map hA fun x hx y hy => hf x (by simp [hx]) y (by simp [hy])
  have hB' := asc_map hB fun x hx y hy => hf x (by simp [hx]) y (by simp [hy])
  rw [← less_iff _ _ _ (Nat.le_refl _) hA' hB', ← List.map_reverse, ← List.map_reverse]
  rw [less_map]
  · exact (less_iff _ _ _ (Nat.le_refl _) hA hB).mpr h
  · intro x hx y hy
    simp at hx hy
    exact ⟨hf x (by simp [hx]) y (by simp [hy]), hf y (by simp [hy]) x (by simp [hx])⟩
/-! ### the turns of an integer as a function -/
noncomputable def turnsOf (n : Int) : List Nat := Classical.choose (turns_ex n)
theorem turnsOf_asc (n : Int) : Asc (turnsOf n) := (Classical.choose_spec (turns_ex n)).1
theorem turnsOf_tv (n : Int) : tv (turnsOf n) = n := (Classical.choose_spec (turns_ex n)).2
theorem turnsOf_eq {ts : List Nat} (h : Asc ts) : turnsOf (tv ts) = ts := tv_inj (turnsOf_asc _) h (turnsOf_tv _)
theorem turnsOf_is {ts : List Nat} {n : Int} (h : Asc ts) (e : tv ts = n) : turnsOf n = ts := e ▸ turnsOf_eq h
theorem even_of_nonneg {ts : List Nat} (h : Asc ts) (h0 : 0 ≤ tv ts) : ts.length % 2 = 0 := by
  rcases snoc_cases ts with rfl | ⟨r, a, rfl⟩
  · rfl
  · have := tv_sign h
    simp
    apply Classical.byContradiction
    intro hc
    have := this.1.mpr (by omega)
    omega
/-! ### digits of two hundred bits -/
def num : List Nat → Int
  | [] => 0
  | a :: r => (a : Int) + 2 ^ 200 * num r
theorem num_nonneg : ∀ ps : List Nat, 0 ≤ num ps
  | [] => Int.le_refl _
  | a :: r => by
    have := num_nonneg r
    have h2 : (0 : Int) ≤ 2 ^ 200 * num r := Int.mul_nonneg (Int.le_of_lt (Int.pow_pos (by decide))) this
    show 0 ≤ (a : Int) + 2 ^ 200 * num r
    omega
theorem num_set : ∀ (ps : List Nat) (d y : Nat) (a : Nat), ps[d]? = some a → num (ps.set d (a + y)) = num ps + y * 2 ^ (200 * d)
  | [], d, y, a, h => by simp at h
  | b :: r, 0, y, a, h => by
    simp at h
    subst h
    show ((b + y : Nat) : Int) + 2 ^ 200 * num r = (b : Int) + 2 ^ 200 * num r + y * 2 ^ 0
    rw [Int.pow_zero]
    omega
  | b :: r, d + 1, y, a, h => by
    have ih := num_set r d y a (by simpa using h)
    show (b : Int) + 2 ^ 200 * num (r.set d (a + y)) = (b : Int) + 2 ^ 200 * num r + y * 2 ^ (200 * (d + 1))
    rw [ih, Int.mul_add, show 200 * (d + 1) = 200 + 200 * d by omega, Int.pow_add]
    have : (2 : Int) ^ 200 * (y * 2 ^ (200 * d)) = y * (2 ^ 200 * 2 ^ (200 * d)) := by
      rw [← Int.mul_assoc, Int.mul_comm (2 ^ 200) (y : Int), Int.mul_assoc]
    rw [this]
    omega
theorem num_zero : ∀ m : Nat, num (List.replicate m 0) = 0
  | 0 => rfl
  | m + 1 => by
    show ((0 : Nat) : Int) + 2 ^ 200 * num (List.replicate m 0) = 0
    rw [num_zero m]
    simp
/-- m digits below B -/
def Dg (m B : Nat) (c : Int) : Prop := ∃ ps : List Nat, ps.length = m ∧ (∀ a ∈ ps, a < B) ∧ c = num ps
theorem Dg.mono {m B B' : Nat} {c : Int} (h : Dg m B c) (l : B ≤ B') : Dg m B' c := by
  obtain ⟨ps, h1, h2, h3⟩ := h
  exact ⟨ps, h1, fun a ha => Nat.lt_of_lt_of_le (h2 a ha) l, h3⟩
theorem Dg.nonneg {m B : Nat} {c : Int} (h : Dg m B c) : 0 ≤ c := by
  obtain ⟨ps, _, _, rfl⟩ := h
  exact num_nonneg ps
theorem Dg.zero {m B : Nat} (h : 0 < B) : Dg m B 0 := ⟨List.replicate m 0, by simp, fun a ha => by
  rw [List.mem_replicate] at ha
  omega, (num_zero m).symm⟩
theorem Dg.add {m B Y : Nat} {c : Int} (h : Dg m B c) {d y : Nat} (hd : d < m) (hy : y < Y) : Dg m (B + Y) (c + y * 2 ^ (200 * d)) := by
  obtain ⟨ps, h1, h2, rfl⟩ := h
  have hg : ps[d]? = some ps[d] := List.getElem?_eq_getElem (by omega)
  refine ⟨ps.set d (ps[d] + y), by simp [h1], fun a ha => ?_, (num_set ps d y _ hg).symm⟩
  rcases List.mem_or_eq_of_mem_set ha with ha | ha
  · have := h2 a ha; omega
  · have := h2 ps[d] (List.getElem_mem _)
    omega
theorem tb_add {a q : Nat} {c : Int} (ha : a < 2 ^ 200) : tb ((a : Int) + 2 ^ 200 * c) q = if q < 200 then tb (a : Int) q else tb c (q - 200) := by
  have hp : (0 : Int) < 2 ^ q := Int.pow_pos (by decide)
  split
  · rename_i hq
    unfold tb
    have e : (2 : Int) ^ 200 * c = 2 ^ q * (2 * (2 ^ (199 - q) * c)) := by
      rw [← Int.mul_assoc, ← Int.mul_assoc, ← Int.pow_succ, ← Int.pow_add]
      congr 2
      omega
    rw [e, Int.add_mul_ediv_left _ _ (Int.ne_of_gt hp)]
    congr 1
    apply propext
    constructor <;> intro h <;> omega
  · rename_i hq
    have e : ((a : Int) + 2 ^ 200 * c) / 2 ^ 200 = c := by
      rw [Int.add_mul_ediv_left _ _ (Int.ne_of_gt (Int.pow_pos (by decide)))]
      rw [Int.ediv_eq_zero_of_lt (by omega) (by
        have : ((2 ^ 200 : Nat) : Int) = (2 : Int) ^ 200 := by simp
        omega)]
      omega
    have := tb_shift ((a : Int) + 2 ^ 200 * c) 200 (q - 200)
    rw [e] at this
    rw [this]
    congr 1
    omega
theorem tb_small {a k q : Nat} (ha : a < 2 ^ k) (hq : k ≤ q) : tb (a : Int) q = false := by
  unfold tb
  have h1 : (a : Int) < 2 ^ q := by
    have : a < 2 ^ q := Nat.lt_of_lt_of_le ha (Nat.pow_le_pow_right (by decide) hq)
    have h3 : ((2 ^ q : Nat) : Int) = (2 : Int) ^ q := by simp
    omega
  rw [Int.ediv_eq_zero_of_lt (by omega) h1]
  rfl
/-- no turn of a code lies high in its digit -/
theorem dg_turns : ∀ (ps : List Nat), (∀ a ∈ ps, a < 2 ^ 100) → ∀ q, (ps.length ≤ q / 200 ∨ 100 ≤ q % 200) → tb (num ps) q = false
  | [], _, q, _ => tb_top q
  | a :: r, h, q, hq => by
    have ha := h a (by simp)
    have ha2 : a < 2 ^ 200 := Nat.lt_of_lt_of_le ha (Nat.pow_le_pow_right (by decide) (by decide))
    show tb ((a : Int) + 2 ^ 200 * num r) q = false
    rw [tb_add ha2]
    split
    · refine tb_small ha ?_
      simp at hq
      omega
    · refine dg_turns r (fun x hx => h x (by simp [hx])) (q - 200) ?_
      simp at hq
      omega
/-- a code's turns: fields below m, steps up to 101 -/
def CodeOk (m : Nat) (c : Int) : Prop := 0 ≤ c ∧ ∀ t ∈ turnsOf c, t / 200 < m ∧ t % 200 ≤ 101
theorem Dg.code {m B : Nat} {c : Int} (h : Dg m B c) (hB : B ≤ 2 ^ 100) : CodeOk m c := by
  refine ⟨h.nonneg, fun t ht => ?_⟩
  obtain ⟨ps, h1, h2, rfl⟩ := h
  have hz := dg_turns ps fun a ha => Nat.lt_of_lt_of_le (h2 a ha) hB
  have hm := (mem_tb (turnsOf_asc (num ps)) t).mp ht
  rw [turnsOf_tv] at hm
  apply Classical.byContradiction
  intro hc
  apply hm
  by_cases h0 : t = 0
  · subst h0
    rw [if_pos rfl]
    exact hz 0 (by omega)
  · rw [if_neg h0, hz t (by omega), hz (t - 1) (by omega)]
theorem code_range {m : Nat} {c : Int} (h : CodeOk m c) : -(2 ^ (200 * m)) ≤ c ∧ c < 2 ^ (200 * m) := by
  have := (tv_range (k := 200 * m) (turnsOf_asc c)).mp fun t ht => by
    have := h.2 t ht
    omega
  rwa [turnsOf_tv] at this
/-- where field i lies -/
def Fi (fs : List PyData) (i : Nat) : Nat := (val (fs.getD i (.int 0))).toNat
def phi (fs : List PyData) (t : Nat) : Nat := Fi fs (t / 200) + t % 200
theorem fields_step {fs : List PyData} (F : Fields fs) : ∀ i j, i < j → j < 4 → Fi fs i + 102 ≤ Fi fs j := by
  obtain ⟨f1, es2, es3, rfl, h1, h2, _, _, _, _, h3, h4, _⟩ := F.ex
  have e0 : Fi [.int 0, .int (f1 : Nat), .tuple es2, .tuple es3] 0 = 0 := by
    show (val (.int 0)).toNat = 0
    rw [val_int]; rfl
  have e1 : Fi [.int 0, .int (f1 : Nat), .tuple es2, .tuple es3] 1 = f1 := by
    show (val (.int (f1 : Nat))).toNat = f1
    rw [val_int]; omega
  have e2 : Fi [.int 0, .int (f1 : Nat), .tuple es2, .tuple es3] 2 = (val (.tuple es2)).toNat := rfl
  have e3 : Fi [.int 0, .int (f1 : Nat), .tuple es2, .tuple es3] 3 = (val (.tuple es3)).toNat := rfl
  have h140 : (2 : Int) ^ 65 < 2 ^ 140 := by decide
  intro i j hij hj
  have hi : i = 0 ∨ i = 1 ∨ i = 2 := by omega
  have hj' : j = 1 ∨ j = 2 ∨ j = 3 := by omega
  rcases hi with rfl | rfl | rfl <;> rcases hj' with rfl | rfl | rfl <;> first | omega | (simp only [e0, e1, e2, e3]; omega)
theorem phi_lt {fs : List PyData} (F : Fields fs) {m t u : Nat} (hm : m ≤ 4) (ht : t / 200 < m ∧ t % 200 ≤ 101) (hu : u / 200 < m ∧ u % 200 ≤ 101) (h : t < u) : phi fs t < phi fs u := by
  unfold phi
  by_cases e : t / 200 = u / 200
  · rw [e]
    omega
  · have := fields_step F (t / 200) (u / 200) (by omega) (by omega)
    omega
/-- the far number of a code -/
noncomputable def Phi (fs : List PyData) (c : Int) : Int := tv ((turnsOf c).map (phi fs))
theorem phi_asc {fs : List PyData} (F : Fields fs) {m : Nat} {c : Int} (hm : m ≤ 4) (h : CodeOk m c) : Asc ((turnsOf c).map (phi fs)) :=
  asc_map (turnsOf_asc c) fun x hx y hy hxy => phi_lt F hm (h.2 x hx) (h.2 y hy) hxy
theorem Phi_nonneg {fs : List PyData} (F : Fields fs) {m : Nat} {c : Int} (hm : m ≤ 4) (h : CodeOk m c) : 0 ≤ Phi fs c := by
  have hA := phi_asc F hm h
  have he := even_of_nonneg (turnsOf_asc c) (by rw [turnsOf_tv]; exact h.1)
  by_cases hn : (turnsOf c).map (phi fs) = []
  · unfold Phi
    rw [hn]
    exact Int.le_refl _
  · exact Int.le_of_lt (even_pos hA hn (by rw [List.length_map]; exact he))
theorem Phi_lt {fs : List PyData} (F : Fields fs) {m : Nat} {c d : Int} (hm : m ≤ 4) (hc : CodeOk m c) (hd : CodeOk m d) (h : c < d) : Phi fs c < Phi fs d := by
  refine tv_map_lt (turnsOf_asc c) (turnsOf_asc d) (fun x hx y hy hxy => ?_) (by rw [turnsOf_tv, turnsOf_tv]; exact h)
  have good : ∀ z ∈ turnsOf c ++ turnsOf d, z / 200 < m ∧ z % 200 ≤ 101 := fun z hz => (List.mem_append.mp hz).elim (hc.2 z) (hd.2 z)
  exact phi_lt F hm (good x hx) (good y hy) hxy
/-- a far place: a field and a step -/
theorem place_far {es : List PyData} {us : List Nat} {j : Nat} (hF : Fm (.tuple es)) (hl : ∀ t ∈ vals es, 150 ≤ t) (h0 : 0 ≤ val (.tuple es)) (hA : Asc us) (hj : tv us = j) (hu : ∀ t ∈ us, t ≤ 100) :
    Fm (.tuple (iD us ++ es)) ∧ val (.tuple (iD us ++ es)) = val (.tuple es) + j := by
  have hF' := (fm_tuple es).mp hF
  have he := even_of_nonneg hA (by omega)
  rw [fm_tuple, val_tuple, val_tuple, vals_app, vals_iD, fmAll_app, tv_append, if_pos he]
  refine ⟨⟨⟨fmAll_iD fun t ht => by have := hu t ht; omega, hF'.1⟩, ?_, ?_⟩, by omega⟩
  · rw [asc_pairwise, List.pairwise_append]
    exact ⟨asc_pairwise.mp hA, asc_pairwise.mp hF'.2.1, fun x hx y hy => by have := hu x hx; have := hl y hy; omega⟩
  · obtain ⟨t, ht, h64⟩ := hF'.2.2
    exact ⟨t, by simp [ht], h64⟩
/-- a little above the plain numbers: few turns -/
theorem near_int {d : PyData} (f : Fm d) (h0 : 0 ≤ val d) (hp : val d < 2 ^ 64) : wt d = 1 := by
  have e : d = .int (val d) := by
    cases d with
    | int i => rw [val_int]
    | tuple ds => exact absurd ⟨by omega, hp⟩ (tuple_far f)
    | none => simp [Fm] at f
    | bool _ => simp [Fm] at f
    | str _ => simp [Fm] at f
    | list _ => simp [Fm] at f
    | dict _ => simp [Fm] at f
  rw [e, wt_int]
/-- the weight of a code's turn, at most; of a code -/
def cw (t : Nat) : Nat := if t < 200 then 1 else 23
noncomputable def cwt (c : Int) : Nat := 1 + ((turnsOf c).map cw).sum
theorem near64 {d : PyData} (f : Fm d) (h0 : 0 ≤ val d) (h1 : val d < 2 ^ 64 + 102) : wt d ≤ 23 := by
  by_cases hp : val d < 2 ^ 64
  · rw [near_int f h0 hp]
    decide
  · obtain ⟨us, hA, e⟩ := turns_ex (val d - 2 ^ 64)
    have hb : ∀ t ∈ us, t ≤ 7 := (tv_range hA).mpr ⟨by omega, by omega⟩
    have hl := asc_len (a := 0) hA fun t ht => ⟨Nat.zero_le _, hb t ht⟩
    have hev : us.length % 2 = 0 := by
      by_cases hn : us = []
      · subst hn
        rfl
      · obtain ⟨a, r, rfl⟩ : ∃ a r, us = r ++ [a] := ⟨us.getLast hn, us.dropLast, (List.dropLast_concat_getLast hn).symm⟩
        have := tv_sign hA
        have h2 : ¬ tv (r ++ [a]) < 0 := by omega
        rw [this.1] at h2
        simp
        omega
    have hA2 : Asc (us ++ [64, 65]) := asc_pairwise.mpr (List.pairwise_append.mpr ⟨asc_pairwise.mp hA, by simp, fun x hx y hy => by
      have := hb x hx
      simp at hy
      omega⟩)
    obtain ⟨f1, f2⟩ := fm_small hA2 (fun t ht => by
      rcases List.mem_append.mp ht with ht | ht
      · have := hb t ht
        omega
      · simp at ht
        omega) ⟨65, by simp, by decide⟩
    have e2 : tv (us ++ [64, 65]) = tv us + tv [64, 65] := by
      rw [tv_append, if_pos hev]
    have e3 : tv [64, 65] = 2 ^ 64 := by decide
    rw [fm_inj f f1 (by rw [f2, e2, e3, e]; omega), wt_tuple, wtAll_iD, List.length_append]
    simp
    omega
/-- how many turns a code has -/
theorem code_len {m : Nat} {c : Int} {ts : List Nat} (hA : Asc ts) (h : ∀ t ∈ ts, t / 200 < m ∧ t % 200 ≤ 101) (hm : m ≤ 4) : ts.length ≤ 408 := by
  have h2 : Asc (ts.map fun t => t / 200 * 102 + t % 200) := asc_map hA fun x hx y hy hxy => by
    have := h x hx
    have := h y hy
    omega
  have h3 := asc_len (a := 0) (k := 407) h2 fun t ht => by
    obtain ⟨x, hx, rfl⟩ := List.mem_map.mp ht
    have := h x hx
    omega
  rw [List.length_map] at h3
  omega
theorem cw_sum : ∀ ts : List Nat, (ts.map cw).sum ≤ 23 * ts.length
  | [] => by simp
  | t :: r => by
    have := cw_sum r
    simp only [List.map_cons, List.sum_cons, List.length_cons]
    have : cw t ≤ 23 := by unfold cw; split <;> omega
    omega
theorem CodeOk.cwt {m : Nat} {c : Int} (h : CodeOk m c) (hm : m ≤ 4) : cwt c ≤ 12300 := by
  have h1 := code_len (c := c) (turnsOf_asc c) h.2 hm
  have h2 := cw_sum (turnsOf c)
  unfold FC.cwt
  omega
theorem cwts_le {m : Nat} (hm : m ≤ 4) : ∀ {cs : List Int}, (∀ c ∈ cs, CodeOk m c) → (cs.map cwt).sum ≤ 12300 * cs.length
  | [], _ => by simp
  | c :: r, h => by
    have h1 := (h c (by simp)).cwt hm
    have h2 := cwts_le hm (cs := r) fun x hx => h x (by simp [hx])
    simp only [List.map_cons, List.sum_cons, List.length_cons]
    omega
end FC
set_option Elab.async false
set_option linter.all false
set_option maxRecDepth 100000
/-! sums of powers of two at far places, known by sums at near places -/
namespace MS
open PySem PySem.Spec TV FM FC
theorem tv_map_add (Q : Nat) (ts : List Nat) : tv (ts.map (· + Q)) = 2 ^ Q * tv ts := by
  induction Q with
  | zero => simp
  | succ Q ih =>
    have : ts.map (· + (Q + 1)) = (ts.map (· + Q)).map (· + 1) := by
      rw [List.map_map]
      rfl
    rw [this, tv_map_succ, ih, Int.pow_succ, Int.mul_comm (2 ^ Q) 2, Int.mul_assoc]
theorem asc_map_add (Q : Nat) {ts : List Nat} (h : Asc ts) : Asc (ts.map (· + Q)) := asc_map h fun x _ y _ hxy => by omega
theorem turns_app {L Hh : Int} {Q : Nat} (hL : ∀ t ∈ turnsOf L, t < Q) : turnsOf (L + 2 ^ Q * Hh) = turnsOf L ++ (turnsOf (if (turnsOf L).length % 2 = 0 then Hh else -Hh)).map (· + Q) := by
  refine turnsOf_is ?_ ?_
  · refine asc_pairwise.mpr (List.pairwise_append.mpr ⟨asc_pairwise.mp (turnsOf_asc L), asc_pairwise.mp (asc_map_add Q (turnsOf_asc _)), fun x hx y hy => ?_⟩)
    obtain ⟨z, _, rfl⟩ := List.mem_map.mp hy
    have := hL x hx
    omega
  · rw [tv_append, tv_map_add, turnsOf_tv, turnsOf_tv]
    by_cases h : (turnsOf L).length % 2 = 0
    · rw [if_pos h, if_pos h]
    · rw [if_neg h, if_neg h, Int.mul_neg, Int.neg_neg]
theorem stretch {L Hh : Int} {Q δ : Nat} (hL : ∀ t ∈ turnsOf L, t < Q) : turnsOf (L + 2 ^ (Q + δ) * Hh) = (turnsOf (L + 2 ^ Q * Hh)).map fun t => if t < Q then t else t + δ := by
  rw [turns_app hL, turns_app (Q := Q + δ) fun t ht => by have := hL t ht; omega, List.map_append, List.map_map]
  congr 1
  · conv => lhs; rw [← List.map_id (turnsOf L)]
    refine List.map_congr_left fun t ht => ?_
    rw [if_pos (hL t ht)]
    rfl
  · refine List.map_congr_left fun t _ => ?_
    show t + (Q + δ) = if t + Q < Q then t + Q else t + Q + δ
    rw [if_neg (by omega)]
    omega
/-- the sum of the terms, each at its place -/
def Sm (T : List (Nat × Int)) (π : Nat → Nat) : Int := (T.map fun t => t.2 * 2 ^ π t.1).sum
def Ab (T : List (Nat × Int)) : Nat := (T.map fun t => t.2.natAbs).sum
theorem Sm_congr {T : List (Nat × Int)} {π π' : Nat → Nat} (h : ∀ t ∈ T, π t.1 = π' t.1) : Sm T π = Sm T π' := by
  unfold Sm
  congr 1
  refine List.map_congr_left fun t ht => ?_
  rw [h t ht]
theorem Sm_split {π : Nat → Nat} (k : Nat) : ∀ T : List (Nat × Int), Sm T π = Sm (T.filter fun t => decide (t.1 < k)) π + Sm (T.filter fun t => !decide (t.1 < k)) π
  | [] => rfl
  | t :: r => by
    have ih := Sm_split (π := π) k r
    unfold Sm at *
    rw [List.map_cons, List.sum_cons, ih]
    by_cases h : t.1 < k
    · rw [List.filter_cons_of_pos (by simpa using h), List.filter_cons_of_neg (by simpa using h), List.map_cons, List.sum_cons, Int.add_assoc]
    · rw [List.filter_cons_of_neg (by simpa using h), List.filter_cons_of_pos (by simpa using h), List.map_cons, List.sum_cons]
      omega
theorem Sm_lift {π : Nat → Nat} {Q : Nat} : ∀ {T : List (Nat × Int)}, (∀ t ∈ T, Q ≤ π t.1) → Sm T π = 2 ^ Q * Sm T fun i => π i - Q
  | [], _ => by simp [Sm]
  | t :: r, h => by
    have ih := Sm_lift (π := π) (Q := Q) (T := r) fun t ht => h t (by simp [ht])
    unfold Sm at *
    rw [List.map_cons, List.sum_cons, ih, List.map_cons, List.sum_cons, Int.mul_add]
    congr 1
    have e : π t.1 = Q + (π t.1 - Q) := by
      have := h t (by simp)
      omega
    show t.2 * 2 ^ π t.1 = 2 ^ Q * (t.2 * 2 ^ (π t.1 - Q))
    conv => lhs; rw [e, Int.pow_add]
    rw [Int.mul_left_comm]
theorem Ab_filter (p : Nat × Int → Bool) : ∀ T, Ab (T.filter p) ≤ Ab T
  | [] => Nat.le_refl _
  | t :: r => by
    have ih := Ab_filter p r
    unfold Ab at *
    rw [List.map_cons, List.sum_cons]
    cases h : p t
    · rw [List.filter_cons_of_neg (by simp [h])]
      omega
    · rw [List.filter_cons_of_pos h, List.map_cons, List.sum_cons]
      omega
theorem Sm_abs {π : Nat → Nat} {b : Nat} : ∀ {T : List (Nat × Int)}, (∀ t ∈ T, π t.1 ≤ b) → (Sm T π).natAbs ≤ Ab T * 2 ^ b
  | [], _ => by simp [Sm]
  | t :: r, h => by
    have ih := Sm_abs (π := π) (b := b) (T := r) fun t ht => h t (by simp [ht])
    unfold Sm Ab at *
    rw [List.map_cons, List.sum_cons, List.map_cons, List.sum_cons, Nat.add_mul]
    have h1 : (t.2 * 2 ^ π t.1).natAbs ≤ t.2.natAbs * 2 ^ b := by
      rw [Int.natAbs_mul, Int.natAbs_pow]
      exact Nat.mul_le_mul_left _ (Nat.pow_le_pow_right (by decide) (h t (by simp)))
    have := Int.natAbs_add_le (t.2 * 2 ^ π t.1) (r.map fun t => t.2 * 2 ^ π t.1).sum
    omega
theorem turns_lt {n : Int} {b c : Nat} (h : n.natAbs ≤ 2 ^ c * 2 ^ b) : ∀ t ∈ turnsOf n, t ≤ b + c + 1 := by
  refine (tv_range (turnsOf_asc n)).mpr ?_
  rw [turnsOf_tv]
  have e : (2 : Int) ^ (b + c + 1) = ((2 ^ c * 2 ^ b * 2 : Nat) : Int) := by
    rw [Int.pow_succ, Nat.add_comm b c, Int.pow_add]
    simp
  have hp : 0 < 2 ^ c * 2 ^ b := Nat.mul_pos (Nat.pow_pos (by decide)) (Nat.pow_pos (by decide))
  rw [e]
  omega
theorem stretch_sum {T : List (Nat × Int)} {π π' : Nat → Nat} {k Q δ : Nat} (hlow : ∀ t ∈ T, t.1 < k → π t.1 + 120 ≤ Q ∧ π' t.1 = π t.1) (hhigh : ∀ t ∈ T, k ≤ t.1 → Q ≤ π t.1 ∧ π' t.1 = π t.1 + δ) (hb : Ab T ≤ 2 ^ 100) :
    turnsOf (Sm T π') = (turnsOf (Sm T π)).map fun t => if t < Q then t else t + δ := by
  have e1 := Sm_split (π := π) k T
  have e2 := Sm_split (π := π') k T
  have l1 : ∀ t ∈ T.filter (fun t => decide (t.1 < k)), t ∈ T ∧ t.1 < k := fun t ht => by simpa using List.mem_filter.mp ht
  have l2 : ∀ t ∈ T.filter (fun t => !decide (t.1 < k)), t ∈ T ∧ k ≤ t.1 := fun t ht => by simpa using List.mem_filter.mp ht
  have e3 : Sm (T.filter fun t => decide (t.1 < k)) π' = Sm (T.filter fun t => decide (t.1 < k)) π := Sm_congr fun t ht => (hlow t (l1 t ht).1 (l1 t ht).2).2
  have e4 : Sm (T.filter fun t => !decide (t.1 < k)) π = 2 ^ Q * _ := Sm_lift fun t ht => (hhigh t (l2 t ht).1 (l2 t ht).2).1
  have e5 : Sm (T.filter fun t => !decide (t.1 < k)) π' = 2 ^ (Q + δ) * _ := Sm_lift fun t ht => by
    have := hhigh t (l2 t ht).1 (l2 t ht).2
    omega
  have e6 : Sm (T.filter fun t => !decide (t.1 < k)) (fun i => π' i - (Q + δ)) = Sm (T.filter fun t => !decide (t.1 < k)) (fun i => π i - Q) := Sm_congr fun t ht => by
    have := hhigh t (l2 t ht).1 (l2 t ht).2
    show π' t.1 - (Q + δ) = π t.1 - Q
    omega
  rw [e1, e2, e3, e4, e5, e6]
  refine stretch fun t ht => ?_
  by_cases hn : T.filter (fun t => decide (t.1 < k)) = []
  · rw [hn] at ht
    have : turnsOf (Sm [] π) = [] := turnsOf_is (ts := []) trivial rfl
    rw [this] at ht
    exact absurd ht (by simp)
  · obtain ⟨u, hu⟩ := List.exists_mem_of_ne_nil _ hn
    have hq := (hlow u (l1 u hu).1 (l1 u hu).2).1
    have h1 := Sm_abs (π := π) (b := Q - 120) (T := T.filter fun t => decide (t.1 < k)) fun t ht => by
      have := (hlow t (l1 t ht).1 (l1 t ht).2).1
      omega
    have h2 := Nat.le_trans (Ab_filter (fun t => decide (t.1 < k)) T) hb
    have h3 := Nat.le_trans h1 (Nat.mul_le_mul_right (2 ^ (Q - 120)) h2)
    have := turns_lt (c := 100) h3 t ht
    omega
/-- places near and far: the same steps, but that a step of 120 may stand for a longer one -/
structure Near (n : Nat) (q P : Nat → Nat) : Prop where
  z : q 0 = 0
  s : ∀ k, k + 1 < n → q k ≤ q (k + 1) ∧ ((P (k + 1) = P k + (q (k + 1) - q k)) ∨ (q (k + 1) = q k + 120 ∧ P k + 120 ≤ P (k + 1)))
theorem Near.mono {n : Nat} {q P : Nat → Nat} (h : Near n q P) {i : Nat} : ∀ {j : Nat}, i ≤ j → j < n → q i ≤ q j ∧ q j - q i + P i ≤ P j
  | 0, hij, hj => by
    have : i = 0 := by omega
    subst this
    omega
  | j + 1, hij, hj => by
    by_cases e : i = j + 1
    · subst e
      omega
    · have ih := h.mono (i := i) (j := j) (by omega) (by omega)
      have := h.s j hj
      omega
theorem Near.le {n : Nat} {q P : Nat → Nat} (h : Near n q P) {i : Nat} (hi : i < n) : q i ≤ P i := by
  have := h.mono (Nat.zero_le i) hi
  have := h.z
  omega
def At (n : Nat) (q : Nat → Nat) (at_ : Nat → Nat) (t : Nat) : Prop := at_ t < n ∧ q (at_ t) ≤ t ∧ (at_ t + 1 = n ∨ t < q (at_ t + 1))
theorem near_turns {n : Nat} {q P at_ : Nat → Nat} {T : List (Nat × Int)} (N : Near n q P) (hT : ∀ t ∈ T, t.1 < n) (hb : Ab T ≤ 2 ^ 100) (ha : ∀ t ∈ turnsOf (Sm T q), At n q at_ t) :
    turnsOf (Sm T P) = (turnsOf (Sm T q)).map fun t => t + (P (at_ t) - q (at_ t)) := by
  let Dk : Nat → Nat := fun k => if k = 0 then 0 else P (k - 1) - q (k - 1)
  let πk : Nat → Nat → Nat := fun k i => if i < k then q i else P i - Dk k
  let fk : Nat → Nat → Nat := fun k t => if k ≤ at_ t then t + (P (at_ t) - q (at_ t)) - Dk k else t
  have main : ∀ j, j ≤ n → turnsOf (Sm T (πk (n - j))) = (turnsOf (Sm T q)).map (fk (n - j)) := by
    intro j
    induction j with
    | zero =>
      intro _
      have e1 : Sm T (πk (n - 0)) = Sm T q := Sm_congr fun t ht => by
        show (if t.1 < n - 0 then q t.1 else _) = _
        rw [if_pos (show t.1 < n - 0 from hT t ht)]
      have e2 : (turnsOf (Sm T q)).map (fk (n - 0)) = (turnsOf (Sm T q)).map id := List.map_congr_left fun t ht => by
        show (if n - 0 ≤ at_ t then _ else t) = t
        rw [if_neg (by have := (ha t ht).1; omega)]
      rw [e1, e2, List.map_id]
    | succ j ih =>
      intro hj
      have ih := ih (by omega)
      obtain ⟨k, hk⟩ : ∃ k, n - (j + 1) = k := ⟨_, rfl⟩
      have hk1 : n - j = k + 1 := by omega
      have hkn : k < n := by omega
      rw [hk]
      rw [hk1] at ih
      have hD1 : Dk (k + 1) = P k - q k := by
        show (if k + 1 = 0 then 0 else P (k + 1 - 1) - q (k + 1 - 1)) = _
        rw [if_neg (by omega), Nat.add_sub_cancel]
      have hqk := N.le hkn
      have hmono : ∀ i, k ≤ i → i < n → q k ≤ q i ∧ q i - q k + P k ≤ P i := fun i h1 h2 => N.mono h1 h2
      have hDle : Dk k ≤ P k - q k ∧ (Dk k = P k - q k ∨ ∀ i, i < k → q i + 120 ≤ q k) := by
        show (if k = 0 then 0 else P (k - 1) - q (k - 1)) ≤ P k - q k ∧ ((if k = 0 then 0 else P (k - 1) - q (k - 1)) = P k - q k ∨ _)
        by_cases h0 : k = 0
        · rw [if_pos h0]
          exact ⟨Nat.zero_le _, .inr fun i hi => by omega⟩
        · rw [if_neg h0]
          have hs := N.s (k - 1) (by omega)
          rw [show k - 1 + 1 = k by omega] at hs
          have hq1 := N.le (i := k - 1) (by omega)
          refine ⟨by omega, ?_⟩
          rcases hs.2 with hs2 | hs2
          · left
            omega
          · right
            intro i hi
            have := (N.mono (i := i) (j := k - 1) (by omega) (by omega)).1
            omega
      have hat : ∀ t ∈ turnsOf (Sm T q), (at_ t < k → t < q k) ∧ (k ≤ at_ t → q k ≤ t ∧ P k - q k ≤ P (at_ t) - q (at_ t)) := fun t ht => by
        obtain ⟨a1, a2, a3⟩ := ha t ht
        refine ⟨fun h => ?_, fun h => ?_⟩
        · have := (N.mono (i := at_ t + 1) (j := k) (by omega) hkn).1
          omega
        · have := hmono (at_ t) h a1
          have := N.le a1
          omega
      by_cases hδ : Dk k = P k - q k
      · have e1 : Sm T (πk k) = Sm T (πk (k + 1)) := Sm_congr fun t ht => by
          have htn := hT t ht
          show (if t.1 < k then q t.1 else P t.1 - Dk k) = (if t.1 < k + 1 then q t.1 else P t.1 - Dk (k + 1))
          by_cases h1 : t.1 < k
          · rw [if_pos h1, if_pos (by omega)]
          · rw [if_neg h1]
            by_cases h2 : t.1 = k
            · rw [if_pos (by omega), h2]
              omega
            · rw [if_neg (by omega), hD1, hδ]
        rw [e1, ih]
        refine List.map_congr_left fun t ht => ?_
        have hh := hat t ht
        show (if k + 1 ≤ at_ t then t + (P (at_ t) - q (at_ t)) - Dk (k + 1) else t) = (if k ≤ at_ t then t + (P (at_ t) - q (at_ t)) - Dk k else t)
        by_cases h1 : k + 1 ≤ at_ t
        · rw [if_pos h1, if_pos (by omega), hD1, hδ]
        · rw [if_neg h1]
          by_cases h2 : k ≤ at_ t
          · have : at_ t = k := by omega
            rw [if_pos h2, this]
            omega
          · rw [if_neg h2]
      · have hcap := hDle.2.resolve_left hδ
        have hst := stretch_sum (T := T) (π := πk (k + 1)) (π' := πk k) (k := k) (Q := q k) (δ := P k - q k - Dk k) (fun t ht hlt => ?_) (fun t ht hge => ?_) hb
        · rw [hst, ih, List.map_map]
          refine List.map_congr_left fun t ht => ?_
          have hh := hat t ht
          show (if fk (k + 1) t < q k then fk (k + 1) t else fk (k + 1) t + (P k - q k - Dk k)) = (if k ≤ at_ t then t + (P (at_ t) - q (at_ t)) - Dk k else t)
          by_cases h2 : k ≤ at_ t
          · have h3 := hh.2 h2
            rw [if_pos h2]
            by_cases h1 : k + 1 ≤ at_ t
            · have ef : fk (k + 1) t = t + (P (at_ t) - q (at_ t)) - Dk (k + 1) := if_pos h1
              rw [ef, hD1, if_neg (by omega)]
              omega
            · have ef : fk (k + 1) t = t := if_neg h1
              have : at_ t = k := by omega
              rw [ef, if_neg (by omega), this]
              omega
          · have ef : fk (k + 1) t = t := if_neg (by omega)
            rw [if_neg h2, ef, if_pos (hh.1 (by omega))]
        · refine ⟨?_, ?_⟩
          · show (if t.1 < k + 1 then q t.1 else _) + 120 ≤ q k
            rw [if_pos (by omega)]
            exact hcap _ hlt
          · show (if t.1 < k then q t.1 else _) = (if t.1 < k + 1 then q t.1 else _)
            rw [if_pos hlt, if_pos (by omega)]
        · have hm := hmono t.1 hge (hT t ht)
          show q k ≤ (if t.1 < k + 1 then q t.1 else P t.1 - Dk (k + 1)) ∧ (if t.1 < k then q t.1 else P t.1 - Dk k) = (if t.1 < k + 1 then q t.1 else P t.1 - Dk (k + 1)) + (P k - q k - Dk k)
          rw [if_neg (show ¬ t.1 < k by omega), hD1]
          by_cases h2 : t.1 = k
          · rw [if_pos (show t.1 < k + 1 by omega), h2]
            omega
          · rw [if_neg (show ¬ t.1 < k + 1 by omega)]
            omega
  have h0 := main n (Nat.le_refl n)
  rw [Nat.sub_self] at h0
  have e1 : Sm T (πk 0) = Sm T P := Sm_congr fun t _ => by
    show (if t.1 < 0 then q t.1 else P t.1 - 0) = P t.1
    rw [if_neg (by omega)]
    rfl
  rw [← e1, h0]
  refine List.map_congr_left fun t ht => ?_
  show (if 0 ≤ at_ t then t + (P (at_ t) - q (at_ t)) - 0 else t) = _
  rw [if_pos (Nat.zero_le _)]
  rfl
end MS
set_option Elab.async false
set_option linter.all false
set_option maxRecDepth 100000
/-! how many turns a sum of powers of two has -/
namespace MS
open PySem PySem.Spec TV FM FC
noncomputable def tau (n : Int) : Nat := (turnsOf n).length
theorem turns_dbl (m : Int) : turnsOf (2 * m) = (turnsOf m).map (· + 1) := turnsOf_is (asc_succ (turnsOf_asc m)) (by rw [tv_map_succ, turnsOf_tv])
theorem tau_dbl (m : Int) : tau (2 * m) = tau m := by
  unfold tau
  rw [turns_dbl, List.length_map]
theorem zero_turn (m : Int) : 0 ∈ turnsOf m ↔ m % 2 = 1 := by
  have := mem_tb (turnsOf_asc m) 0
  rw [turnsOf_tv, if_pos rfl, tb_zero] at this
  rw [this]
  simp
theorem tau_odd (m : Int) : tau (2 * m + 1) = tau m + if m % 2 = 0 then 2 else 0 := by
  by_cases h : m % 2 = 0
  · rw [if_pos h]
    have h0 : ∀ t ∈ turnsOf m, 0 < t := fun t ht => by
      apply Nat.pos_of_ne_zero
      intro e
      subst e
      have := (zero_turn m).mp ht
      omega
    have e : turnsOf (2 * m + 1) = 0 :: 1 :: (turnsOf m).map (· + 1) := by
      refine turnsOf_is (asc_cons (fun b hb => ?_) (asc_cons (fun b hb => ?_) (asc_succ (turnsOf_asc m)))) ?_
      · simp only [List.mem_cons, List.mem_map] at hb
        rcases hb with rfl | ⟨t, _, rfl⟩
        · decide
        · omega
      · obtain ⟨t, ht, rfl⟩ := List.mem_map.mp hb
        have := h0 t ht
        omega
      · rw [tv_cons, tv_cons, tv_map_succ, turnsOf_tv]
        omega
    unfold tau
    rw [e]
    simp
  · rw [if_neg h]
    have hz := (zero_turn m).mpr (by omega)
    have hA := turnsOf_asc m
    have hv := turnsOf_tv m
    unfold tau
    cases ht : turnsOf m with
    | nil => rw [ht] at hz; exact absurd hz (by simp)
    | cons a r =>
      rw [ht] at hz hA hv
      have ha : a = 0 := by
        rcases List.mem_cons.mp hz with e | e
        · exact e.symm
        · have := hA.lt 0 e
          omega
      subst ha
      have e : turnsOf (2 * m + 1) = 0 :: r.map (· + 1) := by
        refine turnsOf_is (asc_cons (fun b hb => ?_) (asc_succ hA.tail)) ?_
        · obtain ⟨t, _, rfl⟩ := List.mem_map.mp hb
          omega
        · rw [tv_cons, tv_map_succ]
          rw [tv_cons] at hv
          omega
      rw [e]
      simp
theorem half_ind {p : Int → Prop} (h0 : p 0) (h1 : p (-1)) (hs : ∀ m, p m → p (2 * m) ∧ p (2 * m + 1)) : ∀ n, p n := by
  have : ∀ k : Nat, ∀ n : Int, n.natAbs ≤ k → p n := by
    intro k
    induction k with
    | zero =>
      intro n hn
      have : n = 0 := by omega
      exact this ▸ h0
    | succ k ih =>
      intro n hn
      by_cases e0 : n = 0
      · exact e0 ▸ h0
      · by_cases e1 : n = -1
        · exact e1 ▸ h1
        · have := hs (n / 2) (ih (n / 2) (by omega))
          by_cases e : n % 2 = 0
          · have e2 : n = 2 * (n / 2) := by omega
            rw [e2]
            exact this.1
          · have e2 : n = 2 * (n / 2) + 1 := by omega
            rw [e2]
            exact this.2
  intro n
  exact this n.natAbs n (Nat.le_refl _)
theorem tau_zero : tau 0 = 0 := by
  unfold tau
  rw [show turnsOf 0 = [] from turnsOf_is (ts := []) trivial rfl]
  rfl
theorem tau_neg1 : tau (-1) = 1 := by
  unfold tau
  rw [turnsOf_is (ts := [0]) trivial (by decide)]
  rfl
theorem tau_one : tau 1 = 2 := by
  unfold tau
  rw [turnsOf_is (ts := [0, 1]) ⟨by decide, trivial⟩ (by decide)]
  rfl
theorem tau_s : ∀ n : Int, tau (n + 1) ≤ tau n + (if n % 2 = 0 then 2 else 0) ∧ tau n ≤ tau (n + 1) + (if n % 2 = 0 then 0 else 2) := by
  refine half_ind ?_ ?_ fun m ih => ⟨?_, ?_⟩
  · rw [show (0 : Int) + 1 = 1 by decide, tau_zero, tau_one]
    simp
  · rw [show (-1 : Int) + 1 = 0 by decide, tau_zero, tau_neg1]
    simp
  · rw [tau_odd, tau_dbl, if_pos (show 2 * m % 2 = 0 by omega), if_pos (show 2 * m % 2 = 0 by omega)]
    split <;> omega
  · rw [show 2 * m + 1 + 1 = 2 * (m + 1) by omega, tau_dbl, tau_odd, if_neg (show ¬ (2 * m + 1) % 2 = 0 by omega), if_neg (show ¬ (2 * m + 1) % 2 = 0 by omega)]
    obtain ⟨h1, h2⟩ := ih
    split at h1 <;> split at h2 <;> split <;> omega
/-- one more power of two, one less: two more turns at most -/
theorem tau_pow : ∀ (p : Nat) (n : Int), tau (n + 2 ^ p) ≤ tau n + 2 ∧ tau n ≤ tau (n + 2 ^ p) + 2
  | 0, n => by
    have := tau_s n
    rw [show (2 : Int) ^ 0 = 1 from rfl]
    obtain ⟨h1, h2⟩ := this
    split at h1 <;> split at h2 <;> omega
  | p + 1, n => by
    have ih := tau_pow p (n / 2)
    by_cases e : n % 2 = 0
    · have e1 : n = 2 * (n / 2) := by omega
      have e2 : n + 2 ^ (p + 1) = 2 * (n / 2 + 2 ^ p) := by rw [Int.pow_succ]; omega
      rw [e2, tau_dbl]
      have e3 : tau n = tau (n / 2) := by
        conv => lhs; rw [e1]
        exact tau_dbl _
      rw [e3]
      exact ih
    · have e1 : n = 2 * (n / 2) + 1 := by omega
      have e2 : n + 2 ^ (p + 1) = 2 * (n / 2 + 2 ^ p) + 1 := by rw [Int.pow_succ]; omega
      have e3 : tau n = tau (n / 2) + if n / 2 % 2 = 0 then 2 else 0 := by
        conv => lhs; rw [e1]
        exact tau_odd _
      rw [e2, tau_odd, e3]
      cases p with
      | zero =>
        rw [show (2 : Int) ^ 0 = 1 from rfl]
        have h := tau_s (n / 2)
        by_cases e4 : n / 2 % 2 = 0
        · rw [if_pos e4, if_neg (by omega)]
          rw [if_pos e4, if_pos e4] at h
          have e5 : n / 2 = 2 * (n / 2 / 2) := by omega
          have h6 := tau_dbl (n / 2 / 2)
          have h7 := tau_odd (n / 2 / 2)
          rw [← e5] at h6 h7
          omega
        · rw [if_neg e4, if_pos (by omega)]
          rw [if_neg e4, if_neg e4] at h
          omega
      | succ p =>
        have : (2 : Int) ^ (p + 1) = 2 ^ p * 2 := Int.pow_succ 2 p
        by_cases e4 : n / 2 % 2 = 0
        · rw [if_pos e4, if_pos (by omega)]
          omega
        · rw [if_neg e4, if_neg (by omega)]
          omega
theorem tau_mul {p : Nat} : ∀ (k : Nat) (n : Int), tau (n + k * 2 ^ p) ≤ tau n + 2 * k ∧ tau (n - k * 2 ^ p) ≤ tau n + 2 * k
  | 0, n => by simp
  | k + 1, n => by
    have ih := tau_mul (p := p) k n
    have h1 := (tau_pow p (n + k * 2 ^ p)).1
    have h2 := (tau_pow p (n - k * 2 ^ p - 2 ^ p)).2
    rw [show n - k * 2 ^ p - 2 ^ p + 2 ^ p = n - k * 2 ^ p by omega] at h2
    rw [show n + ((k + 1 : Nat) : Int) * 2 ^ p = n + k * 2 ^ p + 2 ^ p by rw [Int.natCast_add, Int.add_mul]; simp; omega, show n - ((k + 1 : Nat) : Int) * 2 ^ p = n - k * 2 ^ p - 2 ^ p by rw [Int.natCast_add, Int.add_mul]; simp; omega]
    omega
theorem tau_add (n c : Int) (p : Nat) : tau (n + c * 2 ^ p) ≤ tau n + 2 * c.natAbs := by
  have := tau_mul (p := p) c.natAbs n
  by_cases h : 0 ≤ c
  · have e : ((c.natAbs : Nat) : Int) = c := by omega
    rw [e] at this
    exact this.1
  · have e : ((c.natAbs : Nat) : Int) = -c := by omega
    rw [e, Int.neg_mul, Int.sub_neg] at this
    exact this.2
theorem tau_Sm {π : Nat → Nat} : ∀ T : List (Nat × Int), tau (Sm T π) ≤ 2 * Ab T
  | [] => by
    show tau 0 ≤ _
    rw [tau_zero]
    exact Nat.zero_le _
  | t :: r => by
    have ih := tau_Sm (π := π) r
    have := tau_add (Sm r π) t.2 (π t.1)
    unfold Sm Ab at *
    rw [List.map_cons, List.sum_cons, List.map_cons, List.sum_cons, Int.add_comm]
    omega
end MS
set_option Elab.async false
set_option linter.all false
set_option maxRecDepth 100000
/-! codes: digits, few turns in the far fields; the places that they stand for, near and far -/
namespace FD
open PySem PySem.Spec TV FM FB FC MS
/-- m digits below B; w turns at most in the far fields -/
def Dw (m B w : Nat) (c : Int) : Prop := ∃ (a : Nat) (r : List Nat), r.length + 1 = m ∧ a < B ∧ (∀ x ∈ r, x < B) ∧ c = (a : Int) + 2 ^ 200 * num r ∧ tau (num r) ≤ w
theorem Dw.dg {m B w : Nat} {c : Int} (h : Dw m B w c) : Dg m B c := by
  obtain ⟨a, r, h1, h2, h3, h4, h5⟩ := h
  exact ⟨a :: r, h1, fun x hx => (List.mem_cons.mp hx).elim (fun e => e ▸ h2) (h3 x), h4⟩
theorem Dw.mono {m B B' w w' : Nat} {c : Int} (h : Dw m B w c) (l : B ≤ B') (l2 : w ≤ w') : Dw m B' w' c := by
  obtain ⟨a, r, h1, h2, h3, h4, h5⟩ := h
  exact ⟨a, r, h1, by omega, fun x hx => by have := h3 x hx; omega, h4, by omega⟩
theorem Dw.code {m B w : Nat} {c : Int} (h : Dw m B w c) (hB : B ≤ 2 ^ 100) : CodeOk m c := h.dg.code hB
theorem Dw.nonneg {m B w : Nat} {c : Int} (h : Dw m B w c) : 0 ≤ c := h.dg.nonneg
theorem Dw.nat {m B x : Nat} (hm : 1 ≤ m) (hx : x < B) : Dw m B 0 (x : Nat) := by
  refine ⟨x, List.replicate (m - 1) 0, by simp; omega, hx, fun y hy => ?_, ?_, ?_⟩
  · rw [List.mem_replicate] at hy
    omega
  · rw [num_zero]
    simp
  · rw [num_zero, tau_zero]
    exact Nat.le_refl _
theorem Dw.add {m B Y w y : Nat} {c : Int} (h : Dw m B w c) (hy : y < Y) : Dw m (B + Y) w (c + (y : Nat)) := by
  obtain ⟨a, r, h1, h2, h3, rfl, h5⟩ := h
  exact ⟨a + y, r, h1, by omega, fun x hx => by have := h3 x hx; omega, by omega, h5⟩
/-- a number of at most two signed powers -/
def Two (y : Nat) : Prop := ∃ (a b : Nat) (s : Int), s.natAbs ≤ 1 ∧ (y : Int) = 2 ^ a + s * 2 ^ b
theorem Two.shl {y : Nat} (h : Two y) (k : Nat) : Two (y * 2 ^ k) := by
  obtain ⟨a, b, s, hs, e⟩ := h
  refine ⟨a + k, b + k, s, hs, ?_⟩
  rw [Int.pow_add, Int.pow_add, ← Int.mul_assoc, ← Int.add_mul, ← e]
  simp
theorem Dw.far {m B Y w y d : Nat} {c : Int} (h : Dw m B w c) (h0 : 1 ≤ d) (hd : d < m) (hy : y < Y) (ht : Two y) : Dw m (B + Y) (w + 4) (c + (y : Nat) * 2 ^ (200 * d)) := by
  obtain ⟨a, r, h1, h2, h3, rfl, h5⟩ := h
  obtain ⟨e, rfl⟩ : ∃ e, d = e + 1 := ⟨d - 1, by omega⟩
  have hg : r[e]? = some r[e] := List.getElem?_eq_getElem (by omega)
  have hn := num_set r e y _ hg
  refine ⟨a, r.set e (r[e] + y), by simp [h1], by omega, fun x hx => ?_, ?_, ?_⟩
  · rcases List.mem_or_eq_of_mem_set hx with hx | hx
    · have := h3 x hx; omega
    · have := h3 r[e] (List.getElem_mem _)
      omega
  · rw [hn, Int.mul_add, show 200 * (e + 1) = 200 + 200 * e by omega, Int.pow_add, Int.mul_left_comm]
    omega
  · rw [hn]
    obtain ⟨p, q, s, hs, ey⟩ := ht
    rw [ey, Int.add_mul, ← Int.pow_add, Int.mul_assoc, ← Int.pow_add, ← Int.add_assoc]
    have h6 := tau_add (num r + 2 ^ (p + 200 * e)) s (q + 200 * e)
    have h7 := (tau_pow (p + 200 * e) (num r)).1
    omega
/-- the far number of a row of digits from field j on -/
def far (fs : List PyData) : Nat → List Nat → Int
  | _, [] => 0
  | j, a :: r => (a : Int) * 2 ^ Fi fs j + far fs (j + 1) r
theorem Phi_far {fs : List PyData} : ∀ (ps : List Nat) (j : Nat), (∀ a ∈ ps, a < 2 ^ 100) → tv ((turnsOf (num ps)).map fun t => Fi fs (j + t / 200) + t % 200) = far fs j ps
  | [], j, _ => by
    rw [show turnsOf (num []) = [] from turnsOf_is (ts := []) trivial rfl]
    rfl
  | a :: r, j, h => by
    have ih := Phi_far (fs := fs) r (j + 1) fun x hx => h x (by simp [hx])
    have ha := h a (by simp)
    have hb : ∀ t ∈ turnsOf (a : Int), t ≤ 100 := by
      refine (tv_range (turnsOf_asc _)).mpr ?_
      rw [turnsOf_tv]
      have : ((2 ^ 100 : Nat) : Int) = 2 ^ 100 := by simp
      omega
    have he : (turnsOf (a : Int)).length % 2 = 0 := even_of_nonneg (turnsOf_asc _) (by rw [turnsOf_tv]; omega)
    show tv ((turnsOf ((a : Int) + 2 ^ 200 * num r)).map _) = (a : Int) * 2 ^ Fi fs j + far fs (j + 1) r
    rw [turns_app (Q := 200) fun t ht => by have := hb t ht; omega, if_pos he, List.map_append, tv_append, List.length_map, if_pos he, List.map_map, ← ih]
    congr 1
    · have : (turnsOf (a : Int)).map (fun t => Fi fs (j + t / 200) + t % 200) = (turnsOf (a : Int)).map (· + Fi fs j) := List.map_congr_left fun t ht => by
        have := hb t ht
        show Fi fs (j + t / 200) + t % 200 = t + Fi fs j
        rw [show j + t / 200 = j by omega]
        omega
      rw [this, tv_map_add, turnsOf_tv, Int.mul_comm]
    · congr 1
      refine List.map_congr_left fun t ht => ?_
      show Fi fs (j + (t + 200) / 200) + (t + 200) % 200 = Fi fs (j + 1 + t / 200) + t % 200
      rw [show j + (t + 200) / 200 = j + 1 + t / 200 by omega]
      omega
theorem Phi_num {fs : List PyData} {ps : List Nat} (h : ∀ a ∈ ps, a < 2 ^ 100) : Phi fs (num ps) = far fs 0 ps := by
  rw [← Phi_far ps 0 h]
  unfold Phi
  congr 1
  refine List.map_congr_left fun t _ => ?_
  unfold phi
  rw [Nat.zero_add]
theorem Fi_zero {fs : List PyData} (F : Fields fs) : Fi fs 0 = 0 := by
  obtain ⟨f1, es2, es3, rfl, _⟩ := F.ex
  show (val (.int 0)).toNat = 0
  rw [val_int]
  rfl
theorem Dg.split {m B : Nat} {c : Int} (h : Dg m B c) (hm : 1 ≤ m) : ∃ (a : Nat) (r : List Nat), r.length + 1 = m ∧ a < B ∧ (∀ x ∈ r, x < B) ∧ c = (a : Int) + 2 ^ 200 * num r := by
  obtain ⟨ps, h1, h2, rfl⟩ := h
  cases ps with
  | nil => simp at h1; omega
  | cons a r => exact ⟨a, r, h1, h2 a (by simp), fun x hx => h2 x (by simp [hx]), rfl⟩
/-- the weight of a code of few far turns -/
theorem Dw.cwt {m B : Nat} {c : Int} (h : Dw m B 8 c) (hB : B ≤ 2 ^ 61) : cwt c ≤ 247 := by
  obtain ⟨a, r, h1, h2, h3, rfl, h5⟩ := h
  have hb : ∀ t ∈ turnsOf (a : Int), t ≤ 61 := by
    refine (tv_range (turnsOf_asc _)).mpr ?_
    rw [turnsOf_tv]
    have : ((2 ^ 61 : Nat) : Int) = 2 ^ 61 := by simp
    omega
  have hl := asc_len (a := 0) (turnsOf_asc (a : Int)) fun t ht => ⟨Nat.zero_le _, hb t ht⟩
  have he : (turnsOf (a : Int)).length % 2 = 0 := even_of_nonneg (turnsOf_asc _) (by rw [turnsOf_tv]; omega)
  unfold FC.cwt
  rw [turns_app (Q := 200) fun t ht => by have := hb t ht; omega, if_pos he, List.map_append, List.sum_append]
  have e1 : (turnsOf (a : Int)).map cw = (turnsOf (a : Int)).map fun _ => 1 := List.map_congr_left fun t ht => by
    unfold cw
    rw [if_pos (by have := hb t ht; omega)]
  have e2 := cw_sum ((turnsOf (num r)).map (· + 200))
  have e3 : ((turnsOf (a : Int)).map fun _ => 1).sum = (turnsOf (a : Int)).length := by
    generalize turnsOf (a : Int) = l
    induction l with
    | nil => rfl
    | cons x y ih => simp only [List.map_cons, List.sum_cons, List.length_cons, ih]; omega
  rw [e1, e3]
  rw [List.length_map] at e2
  unfold tau at h5
  omega
theorem cwts_dw {m B : Nat} (hB : B ≤ 2 ^ 61) : ∀ {cs : List Int}, (∀ c ∈ cs, Dw m B 8 c) → (cs.map FC.cwt).sum ≤ 247 * cs.length
  | [], _ => by simp
  | c :: r, h => by
    have h1 := (h c (by simp)).cwt hB
    have h2 := cwts_dw hB (cs := r) fun x hx => h x (by simp [hx])
    simp only [List.map_cons, List.sum_cons, List.length_cons]
    omega
/-- a little further in field nought -/
theorem Phi_step {fs : List PyData} (F : Fields fs) {m B y : Nat} {c : Int} (h : Dg m B c) (hm : 1 ≤ m) (hB : B + y ≤ 2 ^ 100) : Phi fs (c + (y : Nat)) = Phi fs c + (y : Nat) := by
  obtain ⟨a, r, h1, h2, h3, rfl⟩ := Dg.split h hm
  have e1 : ((a : Int) + 2 ^ 200 * num r) = num (a :: r) := rfl
  have e2 : ((a : Int) + 2 ^ 200 * num r + (y : Nat)) = num ((a + y) :: r) := by
    show _ = ((a + y : Nat) : Int) + 2 ^ 200 * num r
    omega
  rw [e2, e1, Phi_num fun x hx => ?_, Phi_num fun x hx => ?_]
  · show ((a + y : Nat) : Int) * 2 ^ Fi fs 0 + _ = (a : Int) * 2 ^ Fi fs 0 + _ + (y : Nat)
    rw [Fi_zero F, Int.pow_zero]
    omega
  · rcases List.mem_cons.mp hx with rfl | hx
    · omega
    · have := h3 x hx
      omega
  · rcases List.mem_cons.mp hx with rfl | hx
    · omega
    · have := h3 x hx
      omega
/-- codes near one another: places so, too; codes apart: places so, too -/
theorem Phi_gap {fs : List PyData} (F : Fields fs) {m B : Nat} {c d : Int} (hc : Dg m B c) (hd : Dg m B d) (hm : 1 ≤ m) (hm4 : m ≤ 4) (hB : B ≤ 2 ^ 90) (h : c ≤ d) :
    (d - c < 120 → Phi fs d = Phi fs c + (d - c)) ∧ (120 ≤ d - c → Phi fs c + 120 ≤ Phi fs d) := by
  constructor
  · intro hlt
    have := Phi_step F (y := (d - c).toNat) hc hm (by omega)
    have e : (((d - c).toNat : Nat) : Int) = d - c := by omega
    rw [e, show c + (d - c) = d by omega] at this
    exact this
  · intro hge
    have h1 := Phi_step F (y := 120) hc hm (by omega)
    have h2 : CodeOk m (c + ((120 : Nat) : Int)) := by
      have := hc.add (d := 0) (y := 120) (Y := 121) (by omega) (by decide)
      rw [Nat.mul_zero, Int.pow_zero, Int.mul_one] at this
      exact this.code (by omega)
    have e : ((120 : Nat) : Int) = 120 := rfl
    rw [e] at h1 h2
    by_cases hz : c + 120 = d
    · rw [← hz, h1]
      exact Int.le_refl _
    · have := Phi_lt F hm4 h2 (hd.code (by omega)) (by omega)
      omega
/-- the turns that codes stand for -/
noncomputable def Phis (fs : List PyData) (cs : List Int) : List Nat := cs.map fun c => (Phi fs c).toNat
theorem Phis_asc {fs : List PyData} (F : Fields fs) {m : Nat} (hm : m ≤ 4) {cs : List Int} (h : cs.Pairwise (· < ·)) (hc : ∀ c ∈ cs, CodeOk m c) : Asc (Phis fs cs) := by
  rw [asc_pairwise]
  unfold Phis
  rw [List.pairwise_map]
  refine h.imp_of_mem fun {a b} ha hb hab => ?_
  have h1 := Phi_lt F hm (hc a ha) (hc b hb) hab
  have h2 := Phi_nonneg F hm (hc a ha)
  omega
/-- the code with number k of a row -/
def cd (cs : List Int) (k : Nat) : Int := cs.getD k 0
/-- the near places of a row of codes -/
def qN (cs : List Int) : Nat → Nat
  | 0 => 0
  | k + 1 => qN cs k + (min (cd cs (k + 1) - cd cs k) 120).toNat
theorem cd_at {cs : List Int} {k : Nat} (h : k < cs.length) : cs[k]? = some (cd cs k) := by
  unfold cd
  rw [List.getD_eq_getElem?_getD, List.getElem?_eq_getElem h]
  rfl
theorem cd_mem {cs : List Int} {k : Nat} (h : k < cs.length) : cd cs k ∈ cs := List.mem_of_getElem? (cd_at h)
theorem cd_le {cs : List Int} (hs : cs.Pairwise (· ≤ ·)) {i j : Nat} (hij : i ≤ j) (hj : j < cs.length) : cd cs i ≤ cd cs j := by
  by_cases e : i = j
  · rw [e]
    exact Int.le_refl _
  · have h1 := cd_at (cs := cs) (k := i) (by omega)
    have h2 := cd_at hj
    obtain ⟨h1', e1⟩ := List.getElem?_eq_some_iff.mp h1
    obtain ⟨h2', e2⟩ := List.getElem?_eq_some_iff.mp h2
    rw [← e1, ← e2]
    exact List.pairwise_iff_getElem.mp hs i j h1' h2' (by omega)
theorem qN_step {cs : List Int} (hs : cs.Pairwise (· ≤ ·)) {k : Nat} (hk : k + 1 < cs.length) : qN cs k ≤ qN cs (k + 1) ∧ ((qN cs (k + 1) : Int) = qN cs k + (cd cs (k + 1) - cd cs k) ∧ cd cs (k + 1) - cd cs k < 120 ∨ qN cs (k + 1) = qN cs k + 120 ∧ 120 ≤ cd cs (k + 1) - cd cs k) := by
  have := cd_le hs (show k ≤ k + 1 by omega) hk
  show qN cs k ≤ qN cs k + _ ∧ (((qN cs k + _ : Nat) : Int) = _ ∧ _ ∨ qN cs k + _ = _ ∧ _)
  omega
theorem qN_eq {cs : List Int} (hs : cs.Pairwise (· ≤ ·)) {i : Nat} : ∀ {j : Nat}, i ≤ j → j < cs.length → cd cs i = cd cs j → qN cs i = qN cs j
  | 0, hij, hj, e => by
    have : i = 0 := by omega
    rw [this]
  | j + 1, hij, hj, e => by
    by_cases z : i = j + 1
    · rw [z]
    · have h1 := cd_le hs (show i ≤ j by omega) (show j < cs.length by omega)
      have h2 := cd_le hs (show j ≤ j + 1 by omega) hj
      have ih := qN_eq hs (i := i) (j := j) (by omega) (by omega) (by omega)
      have := qN_step hs hj
      omega
theorem near_codes {fs : List PyData} (F : Fields fs) {m B : Nat} {cs : List Int} (hs : cs.Pairwise (· ≤ ·)) (hc : ∀ c ∈ cs, Dg m B c) (hm : 1 ≤ m) (hm4 : m ≤ 4) (hB : B ≤ 2 ^ 90) : Near cs.length (qN cs) fun k => (Phi fs (cd cs k)).toNat := by
  refine ⟨rfl, fun k hk => ?_⟩
  have h1 := qN_step hs hk
  have h2 := cd_le hs (show k ≤ k + 1 by omega) hk
  have d1 := hc _ (cd_mem (show k < cs.length by omega))
  have d2 := hc _ (cd_mem hk)
  have g := Phi_gap F d1 d2 hm hm4 hB h2
  have n1 := Phi_nonneg F hm4 (d1.code (by omega))
  have n2 := Phi_nonneg F hm4 (d2.code (by omega))
  refine ⟨h1.1, ?_⟩
  show (Phi fs (cd cs (k + 1))).toNat = (Phi fs (cd cs k)).toNat + (qN cs (k + 1) - qN cs k) ∨ _
  rcases h1.2 with ⟨e, hlt⟩ | ⟨e, hge⟩
  · left
    have := g.1 hlt
    omega
  · right
    have := g.2 hge
    refine ⟨e, ?_⟩
    show (Phi fs (cd cs k)).toNat + 120 ≤ (Phi fs (cd cs (k + 1))).toNat
    omega
/-- terms by the numbers of their codes -/
def ixT (cs : List Int) (ts : List (Int × Int)) : List (Nat × Int) := ts.map fun t => (cs.idxOf t.1, t.2)
def AbT (ts : List (Int × Int)) : Nat := (ts.map fun t => t.2.natAbs).sum
theorem Ab_ix (cs : List Int) (ts : List (Int × Int)) : Ab (ixT cs ts) = AbT ts := by
  unfold Ab AbT ixT
  rw [List.map_map]
  rfl
theorem Sm_ix (cs : List Int) (ts : List (Int × Int)) (π : Nat → Nat) : Sm (ixT cs ts) π = (ts.map fun t => t.2 * 2 ^ π (cs.idxOf t.1)).sum := by
  unfold Sm ixT
  rw [List.map_map]
  rfl
theorem cd_ix {cs : List Int} {c : Int} (h : c ∈ cs) : cs.idxOf c < cs.length ∧ cd cs (cs.idxOf c) = c := by
  have h1 := List.idxOf_lt_length_iff.mpr h
  refine ⟨h1, ?_⟩
  have := cd_at h1
  rw [List.getElem?_eq_getElem h1, List.getElem_idxOf h1] at this
  exact (Option.some.inj this).symm
theorem spot_eq {cs : List Int} (hs : cs.Pairwise (· ≤ ·)) {i : Nat} (hi : i < cs.length) : qN cs (cs.idxOf (cd cs i)) = qN cs i := by
  obtain ⟨h1, h2⟩ := cd_ix (cd_mem hi)
  rcases Nat.le_total (cs.idxOf (cd cs i)) i with h | h
  · exact qN_eq hs h hi h2
  · exact (qN_eq hs h h1 h2.symm).symm
theorem qN_le (cs : List Int) : ∀ k, qN cs k ≤ 120 * k
  | 0 => Nat.le_refl _
  | k + 1 => by
    have := qN_le cs k
    show qN cs k + _ ≤ _
    omega
/-- what the sum at near places tells -/
theorem summed {m B w : Nat} {cs : List Int} {ts : List (Int × Int)} {at_ : Nat → Nat} (hs : cs.Pairwise (· ≤ ·)) (hc : ∀ c ∈ cs, Dw m B w c) (hm : 1 ≤ m) (hm4 : m ≤ 4) (hB : B ≤ 2 ^ 80) (ht : ∀ t ∈ ts, t.1 ∈ cs) (hb : AbT ts ≤ 2 ^ 100)
    (ha : ∀ t ∈ turnsOf (Sm (ixT cs ts) (qN cs)), At cs.length (qN cs) at_ t) {ds : List Int} (hd : ds = (turnsOf (Sm (ixT cs ts) (qN cs))).map fun t => cd cs (at_ t) + (t : Nat) - (qN cs (at_ t) : Nat)) :
    ds.Pairwise (· < ·) ∧ (∀ d ∈ ds, Dw m (B + 122) w d) ∧ ds.length ≤ 2 * AbT ts ∧ ∀ fs, Fields fs → tv (Phis fs ds) = (ts.map fun t => t.2 * 2 ^ (Phi fs t.1).toNat).sum := by
  have hix : ∀ t ∈ ixT cs ts, t.1 < cs.length := fun t h => by
    obtain ⟨u, hu, rfl⟩ := List.mem_map.mp h
    exact (cd_ix (ht u hu)).1
  have hAb : Ab (ixT cs ts) ≤ 2 ^ 100 := by rw [Ab_ix]; exact hb
  have qm : ∀ {i j : Nat}, i ≤ j → j < cs.length → qN cs i ≤ qN cs j := fun {i j} => by
    intro hij hj
    induction j with
    | zero => rw [show i = 0 by omega]; exact Nat.le_refl _
    | succ j ih =>
      by_cases e : i = j + 1
      · rw [e]; exact Nat.le_refl _
      · have := ih (by omega) (by omega)
        have := (qN_step hs hj).1
        omega
  have small : ∀ t ∈ turnsOf (Sm (ixT cs ts) (qN cs)), t - qN cs (at_ t) ≤ 121 := fun t h => by
    obtain ⟨a1, a2, a3⟩ := ha t h
    rcases a3 with a3 | a3
    · have h1 := Sm_abs (π := qN cs) (b := qN cs (at_ t)) (T := ixT cs ts) fun u hu => qm (by have := hix u hu; omega) a1
      have h2 := turns_lt (c := 100) (Nat.le_trans h1 (Nat.mul_le_mul_right _ hAb)) t h
      omega
    · have : qN cs (at_ t + 1) ≤ qN cs (at_ t) + 120 := by
        show qN cs (at_ t) + _ ≤ _
        omega
      omega
  have hdg : ∀ d ∈ ds, Dw m (B + 122) w d := fun d h => by
    rw [hd] at h
    obtain ⟨t, h1, rfl⟩ := List.mem_map.mp h
    obtain ⟨a1, a2, a3⟩ := ha t h1
    have := (hc _ (cd_mem a1)).add (Y := 122) (y := t - qN cs (at_ t)) (by have := small t h1; omega)
    rw [show cd cs (at_ t) + (t : Nat) - (qN cs (at_ t) : Nat) = cd cs (at_ t) + ((t - qN cs (at_ t) : Nat) : Int) by omega]
    exact this
  refine ⟨?_, hdg, ?_, fun fs F => ?_⟩
  · rw [hd, List.pairwise_map]
    refine (asc_pairwise.mp (turnsOf_asc _)).imp_of_mem fun {t u} h1 h2 hlt => ?_
    obtain ⟨a1, a2, a3⟩ := ha t h1
    obtain ⟨b1, b2, b3⟩ := ha u h2
    have hle : at_ t ≤ at_ u := by
      apply Nat.le_of_not_lt
      intro hc
      have := qm (i := at_ u + 1) (j := at_ t) (by omega) a1
      omega
    by_cases e : at_ t = at_ u
    · rw [e]
      omega
    · have h3 := qN_step hs (k := at_ t) (by omega)
      have h4 := cd_le hs (i := at_ t + 1) (j := at_ u) (by omega) b1
      omega
  · rw [hd, List.length_map, ← Ab_ix cs]
    exact tau_Sm _
  · have N := near_codes F hs (fun c h => (hc c h).dg) hm hm4 (by omega)
    have e1 : Phis fs ds = turnsOf (Sm (ixT cs ts) fun k => (Phi fs (cd cs k)).toNat) := by
      rw [near_turns N hix hAb ha, hd]
      unfold Phis
      rw [List.map_map]
      refine List.map_congr_left fun t h => ?_
      obtain ⟨a1, a2, a3⟩ := ha t h
      have d1 := hc _ (cd_mem a1)
      have h1 := Phi_step F (y := t - qN cs (at_ t)) d1.dg hm (by have := small t h; omega)
      have h2 := Phi_nonneg F hm4 (d1.code (by omega))
      have h3 := N.le a1
      show (Phi fs (cd cs (at_ t) + (t : Nat) - (qN cs (at_ t) : Nat))).toNat = t + ((Phi fs (cd cs (at_ t))).toNat - qN cs (at_ t))
      rw [show cd cs (at_ t) + (t : Nat) - (qN cs (at_ t) : Nat) = cd cs (at_ t) + ((t - qN cs (at_ t) : Nat) : Int) by omega, h1]
      omega
    rw [e1, turnsOf_tv, Sm_ix]
    congr 1
    refine List.map_congr_left fun t h => ?_
    rw [(cd_ix (ht t h)).2]
end FD
set_option Elab.async false
set_option linter.all false
set_option maxRecDepth 100000
/-! what the program's functions of forms compute (plain mathematics) -/
namespace PM
open PySem TV FM DX FB FC HX L2
/-! ### equality of forms -/
mutual
theorem eqv_fm : ∀ {d e : PyData}, Fm d → Fm e → PyData.eqv d e = true → d = e
  | .int i, .int j, _, _, h => by
    simp only [PyData.eqv, beq_iff_eq] at h
    rw [h]
  | .int i, .tuple es, _, _, h => by simp [PyData.eqv] at h
  | .tuple ds, .int j, _, _, h => by simp [PyData.eqv] at h
  | .tuple ds, .tuple es, f, g, h => by
    rw [fm_tuple] at f g
    simp only [PyData.eqv] at h
    rw [eqvAll_fm f.1 g.1 h]
  | .none, _, f, _, _ => by simp [Fm] at f
  | .bool _, _, f, _, _ => by simp [Fm] at f
  | .str _, _, f, _, _ => by simp [Fm] at f
  | .list _, _, f, _, _ => by simp [Fm] at f
  | .dict _, _, f, _, _ => by simp [Fm] at f
  | .int _, .none, _, g, _ => by simp [Fm] at g
  | .int _, .bool _, _, g, _ => by simp [Fm] at g
  | .int _, .str _, _, g, _ => by simp [Fm] at g
  | .int _, .list _, _, g, _ => by simp [Fm] at g
  | .int _, .dict _, _, g, _ => by simp [Fm] at g
  | .tuple _, .none, _, g, _ => by simp [Fm] at g
  | .tuple _, .bool _, _, g, _ => by simp [Fm] at g
  | .tuple _, .str _, _, g, _ => by simp [Fm] at g
  | .tuple _, .list _, _, g, _ => by simp [Fm] at g
  | .tuple _, .dict _, _, g, _ => by simp [Fm] at g
theorem eqvAll_fm : ∀ {ds es : List PyData}, FmAll ds → FmAll es → PyData.eqvAll ds es = true → ds = es
  | [], [], _, _, _ => rfl
  | [], e :: r, _, _, h => by simp [PyData.eqvAll] at h
  | d :: r, [], _, _, h => by simp [PyData.eqvAll] at h
  | d :: r, e :: q, f, g, h => by
    rw [fmAll_cons] at f g
    simp only [PyData.eqvAll, Bool.and_eq_true] at h
    rw [eqv_fm f.1 g.1 h.1, eqvAll_fm f.2.2 g.2.2 h.2]
end
theorem eqv_val {d e : PyData} (f : Fm d) (g : Fm e) : PyData.eqv d e = decide (val d = val e) := by
  by_cases h : val d = val e
  · rw [decide_eq_true h, fm_inj f g h]
    exact SeqAt.eqv_refl _ (fm_lay g)
  · rw [decide_eq_false h]
    cases q : PyData.eqv d e with
    | false => rfl
    | true => exact absurd (by rw [eqv_fm f g q]) h
theorem eqv_self {d : PyData} (f : Fm d) : PyData.eqv d d = true := by rw [eqv_val f f, decide_eq_true rfl]
/-! ### forms as texts -/
mutual
theorem rp_fm : ∀ {d : PyData}, Fm d → d.showable = true ∧ d.hasDict = false ∧ d.shown.length + 2 ≤ 25 * wt d
  | .int i, f => by
    rw [fm_int] at f
    have h := Rp.int (i := i) (by omega)
    rw [wt_int]
    exact ⟨h.sh, h.nd, by have := h.ln; omega⟩
  | .tuple ds, f => by
    rw [fm_tuple] at f
    obtain ⟨h1, h2, h3⟩ := rpAll_fm f.1
    have h := Rp.tup (n := 25 * wtAll ds) (k := PyData.depthAll ds) ⟨h1, h2, Nat.le_refl _, h3⟩
    rw [wt_tuple]
    exact ⟨h.sh, h.nd, by have := h.ln; omega⟩
  | .none, f => by simp [Fm] at f
  | .bool _, f => by simp [Fm] at f
  | .str _, f => by simp [Fm] at f
  | .list _, f => by simp [Fm] at f
  | .dict _, f => by simp [Fm] at f
theorem rpAll_fm : ∀ {ds : List PyData}, FmAll ds → PyData.showableAll ds = true ∧ PyData.hasDictAll ds = false ∧ piled (PyData.shownAll ds) ≤ 25 * wtAll ds
  | [], _ => ⟨by simp [PyData.showableAll], by simp [PyData.hasDictAll], by simp [PyData.shownAll, piled]⟩
  | d :: r, f => by
    rw [fmAll_cons] at f
    obtain ⟨a1, a2, a3⟩ := rp_fm f.1
    obtain ⟨b1, b2, b3⟩ := rpAll_fm f.2.2
    refine ⟨by simp [PyData.showableAll, a1, b1], by simp [PyData.hasDictAll, a2, b2], ?_⟩
    simp only [PyData.shownAll, piled_cons, wtAll_cons]
    omega
end
theorem rp_form {d : PyData} (f : Fm d) : Rp d (25 * wt d) d.depth := by
  obtain ⟨h1, h2, h3⟩ := rp_fm f
  exact ⟨h1, h2, Nat.le_refl _, by omega⟩
/-! ### order -/
def sg (a b : Int) : Int := if a < b then -1 else if b < a then 1 else 0
theorem sg_lt {a b : Int} (h : a < b) : sg a b = -1 := if_pos h
theorem sg_gt {a b : Int} (h : b < a) : sg a b = 1 := by
  unfold sg
  rw [if_neg (by omega), if_pos h]
theorem sg_eq {a b : Int} (h : a = b) : sg a b = 0 := by
  unfold sg
  rw [if_neg (by omega), if_neg (by omega)]
theorem top_lt {a b : List Nat} {x y : Nat} (ha : Asc (a ++ [x])) (hb : Asc (b ++ [y])) (hp : a.length % 2 = b.length % 2) (h : x < y) :
    (a.length % 2 = 1 → tv (a ++ [x]) < tv (b ++ [y])) ∧ (a.length % 2 = 0 → tv (b ++ [y]) < tv (a ++ [x])) := by
  have h1 := top_out hb h
  have h2 := (tv_range (k := x) ha).mp (fun t ht => by
    rcases List.mem_append.mp ht with ht | ht
    · exact Nat.le_of_lt ((asc_snoc.mp ha).2 t ht)
    · rw [List.mem_singleton.mp ht]
      exact Nat.le_refl _)
  constructor
  · intro e
    have := h1.1 (by omega)
    omega
  · intro e
    have := h1.2 (by omega)
    omega
theorem split_at {A : List Nat} {c x : Nat} (hc : c < A.length) (hx : A[A.length - 1 - c]? = some x) : A = (A.take (A.length - 1 - c) ++ [x]) ++ A.drop (A.length - c) := by
  have e : A.take (A.length - c) = A.take (A.length - 1 - c) ++ [x] := by
    have : A.length - c = (A.length - 1 - c) + 1 := by omega
    rw [this, List.take_add_one, hx]
    rfl
  rw [← e, List.take_append_drop]
theorem asc_app {a b : List Nat} (h : Asc (a ++ b)) : Asc a ∧ Asc b := by
  have := asc_pairwise.mp h
  rw [List.pairwise_append] at this
  exact ⟨asc_pairwise.mpr this.1, asc_pairwise.mpr this.2.1⟩
theorem ord_diff {A B : List Nat} {c x y : Nat} (hA : Asc A) (hB : Asc B) (h1 : c < A.length) (h2 : c < B.length) (hs : A.drop (A.length - c) = B.drop (B.length - c)) (hp : A.length % 2 = B.length % 2)
    (hx : A[A.length - 1 - c]? = some x) (hy : B[B.length - 1 - c]? = some y) (h : x < y) : ((A.length + c) % 2 = 0 → tv A < tv B) ∧ ((A.length + c) % 2 = 1 → tv B < tv A) := by
  have eA := split_at h1 hx
  have eB := split_at h2 hy
  have la : (A.take (A.length - 1 - c)).length = A.length - 1 - c := by rw [List.length_take]; omega
  have lb : (B.take (B.length - 1 - c)).length = B.length - 1 - c := by rw [List.length_take]; omega
  have hA' := hA
  have hB' := hB
  rw [eA] at hA'
  rw [eB] at hB'
  have q := top_lt (asc_app hA').1 (asc_app hB').1 (by omega) h
  have vA : tv A = tv (A.take (A.length - 1 - c) ++ [x]) + (if (A.take (A.length - 1 - c) ++ [x]).length % 2 = 0 then tv (A.drop (A.length - c)) else -tv (A.drop (A.length - c))) := by
    rw [← tv_append, ← eA]
  have vB : tv B = tv (B.take (B.length - 1 - c) ++ [y]) + (if (B.take (B.length - 1 - c) ++ [y]).length % 2 = 0 then tv (B.drop (B.length - c)) else -tv (B.drop (B.length - c))) := by
    rw [← tv_append, ← eB]
  rw [List.length_append, la, List.length_singleton] at vA
  rw [List.length_append, lb, List.length_singleton, ← hs] at vB
  have hpp : (A.length - 1 - c + 1) % 2 = (B.length - 1 - c + 1) % 2 := by omega
  rw [← hpp] at vB
  rw [la] at q
  constructor
  · intro e
    have := q.1 (by omega)
    omega
  · intro e
    have := q.2 (by omega)
    omega
theorem ord_short {A B : List Nat} (hA : Asc A) (hB : Asc B) (h : A.length < B.length) (hs : A = B.drop (B.length - A.length)) (hp : A.length % 2 = B.length % 2) : tv A < tv B := by
  have e : B = B.take (B.length - A.length) ++ A := by
    conv => lhs; rw [← List.take_append_drop (B.length - A.length) B]
    rw [← hs]
  have hl : (B.take (B.length - A.length)).length = B.length - A.length := by rw [List.length_take]; omega
  have v : tv B = tv (B.take (B.length - A.length)) + (if (B.take (B.length - A.length)).length % 2 = 0 then tv A else -tv A) := by
    rw [← tv_append, ← e]
  have hB' := hB
  rw [e] at hB'
  have := even_pos (asc_app hB').1 (by intro z; rw [z] at hl; simp at hl; omega) (by omega)
  rw [hl, if_pos (by omega)] at v
  omega
/-! ### rows: places with two marks -/
abbrev Row := PyData × Bool × Bool
def bi (b : Bool) : Int := if b then 1 else 0
def bn (b : Bool) : Nat := if b then 1 else 0
theorem bi_bn (b : Bool) : bi b = (bn b : Nat) := by cases b <;> rfl
def vl (d : PyData) : Nat := (val d).toNat
def rowD (r : Row) : PyData := .tuple [r.1, .int (bi r.2.1), .int (bi r.2.2)]
def pA (R : List Row) : List PyData := (R.filter (·.2.1)).map (·.1)
def pB (R : List Row) : List PyData := (R.filter (·.2.2)).map (·.1)
def pR (R : List Row) : List PyData := R.map (·.1)
structure Mg (A B : List PyData) (R : List Row) : Prop where
  a : pA R = A
  b : pB R = B
  fm : FmAll (pR R)
  asc : Asc (vals (pR R))
  wt : wtAll (pR R) ≤ wtAll A + wtAll B
  mem : ∀ p ∈ pR R, p ∈ A ∨ p ∈ B
theorem vals_map (ds : List PyData) : vals ds = ds.map vl := by
  induction ds with
  | nil => simp [vals]
  | cons d r ih => rw [vals_cons, ih]; rfl
theorem pR_app (R S : List Row) : pR (R ++ S) = pR R ++ pR S := by simp [pR]
theorem pA_app (R S : List Row) : pA (R ++ S) = pA R ++ pA S := by simp [pA]
theorem pB_app (R S : List Row) : pB (R ++ S) = pB R ++ pB S := by simp [pB]
/-- one more row -/
theorem Mg.snoc {A B : List PyData} {R : List Row} (h : Mg A B R) {p : PyData} {m n : Bool} (hmn : (m || n) = true) (f : Fm p) (h0 : 0 ≤ val p) (hlt : ∀ r ∈ R, vl r.1 < vl p) :
    Mg (if m then A ++ [p] else A) (if n then B ++ [p] else B) (R ++ [(p, m, n)]) := by
  refine ⟨?_, ?_, ?_, ?_, ?_, ?_⟩
  · rw [pA_app, h.a]
    cases m <;> simp [pA]
  · rw [pB_app, h.b]
    cases n <;> simp [pB]
  · rw [pR_app, fmAll_app]
    refine ⟨h.fm, ?_⟩
    show FmAll [p]
    rw [fmAll_cons]
    exact ⟨f, h0, fmAll_nil⟩
  · rw [pR_app, vals_app]
    show Asc (vals (pR R) ++ vals [p])
    rw [vals_cons, vals_nil, asc_snoc]
    refine ⟨h.asc, fun x hx => ?_⟩
    rw [vals_map] at hx
    obtain ⟨d, hd, rfl⟩ := List.mem_map.mp hx
    obtain ⟨r, hr, rfl⟩ := List.mem_map.mp hd
    exact hlt r hr
  · have hw := h.wt
    rw [pR_app, wtAll_app]
    show wtAll (pR R) + wtAll [p] ≤ _
    rw [wtAll_cons, wtAll_nil]
    cases m <;> cases n <;> simp [wtAll_app, wtAll_cons, wtAll_nil] at hmn ⊢ <;> omega
  · intro x hx
    rw [pR_app] at hx
    rcases List.mem_append.mp hx with hx | hx
    · rcases h.mem x hx with z | z
      · left
        cases m <;> simp [z]
      · right
        cases n <;> simp [z]
    · have hx : x = p := List.mem_singleton.mp hx
      subst hx
      cases m <;> cases n <;> simp at hmn ⊢
/-! ### combined -/
def comb (f : Bool → Bool → Bool) : Bool → Bool → Bool → List Row → List PyData
  | _, _, _, [] => []
  | o, t, b, (p, m, n) :: R => if f (o ^^ m) (t ^^ n) = b then comb f (o ^^ m) (t ^^ n) b R else p :: comb f (o ^^ m) (t ^^ n) (f (o ^^ m) (t ^^ n)) R
def par (n : Nat) : Bool := decide (n % 2 = 1)
theorem par_zero : par 0 = false := rfl
theorem par_succ (n : Nat) : par (n + 1) = !par n := by
  unfold par
  by_cases h : n % 2 = 1
  · rw [decide_eq_true h, decide_eq_false (by omega)]
    rfl
  · rw [decide_eq_false h, decide_eq_true (by omega)]
    rfl
theorem cnt_big {ds : List PyData} {q p : Nat} (h : ∀ x ∈ vals ds, p < x) (hq : q ≤ p) : cnt (vals ds) q = 0 := cnt_zero fun t ht => by have := h t ht; omega
theorem comb_sub (f : Bool → Bool → Bool) : ∀ (R : List Row) (o t b : Bool), (comb f o t b R).Sublist (pR R)
  | [], _, _, _ => .slnil
  | (p, m, n) :: R, o, t, b => by
    unfold comb
    split
    · exact .cons _ (comb_sub f R _ _ _)
    · exact .cons_cons _ (comb_sub f R _ _ _)
theorem pA_sub (R : List Row) : (pA R).Sublist (pR R) := (List.filter_sublist (l := R)).map _
theorem pB_sub (R : List Row) : (pB R).Sublist (pR R) := (List.filter_sublist (l := R)).map _
theorem vals_sub {ds es : List PyData} (h : ds.Sublist es) : (vals ds).Sublist (vals es) := by
  rw [vals_map, vals_map]
  exact h.map _
theorem asc_sub {a b : List Nat} (h : a.Sublist b) (hb : Asc b) : Asc a := asc_pairwise.mpr ((asc_pairwise.mp hb).sublist h)
theorem fmAll_sub {ds es : List PyData} (h : ds.Sublist es) (f : FmAll es) : FmAll ds := by
  induction h with
  | slnil => exact fmAll_nil
  | cons a _ ih => exact ih ((fmAll_cons _ _).mp f).2.2
  | cons_cons a _ ih =>
    rw [fmAll_cons] at f ⊢
    exact ⟨f.1, f.2.1, ih f.2.2⟩
theorem comb_par (f : Bool → Bool → Bool) : ∀ (R : List Row) (o t b : Bool), Asc (vals (pR R)) → f o t = b → ∀ q,
    (b ^^ par (cnt (vals (comb f o t b R)) q)) = f (o ^^ par (cnt (vals (pA R)) q)) (t ^^ par (cnt (vals (pB R)) q))
  | [], o, t, b, _, h, q => by
    simp [comb, pA, pB, vals, cnt, par, h]
  | (p, m, n) :: R, o, t, b, hA, h, q => by
    have hA1 : Asc (vl p :: vals (pR R)) := by
      have : vals (pR ((p, m, n) :: R)) = vl p :: vals (pR R) := by show vals (p :: pR R) = _; rw [vals_cons]; rfl
      rw [this] at hA
      exact hA
    have hlt := Asc.lt hA1
    by_cases hq : vl p ≤ q
    · have ea : par (cnt (vals (pA ((p, m, n) :: R))) q) = (m ^^ par (cnt (vals (pA R)) q)) := by
        cases m
        · simp [pA]
        · show par (cnt (vals (p :: pA R)) q) = _
          rw [vals_cons, cnt_cons]
          show par (_ + if vl p ≤ q then 1 else 0) = _
          rw [if_pos hq, par_succ]
          simp
      have eb : par (cnt (vals (pB ((p, m, n) :: R))) q) = (n ^^ par (cnt (vals (pB R)) q)) := by
        cases n
        · simp [pB]
        · show par (cnt (vals (p :: pB R)) q) = _
          rw [vals_cons, cnt_cons]
          show par (_ + if vl p ≤ q then 1 else 0) = _
          rw [if_pos hq, par_succ]
          simp
      rw [ea, eb, ← Bool.xor_assoc, ← Bool.xor_assoc]
      unfold comb
      split
      · rename_i e
        exact comb_par f R _ _ _ hA1.tail e q
      · rename_i e
        rw [← comb_par f R _ _ _ hA1.tail rfl q, vals_cons, cnt_cons]
        show (b ^^ par (_ + if vl p ≤ q then 1 else 0)) = _
        rw [if_pos hq, par_succ]
        generalize f (o ^^ m) (t ^^ n) = z at *
        generalize par _ = y
        revert e
        cases z <;> cases b <;> cases y <;> decide
    · have big : ∀ {ds : List PyData}, ds.Sublist (pR ((p, m, n) :: R)) → par (cnt (vals ds) q) = false := fun {ds} hs => by
        rw [cnt_zero fun x hx => ?_]
        · rfl
        · have hx' := (vals_sub hs).subset hx
          have : vals (pR ((p, m, n) :: R)) = vl p :: vals (pR R) := by show vals (p :: pR R) = _; rw [vals_cons]; rfl
          rw [this] at hx'
          rcases List.mem_cons.mp hx' with rfl | hx'
          · omega
          · have := hlt x hx'
            omega
      rw [big (comb_sub f _ _ _ _), big (pA_sub _), big (pB_sub _)]
      simp [h]
theorem tb_par {ts : List Nat} (h : Asc ts) (p : Nat) : tb (tv ts) p = par (cnt ts p) := tb_tv p h
theorem comb_tb {f : Bool → Bool → Bool} {A B : List PyData} {R : List Row} (M : Mg A B R) (h : f false false = false) (q : Nat) :
    tb (tv (vals (comb f false false false R))) q = f (tb (tv (vals A)) q) (tb (tv (vals B)) q) := by
  have hA : Asc (vals A) := by rw [← M.a]; exact asc_sub (vals_sub (pA_sub R)) M.asc
  have hB : Asc (vals B) := by rw [← M.b]; exact asc_sub (vals_sub (pB_sub R)) M.asc
  rw [tb_par (asc_sub (vals_sub (comb_sub f R _ _ _)) M.asc), tb_par hA, tb_par hB, ← M.a, ← M.b]
  have := comb_par f R false false false M.asc h q
  simpa using this
end PM
set_option Elab.async false
set_option linter.all false
set_option maxRecDepth 100000
/-! sums, neighbours (plain mathematics) -/
namespace PM
open PySem TV FM DX FB FC HX L2
theorem mul_pm (s P : Int) (h : s = 0 ∨ s = 1 ∨ s = -1) : s * P = if s = 0 then 0 else if s = 1 then P else -P := by
  rcases h with rfl | rfl | rfl
  · simp
  · simp
  · rw [if_neg (by decide), if_neg (by decide)]
    omega
/-- a sequence of turns and one more place -/
theorem tv_snoc_d (ds : List PyData) (p : PyData) : tv (vals (ds ++ [p])) = tv (vals ds) + (2 * ((ds.length % 2 : Nat) : Int) - 1) * 2 ^ vl p := by
  rw [vals_app, vals_cons, vals_nil, tv_snoc, vals_len]
  show _ + (if _ then -(2 ^ vl p) else 2 ^ vl p) = _
  by_cases h : ds.length % 2 = 0
  · rw [if_pos h, h]
    simp
  · have h1 : ds.length % 2 = 1 := by omega
    rw [if_neg h, h1]
    simp
theorem fmAll_snoc {ds : List PyData} {p : PyData} (f : FmAll ds) (g : Fm p) (h : 0 ≤ val p) : FmAll (ds ++ [p]) := by
  rw [fmAll_app, fmAll_cons]
  exact ⟨f, g, h, fmAll_nil⟩
theorem asc_snoc_d {ds : List PyData} {p : PyData} (f : Asc (vals ds)) (h : ∀ x ∈ vals ds, x < vl p) : Asc (vals (ds ++ [p])) := by
  rw [vals_app, vals_cons, vals_nil, asc_snoc]
  exact ⟨f, h⟩
/-- the next place, if there is one -/
def nxt (R : List Row) (i : Nat) : Nat := match R[i]? with
  | some r => vl r.1
  | none => 0
/-- the state of a sum ahead of row i -/
structure Ad (R : List Row) (i : Nat) (c0 : Int) (F : List PyData) (o t c b : Nat) : Prop where
  fm : FmAll F
  asc : Asc (vals F)
  lt : ∀ f ∈ vals F, ∀ r, R[i]? = some r → f < vl r.1
  pb : F.length % 2 = b
  po : (pA (R.take i)).length % 2 = o
  pt : (pB (R.take i)).length % 2 = t
  hc : c ≤ 1
  eq : ∃ r : Int, (o : Int) + t = r + c ∧ (r = b ∨ i < R.length) ∧ tv (vals F) = tv (vals (pA (R.take i))) + tv (vals (pB (R.take i))) + c0 + (r - b) * 2 ^ nxt R i
  ln : F.length ≤ 2 * i
theorem Ad.start {R : List Row} {c0 : Nat} (h1 : c0 ≤ 1) (h : c0 = 1 → nxt R 0 = 0 ∧ 0 < R.length) : Ad R 0 c0 [] 0 0 c0 0 := by
  refine ⟨fmAll_nil, by rw [vals_nil]; trivial, by simp [vals], rfl, rfl, rfl, h1, ⟨-(c0 : Int), by omega, ?_, ?_⟩, by simp⟩
  · by_cases e : c0 = 1
    · exact .inr (h e).2
    · exact .inl (by omega)
  · show tv (vals []) = tv (vals []) + tv (vals []) + c0 + (-(c0 : Int) - (0 : Nat)) * 2 ^ nxt R 0
    rw [vals_nil, tv_nil]
    by_cases e : c0 = 1
    · rw [(h e).1, e]
      decide
    · have : c0 = 0 := by omega
      rw [this]
      simp
theorem pA_take {R : List Row} {i : Nat} {p : PyData} {m n : Bool} (h : R[i]? = some (p, m, n)) : pA (R.take (i + 1)) = pA (R.take i) ++ (if m then [p] else []) := by
  rw [List.take_add_one, h, pA_app]
  cases m <;> simp [pA]
theorem pB_take {R : List Row} {i : Nat} {p : PyData} {m n : Bool} (h : R[i]? = some (p, m, n)) : pB (R.take (i + 1)) = pB (R.take i) ++ (if n then [p] else []) := by
  rw [List.take_add_one, h, pB_app]
  cases n <;> simp [pB]
/-- a turn more: the length's bit and the value -/
theorem turn_more (ds : List PyData) (p : PyData) (m : Bool) : (ds ++ (if m then [p] else [])).length % 2 = (ds.length % 2 + bn m) % 2 ∧
    tv (vals (ds ++ (if m then [p] else []))) = tv (vals ds) + (((ds.length % 2 : Nat) : Int) - (((ds.length % 2 + bn m) % 2 : Nat) : Int)) * 2 ^ vl p := by
  cases m
  · simp [bn]
  · refine ⟨by simp [bn], ?_⟩
    show tv (vals (ds ++ [p])) = _
    rw [tv_snoc_d]
    have : ds.length % 2 = 0 ∨ ds.length % 2 = 1 := by omega
    rcases this with e | e <;> rw [e] <;> simp [bn]
theorem nxt_some {R : List Row} {i : Nat} {r : Row} (h : R[i]? = some r) : nxt R i = vl r.1 := by
  unfold nxt
  rw [h]
/-- the numbers of one step -/
theorem add_nums {o t c o' t' h c' r' : Nat} (h1 : o' ≤ 1) (h2 : t' ≤ 1) (h3 : c ≤ 1) (e1 : h = (o' + t' + c) % 2) (e2 : c' = (o' + t' + c) / 2) (e3 : r' = (o' + t' + c') % 2) : (o' : Int) + t' = r' + c' ∧ (h : Int) = r' + c - c' ∧ c' ≤ 1 ∧ h ≤ 1 ∧ r' ≤ 1 := by
  omega
/-- row i is taken: here the bit at its place, rest the one behind it -/
theorem Ad.step {R : List Row} {i : Nat} {c0 : Int} {F : List PyData} {o t c b : Nat} (S : Ad R i c0 F o t c b) (hA : Asc (vals (pR R))) (hF : FmAll (pR R)) {p : PyData} {m n : Bool} (hr : R[i]? = some (p, m, n))
    {o' t' h c' r' : Nat} (eo : o' = (o + bn m) % 2) (et : t' = (t + bn n) % 2) (e1 : h = (o' + t' + c) % 2) (e2 : c' = (o' + t' + c) / 2) (e3 : r' = (o' + t' + c') % 2)
    {F1 : List PyData} (hF1 : F1 = if h = b then F else F ++ [p]) :
    (r' = h → Ad R (i + 1) c0 F1 o' t' c' h) ∧
    (r' ≠ h → ∀ f, Fm f → val f = val p + 1 → (i + 1 = R.length ∨ ∃ s, R[i + 1]? = some s ∧ vl s.1 ≠ vl f) → Ad R (i + 1) c0 (F1 ++ [f]) o' t' c' r') ∧
    (r' ≠ h → (∃ s, R[i + 1]? = some s ∧ vl s.1 = vl p + 1) → Ad R (i + 1) c0 F1 o' t' c' h) := by
  obtain ⟨hc, hcc, hc1, hh1, hr1⟩ := add_nums (o := o) (t := t) (c := c) (o' := o') (t' := t') (h := h) (c' := c') (r' := r') (by omega) (by omega) S.hc e1 e2 e3
  obtain ⟨r, q1, q2, q3⟩ := S.eq
  have hpm : p ∈ pR R := List.mem_map.mpr ⟨_, List.mem_of_getElem? hr, rfl⟩
  obtain ⟨fp, p0⟩ := fmAll_mem hF p hpm
  have ta := turn_more (pA (R.take i)) p m
  have tb' := turn_more (pB (R.take i)) p n
  rw [← pA_take hr, S.po, ← eo] at ta
  rw [← pB_take hr, S.pt, ← et] at tb'
  rw [nxt_some hr] at q3
  have ltp : ∀ x ∈ vals F, x < vl p := fun x hx => S.lt x hx _ hr
  -- F1
  have f1 : FmAll F1 := by
    rw [hF1]
    split
    · exact S.fm
    · exact fmAll_snoc S.fm fp p0
  have a1 : Asc (vals F1) := by
    rw [hF1]
    split
    · exact S.asc
    · exact asc_snoc_d S.asc ltp
  have l1 : ∀ x ∈ vals F1, x ≤ vl p := by
    rw [hF1]
    split
    · exact fun x hx => Nat.le_of_lt (ltp x hx)
    · intro x hx
      rw [vals_app, vals_cons, vals_nil] at hx
      rcases List.mem_append.mp hx with hx | hx
      · exact Nat.le_of_lt (ltp x hx)
      · exact Nat.le_of_eq (List.mem_singleton.mp hx)
  have p1 : F1.length % 2 = h := by
    rw [hF1]
    have := S.pb
    split
    · omega
    · rw [List.length_append, List.length_singleton]
      omega
  have n1 : F1.length ≤ 2 * i + 1 := by
    rw [hF1]
    have := S.ln
    split
    · omega
    · rw [List.length_append, List.length_singleton]
      omega
  have v1 : tv (vals F1) = tv (vals F) + ((b : Int) - h) * 2 ^ vl p := by
    rw [hF1]
    by_cases e : h = b
    · rw [if_pos e, e]
      simp
    · rw [if_neg e, tv_snoc_d, S.pb]
      have : (2 * ((b : Nat) : Int) - 1) = (b : Int) - h := by
        have := S.pb
        omega
      rw [this]
  have hasc : ∀ s, R[i + 1]? = some s → vl p < vl s.1 := fun s hs => by
    have := asc_pairwise.mp hA
    rw [vals_map, pR, List.map_map, List.pairwise_iff_getElem] at this
    obtain ⟨x1, x2⟩ := List.getElem?_eq_some_iff.mp hr
    obtain ⟨y1, y2⟩ := List.getElem?_eq_some_iff.mp hs
    have z := this i (i + 1) (by simpa using x1) (by simpa using y1) (by omega)
    simp only [List.getElem_map, Function.comp, x2, y2] at z
    exact z
  -- the value, with rest times what is open behind
  have main : tv (vals F1) = tv (vals (pA (R.take (i + 1)))) + tv (vals (pB (R.take (i + 1)))) + c0 + ((r' : Int) - h) * 2 ^ (vl p + 1) := by
    rw [v1, q3, ta.2, tb'.2, Int.pow_succ]
    generalize (2 : Int) ^ vl p = P
    generalize tv (vals (pA (R.take i))) = a
    generalize tv (vals (pB (R.take i))) = d
    have e5 : ((r : Int) - b) + (b - h) = ((o : Int) - o') + (t - t') + ((r' : Int) - h) * 2 := by omega
    have e6 : ((r : Int) - b) * P + (b - h) * P = ((o : Int) - o') * P + (t - t') * P + ((r' : Int) - h) * (P * 2) := by
      rw [← Int.add_mul, e5, Int.add_mul, Int.add_mul, Int.mul_assoc, Int.mul_comm 2 P]
    omega
  refine ⟨fun e => ?_, fun e f ff vf hn => ?_, fun e hn => ?_⟩
  · refine ⟨f1, a1, fun x hx s hs => Nat.lt_of_le_of_lt (l1 x hx) (hasc s hs), p1, ta.1, tb'.1, hc1, ⟨(r' : Int), hc, .inl (by rw [e]), ?_⟩, by omega⟩
    rw [main, e]
    simp
  · have vf' : vl f = vl p + 1 := by
      clear hn
      unfold vl
      omega
    have k1 : (F1 ++ [f]).length % 2 = r' := by
      clear hn
      rw [List.length_append, List.length_singleton]
      omega
    have k2 : (F1 ++ [f]).length ≤ 2 * (i + 1) := by
      clear hn
      rw [List.length_append, List.length_singleton]
      omega
    have k3 : 0 ≤ val f := by
      clear hn
      omega
    have k4 : ∀ x ∈ vals F1, x < vl f := fun x hx => by
      clear hn
      have := l1 x hx
      omega
    refine ⟨fmAll_snoc f1 ff k3, asc_snoc_d a1 k4, fun x hx s hs => ?_, k1, ta.1, tb'.1, hc1, ⟨(r' : Int), hc, .inl rfl, ?_⟩, k2⟩
    · have h1 := hasc s hs
      have h2 : vl s.1 ≠ vl f := by
        rcases hn with hn | ⟨s', hs', hne⟩
        · rw [List.getElem?_eq_none (by omega)] at hs
          cases hs
        · rw [hs] at hs'
          cases hs'
          exact hne
      clear hn
      rw [vals_app, vals_cons, vals_nil] at hx
      rcases List.mem_append.mp hx with hx | hx
      · have := l1 x hx
        omega
      · have : x = vl f := List.mem_singleton.mp hx
        omega
    · clear hn
      rw [tv_snoc_d, p1, main, vf']
      have : (2 * ((h : Nat) : Int) - 1) = (h : Int) - r' := by omega
      rw [this]
      generalize (2 : Int) ^ (vl p + 1) = P
      have : ((r' : Int) - h) * P + (h - r') * P = 0 := by
        rw [← Int.add_mul]
        have : ((r' : Int) - h) + (h - r') = 0 := by omega
        rw [this, Int.zero_mul]
      simp
      omega
  · obtain ⟨s, hs, vs⟩ := hn
    refine ⟨f1, a1, fun x hx s' hs' => Nat.lt_of_le_of_lt (l1 x hx) (hasc s' hs'), p1, ta.1, tb'.1, hc1, ⟨(r' : Int), hc, .inr (List.getElem?_eq_some_iff.mp hs).1, ?_⟩, by omega⟩
    rw [main, nxt_some hs, vs]
theorem Ad.done {R : List Row} {c0 : Int} {F : List PyData} {o t c b : Nat} (S : Ad R R.length c0 F o t c b) : tv (vals F) = tv (vals (pA R)) + tv (vals (pB R)) + c0 := by
  obtain ⟨r, _, q2, q3⟩ := S.eq
  rcases q2 with e | e
  · rw [q3, e, List.take_of_length_le (Nat.le_refl _)]
    simp
  · omega
/-! ### one place put in or taken out -/
structure Tog (A : List PyData) (p : PyData) (B : List PyData) : Prop where
  ex : ∃ L S : List PyData, A = L ++ S ∧ (∀ x ∈ L, vl x < vl p) ∧ ((∃ S', S = p :: S' ∧ B = L ++ S') ∨ ((∀ x ∈ S, vl p < vl x) ∧ B = L ++ p :: S))
theorem Tog.row {A B : List PyData} {p : PyData} (h : Tog A p B) (fA : FmAll A) (hA : Asc (vals A)) (f : Fm p) (h0 : 0 ≤ val p) : FmAll B ∧ Asc (vals B) := by
  obtain ⟨L, S, rfl, h1, h2⟩ := h.ex
  rw [fmAll_app] at fA
  rw [vals_app] at hA
  obtain ⟨a1, a2⟩ := asc_app hA
  have a3 := asc_pairwise.mp hA
  rw [List.pairwise_append] at a3
  rcases h2 with ⟨S', rfl, rfl⟩ | ⟨h3, rfl⟩
  · rw [fmAll_app, vals_app]
    rw [fmAll_cons] at fA
    refine ⟨⟨fA.1, fA.2.2.2⟩, asc_pairwise.mpr (List.pairwise_append.mpr ⟨asc_pairwise.mp a1, ?_, fun x hx y hy => a3.2.2 x hx y ?_⟩)⟩
    · rw [vals_cons] at a2
      exact asc_pairwise.mp a2.tail
    · rw [vals_cons]
      exact List.mem_cons_of_mem _ hy
  · rw [fmAll_app, fmAll_cons, vals_app, vals_cons]
    have lv : ∀ x ∈ vals L, x < vl p := fun x hx => by
      rw [vals_map] at hx
      obtain ⟨d, hd, rfl⟩ := List.mem_map.mp hx
      exact h1 d hd
    have sv : ∀ x ∈ vals S, vl p < x := fun x hx => by
      rw [vals_map] at hx
      obtain ⟨d, hd, rfl⟩ := List.mem_map.mp hx
      exact h3 d hd
    refine ⟨⟨fA.1, f, h0, fA.2⟩, asc_pairwise.mpr (List.pairwise_append.mpr ⟨asc_pairwise.mp a1, asc_pairwise.mp (asc_cons sv a2), fun x hx y hy => ?_⟩)⟩
    rcases List.mem_cons.mp hy with rfl | hy
    · exact lv x hx
    · exact a3.2.2 x hx y hy
theorem Tog.len {A B : List PyData} {p : PyData} (h : Tog A p B) : B.length ≤ A.length + 1 := by
  obtain ⟨L, S, rfl, h1, h2⟩ := h.ex
  rcases h2 with ⟨S', rfl, rfl⟩ | ⟨h3, rfl⟩ <;> simp only [List.length_append, List.length_cons] <;> omega
theorem Tog.wt {A B : List PyData} {p : PyData} (h : Tog A p B) : wtAll B ≤ wtAll A + wt p := by
  obtain ⟨L, S, rfl, h1, h2⟩ := h.ex
  rcases h2 with ⟨S', rfl, rfl⟩ | ⟨h3, rfl⟩ <;> simp only [wtAll_app, wtAll_cons] <;> omega
theorem Tog.mem {A B : List PyData} {p : PyData} (h : Tog A p B) : ∀ x ∈ B, x ∈ A ∨ x = p := by
  obtain ⟨L, S, rfl, h1, h2⟩ := h.ex
  rcases h2 with ⟨S', rfl, rfl⟩ | ⟨h3, rfl⟩
  · intro x hx
    simp only [List.mem_append, List.mem_cons] at hx ⊢
    rcases hx with hx | hx
    · exact .inl (.inl hx)
    · exact .inl (.inr (.inr hx))
  · intro x hx
    simp only [List.mem_append, List.mem_cons] at hx ⊢
    rcases hx with hx | hx | hx
    · exact .inl (.inl hx)
    · exact .inr hx
    · exact .inl (.inr hx)
/-- x + 1 where bit 0 is 1: x has the turns 0, a, .. -/
theorem Tog.odd {a p : PyData} {r B : List PyData} (h : Tog (a :: r) p B) (hA : Asc (vals (a :: r))) (hp : vl p = vl a + 1) : tv (vals B) = 2 ^ vl a + tv (vals r) := by
  obtain ⟨L, S, e, h1, h2⟩ := h.ex
  have hlt : ∀ x ∈ r, vl a < vl x := fun x hx => by
    rw [vals_cons] at hA
    refine Asc.lt hA _ ?_
    rw [vals_map]
    exact List.mem_map.mpr ⟨x, hx, rfl⟩
  have hL : L = [a] ∧ S = r := by
    cases L with
    | nil =>
      rcases h2 with ⟨S', rfl, _⟩ | ⟨h3, _⟩
      · injection e with e1 e2
        subst e1
        omega
      · have e' : S = a :: r := e.symm
        have := h3 a (by rw [e']; simp)
        omega
    | cons l L =>
      injection e with e1 e2
      subst e1
      cases L with
      | nil => exact ⟨rfl, e2.symm⟩
      | cons l2 L =>
        have g1 := h1 l2 (by simp)
        have g2 := hlt l2 (by rw [e2]; simp)
        omega
  obtain ⟨rfl, rfl⟩ := hL
  have hv : ∀ d : PyData, ∀ l, tv (vals (d :: l)) = -(2 ^ vl d) - tv (vals l) := fun d l => by
    rw [vals_cons, tv_cons]
    rfl
  rcases h2 with ⟨S', rfl, rfl⟩ | ⟨h3, rfl⟩
  · show tv (vals (a :: S')) = _
    rw [hv, hv, hp, Int.pow_succ]
    omega
  · show tv (vals (a :: p :: S)) = _
    rw [hv, hv, hp, Int.pow_succ]
    omega
/-- x + 1 where bit 0 is 0 -/
theorem Tog.even {p : PyData} {A B : List PyData} (h : Tog A p B) (hp : vl p = 1) (h0 : ∀ x ∈ A, 0 < vl x) : tv (vals B) = -2 - tv (vals A) ∧ ∀ x ∈ B, 0 < vl x := by
  obtain ⟨L, S, rfl, h1, h2⟩ := h.ex
  have hL : L = [] := by
    cases L with
    | nil => rfl
    | cons l L =>
      have g1 := h1 l (by simp)
      have g2 := h0 l (by simp)
      omega
  subst hL
  have hv : ∀ d : PyData, ∀ l, tv (vals (d :: l)) = -(2 ^ vl d) - tv (vals l) := fun d l => by
    rw [vals_cons, tv_cons]
    rfl
  rcases h2 with ⟨S', rfl, rfl⟩ | ⟨h3, rfl⟩
  · simp only [List.nil_append] at *
    rw [hv, hp]
    refine ⟨?_, fun x hx => h0 x (by simp [hx])⟩
    have : (2 : Int) ^ 1 = 2 := by decide
    omega
  · simp only [List.nil_append] at *
    rw [hv, hp]
    refine ⟨?_, fun x hx => ?_⟩
    · have : (2 : Int) ^ 1 = 2 := by decide
      omega
    · rcases List.mem_cons.mp hx with rfl | hx
      · omega
      · exact h0 x hx
theorem tv_zero (l : List PyData) : tv (vals (.int 0 :: l)) = -1 - tv (vals l) := by
  rw [vals_cons, tv_cons, val_int]
  rfl
theorem asc_zero {l : List PyData} (h : Asc (vals l)) (h0 : ∀ x ∈ l, 0 < vl x) : Asc (vals (.int 0 :: l)) := by
  rw [vals_cons, val_int]
  refine asc_cons (fun b hb => ?_) h
  rw [vals_map] at hb
  obtain ⟨d, hd, rfl⟩ := List.mem_map.mp hb
  exact h0 d hd
theorem fmAll_zero {l : List PyData} (h : FmAll l) : FmAll (.int 0 :: l) := by
  rw [fmAll_cons, fm_int, val_int]
  exact ⟨by decide, by decide, h⟩
/-! ### bits -/
theorem tb_not (x : Int) (p : Nat) : tb (-x - 1) p = !tb x p := by
  unfold tb
  have hp : (0 : Int) < 2 ^ p := Int.pow_pos (by decide)
  have e : (-x - 1) / 2 ^ p = -(x / 2 ^ p) - 1 := by
    have h1 := Int.emod_nonneg x (Int.ne_of_gt hp)
    have h2 := Int.emod_lt_of_pos x hp
    have h3 := Int.mul_ediv_add_emod x (2 ^ p)
    generalize x / 2 ^ p = q at *
    generalize x % 2 ^ p = s at *
    have e1 : -x - 1 = (2 ^ p - 1 - s) + 2 ^ p * (-q - 1) := by
      rw [← h3, Int.mul_sub, Int.mul_neg]
      omega
    rw [e1, Int.add_mul_ediv_left _ _ (Int.ne_of_gt hp), Int.ediv_eq_zero_of_lt (by omega) (by omega)]
    omega
  rw [e]
  generalize x / 2 ^ p = q
  by_cases h : q % 2 = 1
  · rw [decide_eq_true h, decide_eq_false (by omega)]
    rfl
  · rw [decide_eq_false h, decide_eq_true (by omega)]
    rfl
end PM
namespace PM
open PySem TV FM DX FB FC HX L2
theorem tb_or (x y : Int) (p : Nat) : tb (Builtin.bitOr x y) p = (tb x p || tb y p) := by
  unfold Builtin.bitOr Builtin.bitNot
  rw [tb_not, tb_and, tb_not, tb_not]
  cases tb x p <;> cases tb y p <;> rfl
/-! ### forms: small facts -/
theorem fm_plain {d : PyData} (h : Fm d) (h1 : -(2 ^ 64) ≤ val d) (h2 : val d < 2 ^ 64) : d = .int (val d) := by
  cases d with
  | int i => rw [val_int]
  | tuple ds => exact absurd ⟨h1, h2⟩ (tuple_far h)
  | none => simp [Fm] at h
  | bool _ => simp [Fm] at h
  | str _ => simp [Fm] at h
  | list _ => simp [Fm] at h
  | dict _ => simp [Fm] at h
theorem fm_cases {d : PyData} (h : Fm d) : (∃ i, d = .int i) ∨ ∃ ds, d = .tuple ds := by
  cases d with
  | int i => exact .inl ⟨i, rfl⟩
  | tuple ds => exact .inr ⟨ds, rfl⟩
  | none => simp [Fm] at h
  | bool _ => simp [Fm] at h
  | str _ => simp [Fm] at h
  | list _ => simp [Fm] at h
  | dict _ => simp [Fm] at h
theorem ds_small : ∀ {ds : List PyData}, FmAll ds → (∀ t ∈ vals ds, t ≤ 64) → ds = iD (vals ds)
  | [], _, _ => by simp [vals, iD]
  | d :: r, f, h => by
    rw [fmAll_cons] at f
    rw [vals_cons] at h ⊢
    have h1 := h (val d).toNat (by simp)
    have h0 := f.2.1
    have e := fm_plain f.1 (by omega) (by omega)
    show d :: r = .int ((val d).toNat : Nat) :: iD (vals r)
    rw [← ds_small f.2.2 fun t ht => h t (by simp [ht])]
    congr 1
    rw [show (((val d).toNat : Nat) : Int) = val d by omega]
    exact e
theorem nv_of {K : PySem.W.Frag} {H : Hp} : ∀ {ts : List Nat} {vs : List V}, DpAll K H vs (iD ts) → vs = nv ts
  | [], _, h => by
    cases h
    rfl
  | t :: r, _, h => by
    cases h with
    | cons h1 h2 =>
      cases h1
      show _ = .int (t : Nat) :: nv r
      rw [nv_of h2]
theorem last_is {α : Type} {l : List α} (h : l ≠ []) : ∃ a r, l = r ++ [a] := ⟨l.getLast h, l.dropLast, (List.dropLast_concat_getLast h).symm⟩
theorem fm_ne {ds : List PyData} (h : Fm (.tuple ds)) : ds ≠ [] := by
  rintro rfl
  obtain ⟨t, ht, _⟩ := ((fm_tuple _).mp h).2.2
  rw [vals_nil] at ht
  simp at ht
theorem wt_pos (d : PyData) : 1 ≤ wt d := by
  cases d <;> simp [wt]
theorem len_wt : ∀ ds : List PyData, ds.length ≤ wtAll ds
  | [] => by simp [wtAll]
  | d :: r => by
    have := len_wt r
    have := wt_pos d
    rw [wtAll_cons, List.length_cons]
    omega
theorem wt_mem : ∀ {ds : List PyData} {e : PyData}, e ∈ ds → wt e ≤ wtAll ds
  | d :: r, e, h => by
    rw [wtAll_cons]
    rcases List.mem_cons.mp h with rfl | h
    · omega
    · have := wt_mem h
      omega
theorem dep_mem {ds : List PyData} {e : PyData} (h : e ∈ ds) : e.depth ≤ PyData.depthAll ds := depthAll_le.mp (Nat.le_refl _) e h
theorem val_neg {ds : List PyData} (h : Fm (.tuple ds)) : val (.tuple ds) < 0 ↔ ds.length % 2 = 1 := by
  obtain ⟨a, r, e⟩ := last_is (fm_ne h)
  have hA := ((fm_tuple _).mp h).2.1
  rw [val_tuple]
  have : vals ds = vals r ++ [vl a] := by rw [e, vals_app, vals_cons, vals_nil]; rfl
  rw [this] at hA ⊢
  rw [(tv_sign hA).1, vals_len, e]
  simp
  omega
theorem fm_last {ds : List PyData} {a : PyData} (h : Fm (.tuple (ds ++ [a]))) : 64 < vl a := by
  obtain ⟨f, hA, t, ht, h64⟩ := (fm_tuple _).mp h
  rw [vals_app, vals_cons, vals_nil] at hA ht
  have := (asc_snoc.mp hA).2
  rcases List.mem_append.mp ht with ht | ht
  · have := this t ht
    show 64 < (val a).toNat
    omega
  · rw [List.mem_singleton.mp ht] at h64
    exact h64
theorem dpAll_at {K : PySem.W.Frag} {H : Hp} {ds : List PyData} {us : List V} {i : Nat} {d : PyData} (h : DpAll K H us ds) (e : ds[i]? = some d) : ∃ v, us[i]? = some v ∧ Dp K H v d := by
  have hl := dpAll_len h
  have hi := (List.getElem?_eq_some_iff.mp e).1
  have h1 : us[i]? = some (us[i]'(by omega)) := by simp [show i < us.length by omega]
  obtain ⟨d', e', h2⟩ := dpAll_get h h1
  rw [e] at e'
  cases e'
  exact ⟨_, h1, h2⟩
theorem intBits_le {n : Int} {k : Nat} (h1 : -(2 ^ k) ≤ n) (h2 : n ≤ 2 ^ k) : Builtin.Int.intBits n ≤ k + 1 := by
  unfold Builtin.Int.intBits
  split
  · omega
  · rename_i hn
    have h0 : n.natAbs ≠ 0 := fun z => hn (by simpa using z)
    have h3 : ((2 ^ k : Nat) : Int) = (2 : Int) ^ k := by simp
    have : n.natAbs.log2 < k + 1 := by
      rw [Nat.log2_lt h0, Nat.pow_succ]
      have : 0 < 2 ^ k := Nat.pow_pos (by decide)
      omega
    omega
end PM
namespace PM
open PySem TV FM DX FB FC HX L2
def isI : PyData → Bool
  | .int _ => true
  | _ => false
def isT : PyData → Bool
  | .tuple _ => true
  | _ => false
theorem isI_int (i : Int) : isI (.int i) = true := rfl
theorem isI_tup (ds : List PyData) : isI (.tuple ds) = false := rfl
def tyOf (d : PyData) : String := if isI d then "int" else "tuple"
theorem ty_f {K : PySem.W.Frag} {H : Hp} {v : V} {d : PyData} (hD : Dp K H v d) (f : Fm d) : TyX K H v (.type (tyOf d)) := by
  rcases fm_cases f with ⟨i, rfl⟩ | ⟨ds, rfl⟩
  · cases hD
    exact tyI i
  · cases hD with
    | tup h1 h2 => exact tyT h1
theorem kit_fi {d : PyData} (f : Fm d) : kitB (tyOf d) "int" = some (isI d) := by
  rcases fm_cases f with ⟨i, rfl⟩ | ⟨ds, rfl⟩
  · exact k_ii
  · exact k_ti
theorem kit_ft {d : PyData} (f : Fm d) : kitB (tyOf d) "tuple" = some (!isI d) := by
  rcases fm_cases f with ⟨i, rfl⟩ | ⟨ds, rfl⟩
  · exact k_it
  · exact k_tt
theorem ifB {b : Bool} {A X Y : Prop} (hY : Y) (h : b = true → Y → A) : if b = true then A else (if false = true then X else Y) := by
  cases b
  · exact iteF (iteF hY)
  · exact iteT (h rfl hY)
theorem ifBD {b : Bool} {A B : Prop} (h1 : b = true → A) (h2 : b = false → B) : if b = true then A else B := by
  cases b
  · exact iteF (h2 rfl)
  · exact iteT (h1 rfl)
theorem fm_isI {d : PyData} (f : Fm d) (h : isI d = true) : ∃ i, d = .int i := by
  rcases fm_cases f with ⟨i, rfl⟩ | ⟨ds, rfl⟩
  · exact ⟨i, rfl⟩
  · cases h
theorem fm_isT {d : PyData} (f : Fm d) (h : isI d = false) : ∃ ds, d = .tuple ds := by
  rcases fm_cases f with ⟨i, rfl⟩ | ⟨ds, rfl⟩
  · cases h
  · exact ⟨ds, rfl⟩
theorem neg_len {ts : List Nat} (h : Asc ts) : tv ts < 0 ↔ ts.length % 2 = 1 := by
  by_cases hn : ts = []
  · subst hn
    simp [tv_nil]
  · obtain ⟨a, r, rfl⟩ := last_is hn
    rw [(tv_sign h).1]
    simp
    omega
theorem atI_at {xs : List V} {n : Nat} {i : Int} {v : V} (h : xs[n]? = some v) (e : i = (n : Nat)) : atI xs i = some v := by
  subst e
  exact atI_nat h
theorem drop_more {α : Type} {A : List α} {c : Nat} {a : α} (hc : c < A.length) (h : A[A.length - 1 - c]? = some a) : A.drop (A.length - (c + 1)) = a :: A.drop (A.length - c) := by
  obtain ⟨h1, h2⟩ := List.getElem?_eq_some_iff.mp h
  have e : A.length - (c + 1) = A.length - 1 - c := by omega
  rw [e, List.drop_eq_getElem_cons h1, h2]
  congr 2
  omega
theorem vals_drop (ds : List PyData) (n : Nat) : (vals ds).drop n = vals (ds.drop n) := by
  rw [vals_map, vals_map, List.map_drop]
theorem vals_at {ds : List PyData} {n : Nat} {d : PyData} (h : ds[n]? = some d) : (vals ds)[n]? = some (vl d) := by
  rw [vals_map, List.getElem?_map, h]
  rfl
end PM
set_option Elab.async false
set_option linter.all false
set_option maxRecDepth 100000
/-! data without lists; merging two rows -/
namespace PM
open PySem TV FM DX FB FC HX L2
mutual
def Im : PyData → Prop
  | .tuple ds => ImAll ds
  | .list _ => False
  | .dict _ => False
  | _ => True
def ImAll : List PyData → Prop
  | [] => True
  | d :: r => Im d ∧ ImAll r
end
theorem im_int (i : Int) : Im (.int i) := by simp [Im]
theorem im_bool (i : Bool) : Im (.bool i) := by simp [Im]
theorem im_str (i : Str) : Im (.str i) := by simp [Im]
theorem im_none : Im .none := by simp [Im]
theorem im_tuple (ds : List PyData) : Im (.tuple ds) ↔ ImAll ds := by simp [Im]
theorem imAll_nil : ImAll [] := by simp [ImAll]
theorem imAll_cons (d : PyData) (r : List PyData) : ImAll (d :: r) ↔ Im d ∧ ImAll r := by simp [ImAll]
mutual
theorem im_fm : ∀ {d : PyData}, Fm d → Im d
  | .int i, _ => im_int i
  | .tuple ds, f => by
    rw [fm_tuple] at f
    rw [im_tuple]
    exact imAll_fm f.1
  | .none, f => by simp [Fm] at f
  | .bool _, f => by simp [Fm] at f
  | .str _, f => by simp [Fm] at f
  | .list _, f => by simp [Fm] at f
  | .dict _, f => by simp [Fm] at f
theorem imAll_fm : ∀ {ds : List PyData}, FmAll ds → ImAll ds
  | [], _ => imAll_nil
  | d :: r, f => by
    rw [fmAll_cons] at f
    rw [imAll_cons]
    exact ⟨im_fm f.1, imAll_fm f.2.2⟩
end
mutual
theorem dp_im {K : PySem.W.Frag} {H H' : Hp} (e : Tk H H') : ∀ {d : PyData} {v : V}, Im d → Dp K H v d → Dp K H' v d
  | .int i, _, _, h => by
    cases h
    exact .int i
  | .tuple ds, _, f, h => by
    rw [im_tuple] at f
    cases h with
    | tup h1 h2 => exact .tup (tk_tup e h1) (dpAll_im e f h2)
  | .none, _, _, h => by
    cases h
    exact .non
  | .bool b, _, _, h => by
    cases h
    exact .bl b
  | .str x, _, _, h => by
    cases h
    exact .str x
  | .list _, _, f, _ => by simp [Im] at f
  | .dict _, _, f, _ => by simp [Im] at f
theorem dpAll_im {K : PySem.W.Frag} {H H' : Hp} (e : Tk H H') : ∀ {ds : List PyData} {vs : List V}, ImAll ds → DpAll K H vs ds → DpAll K H' vs ds
  | [], _, _, h => by
    cases h
    exact .nil
  | d :: r, _, f, h => by
    rw [imAll_cons] at f
    cases h with
    | cons h1 h2 => exact .cons (dp_im e f.1 h1) (dpAll_im e f.2 h2)
end
theorem im_row {r : Row} (f : Fm r.1) : Im (rowD r) := by
  unfold rowD
  rw [im_tuple, imAll_cons, imAll_cons, imAll_cons]
  exact ⟨im_fm f, im_int _, im_int _, imAll_nil⟩
theorem im_rows : ∀ {R : List Row}, FmAll (pR R) → ImAll (R.map rowD)
  | [], _ => imAll_nil
  | r :: R, f => by
    have f' : FmAll (r.1 :: pR R) := f
    rw [fmAll_cons] at f'
    rw [List.map_cons, imAll_cons]
    exact ⟨im_row f'.1, im_rows f'.2.2⟩
structure MgI (A B : List PyData) (R : List Row) (i j : Nat) : Prop where
  mg : Mg (A.take i) (B.take j) R
  la : ∀ r ∈ R, ∀ x ∈ A.drop i, vl r.1 < vl x
  lb : ∀ r ∈ R, ∀ x ∈ B.drop j, vl r.1 < vl x
  hi : i ≤ A.length
  hj : j ≤ B.length
  ln : R.length ≤ i + j
theorem MgI.start (A B : List PyData) : MgI A B [] 0 0 := ⟨⟨rfl, rfl, fmAll_nil, by show Asc (vals []); rw [vals_nil]; trivial, by show wtAll [] ≤ _; rw [wtAll_nil]; exact Nat.zero_le _, by simp [pR]⟩, by simp, by simp, Nat.zero_le _, Nat.zero_le _, by simp⟩
theorem take_one {A : List PyData} {i : Nat} {a : PyData} (h : A[i]? = some a) : A.take (i + 1) = A.take i ++ [a] := by
  rw [List.take_add_one, h]
  rfl
theorem drop_one {A : List PyData} {i : Nat} {a : PyData} (h : A[i]? = some a) : A.drop i = a :: A.drop (i + 1) := by
  obtain ⟨hi, e⟩ := List.getElem?_eq_some_iff.mp h
  rw [List.drop_eq_getElem_cons hi, e]
theorem asc_tail {A : List PyData} {i : Nat} {a : PyData} (hA : Asc (vals A)) (h : A[i]? = some a) : ∀ x ∈ A.drop (i + 1), vl a < vl x := fun x hx => by
  have h1 : Asc (vals (A.drop i)) := by
    rw [← vals_drop]
    exact asc_sub (List.drop_sublist _ _) hA
  rw [drop_one h, vals_cons] at h1
  refine Asc.lt h1 _ ?_
  rw [vals_map]
  exact List.mem_map.mpr ⟨x, hx, rfl⟩
theorem MgI.left {A B : List PyData} {R : List Row} {i j : Nat} (S : MgI A B R i j) {a : PyData} (fA : FmAll A) (hA : Asc (vals A)) (h : A[i]? = some a) (hB : ∀ x ∈ B.drop j, vl a < vl x) : MgI A B (R ++ [(a, true, false)]) (i + 1) j := by
  have hm := fmAll_mem fA a (List.mem_of_getElem? h)
  have hi := (List.getElem?_eq_some_iff.mp h).1
  have ha : a ∈ A.drop i := by rw [drop_one h]; simp
  refine ⟨?_, fun r hr x hx => ?_, fun r hr x hx => ?_, hi, S.hj, by rw [List.length_append, List.length_singleton]; have := S.ln; omega⟩
  · rw [take_one h]
    exact S.mg.snoc (m := true) (n := false) rfl hm.1 hm.2 (fun r hr => S.la r hr a ha)
  · rcases List.mem_append.mp hr with hr | hr
    · exact S.la r hr x (by rw [drop_one h]; simp [hx])
    · rw [List.mem_singleton.mp hr]
      exact asc_tail hA h x hx
  · rcases List.mem_append.mp hr with hr | hr
    · exact S.lb r hr x hx
    · rw [List.mem_singleton.mp hr]
      exact hB x hx
theorem MgI.right {A B : List PyData} {R : List Row} {i j : Nat} (S : MgI A B R i j) {b : PyData} (fB : FmAll B) (hB : Asc (vals B)) (h : B[j]? = some b) (hA : ∀ x ∈ A.drop i, vl b < vl x) : MgI A B (R ++ [(b, false, true)]) i (j + 1) := by
  have hm := fmAll_mem fB b (List.mem_of_getElem? h)
  have hj := (List.getElem?_eq_some_iff.mp h).1
  have hb : b ∈ B.drop j := by rw [drop_one h]; simp
  refine ⟨?_, fun r hr x hx => ?_, fun r hr x hx => ?_, S.hi, hj, by rw [List.length_append, List.length_singleton]; have := S.ln; omega⟩
  · rw [take_one h]
    exact S.mg.snoc (m := false) (n := true) rfl hm.1 hm.2 (fun r hr => S.lb r hr b hb)
  · rcases List.mem_append.mp hr with hr | hr
    · exact S.la r hr x hx
    · rw [List.mem_singleton.mp hr]
      exact hA x hx
  · rcases List.mem_append.mp hr with hr | hr
    · exact S.lb r hr x (by rw [drop_one h]; simp [hx])
    · rw [List.mem_singleton.mp hr]
      exact asc_tail hB h x hx
theorem MgI.both {A B : List PyData} {R : List Row} {i j : Nat} (S : MgI A B R i j) {a : PyData} (fA : FmAll A) (hA : Asc (vals A)) (hB : Asc (vals B)) (h : A[i]? = some a) (h2 : B[j]? = some a) : MgI A B (R ++ [(a, true, true)]) (i + 1) (j + 1) := by
  have hm := fmAll_mem fA a (List.mem_of_getElem? h)
  have hi := (List.getElem?_eq_some_iff.mp h).1
  have hj := (List.getElem?_eq_some_iff.mp h2).1
  have ha : a ∈ A.drop i := by rw [drop_one h]; simp
  refine ⟨?_, fun r hr x hx => ?_, fun r hr x hx => ?_, hi, hj, by rw [List.length_append, List.length_singleton]; have := S.ln; omega⟩
  · rw [take_one h, take_one h2]
    exact S.mg.snoc (m := true) (n := true) rfl hm.1 hm.2 (fun r hr => S.la r hr a ha)
  · rcases List.mem_append.mp hr with hr | hr
    · exact S.la r hr x (by rw [drop_one h]; simp [hx])
    · rw [List.mem_singleton.mp hr]
      exact asc_tail hA h x hx
  · rcases List.mem_append.mp hr with hr | hr
    · exact S.lb r hr x (by rw [drop_one h2]; simp [hx])
    · rw [List.mem_singleton.mp hr]
      exact asc_tail hB h2 x hx
theorem MgI.done {A B : List PyData} {R : List Row} {i j : Nat} (S : MgI A B R i j) (h1 : A.length ≤ i) (h2 : B.length ≤ j) : Mg A B R := by
  have := S.mg
  rw [List.take_of_length_le h1, List.take_of_length_le h2] at this
  exact this
/-- p or q as a test: the body once -/
theorem ifOrQ (q : Prop) {p A X Y : Prop} [Decidable p] (hX : p ∨ q → X) (h : ¬ p → (p ∨ q → X) → A) : if decide p = true then (if true = true then X else Y) else A :=
  ifD (fun hp => iteT (hX (.inl hp))) (fun hp => h hp hX)
/-- the three ways of an order of two places -/
theorem sg_ways {a b : PyData} (fa : Fm a) (fb : Fm b) (ha : 0 ≤ val a) (hb : 0 ≤ val b) : (sg (val a) (val b) < 0 → vl a < vl b) ∧ (0 < sg (val a) (val b) → vl b < vl a) ∧ (sg (val a) (val b) = 0 → a = b) := by
  unfold sg vl
  split
  · exact ⟨fun _ => by omega, fun z => by omega, fun z => by omega⟩
  · split
    · exact ⟨fun z => by omega, fun _ => by omega, fun z => by omega⟩
    · exact ⟨fun z => by omega, fun z => by omega, fun _ => fm_inj fa fb (by omega)⟩
end PM
namespace PM
open PySem TV FM DX FB FC HX L2
/-- the rows of a sum: those of two numbers, ahead of them perhaps the place 0 -/
structure Rs (A B : List PyData) (R : List Row) (c : Nat) : Prop where
  a : pA R = A
  b : pB R = B
  fm : FmAll (pR R)
  asc : Asc (vals (pR R))
  wt : wtAll (pR R) ≤ wtAll A + wtAll B + 1
  mem : ∀ p ∈ pR R, p ∈ A ∨ p ∈ B ∨ p = .int 0
  ln : R.length ≤ A.length + B.length + 1
  st : c = 1 → nxt R 0 = 0 ∧ 0 < R.length
theorem Mg.rs {A B : List PyData} {R : List Row} {c : Nat} (M : Mg A B R) (hl : R.length ≤ A.length + B.length) (h : c = 1 → nxt R 0 = 0 ∧ 0 < R.length) : Rs A B R c :=
  ⟨M.a, M.b, M.fm, M.asc, by have := M.wt; omega, fun p hp => (M.mem p hp).elim .inl (fun z => .inr (.inl z)), by omega, h⟩
theorem Mg.rs0 {A B : List PyData} {R : List Row} {c : Nat} (M : Mg A B R) (hl : R.length ≤ A.length + B.length) {r : Row} (h : R[0]? = some r) (h0 : val r.1 ≠ 0) : Rs A B ((.int 0, false, false) :: R) c := by
  have hr0 : ∀ x ∈ pR R, 0 < vl x := fun x hx => by
    cases R with
    | nil => cases h
    | cons s S =>
      simp at h
      subst h
      have hs : 0 ≤ val s.1 := (fmAll_mem M.fm s.1 (by simp [pR])).2
      have ha := M.asc
      have e : pR (s :: S) = s.1 :: pR S := rfl
      rw [e, vals_cons] at ha
      have p0 : 0 < vl s.1 := by unfold vl; omega
      rw [e] at hx
      rcases List.mem_cons.mp hx with rfl | hx
      · exact p0
      · have := Asc.lt ha (vl x) (by rw [vals_map]; exact List.mem_map.mpr ⟨x, hx, rfl⟩)
        unfold vl at *
        omega
  have e : pR ((.int 0, false, false) :: R) = .int 0 :: pR R := rfl
  refine ⟨?_, ?_, ?_, ?_, ?_, ?_, by rw [List.length_cons]; omega, fun _ => ⟨?_, by simp⟩⟩
  · rw [← M.a]
    simp [pA]
  · rw [← M.b]
    simp [pB]
  · rw [e]
    exact fmAll_zero M.fm
  · rw [e]
    exact asc_zero M.asc hr0
  · rw [e, wtAll_cons, wt_int]
    have := M.wt
    omega
  · intro p hp
    rw [e] at hp
    rcases List.mem_cons.mp hp with rfl | hp
    · exact .inr (.inr rfl)
    · exact (M.mem p hp).elim .inl (fun z => .inr (.inl z))
  · show vl (.int 0) = 0
    unfold vl
    rw [val_int]
    rfl
theorem Rs.sum {A B : List PyData} {R : List Row} {c : Nat} (S : Rs A B R c) {F : List PyData} {o t k b : Nat} (h : Ad R R.length c F o t k b) : tv (vals F) = tv (vals A) + tv (vals B) + c := by
  rw [h.done, S.a, S.b]
/-- the numbers 0 and 1 -/
theorem xor_n {o : Nat} (h : o ≤ 1) (m : Bool) : Builtin.bitXor ((o : Nat) : Int) (bi m) = (((o + bn m) % 2 : Nat) : Int) := by
  have : o = 0 ∨ o = 1 := by omega
  rcases this with rfl | rfl <;> cases m <;> decide
theorem and_n (n : Nat) : Builtin.bitAnd ((n : Nat) : Int) 1 = ((n % 2 : Nat) : Int) := by
  rw [PyProof.Rows.bitAnd_m1]
  omega
end PM
namespace PM
open PySem TV FM DX FB FC HX L2
theorem range_div {n : Int} {k : Nat} : (-(2 ^ k) ≤ n ∧ n < 2 ^ k) ↔ ∀ p, k ≤ p → tb n p = tb n k := by
  obtain ⟨ts, hA, rfl⟩ := turns_ex n
  rw [← tv_range hA]
  constructor
  · intro h p hp
    rw [tb_par hA, tb_par hA, cnt_all fun t ht => Nat.le_trans (h t ht) hp, cnt_all h]
  · intro h t ht
    apply Nat.le_of_not_lt
    intro hlt
    refine (mem_tb hA t).mp ht ?_
    rw [if_neg (by omega), h t (by omega), h (t - 1) (by omega)]
theorem range_f {a b r : Int} {k : Nat} {f : Bool → Bool → Bool} (ha : -(2 ^ k) ≤ a ∧ a < 2 ^ k) (hb : -(2 ^ k) ≤ b ∧ b < 2 ^ k) (h : ∀ p, tb r p = f (tb a p) (tb b p)) : -(2 ^ k) ≤ r ∧ r < 2 ^ k := by
  rw [range_div] at *
  intro p hp
  rw [h, h, ha p hp, hb p hp]
theorem range_and {a b : Int} {k : Nat} (ha : -(2 ^ k) ≤ a ∧ a < 2 ^ k) (hb : -(2 ^ k) ≤ b ∧ b < 2 ^ k) : -(2 ^ k) ≤ Builtin.bitAnd a b ∧ Builtin.bitAnd a b < 2 ^ k := range_f (f := fun x y => x && y) ha hb fun p => tb_and a b p
theorem range_or {a b : Int} {k : Nat} (ha : -(2 ^ k) ≤ a ∧ a < 2 ^ k) (hb : -(2 ^ k) ≤ b ∧ b < 2 ^ k) : -(2 ^ k) ≤ Builtin.bitOr a b ∧ Builtin.bitOr a b < 2 ^ k := range_f (f := fun x y => x || y) ha hb fun p => tb_or a b p
theorem range_xor {a b : Int} {k : Nat} (ha : -(2 ^ k) ≤ a ∧ a < 2 ^ k) (hb : -(2 ^ k) ≤ b ∧ b < 2 ^ k) : -(2 ^ k) ≤ Builtin.bitXor a b ∧ Builtin.bitXor a b < 2 ^ k := range_f (f := fun x y => x ^^ y) ha hb fun p => tb_xor a b p
/-- the form of an int whose turns are plain -/
theorem form_ex {m : Int} {k : Nat} (hk : k ≤ 900000) (h1 : -(2 ^ k) ≤ m) (h2 : m < 2 ^ k) : ∃ d, Fm d ∧ val d = m ∧ wt d ≤ k + 3 ∧ d.depth ≤ 1 := by
  by_cases hp : -(2 ^ 64) ≤ m ∧ m < 2 ^ 64
  · exact ⟨.int m, (fm_int m).mpr hp, val_int m, by rw [wt_int]; omega, by rw [depth_int]; omega⟩
  · obtain ⟨ts, hA, e⟩ := turns_ex m
    subst e
    have hb := (tv_range hA).mpr ⟨h1, h2⟩
    have h64 : ∃ t ∈ ts, 64 < t := by
      apply Classical.byContradiction
      intro hc
      apply hp
      rw [← tv_range hA]
      intro t ht
      apply Nat.le_of_not_lt
      intro hlt
      exact hc ⟨t, ht, hlt⟩
    obtain ⟨f1, f2⟩ := fm_small hA (fun t ht => by have := hb t ht; omega) h64
    have hl := asc_len (a := 0) hA fun t ht => ⟨Nat.zero_le _, hb t ht⟩
    exact ⟨_, f1, f2, by rw [wt_tuple, wtAll_iD]; omega, by rw [depth_tuple, depthAll_iD]; omega⟩
theorem form_lim {r : PyData} {m : Int} {k : Nat} (hk : k ≤ 900000) (h1 : -(2 ^ k) ≤ m) (h2 : m < 2 ^ k) (f : Fm r) (e : val r = m) : wt r ≤ k + 3 ∧ r.depth ≤ 1 := by
  obtain ⟨d, f', e', w, dp⟩ := form_ex hk h1 h2
  rw [fm_inj f f' (e.trans e'.symm)]
  exact ⟨w, dp⟩
end PM
set_option Elab.async false
set_option linter.all false
set_option maxRecDepth 100000
/-! shifts of rows of turns (plain mathematics) -/
namespace PM
open PySem TV FM DX FC MS
theorem mul_ge {a b : Nat} (h : 1 ≤ a) : a + b ≤ a * (b + 1) := by
  obtain ⟨c, rfl⟩ : ∃ c, a = c + 1 := ⟨a - 1, by omega⟩
  have : (c + 1) * (b + 1) = c * (b + 1) + (b + 1) := Nat.succ_mul c (b + 1)
  have h2 : c * 1 ≤ c * (b + 1) := Nat.mul_le_mul_left _ (by omega)
  omega
theorem row_wt {n W w e F r : Nat} (h1 : F ≤ (n + 6) * (W * (e + 141))) (h2 : r ≤ (n + 6) * (w + e + 140)) (hw : 1 ≤ w) : F + r ≤ (n + 6) * ((W + w) * (e + 141)) := by
  have h3 : w + (e + 140) ≤ w * (e + 141) := mul_ge hw
  have h4 : (n + 6) * (w + e + 140) ≤ (n + 6) * (w * (e + 141)) := Nat.mul_le_mul_left _ (by omega)
  have h5 : (n + 6) * ((W + w) * (e + 141)) = (n + 6) * (W * (e + 141)) + (n + 6) * (w * (e + 141)) := by rw [Nat.add_mul W w, Nat.mul_add (n + 6)]
  omega
def lowZ (b : Bool) : List Nat := if b then [0] else []
theorem cnt_app (a b : List Nat) (p : Nat) : cnt (a ++ b) p = cnt a p + cnt b p := by
  unfold cnt
  rw [List.countP_append]
theorem cnt_keep {A : Nat} : ∀ (ts : List Nat) (p : Nat), cnt ts (A + p) = (ts.length - (ts.filter fun t => decide (A < t)).length) + cnt ((ts.filter fun t => decide (A < t)).map (· - A)) p
  | [], p => rfl
  | t :: r, p => by
    have ih := cnt_keep (A := A) r p
    have hl := List.length_filter_le (fun t => decide (A < t)) r
    rw [cnt_cons]
    by_cases h : A < t
    · rw [List.filter_cons_of_pos (by simpa using h), List.map_cons, cnt_cons, List.length_cons, List.length_cons, ih]
      by_cases h2 : t ≤ A + p
      · rw [if_pos h2, if_pos (show t - A ≤ p by omega)]
        omega
      · rw [if_neg h2, if_neg (show ¬ t - A ≤ p by omega)]
        omega
    · rw [List.filter_cons_of_neg (by simpa using h), if_pos (show t ≤ A + p by omega), List.length_cons, ih]
      omega
theorem asc_filter {ts : List Nat} {p : Nat → Bool} (h : Asc ts) : Asc (ts.filter p) := asc_pairwise.mpr ((asc_pairwise.mp h).sublist List.filter_sublist)
theorem drop_asc {ts : List Nat} {A : Nat} (h : Asc ts) : Asc ((ts.filter fun t => decide (A < t)).map (· - A)) := by
  refine asc_map (asc_filter h) fun x hx y hy hxy => ?_
  have h1 := (List.mem_filter.mp hx).2
  have h2 := (List.mem_filter.mp hy).2
  simp at h1 h2
  omega
theorem drop_low {ts : List Nat} {A : Nat} (h : Asc ts) (b : Bool) : Asc (lowZ b ++ (ts.filter fun t => decide (A < t)).map (· - A)) := by
  unfold lowZ
  split
  · refine asc_cons (fun x hx => ?_) (drop_asc h)
    obtain ⟨t, ht, rfl⟩ := List.mem_map.mp hx
    have := (List.mem_filter.mp ht).2
    simp at this
    omega
  · exact drop_asc h
theorem tv_drop {ts : List Nat} {A : Nat} (h : Asc ts) : tv (lowZ (decide ((ts.length - (ts.filter fun t => decide (A < t)).length) % 2 = 1)) ++ (ts.filter fun t => decide (A < t)).map (· - A)) = tv ts / 2 ^ A := by
  refine tb_ext fun p => ?_
  rw [tb_tv p (drop_low h _), tb_shift, tb_tv _ h, cnt_keep, cnt_app]
  unfold lowZ
  by_cases hb : (ts.length - (ts.filter fun t => decide (A < t)).length) % 2 = 1
  · rw [if_pos (decide_eq_true hb)]
    have : cnt [0] p = 1 := by simp [cnt]
    rw [this]
    congr 1
    exact propext (by omega)
  · rw [if_neg (by simpa using hb)]
    have : cnt [] p = 0 := rfl
    rw [this]
    congr 1
    exact propext (by omega)
theorem take_snoc {α : Type} {l : List α} {i : Nat} {a : α} (h : l[i]? = some a) : l.take (i + 1) = l.take i ++ [a] := by
  rw [List.take_add_one, h]
  rfl
end PM
set_option Elab.async false
set_option linter.all false
set_option maxRecDepth 100000
/-! the form of an int, and how many bits an int has -/
namespace FI
open PySem PySem.Spec PyProof.Rows L2 HX TV FM FC PM DX
theorem forms_ex : ∀ {ts : List Nat}, (∀ t ∈ ts, ∃ d, Fm d ∧ val d = ((t : Nat) : Int)) → ∃ ds, FmAll ds ∧ vals ds = ts
  | [], _ => ⟨[], fmAll_nil, vals_nil⟩
  | t :: r, h => by
    obtain ⟨d, f, e⟩ := h t (by simp)
    obtain ⟨ds, F, e2⟩ := forms_ex (ts := r) fun x hx => h x (by simp [hx])
    refine ⟨d :: ds, (fmAll_cons d ds).mpr ⟨f, by omega, F⟩, ?_⟩
    rw [vals_cons, e2, e, Int.toNat_natCast]
theorem turns_small {n : Int} {k : Nat} (h1 : -(2 ^ k) ≤ n) (h2 : n < 2 ^ k) : ∀ t ∈ turnsOf n, t ≤ k :=
  (tv_range (turnsOf_asc n)).mpr (by rw [turnsOf_tv]; exact ⟨h1, h2⟩)
theorem abs_pow {n : Int} {N : Nat} (h : n.natAbs ≤ N + 1) (h3 : 3 ≤ N + 1) : -(2 ^ N) ≤ n ∧ n < 2 ^ N := by
  have h4 : N + 1 < 2 ^ N := by
    obtain ⟨M, rfl⟩ : ∃ M, N = M + 2 := ⟨N - 2, by omega⟩
    clear h h3
    induction M with
    | zero => decide
    | succ M ih =>
      rw [show M + 1 + 2 = (M + 2) + 1 from rfl, Nat.pow_succ]
      omega
  have e : ((2 ^ N : Nat) : Int) = 2 ^ N := by norm_cast
  rw [← e]
  revert h4
  generalize 2 ^ N = B
  intro h4
  omega
theorem fo_ex : ∀ (N : Nat) (n : Int), n.natAbs ≤ N → ∃ d, Fm d ∧ val d = n := by
  intro N
  induction N with
  | zero => intro n h; exact ⟨.int n, (fm_int n).mpr (by omega), val_int n⟩
  | succ N ih =>
    intro n h
    by_cases hp : -(2 ^ 64) ≤ n ∧ n < 2 ^ 64
    · exact ⟨.int n, (fm_int n).mpr hp, val_int n⟩
    · have hN : 3 ≤ N + 1 := by omega
      obtain ⟨b1, b2⟩ := abs_pow h hN
      have hb := turns_small b1 b2
      obtain ⟨ds, F, e⟩ := forms_ex (ts := turnsOf n) fun t ht => ih _ (by have := hb t ht; omega)
      refine ⟨.tuple ds, (fm_tuple ds).mpr ⟨F, by rw [e]; exact turnsOf_asc n, ?_⟩, by rw [val_tuple, e, turnsOf_tv]⟩
      rw [e]
      apply Classical.byContradiction
      intro hc
      apply hp
      rw [← turnsOf_tv n, ← tv_range (turnsOf_asc n)]
      intro t ht
      apply Nat.le_of_not_lt
      intro hlt
      exact hc ⟨t, ht, hlt⟩
noncomputable def fo (n : Int) : PyData := Classical.choose (fo_ex n.natAbs n (Nat.le_refl _))
theorem fo_fm (n : Int) : Fm (fo n) := (Classical.choose_spec (fo_ex n.natAbs n (Nat.le_refl _))).1
theorem val_fo (n : Int) : val (fo n) = n := (Classical.choose_spec (fo_ex n.natAbs n (Nat.le_refl _))).2
theorem fo_is {d : PyData} {n : Int} (f : Fm d) (e : val d = n) : d = fo n := fm_inj f (fo_fm n) (e.trans (val_fo n).symm)
theorem fo_val {d : PyData} (f : Fm d) : fo (val d) = d := (fo_is f rfl).symm
theorem vl_fo (p : Nat) : vl (fo (p : Nat)) = p := by
  show (val (fo (p : Nat))).toNat = p
  rw [val_fo, Int.toNat_natCast]
theorem fo_int {i : Int} (h : -(2 ^ 64) ≤ i ∧ i < 2 ^ 64) : fo i = .int i := (fo_is ((fm_int i).mpr h) (val_int i)).symm
/-- v is the form of the int n -/
abbrev DI (K : PySem.W.Frag) (H : Hp) (v : V) (n : Int) : Prop := Dp K H v (fo n)
section
variable {K : PySem.W.Frag} {H H' : Hp} {v : V} {n m : Int}
theorem DI.of {d : PyData} (f : Fm d) (e : val d = n) (h : Dp K H v d) : DI K H v n := by
  have := fo_is f e
  subst this
  exact h
theorem DI.same (h : DI K H v n) (e : Same H H') : DI K H' v n := dp_tk (tk_same e) (fo_fm n) h
theorem DI.eq (h : DI K H v n) (e : n = m) : DI K H v m := e ▸ h
theorem di_int {i : Int} (h : -(2 ^ 64) ≤ i ∧ i < 2 ^ 64) : DI K H (.int i) i := by
  show Dp K H _ (fo i)
  rw [fo_int h]
  exact .int i
theorem di_nat {i : Nat} (h : i < 2 ^ 64) : DI K H (.int (i : Nat)) (i : Nat) := di_int (by omega)
theorem DI.int {i : Int} (h : DI K H v i) (hb : -(2 ^ 64) ≤ i ∧ i < 2 ^ 64) : v = .int i := by
  have h2 : Dp K H v (fo i) := h
  rw [fo_int hb] at h2
  cases h2
  rfl
theorem DI.not_none (h : DI K H v n) : v ≠ .non := fun z => by
  subst z
  have h2 : Dp K H .non (fo n) := h
  have f := fo_fm n
  revert h2 f
  generalize fo n = d
  intro h2 f
  cases h2
  simp [Fm] at f
end
/-- n has at most k bits and a sign -/
def Bw (k : Nat) (n : Int) : Prop := -(2 ^ k) ≤ n ∧ n < 2 ^ k
theorem bw_iff {k : Nat} {n : Int} : Bw k n ↔ -((2 ^ k : Nat) : Int) ≤ n ∧ n < ((2 ^ k : Nat) : Int) := by
  unfold Bw
  have e : ((2 ^ k : Nat) : Int) = 2 ^ k := by norm_cast
  rw [e]
theorem Bw.mono {j k : Nat} {n : Int} (h : Bw j n) (l : j ≤ k) : Bw k n := by
  rw [bw_iff] at *
  have := Nat.pow_le_pow_right (n := 2) (by decide) l
  omega
theorem bw_of_abs {k : Nat} {n : Int} (h : n.natAbs < 2 ^ k) : Bw k n := by
  rw [bw_iff]
  omega
theorem Bw.abs {k : Nat} {n : Int} (h : Bw k n) : n.natAbs ≤ 2 ^ k := by
  rw [bw_iff] at h
  omega
theorem bw_nat {k n : Nat} (h : n < 2 ^ k) : Bw k (n : Nat) := bw_of_abs (by omega)
theorem bw64 {n : Int} (h : Bw 64 n) : -(2 ^ 64) ≤ n ∧ n < 2 ^ 64 := h
theorem Bw.add {k : Nat} {n m : Int} (h1 : Bw k n) (h2 : Bw k m) {c : Nat} (hc : c ≤ 1) : Bw (k + 1) (n + m + c) := by
  rw [bw_iff] at *
  rw [Nat.pow_succ]
  omega
theorem Bw.add0 {k : Nat} {n m : Int} (h1 : Bw k n) (h2 : Bw k m) : Bw (k + 1) (n + m) := by
  have := h1.add h2 (c := 0) (by decide)
  simpa using this
theorem Bw.sub {k : Nat} {n m : Int} (h1 : Bw k n) (h2 : Bw k m) : Bw (k + 1) (n - m) := by
  rw [bw_iff] at *
  rw [Nat.pow_succ]
  omega
theorem Bw.not {k : Nat} {n : Int} (h : Bw k n) : Bw k (-n - 1) := by
  rw [bw_iff] at *
  omega
theorem Bw.neg {k : Nat} {n : Int} (h : Bw k n) : Bw (k + 1) (-n) := by
  rw [bw_iff] at *
  rw [Nat.pow_succ]
  omega
theorem Bw.inc {k : Nat} {n : Int} (h : Bw k n) : Bw (k + 1) (n + 1) := by
  rw [bw_iff] at *
  have := Nat.two_pow_pos k
  rw [Nat.pow_succ]
  omega
theorem Bw.and {k : Nat} {n m : Int} (h1 : Bw k n) (h2 : Bw k m) : Bw k (Builtin.bitAnd n m) := range_and h1 h2
theorem Bw.or {k : Nat} {n m : Int} (h1 : Bw k n) (h2 : Bw k m) : Bw k (Builtin.bitOr n m) := range_or h1 h2
theorem Bw.xor {k : Nat} {n m : Int} (h1 : Bw k n) (h2 : Bw k m) : Bw k (Builtin.bitXor n m) := range_xor h1 h2
theorem Bw.shl {k : Nat} {n : Int} (h : Bw k n) (s : Nat) : Bw (k + s) (n * 2 ^ s) := by
  obtain ⟨h1, h2⟩ := h
  have hp : (0 : Int) < 2 ^ s := Int.pow_pos (by decide)
  unfold Bw
  rw [Int.pow_add, ← Int.neg_mul]
  exact ⟨Int.mul_le_mul_of_nonneg_right h1 (Int.le_of_lt hp), Int.mul_lt_mul_of_pos_right h2 hp⟩
theorem Bw.shr {k : Nat} {n : Int} (h : Bw k n) (s : Nat) : Bw k (n / 2 ^ s) := by
  obtain ⟨h1, h2⟩ := h
  have hp : (0 : Int) < 2 ^ s := Int.pow_pos (by decide)
  have hk : (0 : Int) < 2 ^ k := Int.pow_pos (by decide)
  refine ⟨?_, ?_⟩
  · rw [Int.le_ediv_iff_mul_le hp]
    have : (2 : Int) ^ k ≤ 2 ^ k * 2 ^ s := by
      have := Int.mul_le_mul_of_nonneg_left (show (1 : Int) ≤ 2 ^ s by omega) (Int.le_of_lt hk)
      omega
    rw [Int.neg_mul]
    omega
  · rw [Int.ediv_lt_iff_lt_mul hp]
    have : (2 : Int) ^ k ≤ 2 ^ k * 2 ^ s := by
      have := Int.mul_le_mul_of_nonneg_left (show (1 : Int) ≤ 2 ^ s by omega) (Int.le_of_lt hk)
      omega
    omega
theorem Bw.mul {j k : Nat} {n m : Int} (h1 : Bw j n) (h2 : Bw k m) : Bw (j + k + 1) (n * m) := by
  have := Nat.mul_le_mul h1.abs h2.abs
  rw [← Int.natAbs_mul, ← Nat.pow_add] at this
  refine bw_of_abs (Nat.lt_of_le_of_lt this ?_)
  exact Nat.pow_lt_pow_right (by decide) (by omega)
theorem bw_pow (p : Nat) : Bw (p + 1) (2 ^ p) := by
  have e : ((2 ^ p : Nat) : Int) = 2 ^ p := by norm_cast
  rw [← e]
  exact bw_nat (Nat.pow_lt_pow_right (by decide) (by omega))
theorem Bw.turns {k : Nat} {n : Int} (h : Bw k n) : ∀ t ∈ turnsOf n, t ≤ k := turns_small h.1 h.2
theorem bw_turns {k : Nat} {n : Int} (h : ∀ t ∈ turnsOf n, t ≤ k) : Bw k n := by
  have := (tv_range (turnsOf_asc n)).mp h
  rw [turnsOf_tv] at this
  exact this
theorem Bw.len {k : Nat} {n : Int} (h : Bw k n) : (turnsOf n).length ≤ k + 1 := by
  have := asc_len (a := 0) (turnsOf_asc n) fun t ht => ⟨Nat.zero_le _, h.turns t ht⟩
  omega
theorem fo_lim {k : Nat} {n : Int} (hk : k ≤ 900000) (h : Bw k n) : wt (fo n) ≤ k + 3 ∧ (fo n).depth ≤ 1 := form_lim hk h.1 h.2 (fo_fm n) (val_fo n)
theorem plain_nv {K : PySem.W.Frag} {H : Hp} : ∀ {ds : List PyData} {us : List V}, DpAll K H us ds → FmAll ds → (∀ t ∈ vals ds, t < 2 ^ 64) → us = nv (vals ds)
  | [], us, h, _, _ => by
    cases h
    rw [vals_nil]
    rfl
  | d :: r, us, h, f, hb => by
    rw [fmAll_cons] at f
    rw [vals_cons] at hb ⊢
    have h0 := hb (val d).toNat (by simp)
    have e : d = .int (val d) := fm_inj f.1 ((fm_int _).mpr (by omega)) (by rw [val_int])
    cases h with
    | cons h1 h2 =>
      rw [plain_nv h2 f.2.2 fun t ht => hb t (by simp [ht])]
      rw [e] at h1
      cases h1
      show _ = V.int ((val d).toNat : Nat) :: nv (vals r)
      rw [Int.toNat_of_nonneg f.2.1]
end FI
set_option Elab.async false
set_option linter.all false
set_option maxRecDepth 100000
/-! numbers as groups of small ints at far places, and their turns (plain mathematics; laws k37 to k41) -/
namespace GL
open PySem PySem.Spec TV FM FB FC PM FI
/-- a bit flipped at place 0, as turns -/
def tog : List Nat → List Nat
  | 0 :: r => r
  | ts => 0 :: ts
theorem tv_tog : ∀ ts : List Nat, tv (tog ts) = -1 - tv ts
  | [] => by show tv [0] = _; rw [tv_cons]; rfl
  | 0 :: r => by
    show tv r = _
    rw [tv_cons]
    simp only [Int.pow_zero]
    omega
  | (t + 1) :: r => by
    show tv (0 :: (t + 1) :: r) = _
    rw [tv_cons]
    simp only [Int.pow_zero]
theorem asc_tog {ts : List Nat} (h : Asc ts) : Asc (tog ts) := by
  match ts, h with
  | [], _ => trivial
  | 0 :: r, h => exact h.tail
  | (t + 1) :: r, h =>
    refine asc_cons (fun b hb => ?_) h
    rcases List.mem_cons.mp hb with rfl | hb
    · omega
    · have := h.lt b hb
      omega
theorem tog_le {ts : List Nat} {k : Nat} (h : ∀ t ∈ ts, t ≤ k) : ∀ t ∈ tog ts, t ≤ k := by
  match ts, h with
  | [], _ =>
    intro t ht
    obtain rfl := List.mem_singleton.mp ht
    omega
  | 0 :: r, h => exact fun t ht => h t (List.mem_cons_of_mem _ ht)
  | (u + 1) :: r, h =>
    intro t ht
    rcases List.mem_cons.mp ht with rfl | ht
    · omega
    · exact h t ht
theorem len_tog : ∀ ts : List Nat, (tog ts).length ≤ ts.length + 1 ∧ (tog ts).length % 2 ≠ ts.length % 2
  | [] => by decide
  | 0 :: r => by
    show r.length ≤ r.length + 1 + 1 ∧ r.length % 2 ≠ (r.length + 1) % 2
    omega
  | (t + 1) :: r => by
    show r.length + 1 + 1 ≤ r.length + 1 + 1 ∧ (r.length + 1 + 1) % 2 ≠ (r.length + 1) % 2
    omega
/-- the parity of the turns is the sign -/
theorem neg_odd (n : Int) : n < 0 ↔ (turnsOf n).length % 2 = 1 := by
  have ha := turnsOf_asc n
  have hv := turnsOf_tv n
  revert ha hv
  generalize turnsOf n = ts
  intro ha hv
  rcases List.eq_nil_or_concat ts with rfl | ⟨r, t, rfl⟩
  · have : n = 0 := by rw [← hv]; rfl
    subst this
    simp
  · rw [List.concat_eq_append] at ha hv ⊢
    have := (tv_sign ha).1
    rw [hv] at this
    rw [this, List.length_append]
    show _ ↔ (r.length + 1) % 2 = 1
    omega
theorem tv_app : ∀ as bs : List Nat, tv (as ++ bs) = tv as + (if as.length % 2 = 0 then tv bs else -tv bs)
  | [], bs => by
    show tv bs = 0 + if 0 % 2 = 0 then tv bs else -tv bs
    rw [if_pos (by decide)]
    omega
  | a :: as, bs => by
    rw [List.cons_append, tv_cons, tv_cons, tv_app as bs]
    show _ = _ + if (as.length + 1) % 2 = 0 then _ else _
    by_cases h : as.length % 2 = 0
    · rw [if_pos h, if_neg (by omega)]
      omega
    · rw [if_neg h, if_pos (by omega)]
      omega
theorem tv_up (P : Nat) : ∀ ts : List Nat, tv (ts.map (P + ·)) = 2 ^ P * tv ts
  | [] => by show (0 : Int) = 2 ^ P * 0; simp
  | t :: r => by
    rw [List.map_cons, tv_cons, tv_cons, tv_up P r, Int.pow_add]
    grind
theorem asc_app {as bs : List Nat} {P : Nat} (ha : Asc as) (hb : Asc bs) (h1 : ∀ t ∈ as, t < P) (h2 : ∀ t ∈ bs, P ≤ t) : Asc (as ++ bs) := by
  rw [asc_pairwise] at ha hb ⊢
  exact List.pairwise_append.mpr ⟨ha, hb, fun a x b y => by have := h1 a x; have := h2 b y; omega⟩
theorem asc_up {P : Nat} {ts : List Nat} (h : Asc ts) : Asc (ts.map (P + ·)) := by
  rw [asc_pairwise] at h ⊢
  rw [List.pairwise_map]
  exact h.imp fun x => by omega
/-- one group more: the turns of low + c * 2 ^ P -/
noncomputable def step (ts : List Nat) (P : Nat) (c : Int) : List Nat :=
  ts ++ (if ts.length % 2 = 1 then tog (turnsOf (c - 1)) else turnsOf c).map (P + ·)
theorem step_turns {low c : Int} {P : Nat} (h : ∀ t ∈ turnsOf low, t < P) : turnsOf (low + c * 2 ^ P) = step (turnsOf low) P c := by
  have ha := turnsOf_asc low
  have hv := turnsOf_tv low
  unfold step
  by_cases hn : (turnsOf low).length % 2 = 1
  · rw [if_pos hn]
    refine turnsOf_is (asc_app ha (asc_up (asc_tog (turnsOf_asc _))) h fun t ht => ?_) ?_
    · obtain ⟨u, _, rfl⟩ := List.mem_map.mp ht
      omega
    · rw [tv_app, if_neg (by omega), hv, tv_up, tv_tog, turnsOf_tv]
      grind
  · rw [if_neg hn]
    refine turnsOf_is (asc_app ha (asc_up (turnsOf_asc _)) h fun t ht => ?_) ?_
    · obtain ⟨u, _, rfl⟩ := List.mem_map.mp ht
      omega
    · rw [tv_app, if_pos (by omega), hv, tv_up, turnsOf_tv]
      grind
/-- all turns of low + c * 2 ^ P lie below P + k + 1, for a small c -/
theorem step_le {low c : Int} {P k : Nat} (h : ∀ t ∈ turnsOf low, t < P) (hc : ∀ t ∈ turnsOf c, t ≤ k) (hc1 : ∀ t ∈ turnsOf (c - 1), t ≤ k) : ∀ t ∈ turnsOf (low + c * 2 ^ P), t ≤ P + k := by
  rw [step_turns h]
  intro t ht
  rcases List.mem_append.mp ht with ht | ht
  · have := h t ht
    omega
  · obtain ⟨u, hu, rfl⟩ := List.mem_map.mp ht
    split at hu
    · have := tog_le hc1 u hu
      omega
    · have := hc u hu
      omega
/-! ### places and numbers -/
/-- a place of the law: an int, or (place, few) for 2 ** place + few -/
inductive Plc : Type
  | int (n : Nat)
  | far (s : Plc) (few : Nat)
def pv : Plc → Nat
  | .int n => n
  | .far s few => 2 ^ pv s + few
/-- parts[0] and parts[i + 1] * 2 ** specs[i], together -/
def linFrom (v : Int) : List (Nat × Int) → Int
  | [] => v
  | (P, c) :: r => linFrom (v + c * 2 ^ P) r
/-- the turns of it, by the law's loop -/
noncomputable def rowsFrom (ts : List Nat) : List (Nat × Int) → List Nat
  | [] => ts
  | (P, c) :: r => rowsFrom (step ts P c) r
/-- ascending places with room between, small ints -/
def Room (k : Nat) : Nat → List (Nat × Int) → Prop
  | _, [] => True
  | lo, (P, c) :: r => lo < P ∧ (∀ t ∈ turnsOf c, t ≤ k) ∧ (∀ t ∈ turnsOf (c - 1), t ≤ k) ∧ Room k (P + k) r
theorem lin_turns {k : Nat} : ∀ (L : List (Nat × Int)) (lo : Nat) (v : Int), Room k lo L → (∀ t ∈ turnsOf v, t ≤ lo) → turnsOf (linFrom v L) = rowsFrom (turnsOf v) L
  | [], _, _, _, _ => rfl
  | (P, c) :: r, lo, v, h, hv => by
    obtain ⟨h1, h2, h3, h4⟩ := h
    have hlt : ∀ t ∈ turnsOf v, t < P := fun t ht => by have := hv t ht; omega
    show turnsOf (linFrom (v + c * 2 ^ P) r) = rowsFrom (step (turnsOf v) P c) r
    rw [lin_turns r (P + k) (v + c * 2 ^ P) h4 (step_le hlt h2 h3), step_turns hlt]
end GL
set_option Elab.async false
set_option linter.all false
set_option maxRecDepth 100000
/-! small helpers over the hand layer -/
namespace HX
open PySem PySem.Spec PyProof.Rows L2 TV FM FC PM FI
theorem ifDec {p A B : Prop} {b : Bool} [Decidable p] (e : decide p = b) (h1 : b = true → A) (h2 : b = false → B) : if decide p = true then A else B := by
  rw [e]
  cases b
  · exact iteF (h2 rfl)
  · exact iteT (h1 rfl)
theorem bit_on (n : Int) (j : Nat) : Builtin.bitAnd (n / 2 ^ j) 1 = PM.bi (tb n j) := by
  rw [bitAnd_m1]
  unfold tb PM.bi
  by_cases z : n / 2 ^ j % 2 = 1
  · rw [decide_eq_true z, z]
    rfl
  · rw [decide_eq_false z]
    show _ = (0 : Int)
    omega
/-- n, or ~n -/
def gw (w : Nat) (n : Int) : Int := if w = 1 then n else -n - 1
theorem gw_one {w : Nat} (h : w = 1) : gw w = fun n => n := by
  funext n
  exact if_pos h
theorem gw_not {w : Nat} (h : w ≠ 1) : gw w = fun n => -n - 1 := by
  funext n
  exact if_neg h
theorem dec_bit {n : Int} {w q : Nat} (hw : w ≤ 1) : decide (V.int (Builtin.bitAnd (n / 2 ^ q) 1) = V.int ((w : Nat) : Int)) = tb (gw w n) q := by
  have e := bit_on n q
  have e2 : decide (V.int (Builtin.bitAnd (n / 2 ^ q) 1) = V.int ((w : Nat) : Int)) = decide (PM.bi (tb n q) = ((w : Nat) : Int)) := decide_eq_decide.mpr ⟨fun z => by rw [← e]; exact V.int.inj z, fun z => by rw [e, z]⟩
  rw [e2]
  unfold gw
  rcases (by omega : w = 0 ∨ w = 1) with rfl | rfl
  · rw [if_neg (by decide), PM.tb_not]
    cases tb n q <;> rfl
  · rw [if_pos rfl]
    cases tb n q <;> rfl
theorem dec_bit1 {n : Int} {q : Nat} : decide (V.int (Builtin.bitAnd (n / 2 ^ q) 1) = V.int 1) = tb n q := dec_bit (w := 1) (Nat.le_refl _)
theorem cut_first {xs : List V} : cutV xs none (some 1) = xs.take 1 := by
  have := HT.sIx_nat xs.length xs.length 1
  unfold cutV
  rw [show HT.sIx xs.length xs.length (some 1) = min 1 xs.length from this, HT.sIx_none]
  show List.take (min 1 xs.length - 0) xs = xs.take 1
  rw [Nat.sub_zero, List.take_eq_take_iff]
  omega
/-- one of two calls with the same arguments -/
theorem both {w : Nat} {sA sB sC : Sp} {ta : TA} {σ : L2.St} {H : Hp} {Q : VK} (h1 : w = 1 → sA = sC) (h2 : w ≠ 1 → sB = sC) (h : tCall sC [] E0 ta σ H Q) :
    if decide (V.int ((w : Nat) : Int) = V.int 1) = true then tCall sA [] E0 ta σ H Q else tCall sB [] E0 ta σ H Q :=
  ifE (fun e => by rw [h1 (by omega)]; exact h) (fun e => by rw [h2 (by omega)]; exact h)
/-- far up all bits are the same -/
theorem tb_high {n : Int} {k : Nat} (h : Bw k n) {i j : Nat} (hi : k ≤ i) (hj : k ≤ j) : tb n i = tb n j := by
  have := range_div.mp h
  rw [this i hi, this j hj]
theorem nv_mem {ts : List Nat} {v : V} (h : v ∈ nv ts) : ∃ q ∈ ts, v = .int (q : Nat) := by
  unfold nv at h
  rw [List.mem_map] at h
  obtain ⟨q, h, e⟩ := h
  exact ⟨q, h, e.symm⟩
end HX
set_option Elab.async false
set_option linter.all false
set_option maxRecDepth 100000
namespace HX
open PySem PySem.Spec PyProof.Rows L2
/-- a loop over a range with a step -/
theorem flC {lo c : Int} {n : Nat} {g : TG} {tb : TS} {D : Ends} {σ : L2.St} {H : Hp} (Pv : Nat → L2.St → Hp → Prop) (h0 : Pv 0 σ H)
    (hs : ∀ i σ H, i < n → Pv i σ H → ∀ D', Bd D (Pv (i + 1)) D' → g (.int (lo + (i : Nat) * c)) σ H fun σ2 H2 => tb D' σ2 H2) (hd : ∀ σ H, Pv n σ H → D.nx σ H) :
    ∃ W : Nat → Nat → L2.St → Hp → Prop, (∃ m, W 0 m σ H) ∧ ∀ i m σ H, W i m σ H →
      ((Itc lo c n).stop i H ∧ D.nx σ H) ∨ ((Itc lo c n).go i H ∧ ∃ N : L2.St → Hp → Prop, (∀ σ' H', N σ' H' → ∃ m', m' < m ∧ W (i + 1) m' σ' H') ∧ ∀ x H', (Itc lo c n).yld i H x H' → g x σ H' fun σ2 H2 => tb { D with nx := N, ct := N, bk := D.nx } σ2 H2) :=
  for_rangeC Pv h0 (fun i σ H hx p => hs i σ H hx p _ ⟨fun _ _ h => h, fun _ _ h => h, fun _ _ h => h, fun _ _ h => h⟩) hd
end HX
set_option Elab.async false
set_option linter.all false
set_option maxRecDepth 100000
/-! f(k = v, ..) where what is raised is wished for at the caller's slots -/
namespace HX
open PySem PySem.Spec PyProof.Rows L2
theorem passFN {X : Cx} (σ : L2.St) : PassesAt (L2.CX X.prog X.w) X σ (fun _ _ _ => False) := fun _ _ _ _ _ _ h => by
  obtain ⟨_, _, _, _, _, _, _, _, _, _, _, _, z⟩ := h
  exact z.elim
def tCallNS (m : Nat) (sp : Sp) (gV : List V → List V → List V) (E : L2.St → XK) (tk : TA) : TE := fun σ H Q => tk σ H fun zs H2 => zs.length = m ∧ sp (gV [] zs) H2 Q (E σ)
section
variable {X : Cx} {CX : CXT} {k : Nat} {f : Addr} {fd : FuncData} {ps ks : List Str} {sp : Sp} {E : L2.St → XK} {x : Str} {p pos : Pos} {kws : List Keyword} {tk : TA} {g : List Value → List Value → List Value} {gV : List V → List V → List V}
theorem pe_callNS0 (F : FnOk X.prog X.w X.K X.mg X.base CX k f fd ps sp) (hr : Room k X.A) (hg : Gl X x) (hm : X.mg x = some (.ref f)) (hk : PySem.W.keepIn X.K (.ref f) = true) (hb : KBn X.K fd ps 0 ks g gV) (hx : ∀ σ, PassesAt CX X σ (E σ)) (hkw : PK X kws tk)
    (hall : (backToKw pos (keywordEach kws X.env)).all (·.1.isSome) = true := by rfl) (hks : (backToKw pos (keywordEach kws X.env)).filterMap (·.1) = ks := by rfl) (hdb : (x == ("__debug__" : Str)) = false := by decide)
    (hpl : ((backTo pos (starEach [] X.env)).any (·.1) || (backToKw pos (keywordEach kws X.env)).any (·.1.isNone)) = false := by rfl) :
    PE X (.Call (.Name x p) [] kws pos) (tCallNS ks.length sp gV E tk) := by
  refine ⟨fun pins s σ H Q I h => ?_⟩
  refine wpAny_Call_Name_kw (ld_glob I hg hm ?_ hdb)
  refine PySem.W.callWith_KW0 (h₀ := X.base) I.ok.mod.kin hk hall ?_ hpl
  refine thn (hkw.run pos pins s σ H _ I h) fun ws s2 ⟨zs, H2, I2, rz, l2, q2⟩ => ⟨I2.kIn, ?_⟩
  rw [hks]
  have l2' : zs.length = ks.length := l2
  have r2 := hb.rel .nil rz
  refine wpAny_call (codeAny_mono (F.run X.A X.stack s2 H2 ⟨[], ks.zip ws⟩ (g [] ws) (gV [] zs) Q (E σ) hr I2.env0 (hb.to s2 [] ws I2.kIn rfl (rz.length.symm.trans l2')) r2 q2) fun r s' hq => ?_)
  cases r with
  | error e => exact hx σ pins H2 s2 e s' I2 hq
  | ok fl =>
    cases fl with
    | ret u => exact I2.after hq
    | next => exact False.elim hq
    | brk => exact False.elim hq
    | cont => exact False.elim hq
end
end HX
set_option Elab.async false
set_option linter.all false
set_option maxRecDepth 100000
/-! the least one from a place on -/
namespace MN
open PySem TV FM FC FI
def LeastOne (n : Int) (p q : Nat) : Prop := p ≤ q ∧ tb n q = true ∧ ∀ j, p ≤ j → j < q → tb n j = false
theorem LeastOne.uniq {n : Int} {p q r : Nat} (h : LeastOne n p q) (g : LeastOne n p r) : q = r := by
  rcases Nat.lt_trichotomy q r with z | z | z
  · have := g.2.2 q h.1 z
    rw [h.2.1] at this
    cases this
  · exact z
  · have := h.2.2 r g.1 z
    rw [g.2.1] at this
    cases this
theorem tb_step (n : Int) (p : Nat) (h : p + 1 ∉ turnsOf n) : tb n (p + 1) = tb n p := by
  have := mt (mem_tb (turnsOf_asc n) (p + 1)).mpr h
  rw [turnsOf_tv, if_neg (by omega)] at this
  have e : p + 1 - 1 = p := rfl
  rw [e] at this
  revert this
  cases tb n (p + 1) <;> cases tb n p <;> simp
theorem tb_flip (n : Int) (p : Nat) (h : p + 1 ∈ turnsOf n) : tb n (p + 1) = !tb n p := by
  have := (mem_tb (turnsOf_asc n) (p + 1)).mp h
  rw [turnsOf_tv, if_neg (by omega)] at this
  have e : p + 1 - 1 = p := rfl
  rw [e] at this
  revert this
  cases tb n (p + 1) <;> cases tb n p <;> simp
theorem same_between {n : Int} {p : Nat} : ∀ m : Nat, (∀ t ∈ turnsOf n, ¬ (p < t ∧ t ≤ p + m)) → tb n (p + m) = tb n p
  | 0, _ => rfl
  | m + 1, h => by
    rw [show p + (m + 1) = (p + m) + 1 from rfl, tb_step n (p + m) fun z => h _ z ⟨by omega, by omega⟩]
    exact same_between m fun t ht z => h t ht ⟨z.1, by omega⟩
theorem least_turn {n : Int} {p t : Nat} (h0 : tb n p = false) (ht : t ∈ turnsOf n) (hlt : p < t) (hno : ∀ u ∈ turnsOf n, p < u → t ≤ u) : LeastOne n p t := by
  have low : ∀ j, p ≤ j → j < t → tb n j = false := fun j h1 h2 => by
    obtain ⟨m, rfl⟩ : ∃ m, j = p + m := ⟨j - p, by omega⟩
    rw [same_between m fun u hu z => by have := hno u hu z.1; omega]
    exact h0
  refine ⟨by omega, ?_, low⟩
  obtain ⟨s, rfl⟩ : ∃ s, t = s + 1 := ⟨t - 1, by omega⟩
  rw [tb_flip n s ht, low s (by omega) (by omega)]
  rfl
theorem none_after {n : Int} {p : Nat} (h0 : tb n p = false) (h : ∀ t ∈ turnsOf n, t ≤ p) : ∀ j, p ≤ j → tb n j = false := fun j hj => by
  obtain ⟨m, rfl⟩ : ∃ m, j = p + m := ⟨j - p, by omega⟩
  rw [same_between m fun u hu z => by have := h u hu; omega]
  exact h0
end MN
set_option linter.all false
/-! ones below a place, by the turns (plain mathematics) -/
namespace MP
open PySem TV FM
/-- s * t0 - s * t1 + .. -/
def alt : Int → List Nat → Int
  | _, [] => 0
  | s, t :: r => s * t + alt (-s) r
theorem alt_snoc : ∀ (r : List Nat) (s : Int) (a : Nat), alt s (r ++ [a]) = alt s r + (if r.length % 2 = 0 then s * a else -(s * a))
  | [], s, a => by
    show s * a + 0 = 0 + (if (0 : Nat) % 2 = 0 then s * a else -(s * a))
    rw [if_pos (by decide)]
    omega
  | t :: r, s, a => by
    show s * t + alt (-s) (r ++ [a]) = s * t + alt (-s) r + _
    rw [alt_snoc r (-s) a, List.length_cons, Int.neg_mul]
    by_cases h : r.length % 2 = 0
    · rw [if_pos h, if_neg (by omega)]
      omega
    · rw [if_neg h, if_pos (by omega)]
      omega
def low (ts : List Nat) (p : Nat) : List Nat := ts.filter fun t => decide (t < p)
/-- how many ones below p -/
def onesB (n : Int) : Nat → Nat
  | 0 => 0
  | p + 1 => onesB n p + (if tb n p then 1 else 0)
def rowsB (ts : List Nat) (p : Nat) : List Nat := low ts p ++ (if (low ts p).length % 2 = 1 then [p] else [])
theorem low_zero (ts : List Nat) : low ts 0 = [] := by
  unfold low
  rw [List.filter_eq_nil_iff]
  intro t _
  simp
theorem low_len (ts : List Nat) (p : Nat) : (low ts (p + 1)).length = cnt ts p := by
  unfold low cnt
  rw [← List.countP_eq_length_filter]
  congr 1
  funext t
  exact decide_eq_decide.mpr (by omega)
theorem low_step : ∀ {ts : List Nat}, Asc ts → ∀ p : Nat, low ts (p + 1) = low ts p ++ (if p ∈ ts then [p] else [])
  | [], _, p => by simp [low]
  | t :: r, h, p => by
    have ih := low_step (ts := r) h.tail p
    have hgt : ∀ x ∈ r, t < x := fun x hx => Asc.lt h x hx
    have nil : ∀ q, q ≤ t → low r q = [] := fun q hq => by
      unfold low
      rw [List.filter_eq_nil_iff]
      intro x hx
      have := hgt x hx
      simp
      omega
    unfold low at *
    rw [List.filter_cons, List.filter_cons]
    by_cases h1 : t < p
    · rw [if_pos (by simp; omega), if_pos (by simpa using h1), ih, List.cons_append]
      have : (p ∈ t :: r) ↔ p ∈ r := by
        rw [List.mem_cons]
        constructor
        · rintro (z | z)
          · omega
          · exact z
        · exact .inr
      by_cases h2 : p ∈ r
      · rw [if_pos h2, if_pos (this.mpr h2)]
      · rw [if_neg h2, if_neg fun z => h2 (this.mp z)]
    · by_cases h2 : t = p
      · subst h2
        have e1 := nil t (Nat.le_refl _)
        rw [if_pos (by simp), if_neg (by simp), e1, if_pos (by simp), ih, e1]
        have : ¬ t ∈ r := fun z => by
          have := hgt t z
          omega
        rw [if_neg this]
        rfl
      · have hp : p < t := by omega
        have e1 := nil p (by omega)
        have e2 := nil (p + 1) (by omega)
        have : ¬ p ∈ t :: r := fun z => by
          rcases List.mem_cons.mp z with z | z
          · omega
          · have := hgt p z
            omega
        rw [if_neg (by simp; omega), if_neg (by simpa using h1), e1, e2, if_neg this]
        rfl
theorem rows_sum {ts : List Nat} (h : Asc ts) : ∀ p : Nat, alt (-1) (rowsB ts p) = (onesB (tv ts) p : Nat)
  | 0 => by
    unfold rowsB
    rw [low_zero]
    rfl
  | p + 1 => by
    have ih := rows_sum h p
    have hl := low_len ts p
    have hs := low_step h p
    have hb : tb (tv ts) p = decide ((low ts (p + 1)).length % 2 = 1) := by rw [hl]; exact tb_tv p h
    show alt (-1) (rowsB ts (p + 1)) = ((onesB (tv ts) p + (if tb (tv ts) p then 1 else 0) : Nat) : Int)
    rw [hb]
    unfold rowsB at ih ⊢
    by_cases hp : p ∈ ts
    · rw [if_pos hp] at hs
      have hl2 : (low ts (p + 1)).length = (low ts p).length + 1 := by rw [hs]; simp
      by_cases he : (low ts p).length % 2 = 1
      · rw [if_pos he, alt_snoc, if_neg (by omega)] at ih
        rw [if_neg (by omega), decide_eq_false (by omega), List.append_nil, hs, alt_snoc, if_neg (by omega)]
        simp
        omega
      · rw [if_neg he, List.append_nil] at ih
        rw [if_pos (by omega), decide_eq_true (by omega), alt_snoc, if_neg (by omega), hs, alt_snoc, if_pos (by omega)]
        simp
        omega
    · rw [if_neg hp, List.append_nil] at hs
      rw [hs]
      by_cases he : (low ts p).length % 2 = 1
      · rw [if_pos he, alt_snoc, if_neg (by omega)] at ih
        rw [if_pos he, decide_eq_true he, alt_snoc, if_neg (by omega)]
        simp
        omega
      · rw [if_neg he, List.append_nil] at ih
        rw [if_neg he, decide_eq_false he, List.append_nil]
        simp
        omega
theorem tb_not (n : Int) (p : Nat) : tb (-n - 1) p = !tb n p := by
  unfold tb
  have hp : (0 : Int) < 2 ^ p := Int.pow_pos (by decide)
  have e : (-n - 1) / 2 ^ p = -(n / 2 ^ p) - 1 := by
    have h1 := Int.mul_ediv_add_emod n (2 ^ p)
    have h2 := Int.emod_nonneg n (Int.ne_of_gt hp)
    have h3 := Int.emod_lt_of_pos n hp
    generalize n / 2 ^ p = q at *
    generalize n % 2 ^ p = r at *
    have : -n - 1 = (-q - 1) * 2 ^ p + (2 ^ p - 1 - r) := by
      rw [← h1, Int.sub_mul, Int.neg_mul, Int.mul_comm (2 ^ p)]
      omega
    rw [this, Int.add_comm, Int.add_mul_ediv_right _ _ (Int.ne_of_gt hp), Int.ediv_eq_zero_of_lt (by omega) (by omega)]
    omega
  rw [e]
  generalize n / 2 ^ p = q
  rw [← decide_not]
  exact decide_eq_decide.mpr (by omega)
theorem ones_not (n : Int) : ∀ p : Nat, onesB (-n - 1) p + onesB n p = p
  | 0 => rfl
  | p + 1 => by
    have ih := ones_not n p
    show onesB (-n - 1) p + (if tb (-n - 1) p then 1 else 0) + (onesB n p + (if tb n p then 1 else 0)) = p + 1
    rw [tb_not]
    cases tb n p <;> simp <;> omega
theorem ones_le (n : Int) : ∀ p : Nat, onesB n p ≤ p
  | 0 => Nat.le_refl _
  | p + 1 => by
    have := ones_le n p
    show onesB n p + _ ≤ p + 1
    split <;> omega
end MP
set_option Elab.async false
set_option linter.all false
set_option maxRecDepth 100000
/-! how many integers below n have a one at a place -/
namespace MH
open PySem TV FM FC FI
theorem mod_bits (n : Int) (k q : Nat) : tb (n % 2 ^ k) q = (decide (q < k) && tb n q) := by
  have hk : (0 : Int) < 2 ^ k := Int.pow_pos (by decide)
  have hq : (0 : Int) < 2 ^ q := Int.pow_pos (by decide)
  have h1 := Int.emod_nonneg n (Int.ne_of_gt hk)
  have h2 := Int.emod_lt_of_pos n hk
  by_cases h : q < k
  · rw [decide_eq_true h, Bool.true_and]
    obtain ⟨m, rfl⟩ : ∃ m, k = q + (m + 1) := ⟨k - q - 1, by omega⟩
    have e : n / 2 ^ q = 2 * (2 ^ m * (n / 2 ^ (q + (m + 1)))) + n % 2 ^ (q + (m + 1)) / 2 ^ q := by
      have e1 : n = n % 2 ^ (q + (m + 1)) + 2 ^ q * (2 * (2 ^ m * (n / 2 ^ (q + (m + 1))))) := by
        have e2 : (2 : Int) ^ q * (2 * (2 ^ m * (n / 2 ^ (q + (m + 1))))) = 2 ^ (q + (m + 1)) * (n / 2 ^ (q + (m + 1))) := by
          rw [Int.pow_add 2 q (m + 1), Int.pow_succ 2 m, Int.mul_assoc, Int.mul_comm (2 ^ m) 2, Int.mul_assoc]
        rw [e2, Int.emod_add_mul_ediv]
      calc n / 2 ^ q = (n % 2 ^ (q + (m + 1)) + 2 ^ q * (2 * (2 ^ m * (n / 2 ^ (q + (m + 1)))))) / 2 ^ q := by rw [← e1]
        _ = _ := by rw [Int.add_mul_ediv_left _ _ (Int.ne_of_gt hq), Int.add_comm]
    unfold tb
    rw [e]
    exact decide_eq_decide.mpr (by omega)
  · rw [decide_eq_false h, Bool.false_and]
    unfold tb
    have : n % 2 ^ k / 2 ^ q = 0 := by
      refine Int.ediv_eq_zero_of_lt h1 (Int.lt_of_lt_of_le h2 ?_)
      have := Nat.pow_le_pow_right (n := 2) (by decide) (show k ≤ q by omega)
      exact_mod_cast this
    rw [this]
    rfl
theorem mask_bits (k q : Nat) : tb (2 ^ k - 1) q = decide (q < k) := by
  have hk : (0 : Int) < 2 ^ k := Int.pow_pos (by decide)
  have e : ((-1 : Int)) % 2 ^ k = 2 ^ k - 1 := by
    have : (-1 : Int) = (2 ^ k - 1) + 2 ^ k * (-1) := by omega
    rw [this, Int.add_mul_emod_self_left, Int.emod_eq_of_lt (by omega) (by omega)]
  rw [← e, mod_bits, tb_neg1, Bool.and_true]
theorem and_mask (n : Int) (k q : Nat) : tb (n % 2 ^ k) q = (tb n q && tb (2 ^ k - 1) q) := by
  rw [mod_bits, mask_bits, Bool.and_comm]
def hbf (n : Int) (p : Nat) : Int := n / 2 ^ (p + 1) * 2 ^ p + (if n % 2 ^ (p + 1) - 2 ^ p < 0 then 0 else n % 2 ^ (p + 1) - 2 ^ p)
theorem tb_mod (n : Int) (p : Nat) : tb n p = decide (2 ^ p ≤ n % 2 ^ (p + 1)) := by
  have hp : (0 : Int) < 2 ^ p := Int.pow_pos (by decide)
  have hk : (0 : Int) < 2 ^ (p + 1) := Int.pow_pos (by decide)
  have h1 := Int.emod_nonneg n (Int.ne_of_gt hk)
  have h2 := Int.emod_lt_of_pos n hk
  have e : tb n p = tb (n % 2 ^ (p + 1)) p := by rw [mod_bits, decide_eq_true (Nat.lt_succ_self p), Bool.true_and]
  rw [e]
  revert h1 h2
  generalize n % 2 ^ (p + 1) = r
  rw [Int.pow_succ]
  intro h1 h2
  unfold tb
  by_cases h : 2 ^ p ≤ r
  · have : r / 2 ^ p = 1 := by
      have : r = (r - 2 ^ p) + 2 ^ p * 1 := by omega
      rw [this, Int.add_mul_ediv_left _ _ (Int.ne_of_gt hp), Int.ediv_eq_zero_of_lt (by omega) (by omega)]
      rfl
    rw [this, decide_eq_true h]
    rfl
  · have : r / 2 ^ p = 0 := Int.ediv_eq_zero_of_lt h1 (by omega)
    rw [this, decide_eq_false h]
    rfl
theorem hbf_succ (n : Int) (p : Nat) : hbf (n + 1) p = hbf n p + (if tb n p then 1 else 0) := by
  have hp : (0 : Int) < 2 ^ p := Int.pow_pos (by decide)
  have hk : (0 : Int) < 2 ^ (p + 1) := Int.pow_pos (by decide)
  have h0 := Int.mul_ediv_add_emod n (2 ^ (p + 1))
  have h1 := Int.emod_nonneg n (Int.ne_of_gt hk)
  have h2 := Int.emod_lt_of_pos n hk
  have ek : (2 : Int) ^ (p + 1) = 2 * 2 ^ p := by rw [Int.pow_succ]; omega
  rw [tb_mod]
  unfold hbf
  by_cases hl : n % 2 ^ (p + 1) + 1 < 2 ^ (p + 1)
  · have e1 : (n + 1) / 2 ^ (p + 1) = n / 2 ^ (p + 1) ∧ (n + 1) % 2 ^ (p + 1) = n % 2 ^ (p + 1) + 1 := by
      have : n + 1 = (n % 2 ^ (p + 1) + 1) + 2 ^ (p + 1) * (n / 2 ^ (p + 1)) := by omega
      constructor
      · rw [this, Int.add_mul_ediv_left _ _ (Int.ne_of_gt hk), Int.ediv_eq_zero_of_lt (by omega) hl]
        omega
      · rw [this, Int.add_mul_emod_self_left, Int.emod_eq_of_lt (by omega) hl]
    rw [e1.1, e1.2]
    by_cases hc : 2 ^ p ≤ n % 2 ^ (p + 1)
    · rw [decide_eq_true hc, if_pos rfl, if_neg (show ¬ (n % 2 ^ (p + 1) + 1 - 2 ^ p < 0) by omega), if_neg (show ¬ (n % 2 ^ (p + 1) - 2 ^ p < 0) by omega)]
      omega
    · rw [decide_eq_false hc, if_neg Bool.false_ne_true, if_pos (show n % 2 ^ (p + 1) - 2 ^ p < 0 by omega)]
      by_cases hc2 : n % 2 ^ (p + 1) + 1 - 2 ^ p < 0
      · rw [if_pos hc2]
        omega
      · rw [if_neg hc2]
        omega
  · have e1 : (n + 1) / 2 ^ (p + 1) = n / 2 ^ (p + 1) + 1 ∧ (n + 1) % 2 ^ (p + 1) = 0 := by
      have e2 : n + 1 = 2 ^ (p + 1) * (n / 2 ^ (p + 1) + 1) := by
        rw [Int.mul_add, Int.mul_one]
        omega
      constructor
      · rw [e2, Int.mul_ediv_cancel_left _ (Int.ne_of_gt hk)]
      · rw [e2, Int.mul_emod_right]
    rw [e1.1, e1.2, decide_eq_true (show 2 ^ p ≤ n % 2 ^ (p + 1) by omega), if_pos rfl, if_pos (show (0 : Int) - 2 ^ p < 0 by omega), if_neg (show ¬ (n % 2 ^ (p + 1) - 2 ^ p < 0) by omega), Int.add_mul]
    omega
/-- how many of the next have a one at the place -/
def held (n : Int) (p : Nat) : Nat → Nat
  | 0 => 0
  | m + 1 => held n p m + (if tb (n + m) p then 1 else 0)
theorem held_le (n : Int) (p : Nat) : ∀ m, held n p m ≤ m
  | 0 => Nat.le_refl _
  | m + 1 => by
    have := held_le n p m
    show held n p m + _ ≤ m + 1
    split <;> omega
theorem hbf_held (n : Int) (p : Nat) : ∀ m : Nat, hbf (n + m) p = hbf n p + (held n p m : Nat)
  | 0 => by
    show hbf (n + (0 : Nat)) p = hbf n p + ((0 : Nat) : Int)
    simp
  | m + 1 => by
    rw [show n + ((m + 1 : Nat) : Int) = (n + m) + 1 by omega, hbf_succ, hbf_held n p m]
    show _ = hbf n p + ((held n p m + (if tb (n + m) p then 1 else 0) : Nat) : Int)
    split <;> simp <;> omega
theorem hbf_away (n m : Int) (p : Nat) : hbf (n + 2 ^ (p + 1) * m) p = hbf n p + m * 2 ^ p := by
  have hk : (0 : Int) < 2 ^ (p + 1) := Int.pow_pos (by decide)
  unfold hbf
  rw [Int.add_mul_ediv_left _ _ (Int.ne_of_gt hk), Int.add_mul_emod_self_left, Int.add_mul]
  omega
end MH
set_option Elab.async false
set_option linter.all false
set_option maxRecDepth 100000
/-! the one with a number (kth_one) -/
namespace MK
open PySem TV FM FC FI MN MP PM L2
theorem rgc2 {n : Nat} (h : n ≤ 1000000) : RgC 0 ((n : Nat) : Int) 2 ((n + 1) / 2) := by
  refine ⟨by decide, by decide, ?_, ?_⟩
  · have e : Builtin.Range.rangeSize 0 ((n : Nat) : Int) 2 = ((n + 1) / 2 : Nat) := by
      unfold Builtin.Range.rangeSize
      rw [if_pos (by decide)]
      split <;> omega
    have f : ∀ i : Int, -(2 ^ 62) ≤ i → i < 2 ^ 62 → Builtin.Range.rangeFitsLong i = true := fun i h1 h2 => by
      unfold Builtin.Range.rangeFitsLong
      rw [Bool.and_eq_true, decide_eq_true_eq, decide_eq_true_eq]
      omega
    unfold Builtin.Range.small
    rw [e]
    generalize hh : (((n + 1) / 2 : Nat) : Int) = k
    have hk : 0 ≤ k ∧ k < 2 ^ 40 := by omega
    simp only [f 0 (by decide) (by decide), f (n : Nat) (by omega) (by omega), f 2 (by decide) (by decide), f k (by omega) (by omega), Bool.true_and, Bool.and_true]
    rw [if_pos (by decide), f _ (by omega) (by omega), Bool.or_true]
  · unfold Builtin.Range.rangeSize
    rw [if_pos (by decide)]
    split <;> omega
/-- q is the one number r of n -/
def Kth (n : Int) (r : Nat) (q : Nat) : Prop := tb n q = true ∧ onesB n q = r
theorem ones_mono (n : Int) {p q : Nat} (h : p ≤ q) : onesB n p ≤ onesB n q := by
  obtain ⟨m, rfl⟩ : ∃ m, q = p + m := ⟨q - p, by omega⟩
  clear h
  induction m with
  | zero => exact Nat.le_refl _
  | succ m ih =>
    show _ ≤ onesB n (p + m) + _
    omega
theorem ones_at (n : Int) (q : Nat) (h : tb n q = true) : onesB n (q + 1) = onesB n q + 1 := by
  show onesB n q + (if tb n q then 1 else 0) = _
  rw [if_pos h]
theorem Kth.uniq {n : Int} {r p q : Nat} (h : Kth n r p) (g : Kth n r q) : p = q := by
  rcases Nat.lt_trichotomy p q with z | z | z
  · have h1 := ones_mono n (show p + 1 ≤ q from z)
    rw [ones_at n p h.1, h.2, g.2] at h1
    omega
  · exact z
  · have h1 := ones_mono n (show q + 1 ≤ p from z)
    rw [ones_at n q g.1, h.2, g.2] at h1
    omega
theorem ones_run {n : Int} {a : Nat} : ∀ m : Nat, (∀ j, a ≤ j → j < a + m → tb n j = true) → onesB n (a + m) = onesB n a + m
  | 0, _ => rfl
  | m + 1, h => by
    have := ones_run m fun j h1 h2 => h j h1 (by omega)
    show onesB n (a + m) + (if tb n (a + m) then 1 else 0) = _
    rw [if_pos (h (a + m) (by omega) (by omega)), this]
    omega
theorem zeros_run {n : Int} {a : Nat} : ∀ m : Nat, (∀ j, a ≤ j → j < a + m → tb n j = false) → onesB n (a + m) = onesB n a
  | 0, _ => rfl
  | m + 1, h => by
    have := zeros_run m fun j h1 h2 => h j h1 (by omega)
    show onesB n (a + m) + (if tb n (a + m) then 1 else 0) = _
    rw [if_neg (by rw [h (a + m) (by omega) (by omega)]; exact Bool.false_ne_true), this]
    rfl
theorem cnt_at {ts : List Nat} (hA : Asc ts) {i p : Nat} (hi : i ≤ ts.length) (h1 : ∀ j, j < i → ∀ a, ts[j]? = some a → a ≤ p) (h2 : ∀ b, ts[i]? = some b → p < b) : cnt ts p = i := by
  have e : cnt ts p = cnt (ts.take i) p + cnt (ts.drop i) p := by
    unfold TV.cnt
    rw [← List.countP_append, List.take_append_drop]
  have e1 : cnt (ts.take i) p = i := by
    rw [cnt_all (fun t ht => ?_), List.length_take]
    · omega
    · obtain ⟨j, hj⟩ := List.mem_iff_getElem?.mp ht
      rw [List.getElem?_take] at hj
      split at hj
      · rename_i hlt
        exact h1 j hlt t hj
      · cases hj
  have e2 : cnt (ts.drop i) p = 0 := by
    refine cnt_zero fun t ht => ?_
    by_cases hlt : i < ts.length
    · have hg := h2 ts[i] (List.getElem?_eq_getElem hlt)
      rw [List.drop_eq_getElem_cons hlt] at ht
      rcases List.mem_cons.mp ht with rfl | ht
      · exact hg
      · have : Asc (ts[i] :: ts.drop (i + 1)) := by
          have := asc_pairwise.mp hA
          rw [← List.take_append_drop i ts, List.drop_eq_getElem_cons hlt] at this
          exact asc_pairwise.mpr (List.pairwise_append.mp this).2.1
        have := this.lt t ht
        omega
    · rw [List.drop_of_length_le (by omega)] at ht
      cases ht
  omega
theorem asc_le {ts : List Nat} (hA : Asc ts) {i j a b : Nat} (hij : i ≤ j) (h1 : ts[i]? = some a) (h2 : ts[j]? = some b) : a ≤ b := by
  have hp := asc_pairwise.mp hA
  rw [List.pairwise_iff_getElem] at hp
  obtain ⟨q1, q2⟩ := List.getElem?_eq_some_iff.mp h1
  obtain ⟨q3, q4⟩ := List.getElem?_eq_some_iff.mp h2
  rcases Nat.lt_or_ge i j with z | z
  · have := hp i j q1 q3 z
    rw [q2, q4] at this
    omega
  · have : i = j := by omega
    subst this
    rw [q2] at q4
    omega
theorem asc_ltt {ts : List Nat} (hA : Asc ts) {i j a b : Nat} (hij : i < j) (h1 : ts[i]? = some a) (h2 : ts[j]? = some b) : a < b := by
  have hp := asc_pairwise.mp hA
  rw [List.pairwise_iff_getElem] at hp
  obtain ⟨q1, q2⟩ := List.getElem?_eq_some_iff.mp h1
  obtain ⟨q3, q4⟩ := List.getElem?_eq_some_iff.mp h2
  have := hp i j q1 q3 hij
  rw [q2, q4] at this
  exact this
/-- where the bit is told by the place among the turns -/
theorem bit_at {n : Int} {i p : Nat} (hi : i ≤ (turnsOf n).length) (h1 : i = 0 ∨ ∃ a, (turnsOf n)[i - 1]? = some a ∧ a ≤ p) (h2 : ∀ b, (turnsOf n)[i]? = some b → p < b) : tb n p = decide (i % 2 = 1) := by
  have hA := turnsOf_asc n
  have : cnt (turnsOf n) p = i := by
    refine cnt_at hA hi (fun j hj a ha => ?_) h2
    rcases h1 with h | ⟨b, hb, hbp⟩
    · omega
    · exact Nat.le_trans (asc_le hA (by omega) ha hb) hbp
  have e := tb_tv p hA
  rw [turnsOf_tv, this] at e
  exact e
/-- how many ones are below the run that begins with turn i (M lies beyond all) -/
noncomputable def wOf (n : Int) (M i : Nat) : Nat := onesB n ((turnsOf n).getD i M)
theorem w_zero (n : Int) (M : Nat) : wOf n M 0 = 0 := by
  unfold wOf
  have := zeros_run (n := n) (a := 0) ((turnsOf n).getD 0 M) fun j _ h2 => by
    rw [bit_at (i := 0) (Nat.zero_le _) (.inl rfl) fun b hb => ?_]
    · rfl
    · rw [List.getD_eq_getElem?_getD, hb] at h2
      simpa using h2
  rw [Nat.zero_add] at this
  exact this
theorem w_step {n : Int} {M i a b : Nat} (hM : ∀ t ∈ turnsOf n, t < M) (he : i % 2 = 0) (h1 : (turnsOf n)[i]? = some a) (h2 : (turnsOf n)[i + 1]? = some b) : wOf n M (i + 2) = wOf n M i + (b - a) := by
  have hA := turnsOf_asc n
  have hlt := asc_ltt hA (Nat.lt_succ_self i) h1 h2
  have l2 := (List.getElem?_eq_some_iff.mp h2).1
  unfold wOf
  have e1 : (turnsOf n).getD i M = a := by rw [List.getD_eq_getElem?_getD, h1]; rfl
  rw [e1]
  have r1 := ones_run (n := n) (a := a) (b - a) fun j g1 g2 => by
    rw [bit_at (i := i + 1) (by omega) (.inr ⟨a, h1, g1⟩) fun c hc => ?_]
    · exact decide_eq_true (by omega)
    · rw [h2] at hc
      cases hc
      omega
  rw [show a + (b - a) = b by omega] at r1
  obtain ⟨c, hc, hbc⟩ : ∃ c, (turnsOf n).getD (i + 2) M = c ∧ b < c := by
    cases h3 : (turnsOf n)[i + 2]? with
    | some c =>
      exact ⟨c, by rw [List.getD_eq_getElem?_getD, h3]; rfl, asc_ltt hA (by omega) h2 h3⟩
    | none =>
      exact ⟨M, by rw [List.getD_eq_getElem?_getD, h3]; rfl, hM b (List.mem_of_getElem? h2)⟩
  rw [hc]
  have r2 := zeros_run (n := n) (a := b) (c - b) fun j g1 g2 => by
    rw [bit_at (i := i + 2) (by omega) (.inr ⟨b, h2, g1⟩) fun d hd => ?_]
    · exact decide_eq_false (by omega)
    · rw [List.getD_eq_getElem?_getD, hd] at hc
      have : d = c := hc
      omega
  rw [show b + (c - b) = c by omega] at r2
  rw [r2, r1]
/-- the one is found in this run -/
theorem kth_here {n : Int} {M i a l r : Nat} (he : i % 2 = 0) (h1 : (turnsOf n)[i]? = some a) (h2 : ∀ b, (turnsOf n)[i + 1]? = some b → a + l < b) (hw : wOf n M i + l = r) : Kth n r (a + l) := by
  have l1 := (List.getElem?_eq_some_iff.mp h1).1
  have bits : ∀ j, a ≤ j → j ≤ a + l → tb n j = true := fun j g1 g2 => by
    rw [bit_at (i := i + 1) (by omega) (.inr ⟨a, h1, g1⟩) fun c hc => by have := h2 c hc; omega]
    exact decide_eq_true (by omega)
  refine ⟨bits _ (by omega) (Nat.le_refl _), ?_⟩
  have e1 : (turnsOf n).getD i M = a := by rw [List.getD_eq_getElem?_getD, h1]; rfl
  unfold wOf at hw
  rw [e1] at hw
  rw [ones_run l fun j g1 g2 => bits j g1 (by omega)]
  exact hw
/-- all runs are passed -/
theorem kth_none {n : Int} {M i r l : Nat} (hM : ∀ t ∈ turnsOf n, t < M) (he : i % 2 = 0) (hi : i = (turnsOf n).length) (hw : wOf n M i + l = r) : ∀ q, ¬ Kth n r q := by
  intro q ⟨h1, h2⟩
  have e1 : (turnsOf n).getD i M = M := by rw [List.getD_eq_getElem?_getD, List.getElem?_eq_none (by omega)]; rfl
  unfold wOf at hw
  rw [e1] at hw
  have hq : q < M := by
    apply Nat.lt_of_not_le
    intro hge
    have : tb n q = decide (i % 2 = 1) := by
      refine bit_at (by omega) ?_ fun b hb => ?_
      · by_cases h0 : i = 0
        · exact .inl h0
        · refine .inr ⟨(turnsOf n)[i - 1], List.getElem?_eq_getElem (by omega), ?_⟩
          have := hM (turnsOf n)[i - 1] (List.getElem_mem (by omega))
          omega
      · rw [List.getElem?_eq_none (by omega)] at hb
        cases hb
    rw [this, decide_eq_false (by omega)] at h1
    cases h1
  have h3 := ones_mono n (show q + 1 ≤ M from hq)
  rw [ones_at n q h1] at h3
  omega
end MK
set_option Elab.async false
set_option linter.all false
set_option maxRecDepth 100000
/-! != of lists and tuples whose items are equal by == (own == among them): False -/
namespace GN
open PySem PySem.SeqAt
open AutoSeq1 (wpAny_loadPart')
open MeetsSeq MeetsSeq2 MeetsSeq3 SeqRoads2
open GQ (FinOf ListI call_here)
section
variable {prog : Program} {w : World} {A : Around} {R : Result → Shared → Prop}
theorem ne_loopG (l b : Addr) (N : Nat) (I : Nat → Shared → Prop) (hl : ListI prog w A (fun e s' => R (.error e) s') l b N I)
    (fin : ∀ s, I N s → R (.ok (.ret (.bool false))) s) (k : Nat) :
    ∀ i : Nat, N - i = k → i ≤ N → ∀ s, I i s →
      wpAny (model prog w) A.in1 (Builtin.«list.__eq__.loop» ⟨[.ref l, .ref b, rawInt i, rawInt 3], []⟩) (FinOf prog w A R) (fun e s' => R (.error e) s') s := by
  induction k with
  | zero =>
    intro i hk hi s h
    obtain ⟨items, items2, n, n2, hl1, hb1, hs1, hs2, _⟩ := hl _ _ h
    have hi' : i = N := by omega
    have hR : R (.ok (.ret (.bool false))) s := fin s (hi' ▸ h)
    obtain ⟨hp, g, d, tk, os⟩ := s
    wp_walk using wpAny_loadPart' hl1, wpAny_loadPart' hb1
    have hi1 : items[((i : Nat) : Int).toNat]? = none := by simp; omega
    have hi2 : items2[((i : Nat) : Int).toNat]? = none := by simp; omega
    rw [hi1, hi2]
    wp_walk using wpAny_loadPart' hl1, wpAny_loadPart' hb1
    show R (.ok (.ret (.bool (items.size != items2.size)))) _
    rw [hs1, hs2]
    simpa using hR
  | succ k ih =>
    intro i hk hi s h
    obtain ⟨items, items2, n, n2, hl1, hb1, hs1, hs2, turn⟩ := hl _ _ h
    have hlt : i < items.size := by omega
    have hlt2 : i < items2.size := by omega
    have ht := turn hlt hlt2
    obtain ⟨hp, g, d, tk, os⟩ := s
    wp_walk using wpAny_loadPart' hl1, wpAny_loadPart' hb1
    have hi1 : items[((i : Nat) : Int).toNat]? = some items[i] := by simp [hlt]
    have hi2 : items2[((i : Nat) : Int).toNat]? = some items2[i] := by simp [hlt2]
    have hc : ((i : Int) + 1) = ((i + 1 : Nat) : Int) := by omega
    rw [hi1, hi2]
    refine wpAny_bind (wpAny_mono ht (fun r s2 h2 => ?_) fun _ _ x => x)
    obtain ⟨hr, h2⟩ := h2
    subst hr
    have hrec := ih (i + 1) (by omega) (by omega) s2 h2
    obtain ⟨hp2, g2, d2, tk2, os2⟩ := s2
    wp_walk
    rw [hc]
    exact ⟨plainId_quiet plain_eq_loop _, codeAny_builtin entry_eq_loop (by
      rw [Around.under_plainId plain_eq_loop _]
      exact hrec)⟩
theorem list_neG (l b : Addr) (N : Nat) (I : Nat → Shared → Prop) (hl : ListI prog w A (fun e s' => R (.error e) s') l b N I)
    (fin : ∀ s, I N s → R (.ok (.ret (.bool false))) s) {s : Shared} (h : I 0 s) :
    wpAny (model prog w) A.in1 (Builtin.«list.__ne__» ⟨[.ref l, .ref b], []⟩) (FinOf prog w A R) (fun e s' => R (.error e) s') s := by
  obtain ⟨items, items2, n, n2, hl1, hb1, hs1, hs2, _⟩ := hl _ _ h
  have hrec := ne_loopG (A := A) (R := R) l b N I hl fin _ 0 rfl (Nat.zero_le _) s h
  obtain ⟨hp, g, d, tk, os⟩ := s
  have f3 := AutoSeq1.sub_list_list
  have hne : ¬ (items.size != items2.size) = true := by simp [hs1, hs2]
  wp_walk using wpAny_loadPart' hl1, wpAny_loadPart' hb1
  exact ⟨plainId_quiet plain_eq_loop _, codeAny_builtin entry_eq_loop (by
    rw [Around.under_plainId plain_eq_loop _]
    exact hrec)⟩
theorem tuple_neG (l b : Addr) (items items2 : Array Value) (n n2 : Nat) (dd dd2 : Option Addr) (sl sl2 : Array (Option Value)) (hsz : items.size = items2.size) (I : Nat → Shared → Prop)
    (turn : ∀ i (h1 : i < items.size) (h2 : i < items2.size) s, I i s → wpAny (model prog w) A.in1 (eqBool items[i] items2[i]) (fun r s' => r = true ∧ I (i + 1) s') (fun e s' => R (.error e) s') s)
    (fin : ∀ s, I items.size s → R (.ok (.ret (.bool false))) s) {s : Shared} (hl1 : s.heap.get? l = some { cls := .type "tuple", dict := dd, data := .seq items n, slots := sl }) (hb1 : s.heap.get? b = some { cls := .type "tuple", dict := dd2, data := .seq items2 n2, slots := sl2 }) (h : I 0 s) :
    wpAny (model prog w) A.in1 (Builtin.«tuple.__ne__» ⟨[.ref l, .ref b], []⟩) (FinOf prog w A R) (fun e s' => R (.error e) s') s := by
  have f2 := AutoSeq1.sub_tuple_tuple
  have hZ : (items.toList.zip items2.toList).length = items.size := by simp [hsz]
  have h0 := h
  obtain ⟨hp, g, d, tk, os⟩ := s
  wp_walk using wpAny_loadPart' hl1, wpAny_loadPart' hb1, wpAny_forIn_list _ (fun rest b s' => b.1 = none ∧ ∃ i, rest = (items.toList.zip items2.toList).drop i ∧ i ≤ items.size ∧ I i s') _
  case turn =>
    rintro ⟨y, x⟩ rest b s' ⟨hb', i, hz, hi, hI⟩
    have hlt : i < (items.toList.zip items2.toList).length := by
      rcases Nat.lt_or_ge i (items.toList.zip items2.toList).length with h' | h'
      · exact h'
      · rw [List.drop_of_length_le h'] at hz; cases hz
    have h1 : i < items.size := hZ ▸ hlt
    have h2 : i < items2.size := hsz ▸ h1
    rw [List.drop_eq_getElem_cons hlt] at hz
    injection hz with hyx hrest
    have hy : y = items[i] := by have := congrArg Prod.fst hyx; simpa using this
    have hx : x = items2[i] := by have := congrArg Prod.snd hyx; simpa using this
    subst hy hx
    refine wpAny_bind (wpAny_mono (turn i h1 h2 s' hI) (fun r s2 q2 => ?_) fun _ _ x => x)
    obtain ⟨hr, q2⟩ := q2
    subst hr
    wp_walk
    exact ⟨rfl, i + 1, hrest, h1, q2⟩
  case fin =>
    rintro ⟨b1, b2⟩ s' ⟨hb', i, hz, hi, hI⟩
    simp only at hb'
    subst hb'
    have hge : items.size ≤ i := by
      rcases Nat.lt_or_ge i (items.toList.zip items2.toList).length with h' | h'
      · rw [List.drop_eq_getElem_cons h'] at hz; cases hz
      · exact hZ ▸ h'
    have hi' : i = items.size := by omega
    have hR : R (.ok (.ret (.bool false))) s' := fin s' (hi' ▸ hI)
    wp_walk
    simpa [Builtin.Tuple.tupleCompareSizes, hsz] using hR
  case h =>
    exact ⟨rfl, 0, rfl, Nat.zero_le _, h0⟩
end
section
variable {prog : Program} {w : World} {A : Around} {E : Value → Shared → Prop} {s : Shared}
theorem rc_neListG {l b : Addr} {N : Nat} {Q : Value → Shared → Prop} (hu : A.units < cLine) (I : Nat → Shared → Prop) (hl : ListI prog w A E l b N I)
    (fin : ∀ s, I N s → Q (.bool false) s) (h : I 0 s) : wpAny (model prog w) A (richCompare .NotEq (.ref l) (.ref b)) Q E s := by
  obtain ⟨items, items2, n, n2, hl1, hb1, _, _, _⟩ := hl _ _ h
  refine wpAny_richCompare_same_room (op := .NotEq) ⟨_, hl1, rfl⟩ ⟨_, hb1, rfl⟩ F.slot_list_ne (call_here F.slot_list_ne ⟨_, hl1, rfl⟩ F.entry_list_ne (F.args_list_ne_2 _ _) ?_) hu
  exact list_neG (R := wants (fun v s' => v ≠ .notImplemented ∧ Q v s') E) l b N I hl (fun s' q => ⟨(fun x => nomatch x), fin s' q⟩) h
theorem rc_neTupG {l b : Addr} {items items2 : Array Value} {Q : Value → Shared → Prop} (hsz : items.size = items2.size) (hu : A.units < cLine) (I : Nat → Shared → Prop)
    (hl : s.heap.IsTuple l items) (hb : s.heap.IsTuple b items2)
    (turn : ∀ i (h1 : i < items.size) (h2 : i < items2.size) s, I i s → wpAny (model prog w) A.in1 (eqBool items[i] items2[i]) (fun r s' => r = true ∧ I (i + 1) s') E s)
    (fin : ∀ s, I items.size s → Q (.bool false) s) (h : I 0 s) : wpAny (model prog w) A (richCompare .NotEq (.ref l) (.ref b)) Q E s := by
  obtain ⟨⟨cls, dd, data, sl⟩, ho, hc, n, hd⟩ := id hl
  obtain ⟨⟨cls2, dd2, data2, sl2⟩, ho2, hc2, n2, hd2⟩ := id hb
  simp only at hc hd hc2 hd2
  subst hc hd hc2 hd2
  refine wpAny_richCompare_same_room (op := .NotEq) ⟨_, ho, rfl⟩ ⟨_, ho2, rfl⟩ F.slot_tuple_ne (call_here F.slot_tuple_ne ⟨_, ho, rfl⟩ F.entry_tuple_ne (F.args_tuple_ne_2 _ _) ?_) hu
  exact tuple_neG (R := wants (fun v s' => v ≠ .notImplemented ∧ Q v s') E) l b items items2 n n2 dd dd2 sl sl2 hsz I turn (fun s' q => ⟨(fun x => nomatch x), fin s' q⟩) ho ho2 h
/-- == inside a builtin, of two values that are not one thing -/
theorem eqBool_valG {a : Addr} {i : Int} {t : Tok} {Q : Bool → Shared → Prop} (h : wpAny (model prog w) A (richCompare .Eq (.ref a) (.int i t)) (fun v s' => ∃ r, v = .bool r ∧ Q r s') E s) : wpAny (model prog w) A (eqBool (.ref a) (.int i t)) Q E s := by
  unfold eqBool
  refine wpAny_holding ?_
  refine wpAny_ite_split (fun hab => absurd (eq_of_beq hab) (by intro z; cases z)) (fun _ => ?_)
  refine wpAny_bind (wpAny_mono h (fun v s' hv => ?_) fun _ _ x => x)
  obtain ⟨r, rfl, q⟩ := hv
  exact wpAny_truthy_bool q
end
end GN
namespace HX
open PySem PySem.Spec PyProof.Rows L2
theorem op_or {X : Cx} {f : Value → Value → Sem Value} {r1 r2 : R2} (h : OpR X f r1) (g : OpR X f r2) : OpR X f (fun x y H Q => r1 x y H Q ∨ r2 x y H Q) := by
  intro pins s σ H x y v u Q I rx ry hq
  rcases hq with hq | hq
  · exact h pins s σ H x y v u Q I rx ry hq
  · exact g pins s σ H x y v u Q I rx ry hq
/-- != gives False for what D says, and only makes objects -/
def RnG (X : Cx) (n : Nat) (D : Eqv) : Prop :=
  ∀ (A : Around) (pins : List (Addr × Obj)) (s : Shared) (σ : L2.St) (H : Hp) (x y : V) (u v : Value), Sub X n A → Inv X pins σ H s → RelV x u → RelV y v → D x y H →
    wpAny (model X.prog X.w) A (richCompare .NotEq u v) (fun r s' => r = .bool false ∧ ∃ H', Inv X pins σ H' s' ∧ Ext H H') X.xe s
section
variable {X : Cx} {n m : Nat} {D D' : Eqv}
theorem rnG_list (hD : Mon D) (h : EqG X n D) : RnG X (n + 1) (DList D) := by
  intro A pins s σ H x y u v sb I rx ry d
  obtain ⟨a, b, xs, ys, rfl, rfl, ha, hb, p⟩ := d
  cases rx
  cases ry
  refine GN.rc_neListG (N := xs.length) sb.room.units0 (fun _ s' => LoopI X pins σ H s') (fun i s' q => ?_) (fun s' q => ⟨rfl, q⟩) ⟨H, I, Ext.rfl'⟩
  obtain ⟨H1, I1, e1⟩ := id q
  obtain ⟨z, its, k, r, e⟩ := I1.hok a _ (e1 _ _ ha)
  obtain ⟨z2, its2, k2, r2, e2⟩ := I1.hok b _ (e1 _ _ hb)
  refine ⟨its.toArray, its2.toArray, k, k2, e, e2, by rw [List.size_toArray, ← r.length], by rw [List.size_toArray, ← r2.length, ← p.1], fun h1 h2 => ?_⟩
  exact turnG hD h sb p r r2 i h1 h2 s' q
theorem rnG_tup (hD : Mon D) (h : EqG X n D) : RnG X (n + 1) (DTup X.K D) := by
  intro A pins s σ H x y u v sb I rx ry d
  obtain ⟨a, b, xs, ys, rfl, rfl, ha, hb, p⟩ := d
  cases rx
  cases ry
  obtain ⟨its, r, e, z⟩ := I.tuple ha
  obtain ⟨its2, r2, e2, z2⟩ := I.tuple hb
  have hsz : its.toArray.size = its2.toArray.size := by rw [List.size_toArray, List.size_toArray, ← r.length, ← r2.length]; exact p.1
  exact GN.rc_neTupG hsz sb.room.units0 (fun _ s' => LoopI X pins σ H s') e e2 (fun i h1 h2 s' q => turnG hD h sb p r r2 i h1 h2 s' q) (fun s' q => ⟨rfl, q⟩) ⟨H, I, Ext.rfl'⟩
/-- an instance of the class at C beside an int or another one: what R says of the two -/
def DOwn (C : Addr) (R : V → V → Hp → Prop) : Eqv := fun x y H => ∃ a dx fs, x = .ref a ∧ H a = some (.ins C dx fs) ∧ Opd C y H ∧ R x y H
theorem mon_own {C : Addr} {R : V → V → Hp → Prop} (hR : ∀ x y H H', Ext H H' → R x y H → R x y H') : Mon (DOwn C R) := fun x y H H' e d => by
  obtain ⟨a, dx, fs, hx, h1, h2, r⟩ := d
  refine ⟨a, dx, fs, hx, e _ _ h1, ?_, hR x y H H' e r⟩
  rcases h2 with ⟨i, h⟩ | ⟨b, dy, gs, h, h'⟩
  · exact .inl ⟨i, h⟩
  · exact .inr ⟨b, dy, gs, h, e _ _ h'⟩
/-- what the own == promises of an instance and a number -/
def spEqN (R : V → V → Hp → Prop) : Sp := fun vs H Q _ => ∃ x y, vs = [x, y] ∧ R x y H ∧ ∀ H', Ext H H' → Q (.bl true) H'
theorem rcG_own {CX : CXT} {C g : Addr} {fd : FuncData} {ps : List Str} {R : V → V → Hp → Prop} {E : XK} (O : CmpOwn X.K C .Eq g) (F : FnOk X.prog X.w X.K X.mg X.base CX n g fd ps (spEqN R))
    (hb : L2.Binds X.K fd ps []) (hx : Passes CX X E) : RcG X n (DOwn C R) := by
  intro A pins s σ H x y u v sb I rx ry d
  obtain ⟨a, dx, fs, rfl, ha, hy, hr⟩ := d
  cases (show u = Value.ref a from rx)
  obtain ⟨mA, OM, _⟩ := ins_get I.hok ha
  obtain ⟨od, J, _⟩ := OM.look
  obtain ⟨m, hF⟩ := I.fr
  have hsp : spEqN R [.ref a, y] H (fun v H' => v = .bl true ∧ Ext H H') E := ⟨_, _, rfl, hr, fun H' e => ⟨rfl, e⟩⟩
  have e0 : Env0 X.prog X.w X.K X.mg X.base A X.stack s H := by
    have e := I.env0
    exact ⟨by rw [sb.fr]; exact e.frames, e.mod, e.bs, e.bsz, e.funs, e.frf, e.hok, e.bare⟩
  have hl := F.len _ _ _ _ hsp
  have r2 : Vals [V.ref a, y] [Value.ref a, v] := .cons rfl (.cons ry .nil)
  have go : wpAny (model X.prog X.w) A (call (.ref g) [.ref a, v]) (PySem.W.CmpBack (fun r s' => r = .bool true ∧ ∃ H', Inv X pins σ H' s' ∧ Ext H H')) X.xe s := by
    refine wpAny_call (codeAny_mono (F.run A X.stack s H ⟨[.ref a, v], []⟩ [.ref a, v] [.ref a, y] _ E sb.room e0 (by
      have := hb s [.ref a, v] I.kIn (by simpa using hl)
      simpa using this) r2 hsp) fun r s' hq => ?_)
    cases r with
    | error e => exact hx pins σ H s e s' I hq
    | ok fl =>
      cases fl with
      | ret w =>
        obtain ⟨z, H', I', rz, ez, ex⟩ := I.after hq
        subst ez
        cases rz
        exact ⟨rfl, H', I', ex⟩
      | next => exact False.elim hq
      | brk => exact False.elim hq
      | cont => exact False.elim hq
  rcases hy with ⟨i, rfl⟩ | ⟨b, dy, gs, rfl, hb'⟩
  · obtain ⟨t, e⟩ := (show ∃ t, v = Value.int i t from ry)
    subst e
    exact PySem.W.cmp_K (op := .Eq) (tb := .type "int") sb.room.units0 hF I.ok.mod.kin J (PySem.W.Looks.of_pure rfl) O.nI O.hs O.hf go
  · cases (show v = Value.ref b from ry)
    obtain ⟨mB, OB, _⟩ := ins_get I.hok hb'
    obtain ⟨od', J', _⟩ := OB.look
    exact PySem.W.cmp_K (op := .Eq) (tb := .ref C) sb.room.units0 hF I.ok.mod.kin J J'.type O.nC O.hs O.hf go
theorem eqG_own {CX : CXT} {C g : Addr} {fd : FuncData} {ps : List Str} {R : V → V → Hp → Prop} {E : XK} (O : CmpOwn X.K C .Eq g) (F : FnOk X.prog X.w X.K X.mg X.base CX n g fd ps (spEqN R))
    (hb : L2.Binds X.K fd ps []) (hx : Passes CX X E) : EqG X n (DOwn C R) := by
  have h := rcG_own O F hb hx
  intro A pins s σ H x y u v sb I rx ry d
  have d' := d
  obtain ⟨a, dx, fs, rfl, ha, hy, hr⟩ := d
  cases (show u = Value.ref a from rx)
  rcases hy with ⟨i, rfl⟩ | ⟨b, dy, gs, rfl, hb'⟩
  · obtain ⟨t, e⟩ := (show ∃ t, v = Value.int i t from ry)
    subst e
    refine GN.eqBool_valG (wpAny_mono (h A pins s σ H (.ref a) (.int i) _ _ sb I rfl ⟨t, rfl⟩ d') (fun r s' q => ?_) fun _ _ x => x)
    obtain ⟨hr', q⟩ := q
    exact ⟨true, hr', rfl, q⟩
  · cases (show v = Value.ref b from ry)
    by_cases hab : a = b
    · subst hab
      exact SeqAt.EqAt.same (A := A) (s := s) (.ref a) X.prog X.w X.xe _ ⟨rfl, H, I, Ext.rfl'⟩
    · refine GQ.eqBool_refG hab (wpAny_mono (h A pins s σ H (.ref a) (.ref b) _ _ sb I rfl rfl d') (fun r s' q => ?_) fun _ _ x => x)
      obtain ⟨hr', q⟩ := q
      exact ⟨true, hr', rfl, q⟩
/-- x != y as an expression, of what is equal -/
def rNeG (D : Eqv) : R2 := fun x y H Q => D x y H ∧ ∀ H', Ext H H' → Q (.bl false) H'
theorem op_neG (h : RnG X n D) (hr : Room n X.A) : OpR X (compareOp .NotEq) (rNeG D) := by
  intro pins s σ H x y v u Q I rx ry hq
  obtain ⟨d, q⟩ := hq
  show wpAny (model X.prog X.w) X.A (richCompare .NotEq v u) (EP X pins σ Q) X.xe s
  refine wpAny_mono (h X.A pins s σ H x y v u ⟨hr, rfl⟩ I rx ry d) (fun r s' z => ?_) fun _ _ x => x
  obtain ⟨hr', H', I', e⟩ := z
  subst hr'
  exact ⟨.bl false, H', I', rfl, q H' e⟩
theorem RnG.or (h : RnG X n D) (h' : RnG X n D') : RnG X n (fun x y H => D x y H ∨ D' x y H) := fun A pins s σ H x y u v sb I rx ry d => by
  rcases d with d | d
  · exact h A pins s σ H x y u v sb I rx ry d
  · exact h' A pins s σ H x y u v sb I rx ry d
end
end HX
set_option Elab.async false
set_option linter.all false
set_option maxRecDepth 100000
/-! a list of objects != an empty list; a list and its copy -/
namespace HX
open PySem PySem.Spec PyProof.Rows L2
section
variable {X : Cx} {n : Nat}
theorem op_neLen (hu : X.A.units < cLine) : OpR X (compareOp .NotEq) (fun x y H Q => ∃ a b xs ys, x = .ref a ∧ y = .ref b ∧ H a = some (.lst xs) ∧ H b = some (.lst ys) ∧ xs.length ≠ ys.length ∧ Q (.bl true) H) := by
  intro pins s σ H x y v u Q I rx ry h
  obtain ⟨a, b, xs, ys, rfl, rfl, ha, hb, hl, q⟩ := h
  cases rx
  cases ry
  obtain ⟨its, r, pl, hz⟩ := I.list (.inl (.inl ha))
  obtain ⟨its2, r2, pl2, hz2⟩ := I.list (.inl (.inl hb))
  have hsz : (its.toArray.size != its2.toArray.size) = true := by
    rw [List.size_toArray, List.size_toArray, ← r.length, ← r2.length]
    simpa using hl
  show wpAny (model X.prog X.w) X.A (richCompare .NotEq (.ref a) (.ref b)) (EP X pins σ Q) X.xe s
  exact SeqAt.RcNeAt.lists_lengths pl.isList pl2.isList hsz hu X.prog X.w X.xe _ ⟨.bl _, H, I, rfl, q⟩
/-- nothing -/
def DNo : Eqv := fun _ _ _ => False
theorem mon_no : Mon DNo := fun _ _ _ _ _ d => d
theorem eqG_no : EqG X 0 DNo := fun _ _ _ _ _ _ _ _ _ _ _ _ _ d => d.elim
/-- one and the same object, or equal flat values -/
def DSame : Eqv := fun x y H => DFlat x y H ∨ ∃ a, x = .ref a ∧ y = .ref a
theorem mon_same : Mon DSame := fun x y H H' e d => d
theorem eqG_same : EqG X 0 DSame := EqG.or eqG_flat fun A pins s σ H x y u v sb I rx ry d => by
  obtain ⟨a, rfl, rfl⟩ := d
  cases rx
  cases ry
  exact SeqAt.EqAt.same (A := A) (s := s) (.ref a) X.prog X.w X.xe _ ⟨rfl, H, I, Ext.rfl'⟩
end
end HX
set_option Elab.async false
set_option linter.all false
set_option maxRecDepth 100000
set_option pp.deepTerms false
set_option pp.maxSteps 1500
namespace K37
open PySem PySem.Spec PyProof.Rows L2 HX TV FM DX FB FC PM
local macro_rules | `(tactic| walk_at "r") => `(tactic| (repeat (first | refine Exists.intro _ (And.intro rfl ?_) | refine And.intro rfl ?_ | refine Exists.intro _ (Exists.intro _ (And.intro rfl (And.intro rfl ?_))) | refine And.intro (by omega) ?_ | refine And.intro (Or.inl (And.intro (by omega) (by omega))) ?_ | refine And.intro (Or.inr (And.intro (by omega) (by omega))) ?_ | refine And.intro (And.intro (by omega) (by omega)) ?_ | refine And.intro (And.intro (by decide) (And.intro (by decide) (by decide))) ?_ | refine Or.inl (Exists.intro _ (And.intro rfl ?_)) | (dsimp only [gName]; first | with_reducible refine seqC ?_ | with_reducible refine asgC ?_))))
local macro_rules | `(tactic| walk_at "s") => `(tactic| (repeat (first | refine Exists.intro _ (And.intro rfl ?_) | refine And.intro rfl ?_ | refine Exists.intro _ (Exists.intro _ (And.intro rfl (And.intro rfl ?_))) | refine And.intro (by omega) ?_ | refine And.intro (Or.inl (And.intro (by omega) (by omega))) ?_ | refine And.intro (Or.inr (And.intro (by omega) (by omega))) ?_ | refine And.intro (And.intro (by omega) (by omega)) ?_ | refine And.intro (And.intro (by decide) (And.intro (by decide) (by decide))) ?_ | refine Or.inl (Exists.intro _ (And.intro rfl ?_)) | refine Exists.intro _ (Exists.intro _ (And.intro rfl ?_)) | (dsimp only [gName]; first | with_reducible refine seqC ?_ | with_reducible refine asgC ?_))))
section
variable {P : Program} {w : World} {K : PySem.W.Frag} {mg : Str → Option Value} {base : Heap}
theorem bitsP (t : Nat) : Builtin.Int.intBits ((2 : Int) ^ t) = t + 1 := by
  have e : ((2 : Int) ^ t).natAbs = 2 ^ t := by rw [Int.natAbs_pow]; rfl
  have hp : 2 ^ t ≠ 0 := Nat.pos_iff_ne_zero.mp (Nat.pow_pos (by decide))
  unfold Builtin.Int.intBits
  split
  · rename_i h
    rw [show (2 : Int) ^ t = 0 by simpa using h] at e
    exact absurd e.symm hp
  · rw [e, Nat.log2_two_pow]
theorem turnsIn {n : Int} {k : Nat} (h1 : -(2 ^ k) ≤ n) (h2 : n < 2 ^ k) : ∃ ts, Asc ts ∧ tv ts = n ∧ (∀ t ∈ ts, t ≤ k) ∧ ts.length ≤ k + 1 := by
  obtain ⟨ts, hA, e⟩ := turns_ex n
  subst e
  have hb := (tv_range hA).mpr ⟨h1, h2⟩
  exact ⟨ts, hA, rfl, hb, asc_len (a := 0) hA fun t ht => ⟨Nat.zero_le _, hb t ht⟩⟩
/-- the turns of an int as a tuple -/
def sp_toi (K : PySem.W.Frag) : Sp := fun vs H Q _ => ∃ (n : Int) (k : Nat), vs = [.int n] ∧ k ≤ 900000 ∧ -(2 ^ k) ≤ n ∧ n < 2 ^ k ∧
  ∀ (ts : List Nat) l H', Asc ts → tv ts = n → (∀ t ∈ ts, t ≤ k) → ts.length ≤ k + 1 → Same H H' → H' l = some (.tup (nv ts)) → Q (.ref l) H'
theorem ok_turns_of_int (T : Top K mg) {k : Nat} : FnOk P w K mg base CX0 (k + 1) T.f_turns_of_int T.fd_turns_of_int ["number"]  (sp_toi K) := by
  refine T.F_turns_of_int.ok sc_turns_of_int (fun vs H Q E h => ?_) (fun cdv A outer s H vs Q E hr h => ?_)
  · obtain ⟨n, _, rfl, _⟩ := h
    rfl
  · obtain ⟨n, kb, rfl, hk, hn1, hn2, q⟩ := h
    obtain ⟨ts, hA, hn, hb, hlen⟩ := turnsIn hn1 hn2
    replace q := fun l H' => q ts l H' hA hn hb hlen
    refine ⟨_, (pss_cons (ps_set (i := 1) sc_turns_of_int.nd rfl (Or.inl rfl) (pe_op op_xor (pv 0) (pe_op op_shlN (pv 0) pe_int)))
    (pss_cons (ps_set (i := 2) sc_turns_of_int.nd rfl (Or.inl rfl) (pe_lst pa_nil))
    (pss_cons (ps_while PassesOwn.never (pt_cmpR op_gt (pv 1) pe_int (nomark _))
      (pss_cons (ps_set (i := 3) sc_turns_of_int.nd rfl (Or.inl rfl) (pe_op op_and (pv 1) (pe_un un_neg (pv 1))))
      (pss_cons (ps_expr (pe_bm PySem.F.plainAttrs_list PySem.F.slot_list_append PySem.F.type_list_append mt_append (pv 2) (pa_cons (pe_op op_sub (pe_bits (pe_callTy call_int1 (by rfl) T.m_int (by decide +kernel) (pa_cons (pv 3) pa_nil))) pe_int) pa_nil)))
      (pss_one (ps_set (i := 1) sc_turns_of_int.nd rfl (Or.inl rfl) (pe_op op_xor (pv 1) (pv 3)))))))
    (pss_one (ps_ret (pe_callTy call_tuple_of (by rfl) T.m_tuple (by decide +kernel) (pa_cons (pv 2) pa_nil))))))), ?_⟩
    walk_at "r"
    have hbits := intBits_le hn1 (Int.le_of_lt hn2)
    refine ⟨⟨by decide, by show (Builtin.Int.intBits n : Int) + 1 ≤ 2 ^ 27; omega⟩, ?_⟩
    walk_at "r"
    refine ⟨Nat.zero_le _, fun l nl => ?_⟩
    refine ⟨fun m σ H' => ∃ (pre post : List Nat) (z : Option V), σ = [some (.int n), some (.int (psum post)), some (.ref l), z] ∧ ts = pre ++ post ∧ post.length ≤ m ∧ Same H H' ∧ H' l = some (.lst (nv pre)),
      ⟨ts.length, [], ts, none, ?_, rfl, Nat.le_refl _, sm_upd nl, upd_same⟩, ?_⟩
    · show [some (V.int n), some (V.int (Builtin.bitXor n (n * 2))), some (V.ref l), none] = _
      rw [← hn, marks hA]
    rintro m σ H' ⟨pre, post, z, rfl, ets, hm, sm, el⟩
    walk_at "r"
    refine ifD (fun hc => wb fun D' B => ?_) (fun hc => ?_)
    · cases post with
      | nil => exact absurd hc (by decide)
      | cons t r =>
        have hA2 : Asc (t :: r) := (asc_app (ets ▸ hA)).2
        walk_at "r"
        simp only [low_mark hA2]
        refine ⟨.inl ⟨rfl, _, .inl (.inl el)⟩, ?_⟩
        walk_at "r"
        simp only [bitsP]
        refine ⟨_, _, _, rfl, rfl, el, ?_, ?_⟩
        · rw [nv_len]
          have : ts.length = pre.length + (r.length + 1) := by rw [ets]; simp
          exact len_lt (by omega)
        walk_at "r"
        refine B.nx _ _ ⟨r.length, by simp at hm; omega, pre ++ [t], r, some (.int (2 ^ t)), ?_, ?_, Nat.le_refl _, sm_mut sm nl, ?_⟩
        · show [some (V.int n), some (V.int (Builtin.bitXor (psum (t :: r)) (2 ^ t))), some (V.ref l), some (V.int (2 ^ t))] = _
          rw [off_mark hA2]
        · rw [ets]
          simp
        · rw [upd_same, nv_app]
          have e : ((t + 1 : Nat) : Int) - 1 = ((t : Nat) : Int) := by omega
          rw [← e]
    · cases post with
      | nil =>
        walk_at "r"
        rw [List.append_nil] at ets
        refine ⟨l, _, rfl, .inl ⟨.inl (.inl el), fun r nr => ?_⟩⟩
        refine q r _ (sm.trans (sm_upd nr)) ?_
        rw [upd_same, ets]
      | cons t r => exact absurd psum_pos hc
/-- the turns of a form -/
def sp_trn (K : PySem.W.Frag) : Sp := fun vs H Q _ => ∃ (v : V) (d : PyData), vs = [v] ∧ Dp K H v d ∧ Fm d ∧
  ∀ (a : Addr) (us : List V) (ds : List PyData) H', FmAll ds → Asc (vals ds) → tv (vals ds) = val d → SqT K H' a us → DpAll K H' us ds → PyData.depthAll ds + 1 ≤ max d.depth 1 → wtAll ds ≤ wt d + 65 →
    ((∃ i, d = .int i) → ∀ t ∈ vals ds, t ≤ 64) → Same H H' → Q (.ref a) H'
theorem ok_turns (T : Top K mg) {k : Nat} : FnOk P w K mg base CX0 (k + 2) T.f_turns T.fd_turns ["x"]  (sp_trn K) := by
  have G_turns_of_int : FnOk P w K mg base CX0 (k + 1) T.f_turns_of_int T.fd_turns_of_int ["number"]  (sp_toi K) := ok_turns_of_int T
  refine T.F_turns.ok sc_turns (fun vs H Q E h => ?_) (fun cdv A outer s H vs Q E hr h => ?_)
  · obtain ⟨v, d, rfl, _⟩ := h
    rfl
  · obtain ⟨v, d, rfl, hD, hF, q⟩ := h
    refine ⟨_, (pss_cons (ps_if (pt_val (pe_callB call_isi (by rfl) T.m_isinstance (by decide +kernel) (pa_cons (pv 0) (pa_cons (pe_bltn (v := .ty "tuple") (by rfl) T.m_tuple (by decide +kernel) rfl) pa_nil))) (fun _ => rfl))
      (pss_one (ps_ret (pv 0)))
      pss_nil)
    (pss_one (ps_ret (pe_call G_turns_of_int (hr.mono (by omega)) (by rfl) T.g_turns_of_int T.F_turns_of_int.kp T.b_turns_of_int .nil pass0 (pa_cons (pv 0) pa_nil))))), ?_⟩
    rcases fm_cases hF with ⟨i, rfl⟩ | ⟨ds, rfl⟩
    · cases hD
      refine ⟨_, rfl, _, _, _, _, false, rfl, .ty "tuple", tyI _, k_it, false, rfl, iteF ?_⟩
      rw [fm_int] at hF
      refine ⟨_, rfl, i, 64, rfl, by decide, hF.1, hF.2, fun ts l H' hA hn hb hl sm hl' => ?_⟩
      refine q l _ (iD ts) H' (fmAll_iD fun t ht => by have := hb t ht; omega) (by rw [vals_iD]; exact hA) (by rw [vals_iD, hn, val_int]) (.inl (.inl hl')) (dp_nv ts) (by rw [depthAll_iD]; omega) (by rw [wtAll_iD, wt_int]; omega) (fun _ => by rw [vals_iD]; exact hb) sm
    · have hF' := (fm_tuple _).mp hF
      cases hD with
      | @tup a xs _ h1 h2 =>
        refine ⟨_, rfl, _, _, _, _, true, rfl, .ty "tuple", tyT h1, k_tt, true, rfl, iteT ?_⟩
        walk_at "r"
        exact q a xs ds H hF'.1 hF'.2.1 (val_tuple ds).symm h1 h2 (by rw [depth_tuple]; omega) (by rw [wt_tuple]; omega) (fun ⟨i, e⟩ => nomatch e) (Same.refl _)
def sp_neg (K : PySem.W.Frag) : Sp := fun vs H Q _ => ∃ (v : V) (d : PyData), vs = [v] ∧ Dp K H v d ∧ Fm d ∧ Q (.bl (decide (val d < 0))) H
theorem ok_negative (T : Top K mg) {k : Nat} : FnOk P w K mg base CX0 (k + 1) T.f_negative T.fd_negative ["x"]  (sp_neg K) := by
  refine T.F_negative.ok sc_negative (fun vs H Q E h => ?_) (fun cdv A outer s H vs Q E hr h => ?_)
  · obtain ⟨v, d, rfl, _⟩ := h
    rfl
  · obtain ⟨v, d, rfl, hD, hF, q⟩ := h
    refine ⟨_, (pss_cons (ps_if (pt_val (pe_callB call_isi (by rfl) T.m_isinstance (by decide +kernel) (pa_cons (pv 0) (pa_cons (pe_bltn (v := .ty "int") (by rfl) T.m_int (by decide +kernel) rfl) pa_nil))) (fun _ => rfl))
      (pss_one (ps_ret (pe_cmpR op_lt (pv 0) pe_int (nomark _))))
      pss_nil)
    (pss_one (ps_ret (pe_cmpR op_eq (pe_op op_and (pe_callB call_len_seq (by rfl) T.m_len PySem.boot_len (pa_cons (pv 0) pa_nil)) pe_int) pe_int (nomark _))))), ?_⟩
    rcases fm_cases hF with ⟨i, rfl⟩ | ⟨ds, rfl⟩
    · cases hD
      refine ⟨_, rfl, _, _, _, _, true, rfl, .ty "int", tyI _, k_ii, true, rfl, iteT ?_⟩
      rw [val_int] at q
      walk_at "r"
      exact q
    · cases hD with
      | @tup a xs _ h1 h2 =>
        refine ⟨_, rfl, _, _, _, _, false, rfl, .ty "int", tyT h1, k_ti, false, rfl, iteF ?_⟩
        refine ⟨_, rfl, a, _, rfl, .inr h1, ?_⟩
        walk_at "r"
        have e : decide (val (.tuple ds) < 0) = decide (V.int (Builtin.bitAnd ((xs.length : Nat) : Int) 1) = V.int 1) := by
          rw [bitAnd_m1, dpAll_len h2]
          have := val_neg hF
          by_cases z : ds.length % 2 = 1
          · rw [decide_eq_true (this.mpr z), decide_eq_true (congrArg V.int (by omega))]
          · rw [decide_eq_false (fun y => z (this.mp y)), decide_eq_false (fun y => z (by have := V.int.inj y; omega))]
        rw [e] at q
        exact q
/-- a walk over a row of small turns: the number so far -/
theorem made_step {ts : List Nat} {i t : Nat} (h : ts[i]? = some t) : tv (ts.take (i + 1)) = if i % 2 = 1 then tv (ts.take i) + 2 ^ t else tv (ts.take i) - 2 ^ t := by
  have hi := (List.getElem?_eq_some_iff.mp h).1
  rw [List.take_add_one, h]
  show tv (ts.take i ++ [t]) = _
  rw [tv_snoc, List.length_take, Nat.min_eq_left (Nat.le_of_lt hi)]
  by_cases e : i % 2 = 1
  · rw [if_pos e, if_neg (by omega)]
  · rw [if_neg e, if_pos (by omega)]
    omega
/-- the form with the turns of a row -/
def sp_made (K : PySem.W.Frag) : Sp := fun vs H Q _ => ∃ (a : Addr) (us : List V) (ds : List PyData), vs = [.ref a] ∧ (SqL K H a us ∨ SqT K H a us) ∧ DpAll K H us ds ∧ FmAll ds ∧ Asc (vals ds) ∧
  ∀ (v : V) (d : PyData) H', Fm d → val d = tv (vals ds) → d.depth ≤ PyData.depthAll ds + 1 → wt d ≤ wtAll ds + 1 → Dp K H' v d → Same H H' → Q v H'
theorem ok_made (T : Top K mg) {k : Nat} : FnOk P w K mg base CX0 (k + 1) T.f_made T.fd_made ["found"]  (sp_made K) := by
  refine T.F_made.ok sc_made (fun vs H Q E h => ?_) (fun cdv A outer s H vs Q E hr h => ?_)
  · obtain ⟨a, us, ds, rfl, _⟩ := h
    rfl
  · obtain ⟨a, us, ds, rfl, hS, hD, hF, hA, q⟩ := h
    have hul := dpAll_len hD
    have fin : ds = [] → Q (.int 0) H := fun e => by
      subst e
      refine q _ (.int 0) H ((fm_int 0).mpr (by decide)) ?_ (by rw [depth_int]; exact Nat.zero_le _) (by rw [wt_int]; omega) (.int 0) (Same.refl _)
      rw [val_int, vals_nil, tv_nil]
    have small : (∀ t ∈ vals ds, t ≤ 64) → us = nv (vals ds) ∧ ∀ H', Same H H' → Q (.int (tv (vals ds))) H' := fun h64 => by
      have eds := ds_small hF h64
      refine ⟨nv_of (H := H) (by rw [← eds]; exact hD), fun H' sm => ?_⟩
      exact q _ _ _ ((fm_int _).mpr ((tv_range hA).mp h64)) (val_int _) (by rw [depth_int]; exact Nat.zero_le _) (by rw [wt_int]; omega) (.int _) sm
    have lst : ds ≠ [] → ∃ ul dl dr, ds = dr ++ [dl] ∧ us[us.length - 1]? = some ul ∧ Dp K H ul dl ∧ Fm dl ∧ 0 ≤ val dl ∧ ∀ t ∈ vals ds, t ≤ (val dl).toNat := fun hne => by
      obtain ⟨dl, dr, rfl⟩ := last_is hne
      obtain ⟨ul, h1, h2⟩ := dpAll_at (i := dr.length) (d := dl) hD (by simp)
      refine ⟨ul, dl, dr, rfl, ?_, h2, (fmAll_mem hF dl (by simp)).1, (fmAll_mem hF dl (by simp)).2, fun t ht => ?_⟩
      · rw [← h1, hul]
        simp
      · rw [vals_app, vals_cons, vals_nil] at ht hA
        rcases List.mem_append.mp ht with ht | ht
        · exact Nat.le_of_lt ((asc_snoc.mp hA).2 t ht)
        · exact Nat.le_of_eq (List.mem_singleton.mp ht)
    have big : ∀ {dl dr}, ds = dr ++ [dl] → 64 < val dl → ∀ l H', Same H H' → SqT K H' l us → Q (.ref l) H' := fun {dl dr} e h64 l H' sm hl => by
      refine q _ (.tuple ds) _ ((fm_tuple _).mpr ⟨hF, hA, (val dl).toNat, ?_, by omega⟩) (val_tuple _) (by rw [depth_tuple]; exact Nat.le_refl _) (by rw [wt_tuple]; omega) (.tup hl (dpAll_tk (tk_same sm) hF hD)) sm
      rw [e, vals_app, vals_cons]
      simp
    rcases hS with hS | hS
    · refine ⟨_, (pss_cons (ps_if (pt_cmpR op_eq (pe_callB call_len_seq (by rfl) T.m_len PySem.boot_len (pa_cons (pv 0) pa_nil)) pe_int (nomark _))
      (pss_one (ps_ret pe_int))
      pss_nil)
    (pss_cons (ps_set (i := 1) sc_made.nd rfl (Or.inl rfl) (pe_ix ix_list (pv 0) (pe_un un_neg pe_int) (fun _ _ => rfl)))
    (pss_cons (ps_if (PW.pt (pw_or (pt_not (pt_val (pe_callB call_isi (by rfl) T.m_isinstance (by decide +kernel) (pa_cons (pv 1) (pa_cons (pe_bltn (v := .ty "int") (by rfl) T.m_int (by decide +kernel) rfl) pa_nil))) (fun _ => rfl))) (pw_or1 (pt_cmpR op_gt (pv 1) (pe_glob (v := .int (64)) (by rfl) T.c_LAST_PLAIN_TURN ⟨_, rfl⟩) (nomark _)))))
      (pss_one (ps_ret (pe_callTy call_tuple_of (by rfl) T.m_tuple (by decide +kernel) (pa_cons (pv 0) pa_nil))))
      pss_nil)
    (pss_cons (ps_set (i := 2) sc_made.nd rfl (Or.inl rfl) pe_int)
    (pss_cons (ps_for PassesOwn.never rfl (pi_enum (by rfl) T.m_enumerate (pa_cons (pv 0) pa_nil)) (pg_tup rfl (pgs_cons (pg_name (i := 3) sc_made.nd rfl (Or.inl rfl)) (pgs_cons (pg_name (i := 4) sc_made.nd rfl (Or.inl rfl)) pgs_nil)))
      (pss_one (ps_if (pt_cmpR op_eq (pe_op op_and (pv 3) pe_int) pe_int (nomark _))
        (pss_one (ps_set (i := 2) sc_made.nd rfl (Or.inl rfl) (pe_op op_add (pv 2) (pe_op op_oneShl pe_int (pv 4)))))
        (pss_one (ps_set (i := 2) sc_made.nd rfl (Or.inl rfl) (pe_op op_sub (pv 2) (pe_op op_oneShl pe_int (pv 4))))))))
    (pss_one (ps_ret (pv 2)))))))), ?_⟩
      refine ⟨_, rfl, a, us, rfl, .inl hS, rfl, _, rfl, ?_⟩
      refine ifE (fun e => ?_) (fun e => ?_)
      · exact fin (List.length_eq_zero_iff.mp (by omega))
      obtain ⟨ul, dl, dr, eds, hu, hDl, hFl, h0, hle⟩ := lst (fun z => e (by rw [hul, z]; rfl))
      refine ⟨_, rfl, _, rfl, a, us, -1, ul, rfl, rfl, hS, atI_neg1 hu, ?_⟩
      dsimp only [gName]
      refine ⟨_, rfl, ?_⟩
      rcases fm_cases hFl with ⟨iv, rfl⟩ | ⟨es, rfl⟩
      · cases hDl
        refine ⟨_, _, _, _, true, rfl, .ty "int", tyI _, k_ii, true, rfl, iteF ?_⟩
        rw [val_int] at hle
        walk_at "r"
        refine ifD (fun hc => ?_) (fun hc => ?_)
        · refine ⟨_, rfl, a, us, rfl, .inl ⟨hS, fun l nl => big eds (by rw [val_int]; exact hc) l _ (sm_upd nl) (.inl (.inl upd_same))⟩⟩
        obtain ⟨eus, qs⟩ := small fun t ht => by have := hle t ht; omega
        walk_at "r"
        refine ⟨a, us, rfl, hS, flE (xs := us) (fun i σ H' => ∃ (z4 z5 : Option V), σ = [some (.ref a), some (.int iv), some (.int (tv ((vals ds).take i))), z4, z5] ∧ Same H H') ⟨none, none, rfl, Same.refl _⟩ ?_ ?_ ?_⟩
        · rintro i σ H' _ ⟨_, _, _, sm⟩
          exact sm.seq hS
        · rintro i x σ H' hx ⟨z4, z5, rfl, sm⟩ Tt nT D' B
          rw [eus] at hx
          obtain ⟨t, ht, rfl⟩ := nv_get hx
          have hbt : t ≤ 64 := by
            have := hle t (List.mem_of_getElem? ht)
            omega
          refine ⟨Tt, _, rfl, .inl (.inl upd_same), rfl, _, _, rfl, _, _, rfl, rfl, ?_⟩
          have ms := made_step ht
          have sm' := sm.trans (sm_upd (o := .tup [.int (i : Nat), .int (t : Nat)]) nT)
          walk_at "r"
          refine ifE (fun z => ?_) (fun z => ?_)
          · rw [bitAnd_m1] at z
            rw [if_pos (by omega)] at ms
            walk_at "r"
            refine ⟨t, rfl, rfl, by omega, ?_⟩
            walk_at "r"
            refine B.nx _ _ ⟨some (.int (i : Nat)), some (.int (t : Nat)), ?_, sm'⟩
            rw [ms]
            rfl
          · rw [bitAnd_m1] at z
            rw [if_neg (by omega)] at ms
            walk_at "r"
            refine ⟨t, rfl, rfl, by omega, ?_⟩
            walk_at "r"
            refine B.nx _ _ ⟨some (.int (i : Nat)), some (.int (t : Nat)), ?_, sm'⟩
            rw [ms]
            rfl
        · rintro σ H' ⟨z4, z5, rfl, sm⟩
          walk_at "r"
          rw [eus, nv_len, List.take_length]
          exact qs H' sm
      · have hfar := tuple_far hFl
        cases hDl with
        | tup g1 g2 =>
          refine ⟨_, _, _, _, false, rfl, .ty "int", tyT g1, k_ti, false, rfl, iteT (iteT ?_)⟩
          refine ⟨_, rfl, a, us, rfl, .inl ⟨hS, fun l nl => big eds ?_ l _ (sm_upd nl) (.inl (.inl upd_same))⟩⟩
          apply Int.lt_of_not_ge
          intro hc
          exact hfar ⟨by omega, by omega⟩
    · refine ⟨_, (pss_cons (ps_if (pt_cmpR op_eq (pe_callB call_len_seq (by rfl) T.m_len PySem.boot_len (pa_cons (pv 0) pa_nil)) pe_int (nomark _))
      (pss_one (ps_ret pe_int))
      pss_nil)
    (pss_cons (ps_set (i := 1) sc_made.nd rfl (Or.inl rfl) (pe_ix ix_tup (pv 0) (pe_un un_neg pe_int) (fun _ _ => rfl)))
    (pss_cons (ps_if (PW.pt (pw_or (pt_not (pt_val (pe_callB call_isi (by rfl) T.m_isinstance (by decide +kernel) (pa_cons (pv 1) (pa_cons (pe_bltn (v := .ty "int") (by rfl) T.m_int (by decide +kernel) rfl) pa_nil))) (fun _ => rfl))) (pw_or1 (pt_cmpR op_gt (pv 1) (pe_glob (v := .int (64)) (by rfl) T.c_LAST_PLAIN_TURN ⟨_, rfl⟩) (nomark _)))))
      (pss_one (ps_ret (pe_callTy call_tuple_of (by rfl) T.m_tuple (by decide +kernel) (pa_cons (pv 0) pa_nil))))
      pss_nil)
    (pss_cons (ps_set (i := 2) sc_made.nd rfl (Or.inl rfl) pe_int)
    (pss_cons (ps_for PassesOwn.never rfl (pi_enumT (by rfl) T.m_enumerate (pa_cons (pv 0) pa_nil)) (pg_tup rfl (pgs_cons (pg_name (i := 3) sc_made.nd rfl (Or.inl rfl)) (pgs_cons (pg_name (i := 4) sc_made.nd rfl (Or.inl rfl)) pgs_nil)))
      (pss_one (ps_if (pt_cmpR op_eq (pe_op op_and (pv 3) pe_int) pe_int (nomark _))
        (pss_one (ps_set (i := 2) sc_made.nd rfl (Or.inl rfl) (pe_op op_add (pv 2) (pe_op op_oneShl pe_int (pv 4)))))
        (pss_one (ps_set (i := 2) sc_made.nd rfl (Or.inl rfl) (pe_op op_sub (pv 2) (pe_op op_oneShl pe_int (pv 4))))))))
    (pss_one (ps_ret (pv 2)))))))), ?_⟩
      refine ⟨_, rfl, a, us, rfl, .inr hS, rfl, _, rfl, ?_⟩
      refine ifE (fun e => ?_) (fun e => ?_)
      · exact fin (List.length_eq_zero_iff.mp (by omega))
      obtain ⟨ul, dl, dr, eds, hu, hDl, hFl, h0, hle⟩ := lst (fun z => e (by rw [hul, z]; rfl))
      refine ⟨_, rfl, _, rfl, a, us, -1, ul, rfl, rfl, hS, atI_neg1 hu, ?_⟩
      dsimp only [gName]
      refine ⟨_, rfl, ?_⟩
      rcases fm_cases hFl with ⟨iv, rfl⟩ | ⟨es, rfl⟩
      · cases hDl
        refine ⟨_, _, _, _, true, rfl, .ty "int", tyI _, k_ii, true, rfl, iteF ?_⟩
        rw [val_int] at hle
        walk_at "r"
        refine ifD (fun hc => ?_) (fun hc => ?_)
        · refine ⟨_, rfl, a, us, rfl, .inr ⟨hS, big eds (by rw [val_int]; exact hc) a H (Same.refl _) hS⟩⟩
        obtain ⟨eus, qs⟩ := small fun t ht => by have := hle t ht; omega
        walk_at "r"
        refine ⟨a, us, rfl, hS, flET (xs := us) (fun i σ H' => ∃ (z4 z5 : Option V), σ = [some (.ref a), some (.int iv), some (.int (tv ((vals ds).take i))), z4, z5] ∧ Same H H') ⟨none, none, rfl, Same.refl _⟩ ?_ ?_ ?_⟩
        · rintro i σ H' _ ⟨_, _, _, sm⟩
          exact HX.Same.tup sm hS
        · rintro i x σ H' hx ⟨z4, z5, rfl, sm⟩ Tt nT D' B
          rw [eus] at hx
          obtain ⟨t, ht, rfl⟩ := nv_get hx
          have hbt : t ≤ 64 := by
            have := hle t (List.mem_of_getElem? ht)
            omega
          refine ⟨Tt, _, rfl, .inl (.inl upd_same), rfl, _, _, rfl, _, _, rfl, rfl, ?_⟩
          have ms := made_step ht
          have sm' := sm.trans (sm_upd (o := .tup [.int (i : Nat), .int (t : Nat)]) nT)
          walk_at "r"
          refine ifE (fun z => ?_) (fun z => ?_)
          · rw [bitAnd_m1] at z
            rw [if_pos (by omega)] at ms
            walk_at "r"
            refine ⟨t, rfl, rfl, by omega, ?_⟩
            walk_at "r"
            refine B.nx _ _ ⟨some (.int (i : Nat)), some (.int (t : Nat)), ?_, sm'⟩
            rw [ms]
            rfl
          · rw [bitAnd_m1] at z
            rw [if_neg (by omega)] at ms
            walk_at "r"
            refine ⟨t, rfl, rfl, by omega, ?_⟩
            walk_at "r"
            refine B.nx _ _ ⟨some (.int (i : Nat)), some (.int (t : Nat)), ?_, sm'⟩
            rw [ms]
            rfl
        · rintro σ H' ⟨z4, z5, rfl, sm⟩
          walk_at "r"
          rw [eus, nv_len, List.take_length]
          exact qs H' sm
      · have hfar := tuple_far hFl
        cases hDl with
        | tup g1 g2 =>
          refine ⟨_, _, _, _, false, rfl, .ty "int", tyT g1, k_ti, false, rfl, iteT (iteT ?_)⟩
          refine ⟨_, rfl, a, us, rfl, .inr ⟨hS, big eds ?_ a H (Same.refl _) hS⟩⟩
          apply Int.lt_of_not_ge
          intro hc
          exact hfar ⟨by omega, by omega⟩
/-- the form of an int -/
def sp_ofint (K : PySem.W.Frag) : Sp := fun vs H Q _ => ∃ (n : Int) (k : Nat), vs = [.int n] ∧ k ≤ 900000 ∧ -(2 ^ k) ≤ n ∧ n < 2 ^ k ∧
  ∀ (v : V) (d : PyData) H', Fm d → val d = n → d.depth ≤ 1 → wt d ≤ k + 3 → Dp K H' v d → Same H H' → Q v H'
theorem ok_of_int (T : Top K mg) {k : Nat} : FnOk P w K mg base CX0 (k + 2) T.f_of_int T.fd_of_int ["number"]  (sp_ofint K) := by
  have G_turns_of_int : FnOk P w K mg base CX0 (k + 1) T.f_turns_of_int T.fd_turns_of_int ["number"]  (sp_toi K) := ok_turns_of_int T
  refine T.F_of_int.ok sc_of_int (fun vs H Q E h => ?_) (fun cdv A outer s H vs Q E hr h => ?_)
  · obtain ⟨n, _, rfl, _⟩ := h
    rfl
  · obtain ⟨n, kb, rfl, hk, hn1, hn2, q⟩ := h
    refine ⟨_, (pss_cons (ps_if (pt_chain op_le op_le (pe_glob (v := .int (-18446744073709551616)) (by rfl) T.c_PLAIN_LEAST ⟨_, rfl⟩) (pv 0) (pe_glob (v := .int (18446744073709551615)) (by rfl) T.c_PLAIN_MOST ⟨_, rfl⟩))
      (pss_one (ps_ret (pv 0)))
      pss_nil)
    (pss_one (ps_ret (pe_call G_turns_of_int (hr.mono (by omega)) (by rfl) T.g_turns_of_int T.F_turns_of_int.kp T.b_turns_of_int .nil pass0 (pa_cons (pv 0) pa_nil))))), ?_⟩
    walk_at "r"
    by_cases hpl : -(2 ^ 64) ≤ n ∧ n < 2 ^ 64
    · refine ifD (fun _ => ?_) (fun z => absurd (by omega) z)
      walk_at "r"
      refine ifD (fun _ => ?_) (fun z => absurd (by omega) z)
      walk_at "r"
      exact q _ _ _ ((fm_int n).mpr hpl) (val_int n) (by rw [depth_int]; decide) (by rw [wt_int]; omega) (.int n) (Same.refl _)
    · refine ifChain ?_ (fun h1 hB => ?_)
      · walk_at "r"
        refine ⟨n, kb, rfl, hk, hn1, hn2, fun ts l H' hA hn hb hlen sm hl => ?_⟩
        have h64 : ∃ t ∈ ts, 64 < t := by
          apply Classical.byContradiction
          intro hc
          apply hpl
          rw [← hn, ← tv_range hA]
          intro t ht
          apply Nat.le_of_not_lt
          intro hlt
          exact hc ⟨t, ht, hlt⟩
        obtain ⟨f1, f2⟩ := fm_small hA (fun t ht => by have := hb t ht; omega) h64
        exact q _ _ _ f1 (f2.trans hn) (by rw [depth_tuple, depthAll_iD]; exact Nat.le_refl _) (by rw [wt_tuple, wtAll_iD]; omega) (.tup (.inl (.inl hl)) (dp_nv ts)) sm
      · walk_at "r"
        refine ifD (fun h2 => absurd ⟨by omega, by omega⟩ hpl) (fun _ => hB)
end
end K37
set_option Elab.async false
set_option linter.all false
set_option maxRecDepth 100000
set_option pp.deepTerms false
set_option pp.maxSteps 1500
namespace K37
open PySem PySem.Spec PyProof.Rows L2 HX TV FM DX FB FC PM
local macro_rules | `(tactic| walk_at "r") => `(tactic| (repeat (first | refine Exists.intro _ (And.intro rfl ?_) | refine And.intro rfl ?_ | refine Exists.intro _ (Exists.intro _ (And.intro rfl (And.intro rfl ?_))) | refine And.intro (by omega) ?_ | refine And.intro (Or.inl (And.intro (by omega) (by omega))) ?_ | refine And.intro (Or.inr (And.intro (by omega) (by omega))) ?_ | refine And.intro (And.intro (by omega) (by omega)) ?_ | refine And.intro (And.intro (by decide) (And.intro (by decide) (by decide))) ?_ | refine Or.inl (Exists.intro _ (And.intro rfl ?_)) | (dsimp only [gName]; first | with_reducible refine seqC ?_ | with_reducible refine asgC ?_))))
local macro_rules | `(tactic| walk_at "s") => `(tactic| (repeat (first | refine Exists.intro _ (And.intro rfl ?_) | refine And.intro rfl ?_ | refine Exists.intro _ (Exists.intro _ (And.intro rfl (And.intro rfl ?_))) | refine And.intro (by omega) ?_ | refine And.intro (Or.inl (And.intro (by omega) (by omega))) ?_ | refine And.intro (Or.inr (And.intro (by omega) (by omega))) ?_ | refine And.intro (And.intro (by omega) (by omega)) ?_ | refine And.intro (And.intro (by decide) (And.intro (by decide) (by decide))) ?_ | refine Or.inl (Exists.intro _ (And.intro rfl ?_)) | refine Exists.intro _ (Exists.intro _ (And.intro rfl ?_)) | (dsimp only [gName]; first | with_reducible refine seqC ?_ | with_reducible refine asgC ?_))))
section
variable {P : Program} {w : World} {K : PySem.W.Frag} {mg : Str → Option Value} {base : Heap}
/-- the sign of the difference of two forms of depth at most n -/
def sp_ord (K : PySem.W.Frag) (n : Nat) : Sp := fun vs H Q _ => ∃ (x y : V) (d e : PyData), vs = [x, y] ∧ Dp K H x d ∧ Dp K H y e ∧ Fm d ∧ Fm e ∧ d.depth ≤ n ∧ e.depth ≤ n ∧ n ≤ 60 ∧ ∀ H', Same H H' → Q (.int (sg (val d) (val e))) H'
theorem ok_order (T : Top K mg) : ∀ n, FnOk P w K mg base CX0 (n + 3) T.f_order T.fd_order ["x", "y"]  (sp_ord K n) := by
  have two : ∀ {n : Nat} {σ : L2.St} {H : Hp} {i j : Int} {Q : VK}, Q (.int (sg i j)) H → Q (.int (b2i (decide (j < i)) - b2i (decide (i < j)))) H := fun {n σ H i j Q} q => by
    have e : b2i (decide (j < i)) - b2i (decide (i < j)) = sg i j := by
      unfold sg
      by_cases h1 : i < j
      · rw [if_pos h1, decide_eq_true h1, decide_eq_false (by omega)]
        rfl
      · by_cases h2 : j < i
        · rw [if_neg h1, if_pos h2, decide_eq_true h2, decide_eq_false h1]
          rfl
        · rw [if_neg h1, if_neg h2, decide_eq_false h2, decide_eq_false h1]
          rfl
    rw [e]
    exact q
  intro n
  induction n with
  | zero =>
    have G_turns : FnOk P w K mg base CX0 (2) T.f_turns T.fd_turns ["x"]  (sp_trn K) := ok_turns T
    have G_negative : FnOk P w K mg base CX0 (1) T.f_negative T.fd_negative ["x"]  (sp_neg K) := ok_negative T
    refine T.F_order.ok sc_order (fun vs H Q E h => ?_) (fun cdv A outer s H vs Q E hr h => ?_)
    · obtain ⟨x, y, d, e, rfl, _⟩ := h
      rfl
    · obtain ⟨x, y, d, e, rfl, hx, hy, hd, he, hdd, hde, _, q⟩ := h
      refine ⟨_, (pss_cons (ps_if (PW.pt (pw_and (pt_val (pe_callB call_isi (by rfl) T.m_isinstance (by decide +kernel) (pa_cons (pv 0) (pa_cons (pe_bltn (v := .ty "int") (by rfl) T.m_int (by decide +kernel) rfl) pa_nil))) (fun _ => rfl)) (pw_and1 (pt_val (pe_callB call_isi (by rfl) T.m_isinstance (by decide +kernel) (pa_cons (pv 1) (pa_cons (pe_bltn (v := .ty "int") (by rfl) T.m_int (by decide +kernel) rfl) pa_nil))) (fun _ => rfl)))))
      (pss_one (ps_ret (pe_op op_sub (pe_callTy call_int1 (by rfl) T.m_int (by decide +kernel) (pa_cons (pe_cmpR op_gt (pv 0) (pv 1) (nomark _)) pa_nil)) (pe_callTy call_int1 (by rfl) T.m_int (by decide +kernel) (pa_cons (pe_cmpR op_lt (pv 0) (pv 1) (nomark _)) pa_nil)))))
      pss_nil)
    (pss_cons (ps_if (pt_cmpR (op_eqD hr.units) (pv 0) (pv 1) (nomark _))
      (pss_one (ps_ret pe_int))
      pss_nil)
    (pss_cons (ps_set (i := 2) sc_order.nd rfl (Or.inl rfl) (pe_call G_turns (hr.mono (by omega)) (by rfl) T.g_turns T.F_turns.kp T.b_turns .nil pass0 (pa_cons (pv 0) pa_nil)))
    (pss_cons (ps_set (i := 3) sc_order.nd rfl (Or.inl rfl) (pe_call G_turns (hr.mono (by omega)) (by rfl) T.g_turns T.F_turns.kp T.b_turns .nil pass0 (pa_cons (pv 1) pa_nil)))
    (pss_cons (ps_if (pt_cmpR op_ne (pe_call G_negative (hr.mono (by omega)) (by rfl) T.g_negative T.F_negative.kp T.b_negative .nil pass0 (pa_cons (pv 0) pa_nil)) (pe_call G_negative (hr.mono (by omega)) (by rfl) T.g_negative T.F_negative.kp T.b_negative .nil pass0 (pa_cons (pv 1) pa_nil)) (nomark _))
      (pss_one (ps_ret (pe_ifExp (pt_val (pe_call G_negative (hr.mono (by omega)) (by rfl) T.g_negative T.F_negative.kp T.b_negative .nil pass0 (pa_cons (pv 0) pa_nil)) (fun _ => rfl)) (pe_un un_neg pe_int) pe_int)))
      pss_nil)
    (pss_cons (ps_set (i := 4) sc_order.nd rfl (Or.inl rfl) pe_int)
    (pss_cons (ps_set (i := 5) sc_order.nd rfl (Or.inl rfl) (pe_callB (call_min2 rfl) (by rfl) T.m_min (by decide +kernel) (pa_cons (pe_callB call_len_seq (by rfl) T.m_len PySem.boot_len (pa_cons (pv 2) pa_nil)) (pa_cons (pe_callB call_len_seq (by rfl) T.m_len PySem.boot_len (pa_cons (pv 3) pa_nil)) pa_nil))))
    (pss_cons (ps_while PassesOwn.never (PW.pt (pw_and (pt_cmpR op_lt (pv 4) (pv 5) (nomark _)) (pw_and1 (pt_cmpR (op_eqD hr.units) (pe_ix ix_tup (pv 2) (pe_op op_sub (pe_op op_sub (pe_callB call_len_seq (by rfl) T.m_len PySem.boot_len (pa_cons (pv 2) pa_nil)) pe_int) (pv 4)) (fun _ _ => rfl)) (pe_ix ix_tup (pv 3) (pe_op op_sub (pe_op op_sub (pe_callB call_len_seq (by rfl) T.m_len PySem.boot_len (pa_cons (pv 3) pa_nil)) pe_int) (pv 4)) (fun _ _ => rfl)) (nomark _)))))
      (pss_one (ps_aug (i := 4) sc_order.nd rfl (Or.inl rfl) pe_int ip_add)))
    (pss_cons (ps_if (pt_cmpR op_eq (pv 4) (pe_callB call_len_seq (by rfl) T.m_len PySem.boot_len (pa_cons (pv 2) pa_nil)) (nomark _))
      (pss_one (ps_set (i := 6) sc_order.nd rfl (Or.inl rfl) (pe_un un_neg pe_int)))
      (pss_one (ps_if (pt_cmpR op_eq (pv 4) (pe_callB call_len_seq (by rfl) T.m_len PySem.boot_len (pa_cons (pv 3) pa_nil)) (nomark _))
        (pss_one (ps_set (i := 6) sc_order.nd rfl (Or.inl rfl) pe_int))
        (pss_one ps_never))))
    (pss_cons (ps_if (pt_cmpR op_eq (pe_op op_and (pe_op op_add (pe_callB call_len_seq (by rfl) T.m_len PySem.boot_len (pa_cons (pv 2) pa_nil)) (pv 4)) pe_int) pe_int (nomark _))
      (pss_one (ps_ret (pe_un un_neg (pv 6))))
      pss_nil)
    (pss_one (ps_ret (pv 6))))))))))))), ?_⟩
      rcases fm_cases hd with ⟨i, rfl⟩ | ⟨ds, rfl⟩
      · rcases fm_cases he with ⟨j, rfl⟩ | ⟨ds, rfl⟩
        · cases hx
          cases hy
          refine ⟨_, rfl, _, _, _, _, true, rfl, .ty "int", tyI _, k_ii, true, rfl, iteT ?_⟩
          refine ⟨_, rfl, _, _, _, _, true, rfl, .ty "int", tyI _, k_ii, true, rfl, iteT ?_⟩
          walk_at "r"
          refine .inr ⟨_, rfl, ?_⟩
          walk_at "r"
          refine .inr ⟨_, rfl, ?_⟩
          walk_at "r"
          rw [val_int, val_int] at q
          exact two (n := 0) (σ := []) (q H (Same.refl _))
        · rw [depth_tuple] at hde
          omega
      · rw [depth_tuple] at hdd
        omega
  | succ n ih =>
    have G_turns : FnOk P w K mg base CX0 (2) T.f_turns T.fd_turns ["x"]  (sp_trn K) := ok_turns T
    have G_negative : FnOk P w K mg base CX0 (1) T.f_negative T.fd_negative ["x"]  (sp_neg K) := ok_negative T
    have G_order : FnOk P w K mg base CX0 (n + 3) T.f_order T.fd_order ["x", "y"]  (sp_ord K n) := ih
    refine T.F_order.ok sc_order (fun vs H Q E h => ?_) (fun cdv A outer s H vs Q E hr h => ?_)
    · obtain ⟨x, y, d, e, rfl, _⟩ := h
      rfl
    · obtain ⟨x, y, d, e, rfl, hx, hy, hd, he, hdd, hde, hn, q⟩ := h
      refine ⟨_, (pss_cons (ps_if (PW.pt (pw_and (pt_val (pe_callB call_isi (by rfl) T.m_isinstance (by decide +kernel) (pa_cons (pv 0) (pa_cons (pe_bltn (v := .ty "int") (by rfl) T.m_int (by decide +kernel) rfl) pa_nil))) (fun _ => rfl)) (pw_and1 (pt_val (pe_callB call_isi (by rfl) T.m_isinstance (by decide +kernel) (pa_cons (pv 1) (pa_cons (pe_bltn (v := .ty "int") (by rfl) T.m_int (by decide +kernel) rfl) pa_nil))) (fun _ => rfl)))))
      (pss_one (ps_ret (pe_op op_sub (pe_callTy call_int1 (by rfl) T.m_int (by decide +kernel) (pa_cons (pe_cmpR op_gt (pv 0) (pv 1) (nomark _)) pa_nil)) (pe_callTy call_int1 (by rfl) T.m_int (by decide +kernel) (pa_cons (pe_cmpR op_lt (pv 0) (pv 1) (nomark _)) pa_nil)))))
      pss_nil)
    (pss_cons (ps_if (pt_cmpR (op_eqD hr.units) (pv 0) (pv 1) (nomark _))
      (pss_one (ps_ret pe_int))
      pss_nil)
    (pss_cons (ps_set (i := 2) sc_order.nd rfl (Or.inl rfl) (pe_call G_turns (hr.mono (by omega)) (by rfl) T.g_turns T.F_turns.kp T.b_turns .nil pass0 (pa_cons (pv 0) pa_nil)))
    (pss_cons (ps_set (i := 3) sc_order.nd rfl (Or.inl rfl) (pe_call G_turns (hr.mono (by omega)) (by rfl) T.g_turns T.F_turns.kp T.b_turns .nil pass0 (pa_cons (pv 1) pa_nil)))
    (pss_cons (ps_if (pt_cmpR op_ne (pe_call G_negative (hr.mono (by omega)) (by rfl) T.g_negative T.F_negative.kp T.b_negative .nil pass0 (pa_cons (pv 0) pa_nil)) (pe_call G_negative (hr.mono (by omega)) (by rfl) T.g_negative T.F_negative.kp T.b_negative .nil pass0 (pa_cons (pv 1) pa_nil)) (nomark _))
      (pss_one (ps_ret (pe_ifExp (pt_val (pe_call G_negative (hr.mono (by omega)) (by rfl) T.g_negative T.F_negative.kp T.b_negative .nil pass0 (pa_cons (pv 0) pa_nil)) (fun _ => rfl)) (pe_un un_neg pe_int) pe_int)))
      pss_nil)
    (pss_cons (ps_set (i := 4) sc_order.nd rfl (Or.inl rfl) pe_int)
    (pss_cons (ps_set (i := 5) sc_order.nd rfl (Or.inl rfl) (pe_callB (call_min2 rfl) (by rfl) T.m_min (by decide +kernel) (pa_cons (pe_callB call_len_seq (by rfl) T.m_len PySem.boot_len (pa_cons (pv 2) pa_nil)) (pa_cons (pe_callB call_len_seq (by rfl) T.m_len PySem.boot_len (pa_cons (pv 3) pa_nil)) pa_nil))))
    (pss_cons (ps_while PassesOwn.never (PW.pt (pw_and (pt_cmpR op_lt (pv 4) (pv 5) (nomark _)) (pw_and1 (pt_cmpR (op_eqD hr.units) (pe_ix ix_tup (pv 2) (pe_op op_sub (pe_op op_sub (pe_callB call_len_seq (by rfl) T.m_len PySem.boot_len (pa_cons (pv 2) pa_nil)) pe_int) (pv 4)) (fun _ _ => rfl)) (pe_ix ix_tup (pv 3) (pe_op op_sub (pe_op op_sub (pe_callB call_len_seq (by rfl) T.m_len PySem.boot_len (pa_cons (pv 3) pa_nil)) pe_int) (pv 4)) (fun _ _ => rfl)) (nomark _)))))
      (pss_one (ps_aug (i := 4) sc_order.nd rfl (Or.inl rfl) pe_int ip_add)))
    (pss_cons (ps_if (pt_cmpR op_eq (pv 4) (pe_callB call_len_seq (by rfl) T.m_len PySem.boot_len (pa_cons (pv 2) pa_nil)) (nomark _))
      (pss_one (ps_set (i := 6) sc_order.nd rfl (Or.inl rfl) (pe_un un_neg pe_int)))
      (pss_one (ps_if (pt_cmpR op_eq (pv 4) (pe_callB call_len_seq (by rfl) T.m_len PySem.boot_len (pa_cons (pv 3) pa_nil)) (nomark _))
        (pss_one (ps_set (i := 6) sc_order.nd rfl (Or.inl rfl) pe_int))
        (pss_one (ps_set (i := 6) sc_order.nd rfl (Or.inl rfl) (pe_call G_order (hr.mono (by omega)) (by rfl) T.g_order T.F_order.kp T.b_order .nil pass0 (pa_cons (pe_ix ix_tup (pv 2) (pe_op op_sub (pe_op op_sub (pe_callB call_len_seq (by rfl) T.m_len PySem.boot_len (pa_cons (pv 2) pa_nil)) pe_int) (pv 4)) (fun _ _ => rfl)) (pa_cons (pe_ix ix_tup (pv 3) (pe_op op_sub (pe_op op_sub (pe_callB call_len_seq (by rfl) T.m_len PySem.boot_len (pa_cons (pv 3) pa_nil)) pe_int) (pv 4)) (fun _ _ => rfl)) pa_nil))))))))
    (pss_cons (ps_if (pt_cmpR op_eq (pe_op op_and (pe_op op_add (pe_callB call_len_seq (by rfl) T.m_len PySem.boot_len (pa_cons (pv 2) pa_nil)) (pv 4)) pe_int) pe_int (nomark _))
      (pss_one (ps_ret (pe_un un_neg (pv 6))))
      pss_nil)
    (pss_one (ps_ret (pv 6))))))))))))), ?_⟩
      refine ⟨_, rfl, _, _, _, _, isI d, rfl, .ty "int", ty_f hx hd, kit_fi hd, _, rfl, ifB ?_ (fun h1 rest => ?_)⟩
      case refine_2 =>
        refine ⟨_, rfl, _, _, _, _, isI e, rfl, .ty "int", ty_f hy he, kit_fi he, _, rfl, ifBD (fun h2 => ?_) (fun h2 => rest)⟩
        obtain ⟨i, rfl⟩ := fm_isI hd h1
        obtain ⟨j, rfl⟩ := fm_isI he h2
        cases hx
        cases hy
        walk_at "r"
        refine .inr ⟨_, rfl, ?_⟩
        walk_at "r"
        refine .inr ⟨_, rfl, ?_⟩
        walk_at "r"
        rw [val_int, val_int] at q
        exact two (n := 0) (σ := []) (q H (Same.refl _))
      refine ⟨_, rfl, _, rfl, _, _, hx, hy, shaped_fm hd (by omega), shaped_fm he (by omega), _, rfl, ?_⟩
      rw [eqv_val hd he]
      refine ifD (fun hv => ?_) (fun hv => ?_)
      · walk_at "r"
        have := q H (Same.refl _)
        rw [sg_eq hv] at this
        exact this
      refine ⟨_, rfl, x, d, rfl, hx, hd, fun aO uO A H1 fA hA vA sO dO depA wA iA sm1 => ?_⟩
      dsimp only [gName]
      refine ⟨_, rfl, y, e, rfl, dp_tk (tk_same sm1) he hy, he, fun aT uT B H2 fB hB vB sT dT depB wB iB sm2 => ?_⟩
      have sm := sm1.trans sm2
      replace hx := dp_tk (tk_same sm) hd hx
      replace hy := dp_tk (tk_same sm) he hy
      replace sO := HX.Same.tup sm2 sO
      replace dO := dpAll_tk (tk_same sm2) fA dO
      have lO := dpAll_len dO
      have lT := dpAll_len dT
      dsimp only [gName]
      refine ⟨_, rfl, x, d, rfl, hx, hd, _, rfl, y, e, rfl, hy, he, rfl, _, rfl, ?_⟩
      refine ifN (fun hne => ?_) (fun hne => ?_)
      · refine ⟨_, rfl, x, d, rfl, hx, hd, _, rfl, ?_⟩
        refine ifD (fun hz => ?_) (fun hz => ?_)
        · walk_at "r"
          have : ¬ val e < 0 := fun z => hne (by rw [decide_eq_true hz, decide_eq_true z])
          have := q H2 sm
          rw [sg_lt (by omega)] at this
          exact this
        · walk_at "r"
          have : val e < 0 := Classical.byContradiction fun z => hne (by rw [decide_eq_false hz, decide_eq_false z])
          have := q H2 sm
          rw [sg_gt (by omega)] at this
          exact this
      have hpar : A.length % 2 = B.length % 2 := by
        have h1 := neg_len hA
        have h2 := neg_len hB
        rw [vA, vals_len] at h1
        rw [vB, vals_len] at h2
        have h3 : val d < 0 ↔ val e < 0 := by
          have := V.bl.inj hne
          simpa using this
        have : A.length % 2 = 1 ↔ B.length % 2 = 1 := h1.symm.trans (h3.trans h2)
        omega
      walk_at "r"
      refine ⟨aO, uO, rfl, .inr sO, _, rfl, aT, uT, rfl, .inr sT, _, _, rfl, ?_⟩
      dsimp only [gName]
      obtain ⟨mm, hmm, emm⟩ : ∃ mm : Nat, mm = min A.length B.length ∧ (if ((uT.length : Nat) : Int) < ((uO.length : Nat) : Int) then ((uT.length : Nat) : Int) else ((uO.length : Nat) : Int)) = (mm : Nat) := by
        refine ⟨min A.length B.length, rfl, ?_⟩
        rw [lO, lT]
        split <;> omega
      rw [emm]
      have atA : ∀ {c : Nat}, c < A.length → ∃ v a, uO[A.length - 1 - c]? = some v ∧ A[A.length - 1 - c]? = some a ∧ Dp K H2 v a ∧ Fm a ∧ 0 ≤ val a ∧ a.depth ≤ n := fun {c} hc => by
        have h1 : A[A.length - 1 - c]? = some (A[A.length - 1 - c]'(by omega)) := by simp [show A.length - 1 - c < A.length by omega]
        obtain ⟨v, h2, h3⟩ := dpAll_at dO h1
        have hm := List.mem_of_getElem? h1
        have := dep_mem hm
        exact ⟨v, _, h2, h1, h3, (fmAll_mem fA _ hm).1, (fmAll_mem fA _ hm).2, by omega⟩
      have atB : ∀ {c : Nat}, c < B.length → ∃ v a, uT[B.length - 1 - c]? = some v ∧ B[B.length - 1 - c]? = some a ∧ Dp K H2 v a ∧ Fm a ∧ 0 ≤ val a ∧ a.depth ≤ n := fun {c} hc => by
        have h1 : B[B.length - 1 - c]? = some (B[B.length - 1 - c]'(by omega)) := by simp [show B.length - 1 - c < B.length by omega]
        obtain ⟨v, h2, h3⟩ := dpAll_at dT h1
        have hm := List.mem_of_getElem? h1
        have := dep_mem hm
        exact ⟨v, _, h2, h1, h3, (fmAll_mem fB _ hm).1, (fmAll_mem fB _ hm).2, by omega⟩
      have ixA : ∀ {c : Nat}, c < A.length → ((uO.length : Nat) : Int) - 1 - (c : Nat) = ((A.length - 1 - c : Nat) : Int) := fun {c} hc => by rw [lO]; omega
      have ixB : ∀ {c : Nat}, c < B.length → ((uT.length : Nat) : Int) - 1 - (c : Nat) = ((B.length - 1 - c : Nat) : Int) := fun {c} hc => by rw [lT]; omega
      refine cut (fun σ H' => H' = H2 ∧ ∃ c : Nat, σ = [some x, some y, some (.ref aO), some (.ref aT), some (.int (c : Nat)), some (.int (mm : Nat)), none] ∧ c ≤ mm ∧ A.drop (A.length - c) = B.drop (B.length - c) ∧
        (c = mm ∨ ∃ a b, A[A.length - 1 - c]? = some a ∧ B[B.length - 1 - c]? = some b ∧ val a ≠ val b)) (fun D J => ?_) ?_
      · refine ⟨fun m σ H' => H' = H2 ∧ ∃ c : Nat, σ = [some x, some y, some (.ref aO), some (.ref aT), some (.int (c : Nat)), some (.int (mm : Nat)), none] ∧ c + m = mm ∧ A.drop (A.length - c) = B.drop (B.length - c),
          ⟨mm, rfl, 0, rfl, by omega, by simp⟩, ?_⟩
        rintro m σ H' ⟨rfl, c, rfl, hcm, hs⟩
        walk_at "r"
        refine ifBD (fun hc => ?_) (fun hc => ?_)
        · have hc : (c : Int) < (mm : Nat) := of_decide_eq_true hc
          obtain ⟨v, a, h1, h2, h3, h4, h5, h6⟩ := atA (c := c) (by omega)
          obtain ⟨v', b, g1, g2, g3, g4, g5, g6⟩ := atB (c := c) (by omega)
          refine ⟨_, rfl, _, rfl, aO, uO, rfl, .inr sO, _, _, rfl, rfl, _, rfl, _, _, rfl, rfl, aO, uO, _, v, rfl, rfl, sO, atI_at h1 (ixA (by omega)), ?_⟩
          refine ⟨_, rfl, _, rfl, aT, uT, rfl, .inr sT, _, _, rfl, rfl, _, rfl, _, _, rfl, rfl, aT, uT, _, v', rfl, rfl, sT, atI_at g1 (ixB (by omega)), ?_⟩
          refine ⟨_, _, h3, g3, shaped_fm h4 (by omega), shaped_fm g4 (by omega), _, rfl, ?_⟩
          rw [eqv_val h4 g4]
          refine ifD (fun hab => wb fun D' B' => ?_) (fun hab => ?_)
          · walk_at "r"
            refine B'.nx _ _ ⟨m - 1, by omega, rfl, c + 1, rfl, by omega, ?_⟩
            rw [drop_more (by omega) h2, drop_more (by omega) g2, hs, fm_inj h4 g4 hab]
          · exact J.nx _ _ ⟨rfl, c, rfl, by omega, hs, .inr ⟨a, b, h2, g2, hab⟩⟩
        · have hc : ¬ (c : Int) < (mm : Nat) := of_decide_eq_false hc
          refine iteF ?_
          exact J.nx _ _ ⟨rfl, c, rfl, by omega, hs, .inl (by omega)⟩
      · rintro σ H' ⟨eH, c, rfl, hcm, hs, hstop⟩
        subst eH
        have hvs : vals A = vals B → val d = val e := fun z => by rw [← vA, ← vB, z]
        refine cut (fun σ H3 => Same H' H3 ∧ ∃ sd : Int, σ = [some x, some y, some (.ref aO), some (.ref aT), some (.int (c : Nat)), some (.int (mm : Nat)), some (.int sd)] ∧ sg (val d) (val e) = if (A.length + c) % 2 = 1 then -sd else sd) (fun D J => ?_) ?_
        · refine ⟨_, rfl, _, rfl, aO, uO, rfl, .inr sO, rfl, _, rfl, ?_⟩
          refine ifE (fun hc => ?_) (fun hc => ?_)
          · walk_at "r"
            refine J.nx _ _ ⟨Same.refl _, -1, rfl, ?_⟩
            have hcA : c = A.length := by rw [lO] at hc; omega
            subst hcA
            rw [Nat.sub_self, List.drop_zero] at hs
            have hlt : A.length < B.length := by
              apply Nat.lt_of_le_of_ne (by omega)
              intro z
              rw [z, Nat.sub_self, List.drop_zero] at hs
              exact hv (hvs (by rw [hs]))
            rw [if_neg (by omega), sg_lt]
            rw [← vA, ← vB]
            refine ord_short hA hB (by rw [vals_len, vals_len]; exact hlt) ?_ (by rw [vals_len, vals_len]; exact hpar)
            rw [vals_len, vals_len, vals_drop, ← hs]
          · refine ⟨_, rfl, _, rfl, aT, uT, rfl, .inr sT, rfl, _, rfl, ?_⟩
            have hcA : c < A.length := by rw [lO] at hc; omega
            refine ifE (fun hc2 => ?_) (fun hc2 => ?_)
            · walk_at "r"
              refine J.nx _ _ ⟨Same.refl _, 1, rfl, ?_⟩
              have hcB : c = B.length := by rw [lT] at hc2; omega
              subst hcB
              rw [Nat.sub_self, List.drop_zero] at hs
              rw [if_neg (by omega), sg_gt]
              rw [← vA, ← vB]
              refine ord_short hB hA (by rw [vals_len, vals_len]; exact hcA) ?_ (by rw [vals_len, vals_len]; exact hpar.symm)
              rw [vals_len, vals_len, vals_drop, hs]
            · have hcB : c < B.length := by rw [lT] at hc2; omega
              obtain ⟨v, a, h1, h2, h3, h4, h5, h6⟩ := atA (c := c) (by omega)
              obtain ⟨v', b, g1, g2, g3, g4, g5, g6⟩ := atB (c := c) (by omega)
              refine ⟨_, rfl, _, rfl, aO, uO, rfl, .inr sO, _, _, rfl, rfl, _, rfl, _, _, rfl, rfl, aO, uO, _, v, rfl, rfl, sO, atI_at h1 (ixA (by omega)), ?_⟩
              refine ⟨_, rfl, _, rfl, aT, uT, rfl, .inr sT, _, _, rfl, rfl, _, rfl, _, _, rfl, rfl, aT, uT, _, v', rfl, rfl, sT, atI_at g1 (ixB (by omega)), ?_⟩
              refine ⟨v, v', a, b, rfl, h3, g3, h4, g4, h6, g6, by omega, fun H3 sm3 => ?_⟩
              dsimp only [gName]
              refine J.nx _ _ ⟨sm3, sg (val a) (val b), rfl, ?_⟩
              have hab : val a ≠ val b := by
                rcases hstop with z | ⟨a', b', z1, z2, z3⟩
                · omega
                · rw [h2] at z1
                  rw [g2] at z2
                  cases z1
                  cases z2
                  exact z3
              have lvA := vals_len A
              have lvB := vals_len B
              have hs' : (vals A).drop ((vals A).length - c) = (vals B).drop ((vals B).length - c) := by rw [lvA, lvB, vals_drop, vals_drop, hs]
              have xa : (vals A)[(vals A).length - 1 - c]? = some (vl a) := by rw [lvA]; exact vals_at h2
              have xb : (vals B)[(vals B).length - 1 - c]? = some (vl b) := by rw [lvB]; exact vals_at g2
              have hla : ((vl a : Nat) : Int) = val a := by unfold vl; omega
              have hlb : ((vl b : Nat) : Int) = val b := by unfold vl; omega
              rcases Int.lt_or_lt_of_ne hab with hlt | hlt
              · have od := ord_diff hA hB (by omega) (by omega) hs' (by omega) xa xb (by omega)
                rw [lvA, vA, vB] at od
                rw [sg_lt hlt]
                by_cases z : (A.length + c) % 2 = 1
                · rw [if_pos z, sg_gt (od.2 z)]
                  rfl
                · rw [if_neg z, sg_lt (od.1 (by omega))]
              · have od := ord_diff hB hA (by omega) (by omega) hs'.symm (by omega) xb xa (by omega)
                rw [lvB, vA, vB] at od
                rw [sg_gt hlt]
                by_cases z : (A.length + c) % 2 = 1
                · rw [if_pos z, sg_lt (od.2 (by omega))]
                · rw [if_neg z, sg_gt (od.1 (by omega))]
        · rintro σ H3 ⟨sm3, sd, rfl, hsd⟩
          refine ⟨_, rfl, aO, uO, rfl, .inr (HX.Same.tup sm3 sO), ?_⟩
          walk_at "r"
          refine ifE (fun hz => ?_) (fun hz => ?_)
          · rw [bitAnd_m1, lO] at hz
            rw [if_pos (by omega)] at hsd
            walk_at "r"
            show Q (.int (-sd)) H3
            rw [← hsd]
            exact q H3 (sm.trans sm3)
          · rw [bitAnd_m1, lO] at hz
            rw [if_neg (by omega)] at hsd
            walk_at "r"
            show Q (.int sd) H3
            rw [← hsd]
            exact q H3 (sm.trans sm3)
end
end K37
set_option Elab.async false
set_option linter.all false
set_option maxRecDepth 100000
set_option pp.deepTerms false
set_option pp.maxSteps 1500
namespace K37
open PySem PySem.Spec PyProof.Rows L2 HX TV FM DX FB FC PM
local macro_rules | `(tactic| walk_at "r") => `(tactic| (repeat (first | refine Exists.intro _ (And.intro rfl ?_) | refine And.intro rfl ?_ | refine Exists.intro _ (Exists.intro _ (And.intro rfl (And.intro rfl ?_))) | refine And.intro (by omega) ?_ | refine And.intro (Or.inl (And.intro (by omega) (by omega))) ?_ | refine And.intro (Or.inr (And.intro (by omega) (by omega))) ?_ | refine And.intro (And.intro (by omega) (by omega)) ?_ | refine And.intro (And.intro (by decide) (And.intro (by decide) (by decide))) ?_ | refine Or.inl (Exists.intro _ (And.intro rfl ?_)) | (dsimp only [gName]; first | with_reducible refine seqC ?_ | with_reducible refine asgC ?_))))
local macro_rules | `(tactic| walk_at "s") => `(tactic| (repeat (first | refine Exists.intro _ (And.intro rfl ?_) | refine And.intro rfl ?_ | refine Exists.intro _ (Exists.intro _ (And.intro rfl (And.intro rfl ?_))) | refine And.intro (by omega) ?_ | refine And.intro (Or.inl (And.intro (by omega) (by omega))) ?_ | refine And.intro (Or.inr (And.intro (by omega) (by omega))) ?_ | refine And.intro (And.intro (by omega) (by omega)) ?_ | refine And.intro (And.intro (by decide) (And.intro (by decide) (by decide))) ?_ | refine Or.inl (Exists.intro _ (And.intro rfl ?_)) | refine Exists.intro _ (Exists.intro _ (And.intro rfl ?_)) | (dsimp only [gName]; first | with_reducible refine seqC ?_ | with_reducible refine asgC ?_))))
section
variable {P : Program} {w : World} {K : PySem.W.Frag} {mg : Str → Option Value} {base : Heap}
/-- two rows merged -/
def sp_mrg (K : PySem.W.Frag) (n : Nat) : Sp := fun vs H Q _ => ∃ (a b : Addr) (ua ub : List V) (A B : List PyData), vs = [.ref a, .ref b] ∧ SqT K H a ua ∧ SqT K H b ub ∧ DpAll K H ua A ∧ DpAll K H ub B ∧ FmAll A ∧ FmAll B ∧ Asc (vals A) ∧ Asc (vals B) ∧
  PyData.depthAll A ≤ n ∧ PyData.depthAll B ≤ n ∧ n ≤ 60 ∧ A.length + B.length ≤ 14000000 ∧
  ∀ (l : Addr) (us : List V) (R : List PM.Row) H', H l = none → H' l = some (.lst us) → DpAll K H' us (R.map rowD) → Mg A B R → R.length ≤ A.length + B.length → Same H H' → Q (.ref l) H'
theorem ok_merged (T : Top K mg) (n : Nat) : FnOk P w K mg base CX0 (n + 4) T.f_merged T.fd_merged ["ours", "theirs"]  (sp_mrg K n) := by
  have G_order : FnOk P w K mg base CX0 (n + 3) T.f_order T.fd_order ["x", "y"]  (sp_ord K n) := ok_order T n
  refine T.F_merged.ok sc_merged (fun vs H Q E h => ?_) (fun cdv Ar outer s H vs Q E hr h => ?_)
  · obtain ⟨a, b, ua, ub, A, B, rfl, _⟩ := h
    rfl
  · obtain ⟨a, b, ua, ub, A, B, rfl, sA, sB, dA, dB, fA, fB, hA, hB, depA, depB, hn, hlen, q⟩ := h
    have lA := dpAll_len dA
    have lB := dpAll_len dB
    refine ⟨_, (pss_cons (ps_set (i := 2) sc_merged.nd rfl (Or.inl rfl) (pe_lst pa_nil))
    (pss_cons (ps_set (i := 3) sc_merged.nd rfl (Or.inl rfl) pe_int)
    (pss_cons (ps_set (i := 4) sc_merged.nd rfl (Or.inl rfl) pe_int)
    (pss_cons (ps_while PassesOwn.never (PW.pt (pw_or (pt_cmpR op_lt (pv 3) (pe_callB call_len_seq (by rfl) T.m_len PySem.boot_len (pa_cons (pv 0) pa_nil)) (nomark _)) (pw_or1 (pt_cmpR op_lt (pv 4) (pe_callB call_len_seq (by rfl) T.m_len PySem.boot_len (pa_cons (pv 1) pa_nil)) (nomark _)))))
      (pss_cons (ps_if (pt_cmpR op_eq (pv 3) (pe_callB call_len_seq (by rfl) T.m_len PySem.boot_len (pa_cons (pv 0) pa_nil)) (nomark _))
        (pss_one (ps_set (i := 5) sc_merged.nd rfl (Or.inl rfl) pe_int))
        (pss_one (ps_if (pt_cmpR op_eq (pv 4) (pe_callB call_len_seq (by rfl) T.m_len PySem.boot_len (pa_cons (pv 1) pa_nil)) (nomark _))
          (pss_one (ps_set (i := 5) sc_merged.nd rfl (Or.inl rfl) (pe_un un_neg pe_int)))
          (pss_one (ps_set (i := 5) sc_merged.nd rfl (Or.inl rfl) (pe_call G_order (hr.mono (by omega)) (by rfl) T.g_order T.F_order.kp T.b_order .nil pass0 (pa_cons (pe_ix ix_tup (pv 0) (pv 3) (fun _ _ => rfl)) (pa_cons (pe_ix ix_tup (pv 1) (pv 4) (fun _ _ => rfl)) pa_nil))))))))
      (pss_cons (ps_if (pt_cmpR op_lt (pv 5) pe_int (nomark _))
        (pss_one (ps_expr (pe_bm PySem.F.plainAttrs_list PySem.F.slot_list_append PySem.F.type_list_append mt_append (pv 2) (pa_cons (pe_tup (pa_cons (pe_ix ix_tup (pv 0) (pv 3) (fun _ _ => rfl)) (pa_cons pe_int (pa_cons pe_int pa_nil)))) pa_nil))))
        (pss_one (ps_if (pt_cmpR op_gt (pv 5) pe_int (nomark _))
          (pss_one (ps_expr (pe_bm PySem.F.plainAttrs_list PySem.F.slot_list_append PySem.F.type_list_append mt_append (pv 2) (pa_cons (pe_tup (pa_cons (pe_ix ix_tup (pv 1) (pv 4) (fun _ _ => rfl)) (pa_cons pe_int (pa_cons pe_int pa_nil)))) pa_nil))))
          (pss_one (ps_expr (pe_bm PySem.F.plainAttrs_list PySem.F.slot_list_append PySem.F.type_list_append mt_append (pv 2) (pa_cons (pe_tup (pa_cons (pe_ix ix_tup (pv 0) (pv 3) (fun _ _ => rfl)) (pa_cons pe_int (pa_cons pe_int pa_nil)))) pa_nil)))))))
      (pss_cons (ps_if (pt_cmpR op_le (pv 5) pe_int (nomark _))
        (pss_one (ps_aug (i := 3) sc_merged.nd rfl (Or.inl rfl) pe_int ip_add))
        pss_nil)
      (pss_one (ps_if (pt_cmpR op_ge (pv 5) pe_int (nomark _))
        (pss_one (ps_aug (i := 4) sc_merged.nd rfl (Or.inl rfl) pe_int ip_add))
        pss_nil))))))
    (pss_one (ps_ret (pv 2))))))), ?_⟩
    refine ⟨Nat.zero_le _, fun l nl => ?_⟩
    walk_at "r"
    refine ⟨fun m σ H' => ∃ (i j : Nat) (z : Option V) (us : List V) (R : List PM.Row), σ = [some (.ref a), some (.ref b), some (.ref l), some (.int (i : Nat)), some (.int (j : Nat)), z] ∧ MgI A B R i j ∧ (A.length - i) + (B.length - j) ≤ m ∧ H' l = some (.lst us) ∧ DpAll K H' us (R.map rowD) ∧ Same H H',
      ⟨A.length + B.length, 0, 0, none, [], [], rfl, .start A B, by omega, upd_same, .nil, sm_upd nl⟩, ?_⟩
    rintro m σ H' ⟨i, j, z, us, R, rfl, S, hm, hl, hD, sm⟩
    have hi := S.hi
    have hj := S.hj
    refine ⟨_, rfl, _, rfl, a, ua, rfl, .inr (HX.Same.tup sm sA), _, _, rfl, rfl, _, rfl, ?_⟩
    rw [lA]
    refine ifOrQ (j < B.length) (fun hij => wb fun D' B' => ?_) (fun h1 body => ?_)
    case refine_2 =>
      refine ⟨_, rfl, _, rfl, b, ub, rfl, .inr (HX.Same.tup sm sB), _, _, rfl, rfl, _, rfl, ?_⟩
      rw [lB]
      refine ifD (fun h2 => body (.inr (by omega))) (fun h2 => ?_)
      walk_at "r"
      have M := S.done (by omega) (by omega)
      exact q l us R H' nl hl hD M (by have := S.ln; omega) sm
    have sA' := HX.Same.tup sm sA
    have sB' := HX.Same.tup sm sB
    have dA' := dpAll_tk (tk_same sm) fA dA
    have dB' := dpAll_tk (tk_same sm) fB dB
    refine cut (fun σ H2 => Same H' H2 ∧ ∃ sd : Int, σ = [some (.ref a), some (.ref b), some (.ref l), some (.int (i : Nat)), some (.int (j : Nat)), some (.int sd)] ∧
      (sd < 0 → i < A.length ∧ ∀ p, A[i]? = some p → ∀ x ∈ B.drop j, vl p < vl x) ∧ (0 < sd → j < B.length ∧ ∀ p, B[j]? = some p → ∀ x ∈ A.drop i, vl p < vl x) ∧ (sd = 0 → ∃ p, A[i]? = some p ∧ B[j]? = some p)) (fun D J => ?_) ?_
    · refine ⟨_, rfl, _, rfl, a, ua, rfl, .inr sA', rfl, _, rfl, ?_⟩
      rw [lA]
      refine ifE (fun hc => ?_) (fun hc => ?_)
      · walk_at "r"
        refine J.nx _ _ ⟨Same.refl _, 1, rfl, fun z => by omega, fun _ => ⟨by omega, fun p hp x hx => ?_⟩, fun z => by omega⟩
        rw [List.drop_of_length_le (by omega)] at hx
        simp at hx
      · refine ⟨_, rfl, _, rfl, b, ub, rfl, .inr sB', rfl, _, rfl, ?_⟩
        rw [lB]
        refine ifE (fun hc2 => ?_) (fun hc2 => ?_)
        · walk_at "r"
          refine J.nx _ _ ⟨Same.refl _, -1, rfl, fun _ => ⟨by omega, fun p hp x hx => ?_⟩, fun z => by omega, fun z => by omega⟩
          rw [List.drop_of_length_le (by omega)] at hx
          simp at hx
        · obtain ⟨p, hp⟩ : ∃ p, A[i]? = some p := ⟨A[i]'(by omega), by simp [show i < A.length by omega]⟩
          obtain ⟨r, hr'⟩ : ∃ r, B[j]? = some r := ⟨B[j]'(by omega), by simp [show j < B.length by omega]⟩
          obtain ⟨v, hv1, hv2⟩ := dpAll_at dA' hp
          obtain ⟨u, hu1, hu2⟩ := dpAll_at dB' hr'
          have mp := fmAll_mem fA p (List.mem_of_getElem? hp)
          have mr := fmAll_mem fB r (List.mem_of_getElem? hr')
          have dp := dep_mem (List.mem_of_getElem? hp)
          have dr := dep_mem (List.mem_of_getElem? hr')
          refine ⟨_, rfl, _, rfl, a, ua, _, v, rfl, rfl, sA', atI_nat hv1, ?_⟩
          refine ⟨_, rfl, _, rfl, b, ub, _, u, rfl, rfl, sB', atI_nat hu1, ?_⟩
          refine ⟨v, u, p, r, rfl, hv2, hu2, mp.1, mr.1, by omega, by omega, hn, fun H2 sm2 => ?_⟩
          dsimp only [gName]
          have ways := sg_ways mp.1 mr.1 mp.2 mr.2
          refine J.nx _ _ ⟨sm2, _, rfl, fun z => ⟨by omega, fun p' hp' x hx => ?_⟩, fun z => ⟨by omega, fun p' hp' x hx => ?_⟩, fun z => ⟨p, hp, ways.2.2 z ▸ hr'⟩⟩
          · rw [hp] at hp'
            cases hp'
            rw [drop_one hr'] at hx
            have := ways.1 z
            rcases List.mem_cons.mp hx with rfl | hx
            · exact this
            · exact Nat.lt_trans this (asc_tail hB hr' x hx)
          · rw [hr'] at hp'
            cases hp'
            rw [drop_one hp] at hx
            have := ways.2.1 z
            rcases List.mem_cons.mp hx with rfl | hx
            · exact this
            · exact Nat.lt_trans this (asc_tail hA hp x hx)
    · rintro σ H2 ⟨sm2, sd, rfl, w1, w2, w3⟩
      have sA2 := HX.Same.tup sm2 sA'
      have sB2 := HX.Same.tup sm2 sB'
      have dA2 := dpAll_tk (tk_same sm2) fA dA'
      have dB2 := dpAll_tk (tk_same sm2) fB dB'
      have hl2 := sm2 _ _ hl
      have hD2 := dpAll_im (tk_same sm2) (im_rows S.mg.fm) hD
      have lus := dpAll_len hD2
      rw [List.length_map] at lus
      have hlt : us.length < sizeLine := len_lt (by have := S.ln; omega)
      refine cut (fun σ H3 => ∃ (p : PyData) (us' : List V), σ = [some (.ref a), some (.ref b), some (.ref l), some (.int (i : Nat)), some (.int (j : Nat)), some (.int sd)] ∧ (sd ≤ 0 → A[i]? = some p) ∧ (0 ≤ sd → B[j]? = some p) ∧
        Same H H3 ∧ H3 l = some (.lst us') ∧ DpAll K H3 us' ((R ++ [(p, decide (sd ≤ 0), decide (0 ≤ sd))]).map rowD)) (fun D J => ?_) ?_
      · have fin : ∀ (p : PyData) (v : V) (mi ni : Int) (t : Addr), H2 t = none → Dp K H2 v p → Fm p → mi = bi (decide (sd ≤ 0)) → ni = bi (decide (0 ≤ sd)) → (sd ≤ 0 → A[i]? = some p) → (0 ≤ sd → B[j]? = some p) →
            D.nx [some (.ref a), some (.ref b), some (.ref l), some (.int (i : Nat)), some (.int (j : Nat)), some (.int sd)] (upd (upd H2 t (.tup [v, .int mi, .int ni])) l (.lst (us ++ [.ref t]))) := fun p v mi ni t nt hv fp e1 e2 k1 k2 => by
          have s1 := sm_upd (o := .tup [v, .int mi, .int ni]) nt
          have mu : Mut (upd H2 t (.tup [v, .int mi, .int ni]) l) := by
            rw [s1 _ _ hl2]
            trivial
          have tk : Tk H2 (upd (upd H2 t (.tup [v, .int mi, .int ni])) l (.lst (us ++ [.ref t]))) := (tk_same s1).trans (tk_mut mu)
          have tne : t ≠ l := (ne_of_none hl2 nt).symm
          refine J.nx _ _ ⟨p, us ++ [.ref t], rfl, k1, k2, sm_mut ((sm.trans sm2).trans s1) nl, upd_same, ?_⟩
          rw [List.map_append]
          subst e1 e2
          have ht : upd (upd H2 t (.tup [v, .int (bi (decide (sd ≤ 0))), .int (bi (decide (0 ≤ sd)))])) l (.lst (us ++ [.ref t])) t = some (.tup [v, .int (bi (decide (sd ≤ 0))), .int (bi (decide (0 ≤ sd)))]) := by
            rw [upd_ne tne]
            exact upd_same
          exact dpAll_app (dpAll_im tk (im_rows S.mg.fm) hD2) (.cons (.tup (.inl (.inl ht)) (.cons (dp_tk tk fp hv) (.cons (.int _) (.cons (.int _) .nil)))) .nil)
        refine ⟨_, rfl, _, _, rfl, rfl, _, rfl, ?_⟩
        refine ifD (fun hz => ?_) (fun hz => ?_)
        · obtain ⟨hi', _⟩ := w1 hz
          obtain ⟨p, hp⟩ : ∃ p, A[i]? = some p := ⟨A[i]'(by omega), by simp [hi']⟩
          obtain ⟨v, hv1, hv2⟩ := dpAll_at dA2 hp
          refine ⟨_, rfl, .inl ⟨rfl, _, .inl (.inl hl2)⟩, _, rfl, _, rfl, a, ua, _, v, rfl, rfl, sA2, atI_nat hv1, by show 3 ≤ sizeLine; decide, fun t nt => ?_⟩
          refine ⟨l, us, _, rfl, rfl, (sm_upd nt) _ _ hl2, hlt, ?_⟩
          exact fin p v 1 0 t nt hv2 (fmAll_mem fA p (List.mem_of_getElem? hp)).1 (by rw [decide_eq_true (by omega)]; rfl) (by rw [decide_eq_false (by omega)]; rfl) (fun _ => hp) (fun z => by omega)
        refine ⟨_, rfl, _, _, rfl, rfl, _, rfl, ?_⟩
        refine ifD (fun hz2 => ?_) (fun hz2 => ?_)
        · obtain ⟨hj', _⟩ := w2 hz2
          obtain ⟨p, hp⟩ : ∃ p, B[j]? = some p := ⟨B[j]'(by omega), by simp [hj']⟩
          obtain ⟨v, hv1, hv2⟩ := dpAll_at dB2 hp
          refine ⟨_, rfl, .inl ⟨rfl, _, .inl (.inl hl2)⟩, _, rfl, _, rfl, b, ub, _, v, rfl, rfl, sB2, atI_nat hv1, by show 3 ≤ sizeLine; decide, fun t nt => ?_⟩
          refine ⟨l, us, _, rfl, rfl, (sm_upd nt) _ _ hl2, hlt, ?_⟩
          exact fin p v 0 1 t nt hv2 (fmAll_mem fB p (List.mem_of_getElem? hp)).1 (by rw [decide_eq_false (by omega)]; rfl) (by rw [decide_eq_true (by omega)]; rfl) (fun z => by omega) (fun _ => hp)
        · obtain ⟨p, hp, hp2⟩ := w3 (by omega)
          obtain ⟨v, hv1, hv2⟩ := dpAll_at dA2 hp
          refine ⟨_, rfl, .inl ⟨rfl, _, .inl (.inl hl2)⟩, _, rfl, _, rfl, a, ua, _, v, rfl, rfl, sA2, atI_nat hv1, by show 3 ≤ sizeLine; decide, fun t nt => ?_⟩
          refine ⟨l, us, _, rfl, rfl, (sm_upd nt) _ _ hl2, hlt, ?_⟩
          exact fin p v 1 1 t nt hv2 (fmAll_mem fA p (List.mem_of_getElem? hp)).1 (by rw [decide_eq_true (by omega)]; rfl) (by rw [decide_eq_true (by omega)]; rfl) (fun _ => hp) (fun _ => hp2)
      · rintro σ H3 ⟨p, us', rfl, k1, k2, sm3, hl3, hD3⟩
        have st : ∃ i' j' : Nat, i' = i + (if sd ≤ 0 then 1 else 0) ∧ j' = j + (if 0 ≤ sd then 1 else 0) ∧ MgI A B (R ++ [(p, decide (sd ≤ 0), decide (0 ≤ sd))]) i' j' ∧ (A.length - i') + (B.length - j') < m := by
          refine ⟨_, _, rfl, rfl, ?_⟩
          rcases Int.lt_trichotomy sd 0 with z | z | z
          · have := (w1 z).1
            rw [if_pos (by omega), if_neg (by omega), decide_eq_true (by omega), decide_eq_false (by omega)]
            exact ⟨S.left fA hA (k1 (by omega)) ((w1 z).2 p (k1 (by omega))), by omega⟩
          · have h1 := (List.getElem?_eq_some_iff.mp (k1 (by omega))).1
            rw [if_pos (by omega), if_pos (by omega), decide_eq_true (by omega), decide_eq_true (by omega)]
            exact ⟨S.both fA hA hB (k1 (by omega)) (k2 (by omega)), by omega⟩
          · have := (w2 z).1
            rw [if_neg (by omega), if_pos (by omega), decide_eq_false (by omega), decide_eq_true (by omega)]
            exact ⟨S.right fB hB (k2 (by omega)) ((w2 z).2 p (k2 (by omega))), by omega⟩
        obtain ⟨i', j', ei, ej, S', hm'⟩ := st
        refine cut (fun σ H4 => H4 = H3 ∧ σ = [some (.ref a), some (.ref b), some (.ref l), some (.int (i' : Nat)), some (.int (j : Nat)), some (.int sd)]) (fun D J => ?_) ?_
        · refine ⟨_, rfl, _, _, rfl, rfl, _, rfl, ?_⟩
          refine ifD (fun hz => ?_) (fun hz => ?_)
          · walk_at "r"
            rw [if_pos hz] at ei
            subst ei
            exact J.nx _ _ ⟨rfl, rfl⟩
          · rw [if_neg hz] at ei
            subst ei
            exact J.nx _ _ ⟨rfl, rfl⟩
        · rintro σ H4 ⟨rfl, rfl⟩
          refine ⟨_, rfl, _, _, rfl, rfl, _, rfl, ?_⟩
          refine ifD (fun hz => ?_) (fun hz => ?_)
          · walk_at "r"
            rw [if_pos hz] at ej
            subst ej
            exact B'.nx _ _ ⟨_, hm', i', j + 1, _, us', _, rfl, S', Nat.le_refl _, hl3, hD3, sm3⟩
          · rw [if_neg hz] at ej
            subst ej
            exact B'.nx _ _ ⟨_, hm', i', _, _, us', _, rfl, S', Nat.le_refl _, hl3, hD3, sm3⟩
end
end K37
set_option Elab.async false
set_option linter.all false
set_option maxRecDepth 100000
set_option pp.deepTerms false
set_option pp.maxSteps 1500
namespace K37
open PySem PySem.Spec PyProof.Rows L2 HX TV FM DX FB FC PM
local macro_rules | `(tactic| walk_at "r") => `(tactic| (repeat (first | refine Exists.intro _ (And.intro rfl ?_) | refine And.intro rfl ?_ | refine Exists.intro _ (Exists.intro _ (And.intro rfl (And.intro rfl ?_))) | refine And.intro (by omega) ?_ | refine And.intro (Or.inl (And.intro (by omega) (by omega))) ?_ | refine And.intro (Or.inr (And.intro (by omega) (by omega))) ?_ | refine And.intro (And.intro (by omega) (by omega)) ?_ | refine And.intro (And.intro (by decide) (And.intro (by decide) (by decide))) ?_ | refine Or.inl (Exists.intro _ (And.intro rfl ?_)) | (dsimp only [gName]; first | with_reducible refine seqC ?_ | with_reducible refine asgC ?_))))
local macro_rules | `(tactic| walk_at "s") => `(tactic| (repeat (first | refine Exists.intro _ (And.intro rfl ?_) | refine And.intro rfl ?_ | refine Exists.intro _ (Exists.intro _ (And.intro rfl (And.intro rfl ?_))) | refine And.intro (by omega) ?_ | refine And.intro (Or.inl (And.intro (by omega) (by omega))) ?_ | refine And.intro (Or.inr (And.intro (by omega) (by omega))) ?_ | refine And.intro (And.intro (by omega) (by omega)) ?_ | refine And.intro (And.intro (by decide) (And.intro (by decide) (by decide))) ?_ | refine Or.inl (Exists.intro _ (And.intro rfl ?_)) | refine Exists.intro _ (Exists.intro _ (And.intro rfl ?_)) | (dsimp only [gName]; first | with_reducible refine seqC ?_ | with_reducible refine asgC ?_))))
section
variable {P : Program} {w : World} {K : PySem.W.Frag} {mg : Str → Option Value} {base : Heap}
def tabV (f : Bool → Bool → Bool) : List V := [.int (bi (f false false)), .int (bi (f false true)), .int (bi (f true false)), .int (bi (f true true))]
theorem xor_bi (a b : Bool) : Builtin.bitXor (bi a) (bi b) = bi (a ^^ b) := by cases a <;> cases b <;> decide
theorem tab_at (f : Bool → Bool → Bool) (a b : Bool) : atI (tabV f) (2 * bi a + bi b) = some (.int (bi (f a b))) := by cases a <;> cases b <;> rfl
theorem comb_cons (f : Bool → Bool → Bool) (o t b : Bool) (p : PyData) (m n : Bool) (R : List PM.Row) : comb f o t b ((p, m, n) :: R) = if f (o ^^ m) (t ^^ n) = b then comb f (o ^^ m) (t ^^ n) b R else p :: comb f (o ^^ m) (t ^^ n) (f (o ^^ m) (t ^^ n)) R := rfl
theorem bi_inj {a b : Bool} (h : bi a = bi b) : a = b := by revert h; cases a <;> cases b <;> decide
theorem wtAll_sub {ds es : List PyData} (h : ds.Sublist es) : wtAll ds ≤ wtAll es := by
  induction h with
  | slnil => exact Nat.le_refl _
  | cons a _ ih => rw [wtAll_cons]; omega
  | cons_cons a _ ih => rw [wtAll_cons, wtAll_cons]; omega
/-- the form whose bits are f of the bits of two forms -/
def sp_cmb (K : PySem.W.Frag) (n : Nat) : Sp := fun vs H Q _ => ∃ (x y : V) (d e : PyData) (t : Addr) (f : Bool → Bool → Bool), vs = [x, y, .ref t] ∧ Dp K H x d ∧ Dp K H y e ∧ Fm d ∧ Fm e ∧ d.depth ≤ n + 1 ∧ e.depth ≤ n + 1 ∧ n ≤ 60 ∧ wt d + wt e ≤ 1000000 ∧
  (∀ H', SqT K H' t (tabV f)) ∧ f false false = false ∧
  ∀ (v : V) (r : PyData) H', Fm r → (∀ q, tb (val r) q = f (tb (val d) q) (tb (val e) q)) → r.depth ≤ n + 1 → wt r ≤ wt d + wt e + 140 → Dp K H' v r → Same H H' → Q v H'
theorem ok_combined (T : Top K mg) (n : Nat) : FnOk P w K mg base CX0 (n + 5) T.f_combined T.fd_combined ["x", "y", "table"]  (sp_cmb K n) := by
  have G_merged : FnOk P w K mg base CX0 (n + 4) T.f_merged T.fd_merged ["ours", "theirs"]  (sp_mrg K n) := ok_merged T n
  have G_turns : FnOk P w K mg base CX0 (2) T.f_turns T.fd_turns ["x"]  (sp_trn K) := ok_turns T
  have G_made : FnOk P w K mg base CX0 (1) T.f_made T.fd_made ["found"]  (sp_made K) := ok_made T
  refine T.F_combined.ok sc_combined (fun vs H Q E h => ?_) (fun cdv Ar outer s H vs Q E hr h => ?_)
  · obtain ⟨x, y, d, e, t, f, rfl, _⟩ := h
    rfl
  · obtain ⟨x, y, d, e, t, f, rfl, hx, hy, hd, he, hdd, hde, hn, hw, hT, hf, q⟩ := h
    refine ⟨_, (pss_cons (ps_set (i := 3) sc_combined.nd rfl (Or.inl rfl) (pe_lst pa_nil))
    (pss_cons (ps_set (i := 4) sc_combined.nd rfl (Or.inl rfl) pe_int)
    (pss_cons (ps_set (i := 5) sc_combined.nd rfl (Or.inl rfl) pe_int)
    (pss_cons (ps_set (i := 6) sc_combined.nd rfl (Or.inl rfl) pe_int)
    (pss_cons (ps_for PassesOwn.never rfl (pi_list (pe_call G_merged (hr.mono (by omega)) (by rfl) T.g_merged T.F_merged.kp T.b_merged .nil pass0 (pa_cons (pe_call G_turns (hr.mono (by omega)) (by rfl) T.g_turns T.F_turns.kp T.b_turns .nil pass0 (pa_cons (pv 0) pa_nil)) (pa_cons (pe_call G_turns (hr.mono (by omega)) (by rfl) T.g_turns T.F_turns.kp T.b_turns .nil pass0 (pa_cons (pv 1) pa_nil)) pa_nil)))) (pg_tup rfl (pgs_cons (pg_name (i := 7) sc_combined.nd rfl (Or.inl rfl)) (pgs_cons (pg_name (i := 8) sc_combined.nd rfl (Or.inl rfl)) (pgs_cons (pg_name (i := 9) sc_combined.nd rfl (Or.inl rfl)) pgs_nil))))
      (pss_cons (ps_set (i := 4) sc_combined.nd rfl (Or.inl rfl) (pe_op op_xor (pv 4) (pv 8)))
      (pss_cons (ps_set (i := 5) sc_combined.nd rfl (Or.inl rfl) (pe_op op_xor (pv 5) (pv 9)))
      (pss_cons (ps_set (i := 10) sc_combined.nd rfl (Or.inl rfl) (pe_ix ix_tup (pv 2) (pe_op op_add (pe_op op_mul pe_int (pv 4)) (pv 5)) (fun _ _ => rfl)))
      (pss_one (ps_if (pt_cmpR op_ne (pv 10) (pv 6) (nomark _))
        (pss_cons (ps_expr (pe_bm PySem.F.plainAttrs_list PySem.F.slot_list_append PySem.F.type_list_append mt_append (pv 3) (pa_cons (pv 7) pa_nil)))
        (pss_one (ps_set (i := 6) sc_combined.nd rfl (Or.inl rfl) (pv 10))))
        pss_nil))))))
    (pss_one (ps_ret (pe_call G_made (hr.mono (by omega)) (by rfl) T.g_made T.F_made.kp T.b_made .nil pass0 (pa_cons (pv 3) pa_nil))))))))), ?_⟩
    refine ⟨Nat.zero_le _, fun l nl => ?_⟩
    walk_at "r"
    have s0 := sm_upd (o := .lst []) nl
    have hl0 := upd_at (o := .lst []) nl
    replace hx := dp_tk (tk_same s0) hd hx
    replace hy := dp_tk (tk_same s0) he hy
    revert hl0 hx hy s0
    generalize upd H l (.lst []) = H0
    intro s0 hl0 hx hy
    refine ⟨x, d, rfl, hx, hd, fun aO uO A H1 fA hA vA sO dO depA wA iA sm1 => ?_⟩
    refine ⟨_, rfl, y, e, rfl, dp_tk (tk_same sm1) he hy, he, fun aT uT B H2 fB hB vB sT dT depB wB iB sm2 => ?_⟩
    have lwA := len_wt A
    have lwB := len_wt B
    refine ⟨aO, aT, uO, uT, A, B, rfl, HX.Same.tup sm2 sO, sT, dpAll_tk (tk_same sm2) fA dO, dT, fA, fB, hA, hB, by omega, by omega, hn, by omega, fun lr us R H3 nlr hlr hD M hR sm3 => ?_⟩
    have sm03 := (sm1.trans sm2).trans sm3
    have hl3 := sm03 _ _ hl0
    have lne : lr ≠ l := (ne_of_none (sm1.trans sm2 _ _ hl0) nlr).symm
    have lus := dpAll_len hD
    rw [List.length_map] at lus
    have mu : Mut (H3 l) := by
      rw [hl3]
      trivial
    refine ⟨lr, rfl, ⟨_, .inl (.inl hlr)⟩, flL (xs := us) (fun i σ H' => ∃ (o u b : Bool) (z7 z8 z9 z10 : Option V) (uf : List V) (F : List PyData), σ = [some x, some y, some (.ref t), some (.ref l), some (.int (bi o)), some (.int (bi u)), some (.int (bi b)), z7, z8, z9, z10] ∧
      f o u = b ∧ F ++ comb f o u b (R.drop i) = comb f false false false R ∧ H' l = some (.lst uf) ∧ DpAll K H' uf F ∧ But l H3 H')
      ⟨false, false, false, none, none, none, none, [], [], rfl, hf, by simp, hl3, .nil, But.refl _⟩ ?_ ?_ ?_⟩
    · rintro i σ H' _ ⟨o, u, b, z7, z8, z9, z10, uf, F, _, _, _, _, _, bt⟩
      exact .inl (.inl (bt _ _ lne hlr))
    · rintro i v σ H' hv ⟨o, u, b, z7, z8, z9, z10, uf, F, rfl, hb, inv, hl', hF, bt⟩ D' B'
      obtain ⟨d', hd', hv'⟩ := dpAll_get hD hv
      rw [List.getElem?_map] at hd'
      cases er : R[i]? with
      | none =>
        rw [er] at hd'
        cases hd'
      | some r =>
        rw [er] at hd'
        cases hd'
        obtain ⟨p, m, n'⟩ := r
        have hdrop : R.drop i = (p, m, n') :: R.drop (i + 1) := by
          obtain ⟨hi, e⟩ := List.getElem?_eq_some_iff.mp er
          rw [List.drop_eq_getElem_cons hi, e]
        have fp := fmAll_mem M.fm p (List.mem_map.mpr ⟨_, List.mem_of_getElem? er, rfl⟩)
        have hi := (List.getElem?_eq_some_iff.mp er).1
        have tk : Tk H3 H' := tk_but bt mu
        have hv2 := dp_im tk (im_row (r := (p, m, n')) fp.1) hv'
        rw [hdrop, comb_cons] at inv
        cases hv2 with
        | @tup T xs _ h1 h2 =>
          cases h2 with
          | @cons vp _ _ _ g1 g2 =>
            cases g2 with
            | cons g2 g3 =>
              cases g2
              cases g3 with
              | cons g3 g4 =>
                cases g3
                cases g4
                refine ⟨T, _, rfl, h1, rfl, _, _, rfl, _, _, rfl, _, _, rfl, rfl, ?_⟩
                walk_at "r"
                simp only [xor_bi]
                refine ⟨t, _, _, _, rfl, rfl, hT H', tab_at f _ _, ?_⟩
                walk_at "r"
                refine ifNE (fun hc => ?_) (fun hc => ?_)
                · have hne : f (o ^^ m) (u ^^ n') ≠ b := fun z => hc (by rw [z])
                  rw [if_neg hne] at inv
                  refine ⟨_, rfl, .inl ⟨rfl, _, .inl (.inl hl')⟩, _, rfl, l, uf, _, rfl, rfl, hl', ?_, ?_⟩
                  · have h5 := dpAll_len hF
                    have h6 := congrArg List.length inv
                    have h7 := (comb_sub f R false false false).length_le
                    have h8 : (pR R).length = R.length := by simp [pR]
                    rw [List.length_append] at h6
                    exact len_lt (by omega)
                  walk_at "r"
                  have mu' : Mut (H' l) := by
                    rw [hl']
                    trivial
                  have tk2 : Tk H' (upd H' l (.lst (uf ++ [vp]))) := tk_mut mu'
                  refine B'.nx _ _ ⟨o ^^ m, u ^^ n', f (o ^^ m) (u ^^ n'), _, _, _, _, uf ++ [vp], F ++ [p], rfl, rfl, ?_, upd_same, ?_, bt.upd⟩
                  · rw [← inv]
                    simp
                  · have fF : FmAll F := fmAll_sub (List.sublist_append_left F _) (inv ▸ fmAll_sub (comb_sub f R false false false) M.fm)
                    exact dpAll_app (dpAll_tk tk2 fF hF) (.cons (dp_tk tk2 fp.1 g1) .nil)
                · have hne : f (o ^^ m) (u ^^ n') = b := bi_inj hc
                  rw [if_pos hne] at inv
                  exact B'.nx _ _ ⟨o ^^ m, u ^^ n', b, _, _, _, _, uf, F, rfl, hne, inv, hl', hF, bt⟩
    · rintro σ H' ⟨o, u, b, z7, z8, z9, z10, uf, F, rfl, hb, inv, hl', hF, bt⟩
      have eF : F = comb f false false false R := by
        rw [lus, List.drop_length] at inv
        simpa [comb] using inv
      have sub := comb_sub f R false false false
      have fF : FmAll F := by
        rw [eF]
        exact fmAll_sub sub M.fm
      refine ⟨_, rfl, l, uf, F, rfl, .inl (.inl (.inl hl')), hF, fF, by rw [eF]; exact asc_sub (vals_sub sub) M.asc, fun v r H4 k1 k2 k3 k4 k5 sm4 => ?_⟩
      have hsm : Same H H4 := (But.same (s0.trans sm03) nl bt).trans sm4
      refine q v r H4 k1 (fun p => ?_) ?_ ?_ k5 hsm
      · rw [k2, eF, comb_tb M hf, vA, vB]
      · have : PyData.depthAll F ≤ n := depthAll_le.mpr fun z hz => by
          rw [eF] at hz
          rcases M.mem z (sub.subset hz) with hz | hz
          · have := dep_mem hz
            omega
          · have := dep_mem hz
            omega
        omega
      · have h1 := wtAll_sub sub
        rw [← eF] at h1
        have := M.wt
        omega
end
end K37
set_option Elab.async false
set_option linter.all false
set_option maxRecDepth 100000
set_option pp.deepTerms false
set_option pp.maxSteps 1500
namespace K37
open PySem PySem.Spec PyProof.Rows L2 HX TV FM DX FB FC PM
local macro_rules | `(tactic| walk_at "r") => `(tactic| (repeat (first | refine Exists.intro _ (And.intro rfl ?_) | refine And.intro rfl ?_ | refine Exists.intro _ (Exists.intro _ (And.intro rfl (And.intro rfl ?_))) | refine And.intro (by omega) ?_ | refine And.intro (Or.inl (And.intro (by omega) (by omega))) ?_ | refine And.intro (Or.inr (And.intro (by omega) (by omega))) ?_ | refine And.intro (And.intro (by omega) (by omega)) ?_ | refine And.intro (And.intro (by decide) (And.intro (by decide) (by decide))) ?_ | refine Or.inl (Exists.intro _ (And.intro rfl ?_)) | (dsimp only [gName]; first | with_reducible refine seqC ?_ | with_reducible refine asgC ?_))))
local macro_rules | `(tactic| walk_at "s") => `(tactic| (repeat (first | refine Exists.intro _ (And.intro rfl ?_) | refine And.intro rfl ?_ | refine Exists.intro _ (Exists.intro _ (And.intro rfl (And.intro rfl ?_))) | refine And.intro (by omega) ?_ | refine And.intro (Or.inl (And.intro (by omega) (by omega))) ?_ | refine And.intro (Or.inr (And.intro (by omega) (by omega))) ?_ | refine And.intro (And.intro (by omega) (by omega)) ?_ | refine And.intro (And.intro (by decide) (And.intro (by decide) (by decide))) ?_ | refine Or.inl (Exists.intro _ (And.intro rfl ?_)) | refine Exists.intro _ (Exists.intro _ (And.intro rfl ?_)) | (dsimp only [gName]; first | with_reducible refine seqC ?_ | with_reducible refine asgC ?_))))
section
variable {P : Program} {w : World} {K : PySem.W.Frag} {mg : Str → Option Value} {base : Heap}
theorem dpAll_take {H : Hp} {us : List V} {A : List PyData} (h : DpAll K H us A) (i : Nat) : DpAll K H (us.take i) (A.take i) := by
  induction i generalizing us A with
  | zero => simp; exact .nil
  | succ i ih =>
    cases h with
    | nil => simp; exact .nil
    | cons h1 h2 => simp; exact .cons h1 (ih h2)
theorem dpAll_drop {H : Hp} {us : List V} {A : List PyData} (h : DpAll K H us A) (i : Nat) : DpAll K H (us.drop i) (A.drop i) := by
  induction i generalizing us A with
  | zero => simpa using h
  | succ i ih =>
    cases h with
    | nil => simp; exact .nil
    | cons h1 h2 => simp; exact ih h2
/-- a place put into a row, or taken out of it -/
def sp_tog (K : PySem.W.Frag) (n : Nat) : Sp := fun vs H Q _ => ∃ (a : Addr) (p : V) (us : List V) (A : List PyData) (d : PyData), vs = [.ref a, p] ∧ SqT K H a us ∧ DpAll K H us A ∧ FmAll A ∧ Asc (vals A) ∧ Dp K H p d ∧ Fm d ∧ 0 ≤ val d ∧
  PyData.depthAll A ≤ n ∧ d.depth ≤ n ∧ n ≤ 60 ∧ A.length ≤ 14000000 ∧
  ∀ (l : Addr) (us' : List V) (B : List PyData) H', SqT K H' l us' → DpAll K H' us' B → Tog A d B → Same H H' → Q (.ref l) H'
theorem ok_toggled (T : Top K mg) (n : Nat) : FnOk P w K mg base CX0 (n + 4) T.f_toggled T.fd_toggled ["found", "place"]  (sp_tog K n) := by
  have G_order : FnOk P w K mg base CX0 (n + 3) T.f_order T.fd_order ["x", "y"]  (sp_ord K n) := ok_order T n
  refine T.F_toggled.ok sc_toggled (fun vs H Q E h => ?_) (fun cdv Ar outer s H vs Q E hr h => ?_)
  · obtain ⟨a, p, us, A, d, rfl, _⟩ := h
    rfl
  · obtain ⟨a, p, us, A, d, rfl, sA, dA, fA, hA, hp, fd, d0, depA, depD, hn, hlen, q⟩ := h
    have lA := dpAll_len dA
    refine ⟨_, (pss_cons (ps_set (i := 2) sc_toggled.nd rfl (Or.inl rfl) pe_int)
    (pss_cons (ps_while PassesOwn.never (PW.pt (pw_and (pt_cmpR op_lt (pv 2) (pe_callB call_len_seq (by rfl) T.m_len PySem.boot_len (pa_cons (pv 0) pa_nil)) (nomark _)) (pw_and1 (pt_cmpR op_lt (pe_call G_order (hr.mono (by omega)) (by rfl) T.g_order T.F_order.kp T.b_order .nil pass0 (pa_cons (pe_ix ix_tup (pv 0) (pv 2) (fun _ _ => rfl)) (pa_cons (pv 1) pa_nil))) pe_int (nomark _)))))
      (pss_one (ps_aug (i := 2) sc_toggled.nd rfl (Or.inl rfl) pe_int ip_add)))
    (pss_cons (ps_if (PW.pt (pw_and (pt_cmpR op_lt (pv 2) (pe_callB call_len_seq (by rfl) T.m_len PySem.boot_len (pa_cons (pv 0) pa_nil)) (nomark _)) (pw_and1 (pt_cmpR (op_eqD hr.units) (pe_ix ix_tup (pv 0) (pv 2) (fun _ _ => rfl)) (pv 1) (nomark _)))))
      (pss_one (ps_ret (pe_op op_catB (pe_slice sl_tupB (pv 0) po_none (po_some (pv 2))) (pe_slice sl_tupB (pv 0) (po_some (pe_op op_add (pv 2) pe_int)) po_none))))
      pss_nil)
    (pss_one (ps_ret (pe_op op_catB (pe_op op_catB (pe_slice sl_tupB (pv 0) po_none (po_some (pv 2))) (pe_tup (pa_cons (pv 1) pa_nil))) (pe_slice sl_tupB (pv 0) (po_some (pv 2)) po_none))))))), ?_⟩
    walk_at "r"
    refine cut (fun σ H' => ∃ i : Nat, σ = [some (.ref a), some p, some (.int (i : Nat))] ∧ i ≤ A.length ∧ (∀ x ∈ A.take i, vl x < vl d) ∧ (∀ e, A[i]? = some e → vl d ≤ vl e) ∧ Same H H') (fun D J => ?_) ?_
    · refine ⟨fun m σ H' => ∃ i : Nat, σ = [some (.ref a), some p, some (.int (i : Nat))] ∧ i + m = A.length ∧ (∀ x ∈ A.take i, vl x < vl d) ∧ Same H H', ⟨A.length, 0, rfl, by omega, by simp, Same.refl _⟩, ?_⟩
      rintro m σ H' ⟨i, rfl, hm, hlt, sm⟩
      refine ⟨_, rfl, _, rfl, a, us, rfl, .inr (HX.Same.tup sm sA), _, _, rfl, rfl, _, rfl, ?_⟩
      rw [lA]
      refine ifD (fun hc => ?_) (fun hc => ?_)
      · obtain ⟨e, he⟩ : ∃ e, A[i]? = some e := ⟨A[i]'(by omega), by simp [show i < A.length by omega]⟩
        obtain ⟨v, hv1, hv2⟩ := dpAll_at (dpAll_tk (tk_same sm) fA dA) he
        have me := fmAll_mem fA e (List.mem_of_getElem? he)
        have de := dep_mem (List.mem_of_getElem? he)
        refine ⟨_, rfl, _, rfl, a, us, _, v, rfl, rfl, HX.Same.tup sm sA, atI_nat hv1, _, rfl, ?_⟩
        refine ⟨v, p, e, d, rfl, hv2, dp_tk (tk_same sm) fd hp, me.1, fd, by omega, depD, hn, fun H2 sm2 => ?_⟩
        have ways := sg_ways me.1 fd me.2 d0
        walk_at "r"
        refine ifD (fun hz => wb fun D' B' => ?_) (fun hz => ?_)
        · walk_at "r"
          refine B'.nx _ _ ⟨m - 1, by omega, i + 1, rfl, by omega, fun x hx => ?_, sm.trans sm2⟩
          rw [take_one he] at hx
          rcases List.mem_append.mp hx with hx | hx
          · exact hlt x hx
          · rw [List.mem_singleton.mp hx]
            exact ways.1 hz
        · refine J.nx _ _ ⟨i, rfl, by omega, hlt, fun e' he' => ?_, sm.trans sm2⟩
          rw [he] at he'
          cases he'
          apply Nat.le_of_not_lt
          intro hlt2
          apply hz
          have : sg (val e) (val d) = -1 := sg_lt (by have := me.2; unfold vl at hlt2; omega)
          rw [this]
          decide
      · refine iteF ?_
        refine J.nx _ _ ⟨i, rfl, by omega, hlt, fun e he => ?_, sm⟩
        have := (List.getElem?_eq_some_iff.mp he).1
        omega
    · rintro σ H' ⟨i, rfl, hi, hlt, hge, sm⟩
      have sA' := HX.Same.tup sm sA
      have dA' := dpAll_tk (tk_same sm) fA dA
      have hp' := dp_tk (tk_same sm) fd hp
      refine ⟨_, rfl, _, rfl, a, us, rfl, .inr sA', _, _, rfl, rfl, _, rfl, ?_⟩
      rw [lA]
      by_cases heq : A[i]? = some d
      · have hil := (List.getElem?_eq_some_iff.mp heq).1
        refine ifD (fun _ => ?_) (fun z => absurd (by omega) z)
        have he := heq
        obtain ⟨v, hv1, hv2⟩ := dpAll_at dA' he
        refine ⟨_, rfl, _, rfl, a, us, _, v, rfl, rfl, sA', atI_nat hv1, _, rfl, _, _, hv2, hp', shaped_fm fd (by omega), shaped_fm fd (by omega), _, rfl, ?_⟩
        rw [eqv_self fd]
        refine iteT ?_
        refine ⟨_, rfl, _, rfl, _, rfl, a, us, rfl, sA', fun l1 H1 sm1 sl1 => ?_⟩
        rw [cut_to] at sl1
        refine ⟨_, rfl, _, rfl, _, _, rfl, rfl, _, rfl, a, us, rfl, HX.Same.tup sm1 sA', fun l2 H2 sm2 sl2 => ?_⟩
        rw [show ((i : Nat) : Int) + 1 = ((i + 1 : Nat) : Int) by omega, cut_from] at sl2
        refine ⟨l1, l2, _, _, rfl, rfl, HX.Same.tup sm2 sl1, sl2, len_le (by rw [List.length_take, List.length_drop]; omega), fun l3 H3 sm3 sl3 => ?_⟩
        have smm := (sm1.trans sm2).trans sm3
        have tk := tk_same smm
        refine q l3 _ (A.take i ++ A.drop (i + 1)) H3 sl3 (dpAll_app (dpAll_take (dpAll_tk tk fA dA') i) (dpAll_drop (dpAll_tk tk fA dA') (i + 1))) ⟨A.take i, A.drop i, by simp, hlt, .inl ⟨A.drop (i + 1), drop_one he, rfl⟩⟩ (sm.trans smm)
      refine ifB ?_ (fun hc rest => ?_)
      case refine_2 =>
        have hc : ((i : Nat) : Int) < ((A.length : Nat) : Int) := of_decide_eq_true hc
        obtain ⟨e, he⟩ : ∃ e, A[i]? = some e := ⟨A[i]'(by omega), by simp [show i < A.length by omega]⟩
        obtain ⟨v, hv1, hv2⟩ := dpAll_at dA' he
        have me := fmAll_mem fA e (List.mem_of_getElem? he)
        have de := dep_mem (List.mem_of_getElem? he)
        refine ⟨_, rfl, _, rfl, a, us, _, v, rfl, rfl, sA', atI_nat hv1, _, rfl, _, _, hv2, hp', shaped_fm me.1 (by omega), shaped_fm fd (by omega), _, rfl, ?_⟩
        rw [eqv_val me.1 fd]
        exact ifD (fun hed => absurd (fm_inj me.1 fd hed ▸ he) heq) (fun _ => rest)
      refine ⟨_, rfl, _, rfl, _, rfl, a, us, rfl, sA', fun l1 H1 sm1 sl1 => ?_⟩
      rw [cut_to] at sl1
      refine ⟨_, rfl, by show 1 ≤ sizeLine; decide, fun t nt => ?_⟩
      have st := sm_upd (o := .tup [p]) nt
      refine ⟨l1, t, _, _, rfl, rfl, HX.Same.tup st sl1, .inl (.inl upd_same), len_le (by rw [List.length_take, List.length_singleton]; omega), fun l2 H2 sm2 sl2 => ?_⟩
      have s2 := (sm1.trans st).trans sm2
      refine ⟨_, rfl, _, rfl, _, rfl, a, us, rfl, HX.Same.tup s2 sA', fun l3 H3 sm3 sl3 => ?_⟩
      rw [cut_from] at sl3
      refine ⟨l2, l3, _, _, rfl, rfl, HX.Same.tup sm3 sl2, sl3, len_le (by rw [List.length_append, List.length_take, List.length_drop, List.length_singleton]; omega), fun l4 H4 sm4 sl4 => ?_⟩
      have smm := (s2.trans sm3).trans sm4
      have tk := tk_same smm
      have hgt : ∀ x ∈ A.drop i, vl d < vl x := fun x hx => by
        by_cases hil : i < A.length
        · obtain ⟨e, he⟩ : ∃ e, A[i]? = some e := ⟨A[i]'hil, by simp [hil]⟩
          have me := fmAll_mem fA e (List.mem_of_getElem? he)
          have h1 := hge e he
          have h2 : vl d ≠ vl e := fun z => heq (by
            have : e = d := fm_inj me.1 fd (by have := me.2; unfold vl at z; omega)
            rw [he, this])
          rw [drop_one he] at hx
          rcases List.mem_cons.mp hx with rfl | hx
          · omega
          · have := asc_tail hA he x hx
            omega
        · rw [List.drop_of_length_le (by omega)] at hx
          simp at hx
      refine q l4 _ (A.take i ++ [d] ++ A.drop i) H4 sl4 ?_ ⟨A.take i, A.drop i, by simp, hlt, .inr ⟨hgt, by simp⟩⟩ (sm.trans smm)
      exact dpAll_app (dpAll_app (dpAll_take (dpAll_tk tk fA dA') i) (.cons (dp_tk tk fd hp') .nil)) (dpAll_drop (dpAll_tk tk fA dA') i)
end
end K37
set_option Elab.async false
set_option linter.all false
set_option maxRecDepth 100000
set_option pp.deepTerms false
set_option pp.maxSteps 1500
namespace K37
open PySem PySem.Spec PyProof.Rows L2 HX TV FM DX FB FC PM
local macro_rules | `(tactic| walk_at "r") => `(tactic| (repeat (first | refine Exists.intro _ (And.intro rfl ?_) | refine And.intro rfl ?_ | refine Exists.intro _ (Exists.intro _ (And.intro rfl (And.intro rfl ?_))) | refine And.intro (by omega) ?_ | refine And.intro (Or.inl (And.intro (by omega) (by omega))) ?_ | refine And.intro (Or.inr (And.intro (by omega) (by omega))) ?_ | refine And.intro (And.intro (by omega) (by omega)) ?_ | refine And.intro (And.intro (by decide) (And.intro (by decide) (by decide))) ?_ | refine Or.inl (Exists.intro _ (And.intro rfl ?_)) | (dsimp only [gName]; first | with_reducible refine seqC ?_ | with_reducible refine asgC ?_))))
local macro_rules | `(tactic| walk_at "s") => `(tactic| (repeat (first | refine Exists.intro _ (And.intro rfl ?_) | refine And.intro rfl ?_ | refine Exists.intro _ (Exists.intro _ (And.intro rfl (And.intro rfl ?_))) | refine And.intro (by omega) ?_ | refine And.intro (Or.inl (And.intro (by omega) (by omega))) ?_ | refine And.intro (Or.inr (And.intro (by omega) (by omega))) ?_ | refine And.intro (And.intro (by omega) (by omega)) ?_ | refine And.intro (And.intro (by decide) (And.intro (by decide) (by decide))) ?_ | refine Or.inl (Exists.intro _ (And.intro rfl ?_)) | refine Exists.intro _ (Exists.intro _ (And.intro rfl ?_)) | (dsimp only [gName]; first | with_reducible refine seqC ?_ | with_reducible refine asgC ?_))))
section
variable {P : Program} {w : World} {K : PySem.W.Frag} {mg : Str → Option Value} {base : Heap}
theorem fm6465 : Fm (.tuple [.int 64, .int 65]) ∧ val (.tuple [.int 64, .int 65]) = 18446744073709551616 := by
  have f1 := fm_small (ts := [64, 65]) ⟨by decide, trivial⟩ (by intro t ht; simp at ht; omega) ⟨65, by simp, by decide⟩
  have e1 : tv [64, 65] = 18446744073709551616 := by decide
  rw [e1] at f1
  exact f1
/-- x + 1 of a form of depth at most n -/
def sp_p1 (K : PySem.W.Frag) (n : Nat) : Sp := fun vs H Q _ => ∃ (x : V) (d : PyData), vs = [x] ∧ Dp K H x d ∧ Fm d ∧ d.depth ≤ n ∧ n ≤ 50 ∧ wt d ≤ 13000000 ∧
  ∀ (v : V) (r : PyData) H', Fm r → val r = val d + 1 → r.depth ≤ n + 1 → wt r ≤ (n + 1) * wt d + 4 → Dp K H' v r → Same H H' → Q v H'
theorem p1_int {H : Hp} {i : Int} {n : Nat} {Q : VK} (hF : Fm (.int i)) (q : ∀ (v : V) (r : PyData) H', Fm r → val r = val (.int i) + 1 → r.depth ≤ n + 1 → wt r ≤ (n + 1) * wt (.int i) + 4 → Dp K H' v r → Same H H' → Q v H') :
    (i < 18446744073709551615 → Q (.int (i + 1)) H) ∧ (¬ i < 18446744073709551615 → ∀ t, H t = none → Q (.ref t) (upd H t (.tup [.int 64, .int 65]))) := by
  rw [fm_int] at hF
  rw [val_int, wt_int] at q
  refine ⟨fun h => ?_, fun h t nt => ?_⟩
  · exact q _ (.int (i + 1)) H ((fm_int _).mpr (by omega)) (val_int _) (by rw [depth_int]; omega) (by rw [wt_int]; omega) (.int _) (Same.refl _)
  · refine q _ (.tuple [.int 64, .int 65]) _ fm6465.1 ?_ (by rw [depth_tuple, depthAll_cons, depthAll_cons, depthAll_nil, depth_int, depth_int]; omega) (by rw [wt_tuple, wtAll_cons, wtAll_cons, wtAll_nil, wt_int, wt_int]; omega) (.tup (.inl (.inl upd_same)) (.cons (.int _) (.cons (.int _) .nil))) (sm_upd nt)
    rw [fm6465.2]
    omega
theorem ok_plus_one (T : Top K mg) : ∀ n, FnOk P w K mg base CX0 (n + 5) T.f_plus_one T.fd_plus_one ["x"]  (sp_p1 K n) := by
  have G_made : FnOk P w K mg base CX0 (1) T.f_made T.fd_made ["found"]  (sp_made K) := ok_made T
  intro n
  induction n with
  | zero =>
    refine T.F_plus_one.ok sc_plus_one (fun vs H Q E h => ?_) (fun cdv Ar outer s H vs Q E hr h => ?_)
    · obtain ⟨x, d, rfl, _⟩ := h
      rfl
    · obtain ⟨x, d, rfl, hx, hF, hd, hn, hw, q⟩ := h
      refine ⟨_, (pss_cons (ps_if (pt_val (pe_callB call_isi (by rfl) T.m_isinstance (by decide +kernel) (pa_cons (pv 0) (pa_cons (pe_bltn (v := .ty "int") (by rfl) T.m_int (by decide +kernel) rfl) pa_nil))) (fun _ => rfl))
      (pss_cons (ps_if (pt_cmpR op_lt (pv 0) (pe_glob (v := .int (18446744073709551615)) (by rfl) T.c_PLAIN_MOST ⟨_, rfl⟩) (nomark _))
        (pss_one (ps_ret (pe_op op_add (pv 0) pe_int)))
        pss_nil)
      (pss_one (ps_ret (pe_tup (pa_cons pe_int (pa_cons pe_int pa_nil))))))
      pss_nil)
    (pss_cons (ps_if (pt_cmpR (op_eqD hr.units) (pe_ix ix_tup (pv 0) pe_int (fun _ _ => rfl)) pe_int (nomark _))
      (pss_one ps_never)
      pss_nil)
    (pss_one ps_never))), ?_⟩
      rcases fm_cases hF with ⟨i, rfl⟩ | ⟨ds, rfl⟩
      · cases hx
        obtain ⟨q1, q2⟩ := p1_int (H := H) hF q
        refine ⟨_, rfl, _, _, _, _, true, rfl, .ty "int", tyI _, k_ii, true, rfl, iteT ?_⟩
        walk_at "r"
        refine ifD (fun h => ?_) (fun h => ?_)
        · walk_at "r"
          exact q1 h
        · exact ⟨by show 2 ≤ sizeLine; decide, fun t nt => q2 h t nt⟩
      · rw [depth_tuple] at hd
        omega
  | succ n ih =>
    have G_plus_one : FnOk P w K mg base CX0 (n + 5) T.f_plus_one T.fd_plus_one ["x"]  (sp_p1 K n) := ih
    have G_toggled : FnOk P w K mg base CX0 (n + 5) T.f_toggled T.fd_toggled ["found", "place"]  (sp_tog K (n + 1)) := ok_toggled T (n + 1)
    refine T.F_plus_one.ok sc_plus_one (fun vs H Q E h => ?_) (fun cdv Ar outer s H vs Q E hr h => ?_)
    · obtain ⟨x, d, rfl, _⟩ := h
      rfl
    · obtain ⟨x, d, rfl, hx, hF, hd, hn, hw, q⟩ := h
      refine ⟨_, (pss_cons (ps_if (pt_val (pe_callB call_isi (by rfl) T.m_isinstance (by decide +kernel) (pa_cons (pv 0) (pa_cons (pe_bltn (v := .ty "int") (by rfl) T.m_int (by decide +kernel) rfl) pa_nil))) (fun _ => rfl))
      (pss_cons (ps_if (pt_cmpR op_lt (pv 0) (pe_glob (v := .int (18446744073709551615)) (by rfl) T.c_PLAIN_MOST ⟨_, rfl⟩) (nomark _))
        (pss_one (ps_ret (pe_op op_add (pv 0) pe_int)))
        pss_nil)
      (pss_one (ps_ret (pe_tup (pa_cons pe_int (pa_cons pe_int pa_nil))))))
      pss_nil)
    (pss_cons (ps_if (pt_cmpR (op_eqD hr.units) (pe_ix ix_tup (pv 0) pe_int (fun _ _ => rfl)) pe_int (nomark _))
      (pss_one (ps_ret (pe_call G_made (hr.mono (by omega)) (by rfl) T.g_made T.F_made.kp T.b_made .nil pass0 (pa_cons (pe_call G_toggled (hr.mono (by omega)) (by rfl) T.g_toggled T.F_toggled.kp T.b_toggled .nil pass0 (pa_cons (pe_slice sl_tupB (pv 0) (po_some pe_int) po_none) (pa_cons (pe_call G_plus_one (hr.mono (by omega)) (by rfl) T.g_plus_one T.F_plus_one.kp T.b_plus_one .nil pass0 (pa_cons (pe_ix ix_tup (pv 0) pe_int (fun _ _ => rfl)) pa_nil)) pa_nil))) pa_nil))))
      pss_nil)
    (pss_one (ps_ret (pe_call G_made (hr.mono (by omega)) (by rfl) T.g_made T.F_made.kp T.b_made .nil pass0 (pa_cons (pe_op op_catB (pe_tup (pa_cons pe_int pa_nil)) (pe_call G_toggled (hr.mono (by omega)) (by rfl) T.g_toggled T.F_toggled.kp T.b_toggled .nil pass0 (pa_cons (pv 0) (pa_cons pe_int pa_nil)))) pa_nil)))))), ?_⟩
      rcases fm_cases hF with ⟨i, rfl⟩ | ⟨ds, rfl⟩
      · cases hx
        obtain ⟨q1, q2⟩ := p1_int (H := H) hF q
        refine ⟨_, rfl, _, _, _, _, true, rfl, .ty "int", tyI _, k_ii, true, rfl, iteT ?_⟩
        walk_at "r"
        refine ifD (fun h => ?_) (fun h => ?_)
        · walk_at "r"
          exact q1 h
        · exact ⟨by show 2 ≤ sizeLine; decide, fun t nt => q2 h t nt⟩
      · have hF' := (fm_tuple _).mp hF
        rw [depth_tuple] at hd
        rw [val_tuple] at q
        rw [wt_tuple] at q hw
        have hlw := len_wt ds
        cases hx with
        | @tup a xs _ h1 h2 =>
          refine ⟨_, rfl, _, _, _, _, false, rfl, .ty "int", tyT h1, k_ti, false, rfl, iteF ?_⟩
          cases ds with
          | nil => exact absurd rfl (fm_ne hF)
          | cons e0 er =>
            cases h2 with
            | @cons v0 vr _ _ g1 g2 =>
              have f0 := fmAll_mem hF'.1 e0 (by simp)
              have dep0 := dep_mem (ds := e0 :: er) (e := e0) (by simp)
              refine ⟨_, rfl, a, _, _, v0, rfl, rfl, h1, atI_nat (j := 0) rfl, _, .int 0, g1, .int 0, shaped_fm f0.1 (by omega), shaped_fm ((fm_int 0).mpr (by decide)) (by rw [depth_int]; decide), _, rfl, ?_⟩
              rw [eqv_val f0.1 ((fm_int 0).mpr (by decide)), val_int]
              refine ifD (fun hz => ?_) (fun hz => ?_)
              · have e00 : e0 = .int 0 := fm_inj f0.1 ((fm_int 0).mpr (by decide)) (by rw [val_int]; exact hz)
                subst e00
                cases er with
                | nil =>
                  obtain ⟨t, ht, h64⟩ := hF'.2.2
                  rw [vals_cons, vals_nil, val_int] at ht
                  simp at ht
                  omega
                | cons e1 r =>
                  cases g2 with
                  | @cons v1 vr _ _ g2 g3 =>
                    have f1 := fmAll_mem hF'.1 e1 (by simp)
                    have dep1 := dep_mem (ds := .int 0 :: e1 :: r) (e := e1) (by simp)
                    have fr : FmAll (e1 :: r) := ((fmAll_cons _ _).mp hF'.1).2.2
                    have ar : Asc (vals (e1 :: r)) := by
                      have := hF'.2.1
                      rw [vals_cons] at this
                      exact this.tail
                    have depr : PyData.depthAll (e1 :: r) ≤ n := by
                      rw [depthAll_cons] at hd
                      omega
                    have hwt : wtAll (.int 0 :: e1 :: r) = 1 + wtAll (e1 :: r) := by rw [wtAll_cons, wt_int]
                    have w1 := wt_mem (ds := e1 :: r) (e := e1) (by simp)
                    refine ⟨_, rfl, _, rfl, a, _, rfl, h1, fun l1 H1 sm1 sl1 => ?_⟩
                    rw [show (1 : Int) = ((1 : Nat) : Int) from rfl, cut_from] at sl1
                    refine ⟨_, rfl, a, _, _, v1, rfl, rfl, HX.Same.tup sm1 h1, atI_nat (j := 1) rfl, ?_⟩
                    refine ⟨v1, e1, rfl, dp_tk (tk_same sm1) f1.1 g2, f1.1, by omega, by omega, by omega, fun vp p H2 fp vvp depp wp dpp sm2 => ?_⟩
                    have dr2 : DpAll K H2 (v1 :: vr) (e1 :: r) := dpAll_tk (tk_same (sm1.trans sm2)) fr (.cons g2 g3)
                    refine ⟨l1, vp, _, e1 :: r, p, rfl, HX.Same.tup sm2 sl1, dr2, fr, ar, dpp, fp, by have := f1.2; omega, by omega, by omega, by omega, by rw [List.length_cons] at hlw; omega, fun l us' B H3 sl dB tg sm3 => ?_⟩
                    obtain ⟨fB, aB⟩ := tg.row fr ar fp (by have := f1.2; omega)
                    refine ⟨l, us', B, rfl, .inr sl, dB, fB, aB, fun v' r' H4 k1 k2 k3 k4 k5 sm4 => ?_⟩
                    have hodd := tg.odd ar (by have := f1.2; unfold vl; omega)
                    refine q v' r' H4 k1 ?_ ?_ ?_ k5 (((sm1.trans sm2).trans sm3).trans sm4)
                    · rw [k2, hodd, tv_zero, vals_cons, tv_cons]
                      show (2 : Int) ^ vl e1 + tv (vals r) = -1 - (-(2 ^ vl e1) - tv (vals r)) + 1
                      omega
                    · have : PyData.depthAll B ≤ n + 1 := depthAll_le.mpr fun z hz => by
                        rcases tg.mem z hz with hz | hz
                        · have := dep_mem hz
                          omega
                        · rw [hz]
                          exact depp
                      omega
                    · have h5 := tg.wt
                      have h6 : (n + 1) * wt e1 ≤ (n + 1) * wtAll (e1 :: r) := Nat.mul_le_mul_left _ w1
                      rw [hwt]
                      have h7 : (n + 1 + 1) * (1 + (1 + wtAll (e1 :: r))) = (n + 1) * wtAll (e1 :: r) + wtAll (e1 :: r) + 2 * (n + 2) := by
                        rw [Nat.add_mul, Nat.mul_add, Nat.mul_add]
                        omega
                      omega
              · have pos : ∀ z ∈ e0 :: er, 0 < vl z := fun z hz' => by
                  have h0 := f0.2
                  have : 0 < vl e0 := by unfold vl; omega
                  rcases List.mem_cons.mp hz' with rfl | hz'
                  · exact this
                  · have := hF'.2.1
                    rw [vals_cons] at this
                    have := Asc.lt this (vl z) (by rw [vals_map]; exact List.mem_map.mpr ⟨z, hz', rfl⟩)
                    unfold vl at *
                    omega
                refine ⟨by show 1 ≤ sizeLine; decide, fun t nt => ?_⟩
                have st := sm_upd (o := .tup [.int 0]) nt
                refine ⟨_, rfl, a, .int 1, _, e0 :: er, .int 1, rfl, HX.Same.tup st h1, dpAll_tk (tk_same st) hF'.1 (.cons g1 g2), hF'.1, hF'.2.1, .int 1, (fm_int 1).mpr (by decide), by rw [val_int]; decide, by omega, by rw [depth_int]; omega, by omega, by omega, fun l us' B H3 sl dB tg sm3 => ?_⟩
                obtain ⟨fB, aB⟩ := tg.row hF'.1 hF'.2.1 ((fm_int 1).mpr (by decide)) (by rw [val_int]; decide)
                have hev := tg.even (by unfold vl; rw [val_int]; rfl) pos
                have hlB := tg.len
                have lB := dpAll_len dB
                refine ⟨t, l, _, us', rfl, rfl, .inl (.inl (sm3 _ _ upd_same)), sl, len_le (by rw [List.length_singleton]; omega), fun l4 H4 sm4 sl4 => ?_⟩
                refine ⟨l4, _, .int 0 :: B, rfl, .inr sl4, .cons (.int 0) (dpAll_tk (tk_same sm4) fB dB), fmAll_zero fB, asc_zero aB hev.2, fun v' r' H5 k1 k2 k3 k4 k5 sm5 => ?_⟩
                refine q v' r' H5 k1 ?_ ?_ ?_ k5 (((st.trans sm3).trans sm4).trans sm5)
                · rw [k2, tv_zero, hev.1]
                  omega
                · have : PyData.depthAll (.int 0 :: B) ≤ n + 1 := depthAll_le.mpr fun z hz => by
                    rcases List.mem_cons.mp hz with rfl | hz
                    · rw [depth_int]
                      omega
                    · rcases tg.mem z hz with hz | hz
                      · have := dep_mem hz
                        omega
                      · rw [hz, depth_int]
                        omega
                  omega
                · have h5 := tg.wt
                  rw [wt_int] at h5
                  rw [wtAll_cons, wt_int] at k4
                  have : 1 + wtAll (e0 :: er) ≤ (n + 1 + 1) * (1 + wtAll (e0 :: er)) := Nat.le_mul_of_pos_left _ (by omega)
                  omega
end
end K37
set_option Elab.async false
set_option linter.all false
set_option maxRecDepth 100000
set_option pp.deepTerms false
set_option pp.maxSteps 1500
namespace K37
open PySem PySem.Spec PyProof.Rows L2 HX TV FM DX FB FC PM
local macro_rules | `(tactic| walk_at "r") => `(tactic| (repeat (first | refine Exists.intro _ (And.intro rfl ?_) | refine And.intro rfl ?_ | refine Exists.intro _ (Exists.intro _ (And.intro rfl (And.intro rfl ?_))) | refine And.intro (by omega) ?_ | refine And.intro (Or.inl (And.intro (by omega) (by omega))) ?_ | refine And.intro (Or.inr (And.intro (by omega) (by omega))) ?_ | refine And.intro (And.intro (by omega) (by omega)) ?_ | refine And.intro (And.intro (by decide) (And.intro (by decide) (by decide))) ?_ | refine Or.inl (Exists.intro _ (And.intro rfl ?_)) | (dsimp only [gName]; first | with_reducible refine seqC ?_ | with_reducible refine asgC ?_))))
local macro_rules | `(tactic| walk_at "s") => `(tactic| (repeat (first | refine Exists.intro _ (And.intro rfl ?_) | refine And.intro rfl ?_ | refine Exists.intro _ (Exists.intro _ (And.intro rfl (And.intro rfl ?_))) | refine And.intro (by omega) ?_ | refine And.intro (Or.inl (And.intro (by omega) (by omega))) ?_ | refine And.intro (Or.inr (And.intro (by omega) (by omega))) ?_ | refine And.intro (And.intro (by omega) (by omega)) ?_ | refine And.intro (And.intro (by decide) (And.intro (by decide) (by decide))) ?_ | refine Or.inl (Exists.intro _ (And.intro rfl ?_)) | refine Exists.intro _ (Exists.intro _ (And.intro rfl ?_)) | (dsimp only [gName]; first | with_reducible refine seqC ?_ | with_reducible refine asgC ?_))))
section
variable {P : Program} {w : World} {K : PySem.W.Frag} {mg : Str → Option Value} {base : Heap}
/-- ~x of a form -/
def sp_inv (K : PySem.W.Frag) : Sp := fun vs H Q _ => ∃ (x : V) (d : PyData), vs = [x] ∧ Dp K H x d ∧ Fm d ∧ d.depth ≤ 60 ∧ wt d ≤ 12000000 ∧
  ∀ (v : V) (r : PyData) H', Fm r → val r = -val d - 1 → r.depth ≤ d.depth → wt r ≤ wt d + 1 → Dp K H' v r → Same H H' → Q v H'
theorem ok_inverted (T : Top K mg) {k : Nat} : FnOk P w K mg base CX0 (k + 1) T.f_inverted T.fd_inverted ["x"]  (sp_inv K) := by
  refine T.F_inverted.ok sc_inverted (fun vs H Q E h => ?_) (fun cdv Ar outer s H vs Q E hr h => ?_)
  · obtain ⟨x, d, rfl, _⟩ := h
    rfl
  · obtain ⟨x, d, rfl, hx, hF, hd, hw, q⟩ := h
    refine ⟨_, (pss_cons (ps_if (pt_val (pe_callB call_isi (by rfl) T.m_isinstance (by decide +kernel) (pa_cons (pv 0) (pa_cons (pe_bltn (v := .ty "int") (by rfl) T.m_int (by decide +kernel) rfl) pa_nil))) (fun _ => rfl))
      (pss_one (ps_ret (pe_op op_sub (pe_un un_neg (pv 0)) pe_int)))
      pss_nil)
    (pss_cons (ps_if (pt_cmpR (op_eqD hr.units) (pe_ix ix_tup (pv 0) pe_int (fun _ _ => rfl)) pe_int (nomark _))
      (pss_one (ps_ret (pe_slice sl_tupB (pv 0) (po_some pe_int) po_none)))
      pss_nil)
    (pss_one (ps_ret (pe_op op_catB (pe_tup (pa_cons pe_int pa_nil)) (pv 0)))))), ?_⟩
    rcases fm_cases hF with ⟨i, rfl⟩ | ⟨ds, rfl⟩
    · cases hx
      refine ⟨_, rfl, _, _, _, _, true, rfl, .ty "int", tyI _, k_ii, true, rfl, iteT ?_⟩
      walk_at "r"
      rw [fm_int] at hF
      rw [val_int, wt_int] at q
      exact q _ (.int (-i - 1)) H ((fm_int _).mpr (by omega)) (val_int _) (by rw [depth_int]; omega) (by rw [wt_int]; omega) (.int _) (Same.refl _)
    · have hF' := (fm_tuple _).mp hF
      rw [depth_tuple] at hd q
      rw [val_tuple] at q
      rw [wt_tuple] at q hw
      have hlw := len_wt ds
      cases hx with
      | @tup a xs _ h1 h2 =>
        refine ⟨_, rfl, _, _, _, _, false, rfl, .ty "int", tyT h1, k_ti, false, rfl, iteF ?_⟩
        cases ds with
        | nil => exact absurd rfl (fm_ne hF)
        | cons e0 er =>
          cases h2 with
          | @cons v0 vr _ _ g1 g2 =>
            have f0 := fmAll_mem hF'.1 e0 (by simp)
            have dep0 := dep_mem (ds := e0 :: er) (e := e0) (by simp)
            have lvr := dpAll_len g2
            refine ⟨_, rfl, a, _, _, v0, rfl, rfl, h1, atI_nat (j := 0) rfl, _, .int 0, g1, .int 0, shaped_fm f0.1 (by omega), shaped_fm ((fm_int 0).mpr (by decide)) (by rw [depth_int]; decide), _, rfl, ?_⟩
            rw [eqv_val f0.1 ((fm_int 0).mpr (by decide)), val_int]
            refine ifD (fun hz => ?_) (fun hz => ?_)
            · have e00 : e0 = .int 0 := fm_inj f0.1 ((fm_int 0).mpr (by decide)) (by rw [val_int]; exact hz)
              subst e00
              have fr := ((fmAll_cons _ _).mp hF'.1).2.2
              have ar : Asc (vals er) := by
                have := hF'.2.1
                rw [vals_cons] at this
                exact this.tail
              have fe : Fm (.tuple er) := by
                rw [fm_tuple]
                refine ⟨fr, ar, ?_⟩
                obtain ⟨t, ht, h64⟩ := hF'.2.2
                rw [vals_cons, val_int] at ht
                rcases List.mem_cons.mp ht with z | ht
                · simp at z
                  omega
                · exact ⟨t, ht, h64⟩
              refine ⟨_, rfl, _, rfl, a, _, rfl, h1, fun l1 H1 sm1 sl1 => ?_⟩
              rw [show (1 : Int) = ((1 : Nat) : Int) from rfl, cut_from] at sl1
              refine q _ (.tuple er) H1 fe ?_ ?_ ?_ (.tup sl1 (dpAll_tk (tk_same sm1) fr g2)) sm1
              · rw [val_tuple, tv_zero]
                omega
              · rw [depth_tuple, depthAll_cons, depth_int]
                omega
              · rw [wt_tuple, wtAll_cons, wt_int]
                omega
            · have pos : ∀ z ∈ e0 :: er, 0 < vl z := fun z hz' => by
                have h0 := f0.2
                have : 0 < vl e0 := by unfold vl; omega
                rcases List.mem_cons.mp hz' with rfl | hz'
                · exact this
                · have := hF'.2.1
                  rw [vals_cons] at this
                  have := Asc.lt this (vl z) (by rw [vals_map]; exact List.mem_map.mpr ⟨z, hz', rfl⟩)
                  unfold vl at *
                  omega
              refine ⟨by show 1 ≤ sizeLine; decide, fun t nt => ?_⟩
              have st := sm_upd (o := .tup [.int 0]) nt
              refine ⟨_, rfl, t, a, _, _, rfl, rfl, .inl (.inl upd_same), HX.Same.tup st h1, len_le (by rw [List.length_cons] at hlw; rw [List.length_singleton, List.length_cons]; omega), fun l4 H4 sm4 sl4 => ?_⟩
              refine q _ (.tuple (.int 0 :: e0 :: er)) H4 ?_ ?_ ?_ ?_ (.tup sl4 (.cons (.int 0) (dpAll_tk (tk_same (st.trans sm4)) hF'.1 (.cons g1 g2)))) (st.trans sm4)
              · rw [fm_tuple]
                obtain ⟨t, ht, h64⟩ := hF'.2.2
                exact ⟨fmAll_zero hF'.1, asc_zero hF'.2.1 pos, t, by rw [vals_cons]; simp [ht], h64⟩
              · rw [val_tuple, tv_zero]
                omega
              · rw [depth_tuple, depthAll_cons (.int 0), depth_int]
                omega
              · rw [wt_tuple, wtAll_cons (.int 0), wt_int]
                omega
def sp_ngt (K : PySem.W.Frag) (n : Nat) : Sp := fun vs H Q _ => ∃ (x : V) (d : PyData), vs = [x] ∧ Dp K H x d ∧ Fm d ∧ d.depth ≤ n ∧ n ≤ 50 ∧ wt d ≤ 900000 ∧
  ∀ (v : V) (r : PyData) H', Fm r → val r = -val d → r.depth ≤ n + 1 → wt r ≤ (n + 1) * (wt d + 1) + 4 → Dp K H' v r → Same H H' → Q v H'
theorem ok_negated (T : Top K mg) (n : Nat) : FnOk P w K mg base CX0 (n + 6) T.f_negated T.fd_negated ["x"]  (sp_ngt K n) := by
  have G_plus_one : FnOk P w K mg base CX0 (n + 5) T.f_plus_one T.fd_plus_one ["x"]  (sp_p1 K n) := ok_plus_one T n
  have G_inverted : FnOk P w K mg base CX0 (1) T.f_inverted T.fd_inverted ["x"]  (sp_inv K) := ok_inverted T
  refine T.F_negated.ok sc_negated (fun vs H Q E h => ?_) (fun cdv Ar outer s H vs Q E hr h => ?_)
  · obtain ⟨x, d, rfl, _⟩ := h
    rfl
  · obtain ⟨x, d, rfl, hx, hF, hd, hn, hw, q⟩ := h
    refine ⟨_, (pss_one (ps_ret (pe_call G_plus_one (hr.mono (by omega)) (by rfl) T.g_plus_one T.F_plus_one.kp T.b_plus_one .nil pass0 (pa_cons (pe_call G_inverted (hr.mono (by omega)) (by rfl) T.g_inverted T.F_inverted.kp T.b_inverted .nil pass0 (pa_cons (pv 0) pa_nil)) pa_nil)))), ?_⟩
    refine ⟨_, rfl, x, d, rfl, hx, hF, by omega, by omega, fun v r H1 k1 k2 k3 k4 k5 sm1 => ?_⟩
    refine ⟨v, r, rfl, k5, k1, by omega, hn, by omega, fun v2 r2 H2 g1 g2 g3 g4 g5 sm2 => ?_⟩
    have : (n + 1) * wt r ≤ (n + 1) * (wt d + 1) := Nat.mul_le_mul_left _ k4
    exact q v2 r2 H2 g1 (by omega) g3 (by omega) g5 (sm1.trans sm2)
end
end K37
set_option Elab.async false
set_option linter.all false
set_option maxRecDepth 100000
set_option pp.deepTerms false
set_option pp.maxSteps 1500
namespace K37
open PySem PySem.Spec PyProof.Rows L2 HX TV FM DX FB FC PM
local macro_rules | `(tactic| walk_at "r") => `(tactic| (repeat (first | refine Exists.intro _ (And.intro rfl ?_) | refine And.intro rfl ?_ | refine Exists.intro _ (Exists.intro _ (And.intro rfl (And.intro rfl ?_))) | refine And.intro (by omega) ?_ | refine And.intro (Or.inl (And.intro (by omega) (by omega))) ?_ | refine And.intro (Or.inr (And.intro (by omega) (by omega))) ?_ | refine And.intro (And.intro (by omega) (by omega)) ?_ | refine And.intro (And.intro (by decide) (And.intro (by decide) (by decide))) ?_ | refine Or.inl (Exists.intro _ (And.intro rfl ?_)) | (dsimp only [gName]; first | with_reducible refine seqC ?_ | with_reducible refine asgC ?_))))
local macro_rules | `(tactic| walk_at "s") => `(tactic| (repeat (first | refine Exists.intro _ (And.intro rfl ?_) | refine And.intro rfl ?_ | refine Exists.intro _ (Exists.intro _ (And.intro rfl (And.intro rfl ?_))) | refine And.intro (by omega) ?_ | refine And.intro (Or.inl (And.intro (by omega) (by omega))) ?_ | refine And.intro (Or.inr (And.intro (by omega) (by omega))) ?_ | refine And.intro (And.intro (by omega) (by omega)) ?_ | refine And.intro (And.intro (by decide) (And.intro (by decide) (by decide))) ?_ | refine Or.inl (Exists.intro _ (And.intro rfl ?_)) | refine Exists.intro _ (Exists.intro _ (And.intro rfl ?_)) | (dsimp only [gName]; first | with_reducible refine seqC ?_ | with_reducible refine asgC ?_))))
section
variable {P : Program} {w : World} {K : PySem.W.Frag} {mg : Str → Option Value} {base : Heap}
/-- x + y + carry -/
def sp_tot (K : PySem.W.Frag) (n : Nat) : Sp := fun vs H Q _ => ∃ (x y : V) (d e : PyData) (c : Nat), vs = [x, y, .int (c : Nat)] ∧ c ≤ 1 ∧ Dp K H x d ∧ Dp K H y e ∧ Fm d ∧ Fm e ∧ d.depth ≤ n + 1 ∧ e.depth ≤ n + 1 ∧ n ≤ 40 ∧ wt d + wt e ≤ 7900000 ∧
  ∀ (v : V) (r : PyData) H', Fm r → val r = val d + val e + c → r.depth ≤ n + 2 → wt r ≤ (n + 6) * (wt d + wt e + 140) → Dp K H' v r → Same H H' → Q v H'
theorem fm_row0 : Fm (.int 0) := (fm_int 0).mpr (by decide)
theorem ok_total (T : Top K mg) (n : Nat) : FnOk P w K mg base CX0 (n + 6) T.f_total T.fd_total ["x", "y", "carry"]  (sp_tot K n) := by
  have G_merged : FnOk P w K mg base CX0 (n + 4) T.f_merged T.fd_merged ["ours", "theirs"]  (sp_mrg K n) := ok_merged T n
  have G_plus_one : FnOk P w K mg base CX0 (n + 5) T.f_plus_one T.fd_plus_one ["x"]  (sp_p1 K n) := ok_plus_one T n
  have G_turns : FnOk P w K mg base CX0 (2) T.f_turns T.fd_turns ["x"]  (sp_trn K) := ok_turns T
  have G_made : FnOk P w K mg base CX0 (1) T.f_made T.fd_made ["found"]  (sp_made K) := ok_made T
  have G_of_int : FnOk P w K mg base CX0 (2) T.f_of_int T.fd_of_int ["number"]  (sp_ofint K) := ok_of_int T
  refine T.F_total.ok sc_total (fun vs H Q E h => ?_) (fun cdv Ar outer s H vs Q E hr h => ?_)
  · obtain ⟨x, y, d, e, c, rfl, _⟩ := h
    rfl
  · obtain ⟨x, y, d, e, c, rfl, hc, hx, hy, hd, he, hdd, hde, hn, hw, q⟩ := h
    refine ⟨_, (pss_cons (ps_if (PW.pt (pw_and (pt_val (pe_callB call_isi (by rfl) T.m_isinstance (by decide +kernel) (pa_cons (pv 0) (pa_cons (pe_bltn (v := .ty "int") (by rfl) T.m_int (by decide +kernel) rfl) pa_nil))) (fun _ => rfl)) (pw_and1 (pt_val (pe_callB call_isi (by rfl) T.m_isinstance (by decide +kernel) (pa_cons (pv 1) (pa_cons (pe_bltn (v := .ty "int") (by rfl) T.m_int (by decide +kernel) rfl) pa_nil))) (fun _ => rfl)))))
      (pss_one (ps_ret (pe_call G_of_int (hr.mono (by omega)) (by rfl) T.g_of_int T.F_of_int.kp T.b_of_int .nil pass0 (pa_cons (pe_op op_add (pe_op op_add (pv 0) (pv 1)) (pv 2)) pa_nil))))
      pss_nil)
    (pss_cons (ps_set (i := 3) sc_total.nd rfl (Or.inl rfl) (pe_call G_merged (hr.mono (by omega)) (by rfl) T.g_merged T.F_merged.kp T.b_merged .nil pass0 (pa_cons (pe_call G_turns (hr.mono (by omega)) (by rfl) T.g_turns T.F_turns.kp T.b_turns .nil pass0 (pa_cons (pv 0) pa_nil)) (pa_cons (pe_call G_turns (hr.mono (by omega)) (by rfl) T.g_turns T.F_turns.kp T.b_turns .nil pass0 (pa_cons (pv 1) pa_nil)) pa_nil))))
    (pss_cons (ps_if (PW.pt (pw_and (pt_cmpR op_eq (pv 2) pe_int (nomark _)) (pw_and1 (pt_cmpR (op_neD hr.units) (pe_ix ix_tup (pe_ix ix_list (pv 3) pe_int (fun _ _ => rfl)) pe_int (fun _ _ => rfl)) pe_int (nomark _)))))
      (pss_one (ps_set (i := 3) sc_total.nd rfl (Or.inl rfl) (pe_op op_cat (pe_lst (pa_cons (pe_tup (pa_cons pe_int (pa_cons pe_int (pa_cons pe_int pa_nil)))) pa_nil)) (pv 3))))
      pss_nil)
    (pss_cons (ps_set (i := 4) sc_total.nd rfl (Or.inl rfl) (pe_lst pa_nil))
    (pss_cons (ps_set (i := 5) sc_total.nd rfl (Or.inl rfl) pe_int)
    (pss_cons (ps_set (i := 6) sc_total.nd rfl (Or.inl rfl) pe_int)
    (pss_cons (ps_set (i := 7) sc_total.nd rfl (Or.inl rfl) pe_int)
    (pss_cons (ps_for PassesOwn.never rfl (pi_enum (by rfl) T.m_enumerate (pa_cons (pv 3) pa_nil)) (pg_tup rfl (pgs_cons (pg_name (i := 8) sc_total.nd rfl (Or.inl rfl)) (pgs_cons (pg_tup rfl (pgs_cons (pg_name (i := 9) sc_total.nd rfl (Or.inl rfl)) (pgs_cons (pg_name (i := 10) sc_total.nd rfl (Or.inl rfl)) (pgs_cons (pg_name (i := 11) sc_total.nd rfl (Or.inl rfl)) pgs_nil)))) pgs_nil)))
      (pss_cons (ps_set (i := 5) sc_total.nd rfl (Or.inl rfl) (pe_op op_xor (pv 5) (pv 10)))
      (pss_cons (ps_set (i := 6) sc_total.nd rfl (Or.inl rfl) (pe_op op_xor (pv 6) (pv 11)))
      (pss_cons (ps_set (i := 12) sc_total.nd rfl (Or.inl rfl) (pe_op op_and (pe_op op_add (pe_op op_add (pv 5) (pv 6)) (pv 2)) pe_int))
      (pss_cons (ps_set (i := 2) sc_total.nd rfl (Or.inl rfl) (pe_op op_shr (pe_op op_add (pe_op op_add (pv 5) (pv 6)) (pv 2)) pe_int))
      (pss_cons (ps_if (pt_cmpR op_ne (pv 12) (pv 7) (nomark _))
        (pss_one (ps_expr (pe_bm PySem.F.plainAttrs_list PySem.F.slot_list_append PySem.F.type_list_append mt_append (pv 4) (pa_cons (pv 9) pa_nil))))
        pss_nil)
      (pss_cons (ps_set (i := 7) sc_total.nd rfl (Or.inl rfl) (pv 12))
      (pss_cons (ps_set (i := 13) sc_total.nd rfl (Or.inl rfl) (pe_op op_and (pe_op op_add (pe_op op_add (pv 5) (pv 6)) (pv 2)) pe_int))
      (pss_one (ps_if (pt_cmpR op_ne (pv 13) (pv 12) (nomark _))
        (pss_cons (ps_set (i := 14) sc_total.nd rfl (Or.inl rfl) (pe_call G_plus_one (hr.mono (by omega)) (by rfl) T.g_plus_one T.F_plus_one.kp T.b_plus_one .nil pass0 (pa_cons (pv 9) pa_nil)))
        (pss_one (ps_if (PW.pt (pw_or (pt_cmpR op_eq (pe_op op_add (pv 8) pe_int) (pe_callB call_len_seq (by rfl) T.m_len PySem.boot_len (pa_cons (pv 3) pa_nil)) (nomark _)) (pw_or1 (pt_cmpR (op_neD hr.units) (pe_ix ix_tup (pe_ix ix_list (pv 3) (pe_op op_add (pv 8) pe_int) (fun _ _ => rfl)) pe_int (fun _ _ => rfl)) (pv 14) (nomark _)))))
          (pss_cons (ps_expr (pe_bm PySem.F.plainAttrs_list PySem.F.slot_list_append PySem.F.type_list_append mt_append (pv 4) (pa_cons (pv 14) pa_nil)))
          (pss_one (ps_set (i := 7) sc_total.nd rfl (Or.inl rfl) (pv 13))))
          pss_nil)))
        pss_nil))))))))))
    (pss_one (ps_ret (pe_call G_made (hr.mono (by omega)) (by rfl) T.g_made T.F_made.kp T.b_made .nil pass0 (pa_cons (pv 4) pa_nil)))))))))))), ?_⟩
    refine ⟨_, rfl, _, _, _, _, isI d, rfl, .ty "int", ty_f hx hd, kit_fi hd, _, rfl, ?_⟩
    by_cases hii : isI d = true ∧ isI e = true
    · obtain ⟨i, rfl⟩ := fm_isI hd hii.1
      obtain ⟨j, rfl⟩ := fm_isI he hii.2
      cases hx
      cases hy
      refine iteT ⟨_, rfl, _, _, _, _, true, rfl, .ty "int", tyI _, k_ii, true, rfl, iteT ?_⟩
      rw [fm_int] at hd he
      rw [val_int, val_int, wt_int, wt_int] at q
      walk_at "r"
      refine ⟨_, 66, rfl, by decide, by omega, by omega, fun v r H' k1 k2 k3 k4 k5 sm => ?_⟩
      exact q v r H' k1 k2 (by omega) (by omega) k5 sm
    refine ifB ?_ (fun h1 rest => ?_)
    case refine_2 =>
      refine ⟨_, rfl, _, _, _, _, isI e, rfl, .ty "int", ty_f hy he, kit_fi he, _, rfl, ifBD (fun h2 => absurd ⟨h1, h2⟩ hii) (fun h2 => rest)⟩
    refine ⟨_, rfl, x, d, rfl, hx, hd, fun aO uO A H1 fA hA vA sO dO depA wA iA sm1 => ?_⟩
    refine ⟨_, rfl, y, e, rfl, dp_tk (tk_same sm1) he hy, he, fun aT uT B H2 fB hB vB sT dT depB wB iB sm2 => ?_⟩
    have lwA := len_wt A
    have lwB := len_wt B
    refine ⟨aO, aT, uO, uT, A, B, rfl, HX.Same.tup sm2 sO, sT, dpAll_tk (tk_same sm2) fA dO, dT, fA, fB, hA, hB, by omega, by omega, by omega, by omega, fun lr us R H3 nlr hlr hD M hR sm3 => ?_⟩
    have sm03 := (sm1.trans sm2).trans sm3
    have Rne : R ≠ [] := fun z => by
      have a0 : A = [] := by rw [← M.a, z]; rfl
      have b0 : B = [] := by rw [← M.b, z]; rfl
      have zero : ∀ {f : PyData}, Fm f → val f = 0 → isI f = true := fun {f} hf hv => by
        rw [fm_plain hf (by omega) (by omega)]
        rfl
      refine hii ⟨zero hd ?_, zero he ?_⟩
      · rw [← vA, a0, vals_nil, tv_nil]
      · rw [← vB, b0, vals_nil, tv_nil]
    obtain ⟨r, Rr, eR⟩ : ∃ r Rr, R = r :: Rr := by
      cases R with
      | nil => exact absurd rfl Rne
      | cons r Rr => exact ⟨r, Rr, rfl⟩
    have hr0 : R[0]? = some r := by rw [eR]; rfl
    have fr := fmAll_mem M.fm r.1 (by rw [eR]; simp [pR])
    have imR := im_rows M.fm
    dsimp only [gName]
    refine cut (fun σ H4 => ∃ (l : Addr) (us' : List V) (R' : List PM.Row), σ = [some x, some y, some (.int (c : Nat)), some (.ref l), none, none, none, none, none, none, none, none, none, none, none] ∧
      H4 l = some (.lst us') ∧ DpAll K H4 us' (R'.map rowD) ∧ Rs A B R' c ∧ Same H H4) (fun D J => ?_) ?_
    · have stay : (c = 1 → val r.1 = 0) → D.nx [some x, some y, some (.int (c : Nat)), some (.ref lr), none, none, none, none, none, none, none, none, none, none, none] H3 := fun h0 =>
        J.nx _ _ ⟨lr, us, R, rfl, hlr, hD, M.rs hR fun z => ⟨by
          rw [nxt_some hr0]
          unfold vl
          rw [h0 z]
          rfl, by rw [eR]; simp⟩, sm03⟩
      refine ⟨_, rfl, rfl, _, rfl, ?_⟩
      refine ifE (fun hc1 => ?_) (fun hc1 => iteF (stay (fun z => absurd (by rw [z]; rfl) hc1)))
      have hc1 : c = 1 := by omega
      obtain ⟨v0, hv0, hv0'⟩ := dpAll_at (d := rowD r) (i := 0) hD (by rw [List.getElem?_map, hr0]; rfl)
      cases hv0' with
      | @tup T0 xs0 _ g1 g2 =>
        cases g2 with
        | @cons vp _ _ _ g2 g3 =>
          refine ⟨_, rfl, lr, us, _, _, rfl, rfl, .inl (.inl hlr), atI_nat (j := 0) hv0, T0, _, _, vp, rfl, rfl, g1, atI_nat (j := 0) rfl, _, .int 0, g2, .int 0, ?_, shaped_fm fm_row0 (by rw [depth_int]; decide), _, rfl, ?_⟩
          · refine shaped_fm fr.1 ?_
            rcases M.mem r.1 (by rw [eR]; simp [pR]) with z | z
            · have := dep_mem z
              omega
            · have := dep_mem z
              omega
          rw [eqv_val fr.1 fm_row0, val_int]
          refine ifN (fun h0 => ?_) (fun h0 => stay fun _ => h0)
          refine ⟨by show 3 ≤ sizeLine; decide, fun t nt => ?_⟩
          have s5 := sm_upd (o := .tup [.int 0, .int 0, .int 0]) nt
          refine ⟨by show 1 ≤ sizeLine; decide, fun l1 nl1 => ?_⟩
          have s6 := sm_upd (o := .lst [.ref t]) nl1
          have s56 := s5.trans s6
          refine ⟨_, rfl, l1, lr, _, _, rfl, rfl, upd_same, s56 _ _ hlr, ?_, fun l2 nl2 => ?_⟩
          · have := dpAll_len hD
            rw [List.length_map] at this
            exact len_le (by rw [List.length_singleton]; omega)
          have s7 := sm_upd (o := .lst ([.ref t] ++ us)) nl2
          have s57 := s56.trans s7
          dsimp only [gName]
          refine J.nx _ _ ⟨l2, [.ref t] ++ us, (.int 0, false, false) :: R, rfl, upd_same, ?_, M.rs0 hR hr0 h0, sm03.trans s57⟩
          refine .cons (.tup (.inl (.inl ((s6.trans s7) _ _ upd_same))) (.cons (.int 0) (.cons (.int 0) (.cons (.int 0) .nil)))) (dpAll_im (tk_same s57) imR hD)
    · rintro σ H4 ⟨l, us', R', rfl, hl, hD', S, sm4⟩
      have imS := im_rows S.fm
      refine ⟨Nat.zero_le _, fun lf nlf => ?_⟩
      walk_at "r"
      have s5 := sm_upd (o := .lst []) nlf
      have hlf := upd_at (o := .lst []) nlf
      have sm5 := sm4.trans s5
      have lne : l ≠ lf := ne_of_none hl nlf
      have nf : H lf = none := by
        cases z : H lf with
        | none => rfl
        | some o => rw [sm4 _ _ z] at nlf; cases nlf
      replace hl := s5 _ _ hl
      replace hD' := dpAll_im (tk_same s5) imS hD'
      revert hlf sm5 hl hD'
      generalize upd H4 lf (.lst []) = H5
      intro hlf sm5 hl hD'
      have mu : Mut (H5 lf) := by
        rw [hlf]
        trivial
      have lus := dpAll_len hD'
      rw [List.length_map] at lus
      refine ⟨l, us', rfl, .inl (.inl hl), flE (xs := us') (fun i σ H' => ∃ (o t k b : Nat) (z8 z9 z10 z11 z12 z13 z14 : Option V) (uf : List V) (F : List PyData), σ = [some x, some y, some (.int (k : Nat)), some (.ref l), some (.ref lf), some (.int (o : Nat)), some (.int (t : Nat)), some (.int (b : Nat)), z8, z9, z10, z11, z12, z13, z14] ∧
        Ad R' i c F o t k b ∧ H' lf = some (.lst uf) ∧ DpAll K H' uf F ∧ But lf H5 H' ∧ wtAll F ≤ (n + 6) * wtAll (pR (R'.take i)) ∧ PyData.depthAll F ≤ n + 1)
        ⟨0, 0, c, 0, none, none, none, none, none, none, none, [], [], rfl, .start hc S.st, hlf, .nil, But.refl _, by rw [wtAll_nil]; exact Nat.zero_le _, by rw [depthAll_nil]; exact Nat.zero_le _⟩ ?_ ?_ ?_⟩
      · rintro i σ H' _ ⟨o, t, k, b, z8, z9, z10, z11, z12, z13, z14, uf, F, _, _, _, _, bt, _⟩
        exact .inl (.inl (bt _ _ lne hl))
      · rintro i v σ H' hv ⟨o, t, k, b, z8, z9, z10, z11, z12, z13, z14, uf, F, rfl, Sd, hlf', hF, bt, hwF, hdF⟩ Tt nT D' B'
        obtain ⟨d', hd', hv'⟩ := dpAll_get hD' hv
        rw [List.getElem?_map] at hd'
        cases er : R'[i]? with
        | none =>
          rw [er] at hd'
          cases hd'
        | some r =>
        rw [er] at hd'
        cases hd'
        obtain ⟨p, m, n'⟩ := r
        have hi := (List.getElem?_eq_some_iff.mp er).1
        have pm : p ∈ pR R' := List.mem_map.mpr ⟨_, List.mem_of_getElem? er, rfl⟩
        have fp := fmAll_mem S.fm p pm
        have wp := wt_mem pm
        have depp : p.depth ≤ n := by
          rcases S.mem p pm with z | z | z
          · have := dep_mem z
            omega
          · have := dep_mem z
            omega
          · rw [z, depth_int]
            exact Nat.zero_le _
        have tk : Tk H5 H' := tk_but bt mu
        have sT := sm_upd (o := .tup [.int (i : Nat), v]) nT
        have hv2 := dp_im (tk.trans (tk_same sT)) (im_row (r := (p, m, n')) fp.1) hv'
        cases hv2 with
        | @tup Tr xr _ h1 h2 =>
        cases h2 with
        | @cons vp _ _ _ gp g2 =>
        cases g2 with
        | cons g2 g3 =>
        cases g2
        cases g3 with
        | cons g3 g4 =>
        cases g3
        cases g4
        refine ⟨Tt, _, rfl, .inl (.inl upd_same), rfl, _, _, rfl, _, _, rfl, Tr, _, rfl, h1, rfl, _, _, rfl, _, _, rfl, _, _, rfl, rfl, rfl, ?_⟩
        replace hlf' := sT _ _ hlf'
        replace hF := dpAll_tk (tk_same sT) Sd.fm hF
        replace bt := bt.trans (But.of sT)
        revert hlf' hF bt gp
        generalize upd H' Tt (.tup [.int (i : Nat), .ref Tr]) = H7
        intro gp hlf' hF bt
        have ho1 : o ≤ 1 := by have := Sd.po; omega
        have ht1 : t ≤ 1 := by have := Sd.pt; omega
        obtain ⟨o', eo⟩ : ∃ o', o' = (o + bn m) % 2 := ⟨_, rfl⟩
        obtain ⟨t', et⟩ : ∃ t', t' = (t + bn n') % 2 := ⟨_, rfl⟩
        obtain ⟨h, e1⟩ : ∃ h, h = (o' + t' + k) % 2 := ⟨_, rfl⟩
        obtain ⟨k', e2⟩ : ∃ k', k' = (o' + t' + k) / 2 := ⟨_, rfl⟩
        obtain ⟨r', e3⟩ : ∃ r', r' = (o' + t' + k') % 2 := ⟨_, rfl⟩
        refine cut (fun σ H2 => H7 = H2 ∧ σ = [some x, some y, some (.int (k : Nat)), some (.ref l), some (.ref lf), some (.int (o' : Nat)), some (.int (t : Nat)), some (.int (b : Nat)), some (.int (i : Nat)), some vp, some (.int (bi m)), some (.int (bi n')), z12, z13, z14]) (fun D J => ?_) ?_
        · walk_at "r"
          refine J.nx _ _ ⟨rfl, ?_⟩
          rw [eo, ← xor_n ho1]
          rfl
        rintro _ _ ⟨rfl, rfl⟩
        refine cut (fun σ H2 => H7 = H2 ∧ σ = [some x, some y, some (.int (k : Nat)), some (.ref l), some (.ref lf), some (.int (o' : Nat)), some (.int (t' : Nat)), some (.int (b : Nat)), some (.int (i : Nat)), some vp, some (.int (bi m)), some (.int (bi n')), z12, z13, z14]) (fun D J => ?_) ?_
        · walk_at "r"
          refine J.nx _ _ ⟨rfl, ?_⟩
          rw [et, ← xor_n ht1]
          rfl
        rintro _ _ ⟨rfl, rfl⟩
        refine cut (fun σ H2 => H7 = H2 ∧ σ = [some x, some y, some (.int (k : Nat)), some (.ref l), some (.ref lf), some (.int (o' : Nat)), some (.int (t' : Nat)), some (.int (b : Nat)), some (.int (i : Nat)), some vp, some (.int (bi m)), some (.int (bi n')), some (.int (h : Nat)), z13, z14]) (fun D J => ?_) ?_
        · walk_at "r"
          refine J.nx _ _ ⟨rfl, ?_⟩
          rw [e1, ← and_n]
          rfl
        rintro _ _ ⟨rfl, rfl⟩
        refine cut (fun σ H2 => H7 = H2 ∧ σ = [some x, some y, some (.int (k' : Nat)), some (.ref l), some (.ref lf), some (.int (o' : Nat)), some (.int (t' : Nat)), some (.int (b : Nat)), some (.int (i : Nat)), some vp, some (.int (bi m)), some (.int (bi n')), some (.int (h : Nat)), z13, z14]) (fun D J => ?_) ?_
        · walk_at "r"
          refine J.nx _ _ ⟨rfl, ?_⟩
          rw [e2]
          rfl
        rintro _ _ ⟨rfl, rfl⟩
        obtain ⟨F1, eF1⟩ : ∃ F1, F1 = if h = b then F else F ++ [p] := ⟨_, rfl⟩
        have St := Sd.step S.asc S.fm er eo et e1 e2 e3 eF1
        have lenF := dpAll_len hF
        have hln := Sd.ln
        have hln2 := S.ln
        have hwR := S.wt
        have fF1 : FmAll F1 := by
          rw [eF1]
          split
          · exact Sd.fm
          · exact fmAll_snoc Sd.fm fp.1 fp.2
        have wF1 : wtAll F1 ≤ (n + 6) * wtAll (pR (R'.take i)) + wt p := by
          rw [eF1]
          split
          · omega
          · rw [wtAll_app, wtAll_cons, wtAll_nil]
            omega
        have dF1 : PyData.depthAll F1 ≤ n + 1 := by
          rw [eF1]
          split
          · exact hdF
          · refine depthAll_le.mpr fun z hz => ?_
            rcases List.mem_append.mp hz with hz | hz
            · have := dep_mem hz
              omega
            · rw [List.mem_singleton.mp hz]
              omega
        have tkw : wtAll (pR (R'.take (i + 1))) = wtAll (pR (R'.take i)) + wt p := by
          rw [List.take_add_one, er, pR_app, wtAll_app]
          show _ + wtAll [p] = _
          rw [wtAll_cons, wtAll_nil]
          omega
        have mulw : (n + 6) * wtAll (pR (R'.take (i + 1))) = (n + 6) * wtAll (pR (R'.take i)) + (n + 6) * wt p := by rw [tkw, Nat.mul_add]
        have wpp := wt_pos p
        have six : (n + 6) * wt p = (n + 1) * wt p + 5 * wt p := by rw [← Nat.add_mul]
        refine cut (fun σ H2 => ∃ uf1 : List V, σ = [some x, some y, some (.int (k' : Nat)), some (.ref l), some (.ref lf), some (.int (o' : Nat)), some (.int (t' : Nat)), some (.int (b : Nat)), some (.int (i : Nat)), some vp, some (.int (bi m)), some (.int (bi n')), some (.int (h : Nat)), z13, z14] ∧ H2 lf = some (.lst uf1) ∧ DpAll K H2 uf1 F1 ∧ But lf H5 H2 ∧ Dp K H2 vp p) (fun D J => ?_) ?_
        · walk_at "r"
          refine ifNE (fun hc => ?_) (fun hc => ?_)
          · have hne : h ≠ b := by omega
            refine ⟨_, rfl, .inl ⟨rfl, _, .inl (.inl hlf')⟩, _, rfl, lf, uf, _, rfl, rfl, hlf', len_lt (by omega), ?_⟩
            have mu' : Mut (H7 lf) := by
              rw [hlf']
              trivial
            have tk2 : Tk H7 (upd H7 lf (.lst (uf ++ [vp]))) := tk_mut mu'
            refine J.nx _ _ ⟨uf ++ [vp], rfl, upd_same, ?_, bt.upd, dp_tk tk2 fp.1 gp⟩
            rw [eF1, if_neg hne]
            exact dpAll_app (dpAll_tk tk2 Sd.fm hF) (.cons (dp_tk tk2 fp.1 gp) .nil)
          · have hne : h = b := by omega
            refine J.nx _ _ ⟨uf, rfl, hlf', ?_, bt, gp⟩
            rw [eF1, if_pos hne]
            exact hF
        rintro σ H8 ⟨uf1, rfl, hlf1, hF1, bt1, gp1⟩
        refine cut (fun σ H2 => H8 = H2 ∧ σ = [some x, some y, some (.int (k' : Nat)), some (.ref l), some (.ref lf), some (.int (o' : Nat)), some (.int (t' : Nat)), some (.int (h : Nat)), some (.int (i : Nat)), some vp, some (.int (bi m)), some (.int (bi n')), some (.int (h : Nat)), z13, z14]) (fun D J => ?_) ?_
        · walk_at "r"
          exact J.nx _ _ ⟨rfl, rfl⟩
        rintro _ _ ⟨rfl, rfl⟩
        refine cut (fun σ H2 => H8 = H2 ∧ σ = [some x, some y, some (.int (k' : Nat)), some (.ref l), some (.ref lf), some (.int (o' : Nat)), some (.int (t' : Nat)), some (.int (h : Nat)), some (.int (i : Nat)), some vp, some (.int (bi m)), some (.int (bi n')), some (.int (h : Nat)), some (.int (r' : Nat)), z14]) (fun D J => ?_) ?_
        · walk_at "r"
          refine J.nx _ _ ⟨rfl, ?_⟩
          rw [e3, ← and_n]
          rfl
        rintro _ _ ⟨rfl, rfl⟩
        walk_at "r"
        refine ifNE (fun hc => ?_) (fun hc => ?_)
        case refine_2 =>
          have hrh : r' = h := by omega
          refine B'.nx _ _ ⟨o', t', k', h, _, _, _, _, _, _, _, uf1, F1, rfl, St.1 hrh, hlf1, hF1, bt1, ?_, dF1⟩
          omega
        have hrh : r' ≠ h := by omega
        refine ⟨_, rfl, vp, p, rfl, gp1, fp.1, depp, by omega, by omega, fun vf f H9 ff vvf depf wf dpf sm9 => ?_⟩
        dsimp only [gName]
        have hlf9 := sm9 _ _ hlf1
        have hF9 := dpAll_tk (tk_same sm9) fF1 hF1
        have bt9 := bt1.trans (But.of sm9)
        have hl9 := bt9 _ _ lne hl
        have vlf : vl f = vl p + 1 := by
          have := fp.2
          unfold vl
          omega
        have lenF1 := dpAll_len hF9
        have add : (i + 1 = R'.length ∨ ∃ s, R'[i + 1]? = some s ∧ vl s.1 ≠ vl f) → ∀ D : Ends, (∀ σ' H'', (∃ (o t k b : Nat) (z8 z9 z10 z11 z12 z13 z14 : Option V) (uf : List V) (F : List PyData), σ' = [some x, some y, some (.int (k : Nat)), some (.ref l), some (.ref lf), some (.int (o : Nat)), some (.int (t : Nat)), some (.int (b : Nat)), z8, z9, z10, z11, z12, z13, z14] ∧
            Ad R' (i + 1) c F o t k b ∧ H'' lf = some (.lst uf) ∧ DpAll K H'' uf F ∧ But lf H5 H'' ∧ wtAll F ≤ (n + 6) * wtAll (pR (R'.take (i + 1))) ∧ PyData.depthAll F ≤ n + 1) → D.nx σ' H'') → ∀ z13 z14,
            D.nx [some x, some y, some (.int (k' : Nat)), some (.ref l), some (.ref lf), some (.int (o' : Nat)), some (.int (t' : Nat)), some (.int (r' : Nat)), some (.int (i : Nat)), some vp, some (.int (bi m)), some (.int (bi n')), some (.int (h : Nat)), z13, z14] (upd H9 lf (.lst (uf1 ++ [vf]))) := fun hn2 D hD z13 z14 => by
          have mu' : Mut (H9 lf) := by
            rw [hlf9]
            trivial
          have tk2 : Tk H9 (upd H9 lf (.lst (uf1 ++ [vf]))) := tk_mut mu'
          refine hD _ _ ⟨o', t', k', r', _, _, _, _, _, _, _, uf1 ++ [vf], F1 ++ [f], rfl, St.2.1 hrh f ff vvf hn2, upd_same, dpAll_app (dpAll_tk tk2 fF1 hF9) (.cons (dp_tk tk2 ff dpf) .nil), bt9.upd, ?_, ?_⟩
          · clear hn2
            rw [wtAll_app, wtAll_cons, wtAll_nil]
            omega
          · refine depthAll_le.mpr fun z hz => ?_
            rcases List.mem_append.mp hz with hz | hz
            · have := dep_mem hz
              omega
            · rw [List.mem_singleton.mp hz]
              exact depf
        have szl : uf1.length < sizeLine := by
          refine len_lt ?_
          have : F1.length ≤ F.length + 1 := by
            rw [eF1]
            split
            · omega
            · rw [List.length_append, List.length_singleton]
              exact Nat.le_refl _
          omega
        refine ⟨_, rfl, _, _, rfl, rfl, _, rfl, l, us', rfl, .inl (.inl (.inl hl9)), rfl, _, rfl, ?_⟩
        rw [lus]
        by_cases hlast : i + 1 = R'.length
        · refine ifE (fun _ => iteT ?_) (fun z => absurd (by omega) z)
          refine ⟨_, rfl, .inl ⟨rfl, _, .inl (.inl hlf9)⟩, _, rfl, lf, uf1, _, rfl, rfl, hlf9, szl, ?_⟩
          walk_at "r"
          exact add (.inl hlast) D' (fun σ' H'' z => B'.nx σ' H'' z) _ _
        · refine ifE (fun z => absurd (by omega) hlast) (fun _ => ?_)
          obtain ⟨s', hs'⟩ : ∃ s', R'[i + 1]? = some s' := ⟨R'[i + 1]'(by omega), by simp [show i + 1 < R'.length by omega]⟩
          have sm' : s'.1 ∈ pR R' := List.mem_map.mpr ⟨_, List.mem_of_getElem? hs', rfl⟩
          have fs' := fmAll_mem S.fm s'.1 sm'
          have deps : s'.1.depth ≤ n := by
            rcases S.mem s'.1 sm' with z | z | z
            · have := dep_mem z
              omega
            · have := dep_mem z
              omega
            · rw [z, depth_int]
              exact Nat.zero_le _
          have tk9 : Tk H5 H9 := tk_but bt9 mu
          obtain ⟨v9, hv9, hv9'⟩ := dpAll_at (d := rowD s') (i := i + 1) (dpAll_im tk9 imS hD') (by rw [List.getElem?_map, hs']; rfl)
          cases hv9' with
          | @tup T9 x9 _ g1 g2 =>
          cases g2 with
          | @cons v10 _ _ _ g2 g3 =>
          refine ⟨_, rfl, _, rfl, _, _, rfl, rfl, l, us', _, _, rfl, rfl, .inl (.inl hl9), atI_at (n := i + 1) hv9 (by omega), T9, _, _, v10, rfl, rfl, g1, atI_nat (j := 0) rfl, _, rfl, _, _, g2, dpf, shaped_fm fs'.1 (by omega), shaped_fm ff (by omega), _, rfl, ?_⟩
          rw [eqv_val fs'.1 ff]
          refine ifN (fun h0 => ?_) (fun h0 => ?_)
          · refine ⟨_, rfl, .inl ⟨rfl, _, .inl (.inl hlf9)⟩, _, rfl, lf, uf1, _, rfl, rfl, hlf9, szl, ?_⟩
            walk_at "r"
            exact add (.inr ⟨s', hs', fun z => h0 (by have := fs'.2; have := fp.2; unfold vl at z; omega)⟩) D' (fun σ' H'' z => B'.nx σ' H'' z) _ _
          · refine B'.nx _ _ ⟨o', t', k', h, _, _, _, _, _, _, _, uf1, F1, rfl, St.2.2 hrh ⟨s', hs', by rw [← vlf]; unfold vl; rw [h0]⟩, hlf9, hF9, bt9, ?_, dF1⟩
            omega
      · rintro σ H' ⟨o, t, k, b, z8, z9, z10, z11, z12, z13, z14, uf, F, rfl, Sd, hlf', hF, bt, hwF, hdF⟩
        walk_at "r"
        rw [lus] at Sd
        have hwR := S.wt
        rw [lus, List.take_length] at hwF
        refine ⟨lf, uf, F, rfl, .inl (.inl (.inl hlf')), hF, Sd.fm, Sd.asc, fun v r H6 k1 k2 k3 k4 k5 sm6 => ?_⟩
        refine q v r H6 k1 ?_ (by omega) ?_ k5 ((But.same sm5 nf bt).trans sm6)
        · rw [k2, S.sum Sd, vA, vB]
        · have h1 : (n + 6) * wtAll (pR R') ≤ (n + 6) * (wt d + wt e + 131) := Nat.mul_le_mul_left _ (by omega)
          have h2 : (n + 6) * (wt d + wt e + 140) = (n + 6) * (wt d + wt e + 131) + (n + 6) * 9 := by
            rw [← Nat.mul_add]
          omega
end
end K37
set_option Elab.async false
set_option linter.all false
set_option maxRecDepth 100000
set_option pp.deepTerms false
set_option pp.maxSteps 1500
namespace K37
open PySem PySem.Spec PyProof.Rows L2 HX TV FM DX FB FC PM
local macro_rules | `(tactic| walk_at "r") => `(tactic| (repeat (first | refine Exists.intro _ (And.intro rfl ?_) | refine And.intro rfl ?_ | refine Exists.intro _ (Exists.intro _ (And.intro rfl (And.intro rfl ?_))) | refine And.intro (by omega) ?_ | refine And.intro (Or.inl (And.intro (by omega) (by omega))) ?_ | refine And.intro (Or.inr (And.intro (by omega) (by omega))) ?_ | refine And.intro (And.intro (by omega) (by omega)) ?_ | refine And.intro (And.intro (by decide) (And.intro (by decide) (by decide))) ?_ | refine Or.inl (Exists.intro _ (And.intro rfl ?_)) | (dsimp only [gName]; first | with_reducible refine seqC ?_ | with_reducible refine asgC ?_))))
local macro_rules | `(tactic| walk_at "s") => `(tactic| (repeat (first | refine Exists.intro _ (And.intro rfl ?_) | refine And.intro rfl ?_ | refine Exists.intro _ (Exists.intro _ (And.intro rfl (And.intro rfl ?_))) | refine And.intro (by omega) ?_ | refine And.intro (Or.inl (And.intro (by omega) (by omega))) ?_ | refine And.intro (Or.inr (And.intro (by omega) (by omega))) ?_ | refine And.intro (And.intro (by omega) (by omega)) ?_ | refine And.intro (And.intro (by decide) (And.intro (by decide) (by decide))) ?_ | refine Or.inl (Exists.intro _ (And.intro rfl ?_)) | refine Exists.intro _ (Exists.intro _ (And.intro rfl ?_)) | (dsimp only [gName]; first | with_reducible refine seqC ?_ | with_reducible refine asgC ?_))))
section
variable {P : Program} {w : World} {K : PySem.W.Frag} {mg : Str → Option Value} {base : Heap}
/-- of a form of depth at most n: its size -/
def sp_size (K : PySem.W.Frag) (n : Nat) : Sp := fun vs H Q _ => ∃ (v : V) (d : PyData), vs = [v] ∧ Dp K H v d ∧ Fm d ∧ d.depth ≤ n ∧ wt d ≤ 12000000 ∧ ∀ H', Same H H' → Q (.int (wt d : Nat)) H'
def sp_height (K : PySem.W.Frag) (n : Nat) : Sp := fun vs H Q _ => ∃ (v : V) (d : PyData), vs = [v] ∧ Dp K H v d ∧ Fm d ∧ d.depth ≤ n ∧ wt d ≤ 12000000 ∧ ∀ H', Same H H' → Q (.int (d.depth : Nat)) H'
theorem sum_nat : ∀ l : List Nat, (l.map fun n => ((n : Nat) : Int)).sum = ((l.sum : Nat) : Int)
  | [] => rfl
  | a :: r => by
    rw [List.map_cons, List.sum_cons, sum_nat r, List.sum_cons]
    omega
theorem wtAll_sum : ∀ ds : List PyData, wtAll ds = (ds.map wt).sum
  | [] => by simp [wtAll]
  | d :: r => by rw [wtAll_cons, wtAll_sum r, List.map_cons, List.sum_cons]
/-- reading a list of sizes -/
theorem nvn (l : List Nat) : nv l = (l.map fun n => ((n : Nat) : Int)).map V.int := by
  unfold nv
  rw [List.map_map]
  rfl
theorem ok_size (T : Top K mg) : ∀ n, FnOk P w K mg base CX0 (n + 1) T.f_size T.fd_size ["x"]  (sp_size K n) := by
  intro n
  induction n with
  | zero =>
    refine T.F_size.ok sc_size (fun vs H Q E h => ?_) (fun cdv A outer s H vs Q E hr h => ?_)
    · obtain ⟨v, d, rfl, _⟩ := h
      rfl
    · obtain ⟨v, d, rfl, hD, hF, hd, hw, q⟩ := h
      refine ⟨_, (pss_cons (ps_if (pt_val (pe_callB call_isi (by rfl) T.m_isinstance (by decide +kernel) (pa_cons (pv 0) (pa_cons (pe_bltn (v := .ty "int") (by rfl) T.m_int (by decide +kernel) rfl) pa_nil))) (fun _ => rfl))
      (pss_one (ps_ret pe_int))
      pss_nil)
    (pss_one ps_never)), ?_⟩
      rcases fm_cases hF with ⟨i, rfl⟩ | ⟨ds, rfl⟩
      · cases hD
        refine ⟨_, rfl, _, _, _, _, true, rfl, .ty "int", tyI _, k_ii, true, rfl, iteT ?_⟩
        have := q H (Same.refl _)
        rw [wt_int] at this
        exact this
      · rw [depth_tuple] at hd
        omega
  | succ n ih =>
    have G_size : FnOk P w K mg base CX0 (n + 1) T.f_size T.fd_size ["x"]  (sp_size K n) := ih
    refine T.F_size.ok sc_size (fun vs H Q E h => ?_) (fun cdv A outer s H vs Q E hr h => ?_)
    · obtain ⟨v, d, rfl, _⟩ := h
      rfl
    · obtain ⟨v, d, rfl, hD, hF, hd, hw, q⟩ := h
      refine ⟨_, (pss_cons (ps_if (pt_val (pe_callB call_isi (by rfl) T.m_isinstance (by decide +kernel) (pa_cons (pv 0) (pa_cons (pe_bltn (v := .ty "int") (by rfl) T.m_int (by decide +kernel) rfl) pa_nil))) (fun _ => rfl))
      (pss_one (ps_ret pe_int))
      pss_nil)
    (pss_one (ps_ret (pe_op op_add pe_int (pe_callB (cr_sum rfl) (by rfl) T.m_sum (by decide +kernel) (pa_cons (pe_lc (own := [("turn", 1)]) (g := gName 1) (by rfl) sc_size.nd (pi_tup (pv 0)) (blkOk_by (own := [("turn", 1)]) (N := ["x", "turn"]) (sc := defScope s_size) (by decide +kernel)) (fun _ _ _ _ _ => (pg_name (i := 1) sc_size.nd rfl (Or.inl rfl))) (fun _ _ _ _ _ => pts_nil) (fun _ _ _ _ _ => (pe_call G_size (hr.mono (by omega)) (by rfl) T.g_size T.F_size.kp T.b_size .nil pass0 (pa_cons (pv 1) pa_nil)))) pa_nil)))))), ?_⟩
      rcases fm_cases hF with ⟨i, rfl⟩ | ⟨ds, rfl⟩
      · cases hD
        refine ⟨_, rfl, _, _, _, _, true, rfl, .ty "int", tyI _, k_ii, true, rfl, iteT ?_⟩
        have := q H (Same.refl _)
        rw [wt_int] at this
        exact this
      · have hFa := ((fm_tuple _).mp hF).1
        rw [depth_tuple] at hd
        cases hD with
        | @tup a xs _ h1 h2 =>
          have hlx := dpAll_len h2
          refine ⟨_, rfl, _, _, _, _, false, rfl, .ty "int", tyT h1, k_ti, false, rfl, iteF ?_⟩
          refine ⟨_, rfl, a, rfl, ⟨_, h1⟩, fun D nD => lc_tup (xs := xs) (fun i H' => Same H H' ∧ H' D = some (.lst (nv ((ds.take i).map wt)))) ⟨sm_upd nD, by rw [upd_same]; rfl⟩ ?_ ?_ ?_⟩
          · rintro i H' _ ⟨sm, _⟩
            exact HX.Same.tup sm h1
          · rintro i x H' hx ⟨sm, eD⟩
            obtain ⟨e, he, hDe⟩ := dpAll_get h2 hx
            have hFe := (fmAll_mem hFa e (List.mem_of_getElem? he)).1
            have hi := (List.getElem?_eq_some_iff.mp hx).1
            refine ⟨rfl, ?_⟩
            have hwe := wt_mem (List.mem_of_getElem? he)
            have hll := len_wt ds
            rw [wt_tuple] at hw
            refine ⟨_, rfl, x, e, rfl, dp_tk (tk_same sm) hFe hDe, hFe, ?_, by omega, fun H2 sm2 => ?_⟩
            · have := depthAll_le.mp (Nat.le_refl _) e (List.mem_of_getElem? he)
              omega
            refine ⟨_, sm2 _ _ eD, ?_, sm_mut (sm.trans sm2) nD, ?_⟩
            · rw [nv_len]
              simp
              exact len_lt (by omega)
            · rw [upd_same, List.take_add_one, he, ← nv_app]
              simp
          · rintro H2 ⟨sm, eD⟩
            rw [hlx, List.take_length, nvn] at eD
            refine ⟨D, _, rfl, .inl (.inl eD), ?_⟩
            walk_at "r"
            rw [sum_nat, ← wtAll_sum]
            have := q H2 sm
            rw [wt_tuple] at this
            show Q (.int ((1 : Int) + ((wtAll ds : Nat) : Int))) H2
            rw [show (1 : Int) + ((wtAll ds : Nat) : Int) = ((1 + wtAll ds : Nat) : Int) by omega]
            exact this
theorem ok_height (T : Top K mg) : ∀ n, FnOk P w K mg base CX0 (n + 1) T.f_height T.fd_height ["x"]  (sp_height K n) := by
  intro n
  induction n with
  | zero =>
    refine T.F_height.ok sc_height (fun vs H Q E h => ?_) (fun cdv A outer s H vs Q E hr h => ?_)
    · obtain ⟨v, d, rfl, _⟩ := h
      rfl
    · obtain ⟨v, d, rfl, hD, hF, hd, hw, q⟩ := h
      refine ⟨_, (pss_cons (ps_if (pt_val (pe_callB call_isi (by rfl) T.m_isinstance (by decide +kernel) (pa_cons (pv 0) (pa_cons (pe_bltn (v := .ty "int") (by rfl) T.m_int (by decide +kernel) rfl) pa_nil))) (fun _ => rfl)) (pss_one (ps_ret pe_int)) pss_nil) pss_never), ?_⟩
      rcases fm_cases hF with ⟨i, rfl⟩ | ⟨ds, rfl⟩
      · cases hD
        refine ⟨_, rfl, _, _, _, _, true, rfl, .ty "int", tyI _, k_ii, true, rfl, iteT ?_⟩
        have := q H (Same.refl _)
        rw [depth_int] at this
        exact this
      · rw [depth_tuple] at hd
        omega
  | succ n ih =>
    have G_height : FnOk P w K mg base CX0 (n + 1) T.f_height T.fd_height ["x"]  (sp_height K n) := ih
    refine T.F_height.ok sc_height (fun vs H Q E h => ?_) (fun cdv A outer s H vs Q E hr h => ?_)
    · obtain ⟨v, d, rfl, _⟩ := h
      rfl
    · obtain ⟨v, d, rfl, hD, hF, hd, hw, q⟩ := h
      refine ⟨_, (pss_cons (ps_if (pt_val (pe_callB call_isi (by rfl) T.m_isinstance (by decide +kernel) (pa_cons (pv 0) (pa_cons (pe_bltn (v := .ty "int") (by rfl) T.m_int (by decide +kernel) rfl) pa_nil))) (fun _ => rfl))
      (pss_one (ps_ret pe_int))
      pss_nil)
    (pss_cons (ps_set (i := 1) sc_height.nd rfl (Or.inl rfl) pe_int)
    (pss_cons (ps_for PassesOwn.never rfl (pi_tup (pv 0)) (pg_name (i := 2) sc_height.nd rfl (Or.inl rfl))
      (pss_one (ps_set (i := 1) sc_height.nd rfl (Or.inl rfl) (pe_callB (call_max2 rfl) (by rfl) T.m_max (by decide +kernel) (pa_cons (pv 1) (pa_cons (pe_callTy call_int1 (by rfl) T.m_int (by decide +kernel) (pa_cons (pe_call G_height (hr.mono (by omega)) (by rfl) T.g_height T.F_height.kp T.b_height .nil pass0 (pa_cons (pv 2) pa_nil)) pa_nil)) pa_nil))))))
    (pss_one (ps_ret (pe_op op_add (pv 1) pe_int)))))), ?_⟩
      rcases fm_cases hF with ⟨i, rfl⟩ | ⟨ds, rfl⟩
      · cases hD
        refine ⟨_, rfl, _, _, _, _, true, rfl, .ty "int", tyI _, k_ii, true, rfl, iteT ?_⟩
        have := q H (Same.refl _)
        rw [depth_int] at this
        exact this
      · have hFa := ((fm_tuple _).mp hF).1
        rw [depth_tuple] at hd
        rw [wt_tuple] at hw
        cases hD with
        | @tup a xs _ h1 h2 =>
          have hlx := dpAll_len h2
          refine ⟨_, rfl, _, _, _, _, false, rfl, .ty "int", tyT h1, k_ti, false, rfl, iteF ?_⟩
          refine ⟨_, rfl, a, rfl, ⟨_, h1⟩, flT (xs := xs) (fun i σ H' => ∃ z, σ = [some (.ref a), some (.int (PyData.depthAll (ds.take i) : Nat)), z] ∧ Same H H') ⟨none, by rw [List.take_zero, depthAll_nil]; rfl, Same.refl _⟩ ?_ ?_ ?_⟩
          · rintro i σ H' _ ⟨z, _, sm⟩
            exact HX.Same.tup sm h1
          · rintro i x σ H' hx ⟨z, rfl, sm⟩ D' B
            obtain ⟨e, he, hDe⟩ := dpAll_get h2 hx
            have hFe := (fmAll_mem hFa e (List.mem_of_getElem? he)).1
            have hwe := wt_mem (List.mem_of_getElem? he)
            walk_at "r"
            refine ⟨x, e, rfl, dp_tk (tk_same sm) hFe hDe, hFe, ?_, by omega, fun H2 sm2 => ?_⟩
            · have := depthAll_le.mp (Nat.le_refl _) e (List.mem_of_getElem? he)
              omega
            walk_at "s"
            refine B.nx _ _ ⟨some x, ?_, sm.trans sm2⟩
            rw [List.take_add_one, he]
            have emax : PyData.depthAll (ds.take i ++ [e]) = max (PyData.depthAll (ds.take i)) e.depth := by
              apply Nat.le_antisymm
              · refine depthAll_le.mpr fun y hy => ?_
                rcases List.mem_append.mp hy with hy | hy
                · have := depthAll_le.mp (Nat.le_refl _) y hy
                  omega
                · simp at hy
                  subst hy
                  omega
              · have h5 := depthAll_le.mp (Nat.le_refl (PyData.depthAll (ds.take i ++ [e])))
                have h6 := depthAll_le.mpr fun y hy => h5 y (List.mem_append_left _ hy)
                have h7 := h5 e (by simp)
                omega
            show [some (V.ref a), some (V.int (if ((e.depth : Nat) : Int) > ((PyData.depthAll (ds.take i) : Nat) : Int) then ((e.depth : Nat) : Int) else ((PyData.depthAll (ds.take i) : Nat) : Int))), some x] = [some (V.ref a), some (V.int ((PyData.depthAll (ds.take i ++ [e]) : Nat) : Int)), some x]
            rw [emax]
            congr 4
            split <;> omega
          · rintro σ H' ⟨z, rfl, sm⟩
            rw [hlx, List.take_length]
            walk_at "r"
            have := q H' sm
            rw [depth_tuple] at this
            exact this
end
end K37
set_option Elab.async false
set_option linter.all false
set_option maxRecDepth 100000
set_option pp.deepTerms false
set_option pp.maxSteps 1500
namespace K37
open PySem PySem.Spec PyProof.Rows L2 HX TV FM DX FB FC PM
local macro_rules | `(tactic| walk_at "r") => `(tactic| (repeat (first | refine Exists.intro _ (And.intro rfl ?_) | refine And.intro rfl ?_ | refine Exists.intro _ (Exists.intro _ (And.intro rfl (And.intro rfl ?_))) | refine And.intro (by omega) ?_ | refine And.intro (Or.inl (And.intro (by omega) (by omega))) ?_ | refine And.intro (Or.inr (And.intro (by omega) (by omega))) ?_ | refine And.intro (And.intro (by omega) (by omega)) ?_ | refine And.intro (And.intro (by decide) (And.intro (by decide) (by decide))) ?_ | refine Or.inl (Exists.intro _ (And.intro rfl ?_)) | (dsimp only [gName]; first | with_reducible refine seqC ?_ | with_reducible refine asgC ?_))))
local macro_rules | `(tactic| walk_at "s") => `(tactic| (repeat (first | refine Exists.intro _ (And.intro rfl ?_) | refine And.intro rfl ?_ | refine Exists.intro _ (Exists.intro _ (And.intro rfl (And.intro rfl ?_))) | refine And.intro (by omega) ?_ | refine And.intro (Or.inl (And.intro (by omega) (by omega))) ?_ | refine And.intro (Or.inr (And.intro (by omega) (by omega))) ?_ | refine And.intro (And.intro (by omega) (by omega)) ?_ | refine And.intro (And.intro (by decide) (And.intro (by decide) (by decide))) ?_ | refine Or.inl (Exists.intro _ (And.intro rfl ?_)) | refine Exists.intro _ (Exists.intro _ (And.intro rfl ?_)) | (dsimp only [gName]; first | with_reducible refine seqC ?_ | with_reducible refine asgC ?_))))
section
variable {P : Program} {w : World} {K : PySem.W.Frag} {mg : Str → Option Value} {base : Heap}
/-- x - y -/
def sp_min (K : PySem.W.Frag) (n : Nat) : Sp := fun vs H Q _ => ∃ (x y : V) (d e : PyData), vs = [x, y] ∧ Dp K H x d ∧ Dp K H y e ∧ Fm d ∧ Fm e ∧ d.depth ≤ n + 1 ∧ e.depth ≤ n + 1 ∧ n ≤ 40 ∧ wt d + wt e ≤ 7850000 ∧
  ∀ (v : V) (r : PyData) H', Fm r → val r = val d - val e → r.depth ≤ n + 2 → wt r ≤ (n + 6) * (wt d + wt e + 141) → Dp K H' v r → Same H H' → Q v H'
theorem ok_minus (T : Top K mg) (n : Nat) : FnOk P w K mg base CX0 (n + 7) T.f_minus T.fd_minus ["x", "y"]  (sp_min K n) := by
  have G_total : FnOk P w K mg base CX0 (n + 6) T.f_total T.fd_total ["x", "y", "carry"]  (sp_tot K n) := ok_total T n
  have G_inverted : FnOk P w K mg base CX0 (1) T.f_inverted T.fd_inverted ["x"]  (sp_inv K) := ok_inverted T
  refine T.F_minus.ok sc_minus (fun vs H Q E h => ?_) (fun cdv Ar outer s H vs Q E hr h => ?_)
  · obtain ⟨x, y, d, e, rfl, _⟩ := h
    rfl
  · obtain ⟨x, y, d, e, rfl, hx, hy, hd, he, hdd, hde, hn, hw, q⟩ := h
    refine ⟨_, (pss_one (ps_ret (pe_call G_total (hr.mono (by omega)) (by rfl) T.g_total T.F_total.kp T.b_total .nil pass0 (pa_cons (pv 0) (pa_cons (pe_call G_inverted (hr.mono (by omega)) (by rfl) T.g_inverted T.F_inverted.kp T.b_inverted .nil pass0 (pa_cons (pv 1) pa_nil)) (pa_cons pe_int pa_nil)))))), ?_⟩
    refine ⟨_, rfl, _, rfl, y, e, rfl, hy, he, by omega, by omega, fun v r H1 k1 k2 k3 k4 k5 sm1 => ?_⟩
    refine ⟨x, v, d, r, 1, rfl, by decide, dp_tk (tk_same sm1) hd hx, k5, hd, k1, hdd, by omega, hn, by omega, fun v2 r2 H2 g1 g2 g3 g4 g5 sm2 => ?_⟩
    have : (n + 6) * (wt d + wt r + 140) ≤ (n + 6) * (wt d + wt e + 141) := Nat.mul_le_mul_left _ (by omega)
    exact q v2 r2 H2 g1 (by rw [g2, k2]; show _ + _ + (1 : Int) = _; omega) g3 (by omega) g5 (sm1.trans sm2)
/-- a form within the limits -/
def sp_kept (K : PySem.W.Frag) : Sp := fun vs H Q _ => ∃ (x : V) (d : PyData), vs = [x] ∧ Dp K H x d ∧ Fm d ∧ wt d ≤ 2000 ∧ d.depth ≤ 6 ∧ ∀ H', Same H H' → Q x H'
theorem ok_kept (T : Top K mg) {k : Nat} : FnOk P w K mg base CX0 (k + 8) T.f_kept T.fd_kept ["x"]  (sp_kept K) := by
  have G_size : FnOk P w K mg base CX0 (7) T.f_size T.fd_size ["x"]  (sp_size K 6) := ok_size T 6
  have G_height : FnOk P w K mg base CX0 (7) T.f_height T.fd_height ["x"]  (sp_height K 6) := ok_height T 6
  refine T.F_kept.ok sc_kept (fun vs H Q E h => ?_) (fun cdv Ar outer s H vs Q E hr h => ?_)
  · obtain ⟨x, d, rfl, _⟩ := h
    rfl
  · obtain ⟨x, d, rfl, hx, hd, hw, hdd, q⟩ := h
    refine ⟨_, (pss_cons (ps_if (pt_val (pe_callB call_isi (by rfl) T.m_isinstance (by decide +kernel) (pa_cons (pv 0) (pa_cons (pe_bltn (v := .ty "tuple") (by rfl) T.m_tuple (by decide +kernel) rfl) pa_nil))) (fun _ => rfl))
      (pss_cons (ps_set (i := 1) sc_kept.nd rfl (Or.inl rfl) (pe_call G_size (hr.mono (by omega)) (by rfl) T.g_size T.F_size.kp T.b_size .nil pass0 (pa_cons (pv 0) pa_nil)))
      (pss_cons (ps_set (i := 2) sc_kept.nd rfl (Or.inl rfl) (pe_call G_height (hr.mono (by omega)) (by rfl) T.g_height T.F_height.kp T.b_height .nil pass0 (pa_cons (pv 0) pa_nil)))
      (pss_one (ps_if (PW.pt (pw_or (pt_cmpR op_gt (pv 1) (pe_glob (v := .int (2000)) (by rfl) T.c_MOST_SIZE ⟨_, rfl⟩) (nomark _)) (pw_or1 (pt_cmpR op_gt (pv 2) (pe_glob (v := .int (6)) (by rfl) T.c_MOST_HEIGHT ⟨_, rfl⟩) (nomark _)))))
        (pss_one ps_never)
        pss_nil))))
      pss_nil)
    (pss_one (ps_ret (pv 0)))), ?_⟩
    refine ⟨_, rfl, _, _, _, _, !isI d, rfl, .ty "tuple", ty_f hx hd, kit_ft hd, _, rfl, ?_⟩
    refine ifBD (fun _ => ?_) (fun _ => ?_)
    · refine ⟨_, rfl, x, d, rfl, hx, hd, hdd, by omega, fun H1 sm1 => ?_⟩
      dsimp only [gName]
      refine ⟨_, rfl, x, d, rfl, dp_tk (tk_same sm1) hd hx, hd, hdd, by omega, fun H2 sm2 => ?_⟩
      walk_at "r"
      refine ifD (fun z => absurd z (by omega)) (fun _ => ?_)
      walk_at "r"
      refine ifD (fun z => absurd z (by omega)) (fun _ => ?_)
      walk_at "r"
      exact q H2 (sm1.trans sm2)
    · walk_at "r"
      exact q H (Same.refl _)
/-- a function of two forms, its result within the limits -/
def sp_f2 (K : PySem.W.Frag) (n : Nat) (f : Int → Int → Int → Prop) : Sp := fun vs H Q _ => ∃ (x y : V) (d e : PyData), vs = [x, y] ∧ Dp K H x d ∧ Dp K H y e ∧ Fm d ∧ Fm e ∧ d.depth ≤ n + 1 ∧ e.depth ≤ n + 1 ∧ n ≤ 30 ∧ wt d + wt e ≤ 90000 ∧
  (∀ r, Fm r → f (val d) (val e) (val r) → wt r ≤ 2000 ∧ r.depth ≤ 6) ∧ ∀ (v : V) (r : PyData) H', Fm r → f (val d) (val e) (val r) → wt r ≤ 2000 → r.depth ≤ 6 → Dp K H' v r → Same H H' → Q v H'
/-- a function of one form, its result within the limits -/
def sp_f1 (K : PySem.W.Frag) (n : Nat) (f : Int → Int) : Sp := fun vs H Q _ => ∃ (x : V) (d : PyData), vs = [x] ∧ Dp K H x d ∧ Fm d ∧ d.depth ≤ n + 1 ∧ n ≤ 30 ∧ wt d ≤ 90000 ∧
  (∀ r, Fm r → val r = f (val d) → wt r ≤ 2000 ∧ r.depth ≤ 6) ∧ ∀ (v : V) (r : PyData) H', Fm r → val r = f (val d) → wt r ≤ 2000 → r.depth ≤ 6 → Dp K H' v r → Same H H' → Q v H'
theorem ok_order_of (T : Top K mg) (n : Nat) : FnOk P w K mg base CX0 (n + 4) T.f_order_of T.fd_order_of ["x", "y"]  (sp_ord K n) := by
  have G_order : FnOk P w K mg base CX0 (n + 3) T.f_order T.fd_order ["x", "y"]  (sp_ord K n) := ok_order T n
  refine T.F_order_of.ok sc_order_of (fun vs H Q E h => ?_) (fun cdv Ar outer s H vs Q E hr h => ?_)
  · obtain ⟨x, y, d, e, rfl, _⟩ := h
    rfl
  · obtain ⟨x, y, d, e, rfl, h⟩ := h
    exact ⟨_, (pss_one (ps_ret (pe_call G_order (hr.mono (by omega)) (by rfl) T.g_order T.F_order.kp T.b_order .nil pass0 (pa_cons (pv 0) (pa_cons (pv 1) pa_nil))))), _, rfl, _, rfl, x, y, d, e, rfl, h⟩
end
end K37
set_option Elab.async false
set_option linter.all false
set_option maxRecDepth 100000
set_option pp.deepTerms false
set_option pp.maxSteps 1500
namespace K37
open PySem PySem.Spec PyProof.Rows L2 HX TV FM DX FB FC PM
local macro_rules | `(tactic| walk_at "r") => `(tactic| (repeat (first | refine Exists.intro _ (And.intro rfl ?_) | refine And.intro rfl ?_ | refine Exists.intro _ (Exists.intro _ (And.intro rfl (And.intro rfl ?_))) | refine And.intro (by omega) ?_ | refine And.intro (Or.inl (And.intro (by omega) (by omega))) ?_ | refine And.intro (Or.inr (And.intro (by omega) (by omega))) ?_ | refine And.intro (And.intro (by omega) (by omega)) ?_ | refine And.intro (And.intro (by decide) (And.intro (by decide) (by decide))) ?_ | refine Or.inl (Exists.intro _ (And.intro rfl ?_)) | (dsimp only [gName]; first | with_reducible refine seqC ?_ | with_reducible refine asgC ?_))))
local macro_rules | `(tactic| walk_at "s") => `(tactic| (repeat (first | refine Exists.intro _ (And.intro rfl ?_) | refine And.intro rfl ?_ | refine Exists.intro _ (Exists.intro _ (And.intro rfl (And.intro rfl ?_))) | refine And.intro (by omega) ?_ | refine And.intro (Or.inl (And.intro (by omega) (by omega))) ?_ | refine And.intro (Or.inr (And.intro (by omega) (by omega))) ?_ | refine And.intro (And.intro (by omega) (by omega)) ?_ | refine And.intro (And.intro (by decide) (And.intro (by decide) (by decide))) ?_ | refine Or.inl (Exists.intro _ (And.intro rfl ?_)) | refine Exists.intro _ (Exists.intro _ (And.intro rfl ?_)) | (dsimp only [gName]; first | with_reducible refine seqC ?_ | with_reducible refine asgC ?_))))
section
variable {P : Program} {w : World} {K : PySem.W.Frag} {mg : Str → Option Value} {base : Heap}
theorem tb_far {i : Int} (h1 : -(2 ^ 64) ≤ i) (h2 : i < 2 ^ 64) {p : Nat} (h : 64 ≤ p) : tb i p = decide (i < 0) := by
  have := (range_div (n := i) (k := 64)).mp ⟨h1, h2⟩ p h
  rw [this]
  unfold tb
  by_cases hi : i < 0
  · rw [decide_eq_true hi]
    have : i / 2 ^ 64 = -1 := by omega
    rw [this]
    decide
  · rw [decide_eq_false hi]
    have : i / 2 ^ 64 = 0 := by omega
    rw [this]
    decide
theorem asc_cnt {ts : List Nat} {p i : Nat} (hA : Asc ts) (h1 : ∀ t ∈ ts.take i, t ≤ p) (h2 : i = ts.length ∨ ∃ t, ts[i]? = some t ∧ p < t) (hi : i ≤ ts.length) : cnt ts p = i := by
  have e : cnt ts p = cnt (ts.take i) p + cnt (ts.drop i) p := by
    unfold TV.cnt
    rw [← List.countP_append, List.take_append_drop]
  have e1 : cnt (ts.take i) p = i := by
    rw [cnt_all h1, List.length_take]
    omega
  have e2 : cnt (ts.drop i) p = 0 := by
    refine cnt_zero fun t ht => ?_
    rcases h2 with h2 | ⟨u, hu, hpu⟩
    · rw [h2, List.drop_length] at ht
      exact absurd ht (by simp)
    · obtain ⟨hlt, hget⟩ := List.getElem?_eq_some_iff.mp hu
      rw [List.drop_eq_getElem_cons hlt, hget] at ht
      rcases List.mem_cons.mp ht with rfl | ht
      · exact hpu
      · have : Asc (u :: ts.drop (i + 1)) := by
          have := asc_pairwise.mp hA
          rw [← List.take_append_drop i ts, List.drop_eq_getElem_cons hlt, hget] at this
          exact asc_pairwise.mpr (List.pairwise_append.mp this).2.1
        have := this.lt t ht
        omega
  omega
/-- the bit of a form at a place -/
def sp_bit (K : PySem.W.Frag) (n : Nat) : Sp := fun vs H Q _ => ∃ (x y : V) (d e : PyData), vs = [x, y] ∧ Dp K H x d ∧ Dp K H y e ∧ Fm d ∧ Fm e ∧ 0 ≤ val e ∧ d.depth ≤ n + 1 ∧ e.depth ≤ n ∧ n ≤ 60 ∧ ∀ H', Same H H' → Q (.int (PM.bi (tb (val d) (vl e)))) H'
theorem ok_bit (T : Top K mg) (n : Nat) : FnOk P w K mg base CX0 (n + 4) T.f_bit T.fd_bit ["x", "place"]  (sp_bit K n) := by
  have G_order : FnOk P w K mg base CX0 (n + 3) T.f_order T.fd_order ["x", "y"]  (sp_ord K n) := ok_order T n
  refine T.F_bit.ok sc_bit (fun vs H Q E h => ?_) (fun cdv Ar outer s H vs Q E hr h => ?_)
  · obtain ⟨x, y, d, e, rfl, _⟩ := h
    rfl
  · obtain ⟨x, y, d, e, rfl, hx, hy, hd, he, h0, hdd, hde, hn, q⟩ := h
    refine ⟨_, (pss_cons (ps_if (pt_val (pe_callB call_isi (by rfl) T.m_isinstance (by decide +kernel) (pa_cons (pv 0) (pa_cons (pe_bltn (v := .ty "int") (by rfl) T.m_int (by decide +kernel) rfl) pa_nil))) (fun _ => rfl))
      (pss_cons (ps_if (PW.pt (pw_and (pt_val (pe_callB call_isi (by rfl) T.m_isinstance (by decide +kernel) (pa_cons (pv 1) (pa_cons (pe_bltn (v := .ty "int") (by rfl) T.m_int (by decide +kernel) rfl) pa_nil))) (fun _ => rfl)) (pw_and1 (pt_cmpR op_le (pv 1) (pe_glob (v := .int (64)) (by rfl) T.c_LAST_PLAIN_TURN ⟨_, rfl⟩) (nomark _)))))
        (pss_one (ps_ret (pe_op op_and (pe_op op_shr (pv 0) (pv 1)) pe_int)))
        pss_nil)
      (pss_one (ps_ret (pe_callTy call_int1 (by rfl) T.m_int (by decide +kernel) (pa_cons (pe_cmpR op_lt (pv 0) pe_int (nomark _)) pa_nil)))))
      pss_nil)
    (pss_cons (ps_set (i := 2) sc_bit.nd rfl (Or.inl rfl) pe_int)
    (pss_cons (ps_for PassesOwn.never rfl (pi_tup (pv 0)) (pg_name (i := 3) sc_bit.nd rfl (Or.inl rfl))
      (pss_cons (ps_if (pt_cmpR op_gt (pe_call G_order (hr.mono (by omega)) (by rfl) T.g_order T.F_order.kp T.b_order .nil pass0 (pa_cons (pv 3) (pa_cons (pv 1) pa_nil))) pe_int (nomark _))
        (pss_one ps_break)
        pss_nil)
      (pss_one (ps_aug (i := 2) sc_bit.nd rfl (Or.inl rfl) pe_int ip_add))))
    (pss_one (ps_ret (pe_op op_and (pv 2) pe_int)))))), ?_⟩
    rcases fm_cases hd with ⟨i, rfl⟩ | ⟨ds, rfl⟩
    · cases hx
      have hb := (fm_int i).mp hd
      have far : ¬ (∃ j, e = .int j ∧ j ≤ 64) → ∀ H', Same H H' → Q (.int (if decide (i < 0) = true then 1 else 0)) H' := fun hn H' sm => by
        have h64 : 64 ≤ vl e := by
          unfold vl
          apply Nat.le_of_not_lt
          intro hlt
          refine hn ⟨val e, fm_plain he (by omega) (by omega), by omega⟩
        have := q H' sm
        rw [val_int, tb_far hb.1 hb.2 h64] at this
        exact this
      refine ⟨_, rfl, _, _, _, _, true, rfl, .ty "int", tyI _, k_ii, true, rfl, iteT ?_⟩
      refine ⟨_, rfl, _, _, _, _, isI e, rfl, .ty "int", ty_f hy he, kit_fi he, _, rfl, ifBD (fun h1 => ?_) (fun h1 => ?_)⟩
      · obtain ⟨j, rfl⟩ := fm_isI he h1
        cases hy
        walk_at "r"
        refine ifD (fun h2 => ?_) (fun h2 => ?_)
        · rw [val_int] at h0
          walk_at "r"
          have := q H (Same.refl _)
          have e1 : PM.bi (tb (val (.int i)) (vl (.int j))) = Builtin.bitAnd (i / 2 ^ j.toNat) 1 := by
            rw [val_int, bitAnd_m1]
            unfold vl tb PM.bi
            rw [val_int]
            by_cases z : i / 2 ^ j.toNat % 2 = 1
            · rw [decide_eq_true z, z]
              rfl
            · rw [decide_eq_false z]
              show (0 : Int) = _
              omega
          rw [e1] at this
          exact this
        · walk_at "r"
          refine .inr ⟨_, rfl, ?_⟩
          exact far (fun ⟨j', e1, e2⟩ => h2 (by cases e1; exact e2)) H (Same.refl _)
      · walk_at "r"
        refine .inr ⟨_, rfl, ?_⟩
        refine far (fun ⟨j', e1, e2⟩ => ?_) H (Same.refl _)
        rw [e1] at h1
        exact Bool.noConfusion h1
    · obtain ⟨hFa, hA, _⟩ := (fm_tuple ds).mp hd
      rw [depth_tuple] at hdd
      cases hx with
      | @tup a xs _ h1 h2 =>
        have hlx := dpAll_len h2
        refine ⟨_, rfl, _, _, _, _, false, rfl, .ty "int", tyT h1, k_ti, false, rfl, iteF ?_⟩
        dsimp only [tNext]
        with_reducible refine seqC ?_
        with_reducible refine cut (fun σ H' => Same H H' ∧ ∃ (z : Option V) (i : Nat), σ = [some (.ref a), some y, some (.int (i : Nat)), z] ∧ i ≤ ds.length ∧ (∀ t ∈ (vals ds).take i, t ≤ vl e) ∧ (i = (vals ds).length ∨ ∃ t, (vals ds)[i]? = some t ∧ vl e < t)) (fun D J => ?_) ?_
        · refine ⟨_, rfl, a, rfl, ⟨_, h1⟩, ?_⟩
          refine flT (xs := xs) (fun i σ H' => Same H H' ∧ ∃ (z : Option V), σ = [some (.ref a), some y, some (.int (i : Nat)), z] ∧ ∀ t ∈ (vals ds).take i, t ≤ vl e) ⟨Same.refl _, none, rfl, by simp⟩ ?_ ?_ ?_
          · rintro i σ H' _ ⟨sm, _⟩
            exact HX.Same.tup sm h1
          · rintro i x σ H' hx ⟨sm, z, rfl, hz⟩ D' B
            obtain ⟨d, hed, hDd⟩ := dpAll_get h2 hx
            obtain ⟨hFd, h0d⟩ := fmAll_mem hFa d (List.mem_of_getElem? hed)
            have hi := (List.getElem?_eq_some_iff.mp hed).1
            have := dep_mem (List.mem_of_getElem? hed)
            refine ⟨_, rfl, _, rfl, x, y, d, e, rfl, dp_tk (tk_same sm) hFd hDd, dp_tk (tk_same sm) he hy, hFd, he, by omega, hde, hn, fun H2 sm2 => ?_⟩
            obtain ⟨w1, w2, w3⟩ := sg_ways hFd he h0d h0
            walk_at "r"
            refine ifD (fun hg => ?_) (fun hg => ?_)
            · exact B.bk _ _ (J.nx _ _ ⟨sm.trans sm2, _, i, rfl, by omega, hz, .inr ⟨_, vals_at hed, w2 hg⟩⟩)
            · walk_at "r"
              refine B.nx _ _ ⟨sm.trans sm2, _, rfl, fun t ht => ?_⟩
              rw [List.take_add_one, vals_at hed] at ht
              rcases List.mem_append.mp ht with ht | ht
              · exact hz t ht
              · have : t = vl d := by simpa using ht
                rw [this]
                apply Nat.le_of_not_lt
                intro hlt
                apply hg
                rw [sg_gt (by unfold vl at hlt; omega)]
                decide
          · rintro σ H' ⟨sm, z, rfl, hz⟩
            exact J.nx _ _ ⟨sm, z, xs.length, rfl, by omega, hz, .inl (by rw [vals_len]; omega)⟩
        · rintro σ H' ⟨sm, z, i, rfl, hi, hz, hz2⟩
          walk_at "r"
          have := q H' sm
          have e1 : PM.bi (tb (val (.tuple ds)) (vl e)) = Builtin.bitAnd ((i : Nat) : Int) 1 := by
            rw [val_tuple, tb_tv _ hA, asc_cnt hA hz hz2 (by rw [vals_len]; exact hi), and_n]
            unfold PM.bi
            by_cases z : i % 2 = 1
            · rw [decide_eq_true z, z]
              rfl
            · rw [decide_eq_false z]
              show (0 : Int) = _
              omega
          rw [e1] at this
          exact this
end
end K37
set_option Elab.async false
set_option linter.all false
set_option maxRecDepth 100000
set_option pp.deepTerms false
set_option pp.maxSteps 1500
set_option maxHeartbeats 1000000
namespace K37
open PySem PySem.Spec PyProof.Rows L2 HX TV FM DX FB FC PM MS
local macro_rules | `(tactic| walk_at "r") => `(tactic| (repeat (first | refine Exists.intro _ (And.intro rfl ?_) | refine And.intro rfl ?_ | refine Exists.intro _ (Exists.intro _ (And.intro rfl (And.intro rfl ?_))) | refine And.intro (by omega) ?_ | refine And.intro (Or.inl (And.intro (by omega) (by omega))) ?_ | refine And.intro (Or.inr (And.intro (by omega) (by omega))) ?_ | refine And.intro (And.intro (by omega) (by omega)) ?_ | refine And.intro (And.intro (by decide) (And.intro (by decide) (by decide))) ?_ | refine Or.inl (Exists.intro _ (And.intro rfl ?_)) | (dsimp only [gName]; first | with_reducible refine seqC ?_ | with_reducible refine asgC ?_))))
local macro_rules | `(tactic| walk_at "s") => `(tactic| (repeat (first | refine Exists.intro _ (And.intro rfl ?_) | refine And.intro rfl ?_ | refine Exists.intro _ (Exists.intro _ (And.intro rfl (And.intro rfl ?_))) | refine And.intro (by omega) ?_ | refine And.intro (Or.inl (And.intro (by omega) (by omega))) ?_ | refine And.intro (Or.inr (And.intro (by omega) (by omega))) ?_ | refine And.intro (And.intro (by omega) (by omega)) ?_ | refine And.intro (And.intro (by decide) (And.intro (by decide) (by decide))) ?_ | refine Or.inl (Exists.intro _ (And.intro rfl ?_)) | refine Exists.intro _ (Exists.intro _ (And.intro rfl ?_)) | (dsimp only [gName]; first | with_reducible refine seqC ?_ | with_reducible refine asgC ?_))))
section
variable {P : Program} {w : World} {K : PySem.W.Frag} {mg : Str → Option Value} {base : Heap}
def sp_shf (K : PySem.W.Frag) (n : Nat) : Sp := fun vs H Q _ => ∃ (x y : V) (d e : PyData), vs = [x, y] ∧ Dp K H x d ∧ Dp K H y e ∧ Fm d ∧ Fm e ∧ 0 ≤ val e ∧ d.depth ≤ n + 2 ∧ e.depth ≤ n + 1 ∧ n ≤ 40 ∧ wt d + wt e ≤ 80000 ∧
  ∀ (v : V) (r : PyData) H', Fm r → val r = val d * 2 ^ vl e → r.depth ≤ n + 3 → wt r ≤ (n + 6) * ((wt d + 65) * (wt e + 141)) + 1 → Dp K H' v r → Same H H' → Q v H'
def sp_drp (K : PySem.W.Frag) (n : Nat) : Sp := fun vs H Q _ => ∃ (x y : V) (d e : PyData), vs = [x, y] ∧ Dp K H x d ∧ Dp K H y e ∧ Fm d ∧ Fm e ∧ 0 ≤ val e ∧ d.depth ≤ n + 2 ∧ e.depth ≤ n + 1 ∧ n ≤ 40 ∧ wt d + wt e ≤ 80000 ∧
  ∀ (v : V) (r : PyData) H', Fm r → val r = val d / 2 ^ vl e → r.depth ≤ n + 3 → wt r ≤ (n + 6) * ((wt d + 65) * (wt e + 142)) + 2 → Dp K H' v r → Same H H' → Q v H'
theorem keepD {ds : List PyData} {e : PyData} (fA : FmAll ds) (h0 : 0 ≤ val e) : vals (ds.filter fun z => decide (val e < val z)) = (vals ds).filter fun t => decide (vl e < t) := by
  induction ds with
  | nil => rfl
  | cons d r ih =>
    obtain ⟨_, hd, fr⟩ := (fmAll_cons d r).mp fA
    rw [vals_cons, List.filter_cons, List.filter_cons, ← ih fr]
    by_cases h : val e < val d
    · rw [if_pos (by simpa using h), if_pos (by unfold vl; simp; omega), vals_cons]
    · rw [if_neg (by simpa using h), if_neg (by unfold vl; simp; omega)]
end
end K37
set_option Elab.async false
set_option linter.all false
set_option maxRecDepth 100000
set_option pp.deepTerms false
set_option pp.maxSteps 1500
/-! numbers: ints and Fars -/
namespace K37
open PySem PySem.Spec PyProof.Rows L2 HX TV FM DX FB FC PM
local macro_rules | `(tactic| walk_at "r") => `(tactic| (repeat (first | refine Exists.intro _ (And.intro rfl ?_) | refine And.intro rfl ?_ | refine Exists.intro _ (Exists.intro _ (And.intro rfl (And.intro rfl ?_))) | refine And.intro (by omega) ?_ | refine And.intro (Or.inl (And.intro (by omega) (by omega))) ?_ | refine And.intro (Or.inr (And.intro (by omega) (by omega))) ?_ | refine And.intro (And.intro (by omega) (by omega)) ?_ | refine And.intro (And.intro (by decide) (And.intro (by decide) (by decide))) ?_ | refine Or.inl (Exists.intro _ (And.intro rfl ?_)) | (dsimp only [gName]; first | with_reducible refine seqC ?_ | with_reducible refine asgC ?_))))
local macro_rules | `(tactic| walk_at "s") => `(tactic| (repeat (first | refine Exists.intro _ (And.intro rfl ?_) | refine And.intro rfl ?_ | refine Exists.intro _ (Exists.intro _ (And.intro rfl (And.intro rfl ?_))) | refine And.intro (by omega) ?_ | refine And.intro (Or.inl (And.intro (by omega) (by omega))) ?_ | refine And.intro (Or.inr (And.intro (by omega) (by omega))) ?_ | refine And.intro (And.intro (by omega) (by omega)) ?_ | refine And.intro (And.intro (by decide) (And.intro (by decide) (by decide))) ?_ | refine Or.inl (Exists.intro _ (And.intro rfl ?_)) | refine Exists.intro _ (Exists.intro _ (And.intro rfl ?_)) | (dsimp only [gName]; first | with_reducible refine seqC ?_ | with_reducible refine asgC ?_))))
section
variable {P : Program} {w : World} {K : PySem.W.Frag} {mg : Str → Option Value} {base : Heap}
/-- a Far with the form d at a -/
def FarAt (K : PySem.W.Frag) (C : Addr) (H : Hp) (a : Addr) (d : PyData) : Prop := ∃ dx v, H a = some (.ins C dx [(("own_form" : Str), v)]) ∧ Dp K H v d ∧ Fm d
/-- a number with the form d: an int, or a Far -/
def Num (K : PySem.W.Frag) (C : Addr) (H : Hp) (x : V) (d : PyData) : Prop := (∃ (i : Int) (k : Nat), x = .int i ∧ Fm d ∧ val d = i ∧ k ≤ 900000 ∧ -(2 ^ k) ≤ i ∧ i < 2 ^ k) ∨ ∃ a, x = .ref a ∧ FarAt K C H a d
theorem Num.fm {C : Addr} {H : Hp} {x : V} {d : PyData} (h : Num K C H x d) : Fm d := by
  rcases h with ⟨i, k, _, f, _⟩ | ⟨a, _, dx, v, _, _, f⟩
  · exact f
  · exact f
theorem FarAt.same {C : Addr} {H H' : Hp} {a : Addr} {d : PyData} (h : FarAt K C H a d) (e : Same H H') : FarAt K C H' a d := by
  obtain ⟨dx, v, h1, h2, h3⟩ := h
  exact ⟨dx, v, e _ _ h1, dp_tk (tk_same e) h3 h2, h3⟩
theorem Num.same {C : Addr} {H H' : Hp} {x : V} {d : PyData} (h : Num K C H x d) (e : Same H H') : Num K C H' x d := by
  rcases h with h | ⟨a, rfl, h⟩
  · exact .inl h
  · exact .inr ⟨a, rfl, h.same e⟩
theorem lk_own (v : V) : List.lookup ("own_form" : Str) [(("own_form" : Str), v)] = some v := by simp
theorem ty_far {C : Addr} {H : Hp} {a : Addr} {d : PyData} (I : IsiOwn K C) (c : Cls K C) (h : FarAt K C H a d) : TyX K H (.ref a) (.ref C) := by
  obtain ⟨dx, v, h1, _⟩ := h
  exact .base (.ins h1 c I.ca I.cn I.ct I.cm)
def sp_isint (K : PySem.W.Frag) (C : Addr) : Sp := fun vs H Q _ => ∃ x, vs = [x] ∧ ((∃ i, x = .int i ∧ Q (.bl true) H) ∨ ∃ a d, x = .ref a ∧ FarAt K C H a d ∧ Q (.bl false) H)
theorem ok_is_int (T : Top K mg) : FnOk P w K mg base CX0 (1) T.f_is_int T.fd_is_int ["value"]  (sp_isint K T.C_Far) := by
  refine T.F_is_int.ok sc_is_int (fun vs H Q E h => ?_) (fun cdv A outer s H vs Q E hr h => ?_)
  · obtain ⟨x, rfl, _⟩ := h
    rfl
  · obtain ⟨x, rfl, h⟩ := h
    refine ⟨_, (pss_one (ps_ret (pe_and (pe_callB call_isi (by rfl) T.m_isinstance (by decide +kernel) (pa_cons (pv 0) (pa_cons (pe_bltn (v := .ty "int") (by rfl) T.m_int (by decide +kernel) rfl) pa_nil))) (pe_one (pe_not (pe_callB call_isi (by rfl) T.m_isinstance (by decide +kernel) (pa_cons (pv 0) (pa_cons (pe_bltn (v := .ty "bool") (by rfl) T.m_bool (by decide +kernel) rfl) pa_nil)))))))), ?_⟩
    rcases h with ⟨i, rfl, q⟩ | ⟨a, d, rfl, hf, q⟩
    · refine ⟨_, rfl, _, _, _, _, true, rfl, .ty "int", tyI _, k_ii, ?_⟩
      refine ⟨_, rfl, iteT ?_⟩
      refine ⟨_, rfl, _, _, _, _, false, rfl, .ty "bool", tyI _, k_ib, ?_⟩
      exact ⟨_, rfl, q⟩
    · refine ⟨_, rfl, _, _, _, _, false, rfl, .ty "int", ty_far T.I_Far T.k_Far hf, T.I_Far.ki, ?_⟩
      exact ⟨_, rfl, iteF q⟩
/-- the form of a number -/
def sp_operand (K : PySem.W.Frag) (C : Addr) : Sp := fun vs H Q _ => ∃ x d, vs = [x] ∧ Num K C H x d ∧ ∀ v H', Dp K H' v d → Same H H' → Q v H'
theorem ok_operand (T : Top K mg) : FnOk P w K mg base CX0 (3) T.f_operand T.fd_operand ["value"]  (sp_operand K T.C_Far) := by
  have G_is_int : FnOk P w K mg base CX0 (1) T.f_is_int T.fd_is_int ["value"]  (sp_isint K T.C_Far) := ok_is_int T
  have G_of_int : FnOk P w K mg base CX0 (2) T.f_of_int T.fd_of_int ["number"]  (sp_ofint K) := ok_of_int T
  refine T.F_operand.ok sc_operand (fun vs H Q E h => ?_) (fun cdv A outer s H vs Q E hr h => ?_)
  · obtain ⟨x, d, rfl, _⟩ := h
    rfl
  · obtain ⟨x, d, rfl, hx, q⟩ := h
    refine ⟨_, (pss_cons (ps_if (pt_val (pe_callB call_isi (by rfl) T.m_isinstance (by decide +kernel) (pa_cons (pv 0) (pa_cons (pe_glob (v := .ref T.C_Far) (by rfl) T.g_Far rfl) pa_nil))) (fun _ => rfl))
      (pss_one (ps_ret (pe_fld (pv 0) rfl)))
      pss_nil)
    (pss_cons (ps_if (pt_val (pe_call G_is_int (hr.mono (by omega)) (by rfl) T.g_is_int T.F_is_int.kp T.b_is_int .nil pass0 (pa_cons (pv 0) pa_nil)) (fun _ => rfl))
      (pss_one (ps_ret (pe_call G_of_int (hr.mono (by omega)) (by rfl) T.g_of_int T.F_of_int.kp T.b_of_int .nil pass0 (pa_cons (pv 0) pa_nil))))
      pss_nil)
    (pss_one (ps_ret pe_non)))), ?_⟩
    rcases hx with ⟨i, k, rfl, fd, ed, hk, h1, h2⟩ | ⟨a, rfl, hf⟩
    · refine ⟨_, rfl, _, _, _, _, false, rfl, .own _, tyI _, T.I_Far.ik, ?_⟩
      refine ⟨_, rfl, iteF ?_⟩
      dsimp only [tNext]
      refine ⟨_, rfl, _, rfl, .inl ⟨i, rfl, ?_⟩⟩
      refine ⟨_, rfl, iteT ?_⟩
      refine ⟨_, rfl, i, k, rfl, hk, h1, h2, fun v r H1 g1 g2 g3 g4 D1 sm1 => ?_⟩
      have : r = d := fm_inj g1 fd (by rw [g2, ed])
      subst this
      exact q v H1 D1 sm1
    · refine ⟨_, rfl, _, _, _, _, true, rfl, .own _, ty_far T.I_Far T.k_Far hf, T.I_Far.ks, ?_⟩
      refine ⟨_, rfl, iteT ?_⟩
      obtain ⟨dx, v, h1, h2, h3⟩ := hf
      refine ⟨_, rfl, a, _, dx, _, v, rfl, h1, T.k_Far, T.n_Far, ?_, ?_⟩
      · exact lk_own v
      · exact q v H h2 (Same.refl _)
/-- the form of a number within the limits -/
def sp_given (K : PySem.W.Frag) (C : Addr) : Sp := fun vs H Q _ => ∃ x d, vs = [x] ∧ Num K C H x d ∧ wt d ≤ 2000 ∧ d.depth ≤ 6 ∧ ∀ v H', Dp K H' v d → Same H H' → Q v H'
theorem ok_given_form (T : Top K mg) : FnOk P w K mg base CX0 (9) T.f_given_form T.fd_given_form ["value"]  (sp_given K T.C_Far) := by
  have G_is_int : FnOk P w K mg base CX0 (1) T.f_is_int T.fd_is_int ["value"]  (sp_isint K T.C_Far) := ok_is_int T
  have G_of_int : FnOk P w K mg base CX0 (2) T.f_of_int T.fd_of_int ["number"]  (sp_ofint K) := ok_of_int T
  have G_kept : FnOk P w K mg base CX0 (0 + 8) T.f_kept T.fd_kept ["x"]  (sp_kept K) := ok_kept T
  refine T.F_given_form.ok sc_given_form (fun vs H Q E h => ?_) (fun cdv A outer s H vs Q E hr h => ?_)
  · obtain ⟨x, d, rfl, _⟩ := h
    rfl
  · obtain ⟨x, d, rfl, hx, hw, hdd, q⟩ := h
    refine ⟨_, (pss_cons (ps_if (pt_val (pe_callB call_isi (by rfl) T.m_isinstance (by decide +kernel) (pa_cons (pv 0) (pa_cons (pe_glob (v := .ref T.C_Far) (by rfl) T.g_Far rfl) pa_nil))) (fun _ => rfl))
      (pss_one (ps_ret (pe_fld (pv 0) rfl)))
      pss_nil)
    (pss_cons (ps_if (pt_val (pe_call G_is_int (hr.mono (by omega)) (by rfl) T.g_is_int T.F_is_int.kp T.b_is_int .nil pass0 (pa_cons (pv 0) pa_nil)) (fun _ => rfl))
      (pss_one (ps_ret (pe_call G_kept (hr.mono (by omega)) (by rfl) T.g_kept T.F_kept.kp T.b_kept .nil pass0 (pa_cons (pe_call G_of_int (hr.mono (by omega)) (by rfl) T.g_of_int T.F_of_int.kp T.b_of_int .nil pass0 (pa_cons (pv 0) pa_nil)) pa_nil))))
      pss_nil)
    (pss_cons ps_never
    (pss_one ps_never)))), ?_⟩
    rcases hx with ⟨i, k, rfl, fd, ed, hk, h1, h2⟩ | ⟨a, rfl, hf⟩
    · refine ⟨_, rfl, _, _, _, _, false, rfl, .own _, tyI _, T.I_Far.ik, ?_⟩
      refine ⟨_, rfl, iteF ?_⟩
      dsimp only [tNext]
      refine ⟨_, rfl, _, rfl, .inl ⟨i, rfl, ?_⟩⟩
      refine ⟨_, rfl, iteT ?_⟩
      refine ⟨_, rfl, i, k, rfl, hk, h1, h2, fun v r H1 g1 g2 g3 g4 D1 sm1 => ?_⟩
      have : r = d := fm_inj g1 fd (by rw [g2, ed])
      subst this
      exact ⟨v, r, rfl, D1, fd, hw, hdd, fun H2 sm2 => q v H2 (dp_tk (tk_same sm2) fd D1) (sm1.trans sm2)⟩
    · refine ⟨_, rfl, _, _, _, _, true, rfl, .own _, ty_far T.I_Far T.k_Far hf, T.I_Far.ks, ?_⟩
      refine ⟨_, rfl, iteT ?_⟩
      obtain ⟨dx, v, h1, h2, h3⟩ := hf
      exact ⟨_, rfl, a, _, dx, _, v, rfl, h1, T.k_Far, T.n_Far, lk_own v, q v H h2 (Same.refl _)⟩
/-- a new Far gets its form -/
def sp_init (K : PySem.W.Frag) (C : Addr) : Sp := fun vs H Q _ => ∃ (a dx : Addr) (x : V) (d : PyData), vs = [.ref a, x] ∧ H a = some (.ins C dx []) ∧ Num K C H x d ∧ wt d ≤ 2000 ∧ d.depth ≤ 6 ∧
  ∀ v H', H' a = some (.ins C dx [(("own_form" : Str), v)]) → Dp K H' v d → (∀ b o, b ≠ a → H b = some o → H' b = some o) → Q .non H'
theorem ok_Far___init__ (T : Top K mg) : FnOk P w K mg base CX0 10 T.f_Far___init__ T.fd_Far___init__ ["self", "value"] (sp_init K T.C_Far) := by
  have G_given_form : FnOk P w K mg base CX0 (9) T.f_given_form T.fd_given_form ["value"]  (sp_given K T.C_Far) := ok_given_form T
  refine funD_ok0 T.F_Far___init__ sc_Far___init__ (fun vs H Q E h => ?_) (fun cdv A outer s H vs Q E hr h => ?_)
  · obtain ⟨a, dx, x, d, rfl, _⟩ := h
    rfl
  · obtain ⟨a, dx, x, d, rfl, ha, hx, hw, hdd, q⟩ := h
    refine ⟨_, (pss_one (ps_fld (pv 0) (pe_call G_given_form (hr.mono (by omega)) (by rfl) T.g_given_form T.F_given_form.kp T.b_given_form .nil pass0 (pa_cons (pv 1) pa_nil)) rfl)), ?_⟩
    refine ⟨_, rfl, x, d, rfl, hx, hw, hdd, fun v H1 D1 sm1 => ?_⟩
    refine ⟨_, rfl, a, T.C_Far, dx, [], rfl, sm1 _ _ ha, T.k_Far, T.n_Far, by show 0 < 1000; decide, ?_⟩
    refine q v _ upd_same (dp_tk (tk_mut (p := a) ?_) hx.fm D1) (fun b o hb e => ?_)
    · rw [sm1 _ _ ha]
      trivial
    · rw [upd_ne hb]
      exact sm1 _ _ e
/-- a call of the class: a new Far -/
theorem new_far {C : Addr} {H : Hp} {x : V} {d : PyData} {Q : VK} {E : XK} (hx : Num K C H x d) (hw : wt d ≤ 2000) (hdd : d.depth ≤ 6) (q : ∀ a H', H a = none → FarAt K C H' a d → Same H H' → Q (.ref a) H') :
    ∀ a dx, H a = none → H dx = none → dx ≠ a → sp_init K C (.ref a :: ([x] ++ [])) (upd (upd H dx (.own a)) a (.ins C dx [])) (fun v H2 => v = .non ∧ Q (.ref a) H2) E := fun a dx na nd ne => by
  have s2 : Same H (upd (upd H dx (.own a)) a (.ins C dx [])) := fun b o e => by
    rw [upd_ne (ne_of_none e na), upd_ne (ne_of_none e nd)]
    exact e
  refine ⟨a, dx, x, d, rfl, upd_same, hx.same s2, hw, hdd, fun v H' h1 D e => ⟨rfl, q a H' na ⟨dx, v, h1, D, hx.fm⟩ fun b o z => e b o (ne_of_none z na) (s2 _ _ z)⟩⟩
def sp_numf (K : PySem.W.Frag) (C : Addr) : Sp := fun vs H Q _ => ∃ x d, vs = [x] ∧ Num K C H x d ∧ ∀ v H', Dp K H' v d → Same H H' → Q v H'
theorem ok_number_form (T : Top K mg) : FnOk P w K mg base CX0 (4) T.f_number_form T.fd_number_form ["value"]  (sp_numf K T.C_Far) := by
  have G_operand : FnOk P w K mg base CX0 (3) T.f_operand T.fd_operand ["value"]  (sp_operand K T.C_Far) := ok_operand T
  refine T.F_number_form.ok sc_number_form (fun vs H Q E h => ?_) (fun cdv A outer s H vs Q E hr h => ?_)
  · obtain ⟨x, d, rfl, _⟩ := h
    rfl
  · obtain ⟨x, d, rfl, hx, q⟩ := h
    refine ⟨_, (pss_cons (ps_set (i := 1) sc_number_form.nd rfl (Or.inl rfl) (pe_call G_operand (hr.mono (by omega)) (by rfl) T.g_operand T.F_operand.kp T.b_operand .nil pass0 (pa_cons (pv 0) pa_nil)))
    (pss_cons (ps_if (pt_cmpR op_isN (pv 1) pe_non (nomark _))
      (pss_one ps_never)
      pss_nil)
    (pss_one (ps_ret (pv 1))))), ?_⟩
    refine ⟨_, rfl, x, d, rfl, hx, fun v H1 D1 sm1 => ?_⟩
    walk_at "r"
    have hv : v ≠ .non := fun z => by
      subst z
      have := hx.fm
      cases D1
      simp [Fm] at this
    rw [decide_eq_false hv]
    refine iteF ?_
    exact ⟨_, rfl, q v H1 D1 sm1⟩
def sp_plcf (K : PySem.W.Frag) (C : Addr) : Sp := fun vs H Q _ => ∃ x d, vs = [x] ∧ Num K C H x d ∧ 0 ≤ val d ∧ ∀ v H', Dp K H' v d → Same H H' → Q v H'
theorem ok_place_form (T : Top K mg) : FnOk P w K mg base CX0 (5) T.f_place_form T.fd_place_form ["value"]  (sp_plcf K T.C_Far) := by
  have G_number_form : FnOk P w K mg base CX0 (4) T.f_number_form T.fd_number_form ["value"]  (sp_numf K T.C_Far) := ok_number_form T
  have G_negative : FnOk P w K mg base CX0 (1) T.f_negative T.fd_negative ["x"]  (sp_neg K) := ok_negative T
  refine T.F_place_form.ok sc_place_form (fun vs H Q E h => ?_) (fun cdv A outer s H vs Q E hr h => ?_)
  · obtain ⟨x, d, rfl, _⟩ := h
    rfl
  · obtain ⟨x, d, rfl, hx, h0, q⟩ := h
    refine ⟨_, (pss_cons (ps_set (i := 1) sc_place_form.nd rfl (Or.inl rfl) (pe_call G_number_form (hr.mono (by omega)) (by rfl) T.g_number_form T.F_number_form.kp T.b_number_form .nil pass0 (pa_cons (pv 0) pa_nil)))
    (pss_cons (ps_if (pt_truth (pe_call G_negative (hr.mono (by omega)) (by rfl) T.g_negative T.F_negative.kp T.b_negative .nil pass0 (pa_cons (pv 1) pa_nil)) (fun _ => rfl))
      (pss_one ps_never)
      pss_nil)
    (pss_one (ps_ret (pv 1))))), ?_⟩
    refine ⟨_, rfl, x, d, rfl, hx, fun v H1 D1 sm1 => ?_⟩
    dsimp only [gName]
    refine ⟨_, rfl, v, d, rfl, D1, hx.fm, ?_⟩
    refine ⟨_, rfl, ?_⟩
    rw [decide_eq_false (by omega)]
    refine iteF ?_
    exact ⟨_, rfl, q v H1 D1 sm1⟩
end
end K37
set_option Elab.async false
set_option linter.all false
set_option maxRecDepth 100000
set_option pp.deepTerms false
set_option pp.maxSteps 1500
/-! the functions of raw.py over ints with few bits: promises by the ints alone -/
namespace K37
open PySem PySem.Spec PyProof.Rows L2 HX TV FM DX FB FC PM FI
section
variable {P : Program} {w : World} {K : PySem.W.Frag} {mg : Str → Option Value} {base : Heap}
def sp_trnI (K : PySem.W.Frag) : Sp := fun vs H Q _ => ∃ (v : V) (n : Int) (k : Nat), vs = [v] ∧ DI K H v n ∧ Bw k n ∧ k ≤ 900000 ∧ ∀ a H', SqT K H' a (nv (turnsOf n)) → Same H H' → Q (.ref a) H'
theorem okI_turns (T : Top K mg) {k : Nat} : FnOk P w K mg base CX0 (k + 2) T.f_turns T.fd_turns ["x"]  (sp_trnI K) := (ok_turns T).imp fun vs H Q E h => by
  obtain ⟨v, n, k, rfl, hv, hb, hk, q⟩ := h
  refine ⟨v, fo n, rfl, hv, fo_fm n, fun a us ds H' fA hA ev sq hD _ _ _ sm => ?_⟩
  rw [val_fo] at ev
  have e := turnsOf_is hA ev
  have eu := plain_nv hD fA fun t ht => by have := hb.turns t (by rw [e]; exact ht); omega
  rw [eu, ← e] at sq
  exact q a H' sq sm
def sp_ordI (K : PySem.W.Frag) : Sp := fun vs H Q _ => ∃ (x y : V) (n m : Int) (k : Nat), vs = [x, y] ∧ DI K H x n ∧ DI K H y m ∧ Bw k n ∧ Bw k m ∧ k ≤ 900000 ∧ ∀ H', Same H H' → Q (.int (sg n m)) H'
theorem okI_order (T : Top K mg) : FnOk P w K mg base CX0 (4) T.f_order T.fd_order ["x", "y"]  (sp_ordI K) := (ok_order T 1).imp fun vs H Q E h => by
  obtain ⟨x, y, n, m, k, rfl, hx, hy, h1, h2, hk, q⟩ := h
  refine ⟨x, y, fo n, fo m, rfl, hx, hy, fo_fm n, fo_fm m, (fo_lim hk h1).2, (fo_lim hk h2).2, by decide, fun H' sm => ?_⟩
  rw [val_fo, val_fo]
  exact q H' sm
def sp_negI (K : PySem.W.Frag) : Sp := fun vs H Q _ => ∃ (v : V) (n : Int), vs = [v] ∧ DI K H v n ∧ Q (.bl (decide (n < 0))) H
theorem okI_negative (T : Top K mg) {k : Nat} : FnOk P w K mg base CX0 (k + 1) T.f_negative T.fd_negative ["x"]  (sp_negI K) := (ok_negative T).imp fun vs H Q E h => by
  obtain ⟨v, n, rfl, hv, q⟩ := h
  exact ⟨v, fo n, rfl, hv, fo_fm n, by rw [val_fo]; exact q⟩
def sp_madeI (K : PySem.W.Frag) : Sp := fun vs H Q _ => ∃ (a : Addr) (ts : List Nat), vs = [.ref a] ∧ (SqL K H a (nv ts) ∨ SqT K H a (nv ts)) ∧ Asc ts ∧ (∀ t ∈ ts, t < 2 ^ 64) ∧
  ∀ v H', DI K H' v (tv ts) → Same H H' → Q v H'
theorem okI_made (T : Top K mg) {k : Nat} : FnOk P w K mg base CX0 (k + 1) T.f_made T.fd_made ["found"]  (sp_madeI K) := (ok_made T).imp fun vs H Q E h => by
  obtain ⟨a, ts, rfl, hS, hA, hb, q⟩ := h
  refine ⟨a, nv ts, iD ts, rfl, hS, dp_nv ts, fmAll_iD hb, by rw [vals_iD]; exact hA, fun v d H' f e _ _ D sm => q v H' (DI.of f (by rw [e, vals_iD]) D) sm⟩
def sp_ofintI (K : PySem.W.Frag) : Sp := fun vs H Q _ => ∃ (n : Int) (k : Nat), vs = [.int n] ∧ k ≤ 900000 ∧ Bw k n ∧ ∀ v H', DI K H' v n → Same H H' → Q v H'
theorem okI_of_int (T : Top K mg) {k : Nat} : FnOk P w K mg base CX0 (k + 2) T.f_of_int T.fd_of_int ["number"]  (sp_ofintI K) := (ok_of_int T).imp fun vs H Q E h => by
  obtain ⟨n, k, rfl, hk, hb, q⟩ := h
  exact ⟨n, k, rfl, hk, hb.1, hb.2, fun v d H' f e _ _ D sm => q v H' (DI.of f e D) sm⟩
def sp_p1I (K : PySem.W.Frag) : Sp := fun vs H Q _ => ∃ (x : V) (n : Int) (k : Nat), vs = [x] ∧ DI K H x n ∧ Bw k n ∧ k ≤ 900000 ∧ ∀ v H', DI K H' v (n + 1) → Same H H' → Q v H'
theorem okI_plus_one (T : Top K mg) : FnOk P w K mg base CX0 (6) T.f_plus_one T.fd_plus_one ["x"]  (sp_p1I K) := (ok_plus_one T 1).imp fun vs H Q E h => by
  obtain ⟨x, n, k, rfl, hx, hb, hk, q⟩ := h
  have l := fo_lim hk hb
  exact ⟨x, fo n, rfl, hx, fo_fm n, l.2, by decide, by omega, fun v r H' f e _ _ D sm => q v H' (DI.of f (by rw [e, val_fo]) D) sm⟩
def sp_invI (K : PySem.W.Frag) : Sp := fun vs H Q _ => ∃ (x : V) (n : Int) (k : Nat), vs = [x] ∧ DI K H x n ∧ Bw k n ∧ k ≤ 900000 ∧ ∀ v H', DI K H' v (-n - 1) → Same H H' → Q v H'
theorem okI_inverted (T : Top K mg) {k : Nat} : FnOk P w K mg base CX0 (k + 1) T.f_inverted T.fd_inverted ["x"]  (sp_invI K) := (ok_inverted T).imp fun vs H Q E h => by
  obtain ⟨x, n, k, rfl, hx, hb, hk, q⟩ := h
  have l := fo_lim hk hb
  exact ⟨x, fo n, rfl, hx, fo_fm n, by omega, by omega, fun v r H' f e _ _ D sm => q v H' (DI.of f (by rw [e, val_fo]) D) sm⟩
def sp_ngtI (K : PySem.W.Frag) : Sp := fun vs H Q _ => ∃ (x : V) (n : Int) (k : Nat), vs = [x] ∧ DI K H x n ∧ Bw k n ∧ k ≤ 800000 ∧ ∀ v H', DI K H' v (-n) → Same H H' → Q v H'
theorem okI_negated (T : Top K mg) : FnOk P w K mg base CX0 (7) T.f_negated T.fd_negated ["x"]  (sp_ngtI K) := (ok_negated T 1).imp fun vs H Q E h => by
  obtain ⟨x, n, k, rfl, hx, hb, hk, q⟩ := h
  have l := fo_lim (by omega) hb
  exact ⟨x, fo n, rfl, hx, fo_fm n, l.2, by decide, by omega, fun v r H' f e _ _ D sm => q v H' (DI.of f (by rw [e, val_fo]) D) sm⟩
def sp_totI (K : PySem.W.Frag) : Sp := fun vs H Q _ => ∃ (x y : V) (n m : Int) (c k : Nat), vs = [x, y, .int (c : Nat)] ∧ c ≤ 1 ∧ DI K H x n ∧ DI K H y m ∧ Bw k n ∧ Bw k m ∧ k ≤ 40000 ∧ ∀ v H', DI K H' v (n + m + c) → Same H H' → Q v H'
theorem okI_total (T : Top K mg) : FnOk P w K mg base CX0 (6) T.f_total T.fd_total ["x", "y", "carry"]  (sp_totI K) := (ok_total T 0).imp fun vs H Q E h => by
  obtain ⟨x, y, n, m, c, k, rfl, hc, hx, hy, h1, h2, hk, q⟩ := h
  have l1 := fo_lim (by omega) h1
  have l2 := fo_lim (by omega) h2
  exact ⟨x, y, fo n, fo m, c, rfl, hc, hx, hy, fo_fm n, fo_fm m, l1.2, l2.2, by decide, by omega, fun v r H' f e _ _ D sm => q v H' (DI.of f (by rw [e, val_fo, val_fo]) D) sm⟩
def sp_minI (K : PySem.W.Frag) : Sp := fun vs H Q _ => ∃ (x y : V) (n m : Int) (k : Nat), vs = [x, y] ∧ DI K H x n ∧ DI K H y m ∧ Bw k n ∧ Bw k m ∧ k ≤ 40000 ∧ ∀ v H', DI K H' v (n - m) → Same H H' → Q v H'
theorem okI_minus (T : Top K mg) : FnOk P w K mg base CX0 (7) T.f_minus T.fd_minus ["x", "y"]  (sp_minI K) := (ok_minus T 0).imp fun vs H Q E h => by
  obtain ⟨x, y, n, m, k, rfl, hx, hy, h1, h2, hk, q⟩ := h
  have l1 := fo_lim (by omega) h1
  have l2 := fo_lim (by omega) h2
  exact ⟨x, y, fo n, fo m, rfl, hx, hy, fo_fm n, fo_fm m, l1.2, l2.2, by decide, by omega, fun v r H' f e _ _ D sm => q v H' (DI.of f (by rw [e, val_fo, val_fo]) D) sm⟩
def sp_cmbI (K : PySem.W.Frag) : Sp := fun vs H Q _ => ∃ (x y : V) (n m r : Int) (t : Addr) (f : Bool → Bool → Bool) (k : Nat), vs = [x, y, .ref t] ∧ DI K H x n ∧ DI K H y m ∧ Bw k n ∧ Bw k m ∧ k ≤ 400000 ∧
  (∀ H', SqT K H' t (tabV f)) ∧ f false false = false ∧ (∀ q, tb r q = f (tb n q) (tb m q)) ∧ ∀ v H', DI K H' v r → Same H H' → Q v H'
theorem okI_combined (T : Top K mg) : FnOk P w K mg base CX0 (5) T.f_combined T.fd_combined ["x", "y", "table"]  (sp_cmbI K) := (ok_combined T 0).imp fun vs H Q E h => by
  obtain ⟨x, y, n, m, r, t, f, k, rfl, hx, hy, h1, h2, hk, hT, hf, hr, q⟩ := h
  have l1 := fo_lim (by omega) h1
  have l2 := fo_lim (by omega) h2
  refine ⟨x, y, fo n, fo m, t, f, rfl, hx, hy, fo_fm n, fo_fm m, l1.2, l2.2, by decide, by omega, hT, hf, fun v r' H' fr e _ _ D sm => q v H' (DI.of fr (tb_ext fun p => ?_) D) sm⟩
  rw [e p, hr p, val_fo, val_fo]
def sp_keptI (K : PySem.W.Frag) : Sp := fun vs H Q _ => ∃ (x : V) (n : Int) (k : Nat), vs = [x] ∧ DI K H x n ∧ Bw k n ∧ k ≤ 1900 ∧ ∀ H', Same H H' → Q x H'
theorem okI_kept (T : Top K mg) : FnOk P w K mg base CX0 (0 + 8) T.f_kept T.fd_kept ["x"]  (sp_keptI K) := (ok_kept T).imp fun vs H Q E h => by
  obtain ⟨x, n, k, rfl, hx, hb, hk, q⟩ := h
  have l := fo_lim (by omega) hb
  exact ⟨x, fo n, rfl, hx, fo_fm n, by omega, by omega, q⟩
/-- a Far, a number, of the int n -/
abbrev FarI (K : PySem.W.Frag) (C : Addr) (H : Hp) (a : Addr) (n : Int) : Prop := FarAt K C H a (fo n)
abbrev NumI (K : PySem.W.Frag) (C : Addr) (H : Hp) (x : V) (n : Int) : Prop := Num K C H x (fo n)
theorem numI_int {C : Addr} {H : Hp} {n : Int} {k : Nat} (hk : k ≤ 900000) (h : Bw k n) : NumI K C H (.int n) n := .inl ⟨n, k, rfl, fo_fm n, val_fo n, hk, h.1, h.2⟩
end
end K37
set_option Elab.async false
set_option linter.all false
set_option maxRecDepth 100000
set_option pp.deepTerms false
set_option pp.maxSteps 1500
namespace K37
open PySem PySem.Spec PyProof.Rows L2 HX TV FM DX FB FC PM FI
local macro_rules | `(tactic| walk_at "r") => `(tactic| (repeat (first | refine Exists.intro _ (And.intro rfl ?_) | refine And.intro rfl ?_ | refine Exists.intro _ (Exists.intro _ (And.intro rfl (And.intro rfl ?_))) | refine And.intro (by omega) ?_ | refine And.intro (Or.inl (And.intro (by omega) (by omega))) ?_ | refine And.intro (Or.inr (And.intro (by omega) (by omega))) ?_ | refine And.intro (And.intro (by omega) (by omega)) ?_ | refine And.intro (And.intro (by decide) (And.intro (by decide) (by decide))) ?_ | refine Or.inl (Exists.intro _ (And.intro rfl ?_)) | (dsimp only [gName]; first | with_reducible refine seqC ?_ | with_reducible refine asgC ?_))))
local macro_rules | `(tactic| walk_at "s") => `(tactic| (repeat (first | refine Exists.intro _ (And.intro rfl ?_) | refine And.intro rfl ?_ | refine Exists.intro _ (Exists.intro _ (And.intro rfl (And.intro rfl ?_))) | refine And.intro (by omega) ?_ | refine And.intro (Or.inl (And.intro (by omega) (by omega))) ?_ | refine And.intro (Or.inr (And.intro (by omega) (by omega))) ?_ | refine And.intro (And.intro (by omega) (by omega)) ?_ | refine And.intro (And.intro (by decide) (And.intro (by decide) (by decide))) ?_ | refine Or.inl (Exists.intro _ (And.intro rfl ?_)) | refine Exists.intro _ (Exists.intro _ (And.intro rfl ?_)) | (dsimp only [gName]; first | with_reducible refine seqC ?_ | with_reducible refine asgC ?_))))
section
variable {P : Program} {w : World} {K : PySem.W.Frag} {mg : Str → Option Value} {base : Heap}
def sp_powI (K : PySem.W.Frag) : Sp := fun vs H Q _ => ∃ (y : V) (p : Nat), vs = [y] ∧ DI K H y (p : Nat) ∧ p ≤ 2000000000 ∧ ∀ v H', DI K H' v (2 ^ p) → Same H H' → Q v H'
theorem tv_pow (p : Nat) : tv [p, p + 1] = 2 ^ p := by
  rw [tv_cons, tv_cons, tv_nil, Int.pow_succ]
  omega
theorem okI_power_of_two (T : Top K mg) : FnOk P w K mg base CX0 (7) T.f_power_of_two T.fd_power_of_two ["place"]  (sp_powI K) := by
  have G_plus_one : FnOk P w K mg base CX0 (6) T.f_plus_one T.fd_plus_one ["x"]  (sp_p1I K) := okI_plus_one T
  have G_made : FnOk P w K mg base CX0 (1) T.f_made T.fd_made ["found"]  (sp_madeI K) := okI_made T
  refine T.F_power_of_two.ok sc_power_of_two (fun vs H Q E h => ?_) (fun cdv A outer s H vs Q E hr h => ?_)
  · obtain ⟨y, p, rfl, _⟩ := h
    rfl
  · obtain ⟨y, p, rfl, hy, hp, q⟩ := h
    have ey := hy.int (by omega)
    subst ey
    refine ⟨_, (pss_one (ps_ret (pe_call G_made (hr.mono (by omega)) (by rfl) T.g_made T.F_made.kp T.b_made .nil pass0 (pa_cons (pe_lst (pa_cons (pv 0) (pa_cons (pe_call G_plus_one (hr.mono (by omega)) (by rfl) T.g_plus_one T.F_plus_one.kp T.b_plus_one .nil pass0 (pa_cons (pv 0) pa_nil)) pa_nil))) pa_nil)))), ?_⟩
    refine ⟨_, rfl, _, rfl, _, (p : Nat), 31, rfl, hy, bw_nat (by omega), by decide, fun v H1 D1 sm1 => ?_⟩
    have ev := D1.int (by omega)
    subst ev
    refine ⟨len_le (Nat.le_of_ble_eq_true rfl), fun l nl => ?_⟩
    generalize eH2 : upd H1 l _ = H2
    obtain ⟨sl, hl⟩ := new_step nl eH2
    clear eH2
    refine ⟨l, [p, p + 1], rfl, .inl (.inl (.inl hl)), ⟨Nat.lt_succ_self p, trivial⟩, ?_, fun v H3 D3 sm3 => ?_⟩
    · intro t ht
      have : t = p ∨ t = p + 1 := by simpa using ht
      omega
    · rw [tv_pow] at D3
      exact q v H3 D3 ((sm1.trans sl).trans sm3)
end
end K37
set_option Elab.async false
set_option linter.all false
set_option maxRecDepth 100000
set_option pp.deepTerms false
set_option pp.maxSteps 1500
/-! forms given to Far: given_form, row_form -/
namespace K37
open PySem PySem.Spec PyProof.Rows L2 HX TV FM DX FB FC PM FI
local macro_rules | `(tactic| walk_at "r") => `(tactic| (repeat (first | refine Exists.intro _ (And.intro rfl ?_) | refine And.intro rfl ?_ | refine Exists.intro _ (Exists.intro _ (And.intro rfl (And.intro rfl ?_))) | refine And.intro (by omega) ?_ | refine And.intro (Or.inl (And.intro (by omega) (by omega))) ?_ | refine And.intro (Or.inr (And.intro (by omega) (by omega))) ?_ | refine And.intro (And.intro (by omega) (by omega)) ?_ | refine And.intro (And.intro (by decide) (And.intro (by decide) (by decide))) ?_ | refine Or.inl (Exists.intro _ (And.intro rfl ?_)) | (dsimp only [gName]; first | with_reducible refine seqC ?_ | with_reducible refine asgC ?_))))
local macro_rules | `(tactic| walk_at "s") => `(tactic| (repeat (first | refine Exists.intro _ (And.intro rfl ?_) | refine And.intro rfl ?_ | refine Exists.intro _ (Exists.intro _ (And.intro rfl (And.intro rfl ?_))) | refine And.intro (by omega) ?_ | refine And.intro (Or.inl (And.intro (by omega) (by omega))) ?_ | refine And.intro (Or.inr (And.intro (by omega) (by omega))) ?_ | refine And.intro (And.intro (by omega) (by omega)) ?_ | refine And.intro (And.intro (by decide) (And.intro (by decide) (by decide))) ?_ | refine Or.inl (Exists.intro _ (And.intro rfl ?_)) | refine Exists.intro _ (Exists.intro _ (And.intro rfl ?_)) | (dsimp only [gName]; first | with_reducible refine seqC ?_ | with_reducible refine asgC ?_))))
section
variable {P : Program} {w : World} {K : PySem.W.Frag} {mg : Str → Option Value} {base : Heap}
/-- of a value of a built-in type -/
def sp_isintO (K : PySem.W.Frag) (C : Addr) : Sp := fun vs H Q _ => ∃ (x : V) (t : String) (b : Bool), vs = [x] ∧ TyX K H x (.type t) ∧ (kitB t "int" = some false ∧ b = false ∨ kitB t "int" = some true ∧ kitB t "bool" = some (!b)) ∧ Q (.bl b) H
theorem ok_is_intO (T : Top K mg) : FnOk P w K mg base CX0 (1) T.f_is_int T.fd_is_int ["value"]  (sp_isintO K T.C_Far) := by
  refine T.F_is_int.ok sc_is_int (fun vs H Q E h => ?_) (fun cdv A outer s H vs Q E hr h => ?_)
  · obtain ⟨x, t, b, rfl, _⟩ := h
    rfl
  · obtain ⟨x, t, b, rfl, ht, hk, q⟩ := h
    refine ⟨_, (pss_one (ps_ret (pe_and (pe_callB call_isi (by rfl) T.m_isinstance (by decide +kernel) (pa_cons (pv 0) (pa_cons (pe_bltn (v := .ty "int") (by rfl) T.m_int (by decide +kernel) rfl) pa_nil))) (pe_one (pe_not (pe_callB call_isi (by rfl) T.m_isinstance (by decide +kernel) (pa_cons (pv 0) (pa_cons (pe_bltn (v := .ty "bool") (by rfl) T.m_bool (by decide +kernel) rfl) pa_nil)))))))), ?_⟩
    rcases hk with ⟨h1, rfl⟩ | ⟨h1, h2⟩
    · refine ⟨_, rfl, _, _, _, _, false, rfl, .ty "int", ht, kit_ty h1, ?_⟩
      exact ⟨_, rfl, iteF q⟩
    · refine ⟨_, rfl, _, _, _, _, true, rfl, .ty "int", ht, kit_ty h1, ?_⟩
      refine ⟨_, rfl, iteT ?_⟩
      refine ⟨_, rfl, _, _, _, _, !b, rfl, .ty "bool", ht, kit_ty h2, ?_⟩
      refine ⟨_, rfl, ?_⟩
      rw [Bool.not_not]
      exact q
theorem ok_or {k : Nat} {f : Addr} {fd : FuncData} {ps : List Str} {sp sp' : Sp} {CX : CXT} (F : FnOk P w K mg base CX k f fd ps sp) (G : FnOk P w K mg base CX k f fd ps sp') : FnOk P w K mg base CX k f fd ps (fun vs H Q E => sp vs H Q E ∨ sp' vs H Q E) :=
  ⟨fun vs H Q E h => h.elim (F.len vs H Q E) (G.len vs H Q E), fun A outer s H args us vs Q E hr he hb hv h => h.elim (F.run A outer s H args us vs Q E hr he hb hv) (G.run A outer s H args us vs Q E hr he hb hv)⟩
theorem none_ofSI {H H' : Hp} {a : Addr} (e : Same H H') (h : H' a = none) : H a = none := by
  cases q : H a with
  | none => rfl
  | some o => rw [e _ _ q] at h; cases h
/-- a number, or a form -/
def NumF (K : PySem.W.Frag) (C : Addr) (H : Hp) (x : V) (d : PyData) : Prop := Num K C H x d ∨ (Dp K H x d ∧ Fm d)
theorem NumF.fm {C : Addr} {H : Hp} {x : V} {d : PyData} (h : NumF K C H x d) : Fm d := h.elim Num.fm fun z => z.2
theorem NumF.same {C : Addr} {H H' : Hp} {x : V} {d : PyData} (h : NumF K C H x d) (e : Same H H') : NumF K C H' x d := h.elim (fun z => .inl (z.same e)) fun z => .inr ⟨dp_tk (tk_same e) z.2 z.1, z.2⟩
theorem numF_di {C : Addr} {H : Hp} {x : V} {n : Int} (h : DI K H x n) : NumF K C H x (fo n) := .inr ⟨h, fo_fm n⟩
def sp_givenF (K : PySem.W.Frag) (C : Addr) (n : Nat) : Sp := fun vs H Q _ => ∃ x d, vs = [x] ∧ NumF K C H x d ∧ wt d ≤ 2000 ∧ d.depth ≤ n ∧ n ≤ 6 ∧ ∀ v H', Dp K H' v d → Same H H' → Q v H'
def sp_rowF (K : PySem.W.Frag) (n : Nat) : Sp := fun vs H Q _ => ∃ x d, vs = [x] ∧ Dp K H x d ∧ Fm d ∧ isI d = false ∧ wt d ≤ 2000 ∧ d.depth ≤ n + 1 ∧ n ≤ 5 ∧ ∀ v H', Dp K H' v d → Same H H' → Q v H'
theorem row_formF (T : Top K mg) (n : Nat) (G_given_form : FnOk P w K mg base CX0 (2 * n + 11) T.f_given_form T.fd_given_form ["value"]  (sp_givenF K T.C_Far n)) : FnOk P w K mg base CX0 (2 * n + 12) T.f_row_form T.fd_row_form ["members"]  (sp_rowF K n) := by
  have G_negative : FnOk P w K mg base CX0 (1) T.f_negative T.fd_negative ["x"]  (sp_neg K) := ok_negative T
  have G_order : FnOk P w K mg base CX0 (n + 3) T.f_order T.fd_order ["x", "y"]  (sp_ord K n) := ok_order T n
  have G_made : FnOk P w K mg base CX0 (1) T.f_made T.fd_made ["found"]  (sp_made K) := ok_made T
  have G_kept : FnOk P w K mg base CX0 (0 + 8) T.f_kept T.fd_kept ["x"]  (sp_kept K) := ok_kept T
  refine T.F_row_form.ok sc_row_form (fun vs H Q E h => ?_) (fun cdv Ar outer s H vs Q E hr h => ?_)
  · obtain ⟨x, d, rfl, _⟩ := h
    rfl
  · obtain ⟨x, d, rfl, hx, fd, hi, hw, hdd, hn, q⟩ := h
    obtain ⟨ds, rfl⟩ := fm_isT fd hi
    have fd0 := fd
    obtain ⟨fA, hA, _⟩ := (fm_tuple ds).mp fd
    rw [depth_tuple] at hdd
    rw [wt_tuple] at hw
    have hul := len_wt ds
    cases hx with
    | @tup a us _ hsq hD =>
      have hll := dpAll_len hD
      refine ⟨_, (pss_cons (ps_set (i := 1) sc_row_form.nd rfl (Or.inl rfl) (pe_lst pa_nil))
    (pss_cons (ps_for PassesOwn.never rfl (pi_enumT (by rfl) T.m_enumerate (pa_cons (pv 0) pa_nil)) (pg_tup rfl (pgs_cons (pg_name (i := 2) sc_row_form.nd rfl (Or.inl rfl)) (pgs_cons (pg_name (i := 3) sc_row_form.nd rfl (Or.inl rfl)) pgs_nil)))
      (pss_cons (ps_set (i := 4) sc_row_form.nd rfl (Or.inl rfl) (pe_call G_given_form (hr.mono (by omega)) (by rfl) T.g_given_form T.F_given_form.kp T.b_given_form .nil pass0 (pa_cons (pv 3) pa_nil)))
      (pss_cons (ps_if (PW.pt (pw_or (pt_val (pe_call G_negative (hr.mono (by omega)) (by rfl) T.g_negative T.F_negative.kp T.b_negative .nil pass0 (pa_cons (pv 4) pa_nil)) (fun _ => rfl)) (pw_or1 (PW.pt (pw_and (pt_cmpR op_gt (pv 2) pe_int (nomark _)) (pw_and1 (pt_cmpR op_ge (pe_call G_order (hr.mono (by omega)) (by rfl) T.g_order T.F_order.kp T.b_order .nil pass0 (pa_cons (pe_ix ix_list (pv 1) (pe_un un_neg pe_int) (fun _ _ => rfl)) (pa_cons (pv 4) pa_nil))) pe_int (nomark _))))))))
        (pss_one ps_never)
        pss_nil)
      (pss_one (ps_expr (pe_bm PySem.F.plainAttrs_list PySem.F.slot_list_append PySem.F.type_list_append mt_append (pv 1) (pa_cons (pv 4) pa_nil)))))))
    (pss_one (ps_ret (pe_call G_kept (hr.mono (by omega)) (by rfl) T.g_kept T.F_kept.kp T.b_kept .nil pass0 (pa_cons (pe_call G_made (hr.mono (by omega)) (by rfl) T.g_made T.F_made.kp T.b_made .nil pass0 (pa_cons (pv 1) pa_nil)) pa_nil)))))), ?_⟩
      refine ⟨len_le (Nat.le_of_ble_eq_true rfl), fun l nl => ?_⟩
      generalize eH1 : upd H l _ = H1
      obtain ⟨sl, hl⟩ := new_step nl eH1
      clear eH1
      have hsq1 := HX.Same.tup sl hsq
      have hD1 := dpAll_tk (tk_same sl) fA hD
      dsimp only [gName]
      have mu : ∀ {H'' : Hp} {zs : List V}, H'' l = some (.lst zs) → Mut (H'' l) := fun z => by
        rw [z]
        trivial
      refine ⟨_, rfl, a, us, rfl, hsq1, flET (xs := us) (fun i σ H' => ∃ (z2 z3 z4 : Option V) (zs : List V), σ = [some (.ref a), some (.ref l), z2, z3, z4] ∧ H' l = some (.lst zs) ∧ DpAll K H' zs (ds.take i) ∧ But l H1 H')
        ⟨none, none, none, [], rfl, hl, .nil, But.refl _⟩ ?_ ?_ ?_⟩
      · rintro i σ H' _ ⟨_, _, _, zs, _, _, _, bt⟩
        exact tk_tup (tk_but bt (mu hl)) hsq1
      · rintro i x σ H' hx ⟨z2, z3, z4, zs, rfl, hl', hZ, bt⟩ Tt nT D' B
        obtain ⟨e, he, _⟩ := dpAll_get hD1 hx
        have hx' : Dp K H' x e := by
          obtain ⟨e', he', z⟩ := dpAll_get (dpAll_tk (tk_but bt (mu hl)) fA hD1) hx
          cases he.symm.trans he'
          exact z
        have hil := (List.getElem?_eq_some_iff.mp he).1
        have hme := List.mem_of_getElem? he
        have fe := fmAll_mem fA e hme
        have wte := wt_mem hme
        have dpe := dep_mem hme
        have sT := sm_upd (o := .tup [.int (i : Nat), x]) nT
        refine ⟨Tt, _, rfl, .inl (.inl upd_same), rfl, _, _, rfl, _, _, rfl, rfl, ?_⟩
        revert sT
        generalize upd H' Tt (.tup [.int (i : Nat), x]) = H2
        intro sT
        have hl2 := sT _ _ hl'
        have hZ2 := dpAll_tk (tk_same sT) (fmAll_sub (List.take_sublist i ds) fA) hZ
        have bt2 := bt.trans (But.of sT)
        walk_at "r"
        refine ⟨x, e, rfl, .inr ⟨dp_tk (tk_same sT) fe.1 hx', fe.1⟩, by omega, by omega, by omega, fun v H3 D3 sm3 => ?_⟩
        have hl3 := sm3 _ _ hl2
        have hZ3 := dpAll_tk (tk_same sm3) (fmAll_sub (List.take_sublist i ds) fA) hZ2
        have bt3 := bt2.trans (But.of sm3)
        have lzs := dpAll_len hZ3
        rw [List.length_take] at lzs
        dsimp only [gName]
        refine ⟨_, rfl, v, e, rfl, D3, fe.1, ?_⟩
        rw [decide_eq_false (by omega)]
        refine ⟨_, rfl, iteF ?_⟩
        have fin : ∀ H4, Same H3 H4 → D'.nx [some (.ref a), some (.ref l), some (.int (i : Nat)), some x, some v] (upd H4 l (.lst (zs ++ [v]))) := fun H4 sm4 => by
          refine B.nx _ _ ⟨_, _, _, zs ++ [v], rfl, upd_same, ?_, ?_⟩
          · have z4 : DpAll K H4 (zs ++ [v]) (ds.take (i + 1)) := by
              rw [List.take_add_one, he]
              exact dpAll_app (dpAll_tk (tk_same sm4) (fmAll_sub (List.take_sublist i ds) fA) hZ3) (.cons (dp_tk (tk_same sm4) fe.1 D3) .nil)
            exact dpAll_tk (tk_mut (mu (sm4 _ _ hl3))) (fmAll_sub (List.take_sublist (i + 1) ds) fA) z4
          · exact (bt3.trans (But.of sm4)).upd
        walk_at "r"
        refine ifD (fun hz => ?_) (fun hz => ?_)
        · obtain ⟨j, rfl⟩ : ∃ j, i = j + 1 := ⟨i - 1, by omega⟩
          obtain ⟨p, hp⟩ : ∃ p, ds[j]? = some p := ⟨ds[j], List.getElem?_eq_getElem (by omega)⟩
          have fp := fmAll_mem fA p (List.mem_of_getElem? hp)
          have hpt : (ds.take (j + 1))[j]? = some p := by rw [List.getElem?_take, if_pos (by omega)]; exact hp
          obtain ⟨vp, hvp, Dpp⟩ := dpAll_at hZ3 hpt
          have hlt : val p < val e := by
            have h1 := vals_at hp
            have h2 := vals_at he
            have := asc_pairwise.mp hA
            rw [List.pairwise_iff_getElem] at this
            obtain ⟨q1, q2⟩ := List.getElem?_eq_some_iff.mp h1
            obtain ⟨q3, q4⟩ := List.getElem?_eq_some_iff.mp h2
            have := this j (j + 1) q1 q3 (by omega)
            rw [q2, q4] at this
            show val p < val e
            have e1 : vl p = (val p).toNat := rfl
            have e2 : vl e = (val e).toNat := rfl
            omega
          walk_at "r"
          refine ⟨l, zs, -1, vp, rfl, rfl, .inl (.inl hl3), atI_neg1 (by rw [show zs.length - 1 = j by omega]; exact hvp), ?_⟩
          have dpp := dep_mem (List.mem_of_getElem? hp)
          walk_at "r"
          refine ⟨vp, v, p, e, rfl, Dpp, D3, fp.1, fe.1, by omega, by omega, by omega, fun H4 sm4 => ?_⟩
          rw [sg_lt hlt]
          walk_at "r"
          refine ⟨.inl ⟨rfl, _, .inl (.inl (sm4 _ _ hl3))⟩, _, rfl, l, _, _, rfl, rfl, sm4 _ _ hl3, len_lt (by omega), fin H4 sm4⟩
        · dsimp only [tNext]
          refine ⟨_, rfl, .inl ⟨rfl, _, .inl (.inl hl3)⟩, _, rfl, l, _, _, rfl, rfl, hl3, len_lt (by omega), fin H3 (Same.refl _)⟩
      · rintro σ H' ⟨z2, z3, z4, zs, rfl, hl', hZ, bt⟩
        rw [hll, List.take_length] at hZ
        walk_at "r"
        refine ⟨l, zs, ds, rfl, .inl (.inl (.inl hl')), hZ, fA, hA, fun v d2 H2 f2 e2 dp2 w2 D2 sm2 => ?_⟩
        have ed : d2 = .tuple ds := fm_inj f2 fd0 (by rw [e2, val_tuple])
        subst ed
        refine ⟨v, _, rfl, D2, fd0, by rw [wt_tuple]; omega, by rw [depth_tuple]; omega, fun H3 sm3 => ?_⟩
        refine q v H3 (dp_tk (tk_same sm3) fd0 D2) (fun b o z => ?_)
        exact sm3 _ _ (sm2 _ _ (bt b o (ne_of_none z nl) (sl _ _ z)))
theorem given_formT (T : Top K mg) (n : Nat) (h0 : n = 0 ∨ FnOk P w K mg base CX0 (2 * n + 10) T.f_row_form T.fd_row_form ["members"]  (sp_rowF K (n - 1))) : FnOk P w K mg base CX0 (2 * n + 11) T.f_given_form T.fd_given_form ["value"]  (sp_givenF K T.C_Far n) := by
  have G_row_form : FnOk P w K mg base CX0 (2 * n + 10) T.f_row_form T.fd_row_form ["members"]  (fun vs H Q E => n ≠ 0 ∧ sp_rowF K (n - 1) vs H Q E) := by
    rcases h0 with h | h
    · exact ⟨fun vs H Q E z => absurd h z.1, fun A outer s H args us vs Q E _ _ _ _ z => absurd h z.1⟩
    · exact h.imp fun vs H Q E z => z.2
  have G_is_int : FnOk P w K mg base CX0 (1) T.f_is_int T.fd_is_int ["value"]  (fun vs H Q E => sp_isint K T.C_Far vs H Q E ∨ sp_isintO K T.C_Far vs H Q E) := ok_or (ok_is_int T) (ok_is_intO T)
  have G_of_int : FnOk P w K mg base CX0 (2) T.f_of_int T.fd_of_int ["number"]  (sp_ofint K) := ok_of_int T
  have G_kept : FnOk P w K mg base CX0 (0 + 8) T.f_kept T.fd_kept ["x"]  (sp_kept K) := ok_kept T
  refine T.F_given_form.ok sc_given_form (fun vs H Q E h => ?_) (fun cdv A outer s H vs Q E hr h => ?_)
  · obtain ⟨x, d, rfl, _⟩ := h
    rfl
  · obtain ⟨x, d, rfl, hx, hw, hdd, hn, q⟩ := h
    refine ⟨_, (pss_cons (ps_if (pt_val (pe_callB call_isi (by rfl) T.m_isinstance (by decide +kernel) (pa_cons (pv 0) (pa_cons (pe_glob (v := .ref T.C_Far) (by rfl) T.g_Far rfl) pa_nil))) (fun _ => rfl))
      (pss_one (ps_ret (pe_fld (pv 0) rfl)))
      pss_nil)
    (pss_cons (ps_if (pt_val (pe_call G_is_int (hr.mono (by omega)) (by rfl) T.g_is_int T.F_is_int.kp T.b_is_int .nil pass0 (pa_cons (pv 0) pa_nil)) (fun _ => rfl))
      (pss_one (ps_ret (pe_call G_kept (hr.mono (by omega)) (by rfl) T.g_kept T.F_kept.kp T.b_kept .nil pass0 (pa_cons (pe_call G_of_int (hr.mono (by omega)) (by rfl) T.g_of_int T.F_of_int.kp T.b_of_int .nil pass0 (pa_cons (pv 0) pa_nil)) pa_nil))))
      pss_nil)
    (pss_cons (ps_if (pt_val (pe_callB call_isiT (by rfl) T.m_isinstance (by decide +kernel) (pa_cons (pv 0) (pa_cons (pe_tup (pa_cons (pe_bltn (v := .ty "list") (by rfl) T.m_list (by decide +kernel) rfl) (pa_cons (pe_bltn (v := .ty "tuple") (by rfl) T.m_tuple (by decide +kernel) rfl) pa_nil))) pa_nil))) (fun _ => rfl))
      (pss_one (ps_ret (pe_call G_row_form (hr.mono (by omega)) (by rfl) T.g_row_form T.F_row_form.kp T.b_row_form .nil pass0 (pa_cons (pv 0) pa_nil))))
      pss_nil)
    (pss_one ps_never)))), ?_⟩
    have int : ∀ (i : Int) (k : Nat), x = .int i → val d = i → k ≤ 900000 → -(2 ^ k) ≤ i → i < 2 ^ k → Fm d → Num K T.C_Far H x d := fun i k e ed hk h1 h2 fd => .inl ⟨i, k, e, fd, ed, hk, h1, h2⟩
    have hx2 : Num K T.C_Far H x d ∨ ∃ (a : Addr) (us : List V), x = .ref a ∧ SqT K H a us ∧ Dp K H x d ∧ Fm d ∧ isI d = false := by
      rcases hx with h | ⟨h, f⟩
      · exact .inl h
      · rcases fm_cases f with ⟨i, rfl⟩ | ⟨ds, rfl⟩
        · cases h
          have hb := (fm_int i).mp f
          exact .inl (int i 64 rfl (val_int i) (by decide) hb.1 hb.2 f)
        · have h' := h
          cases h with
          | tup g1 g2 => exact .inr ⟨_, _, rfl, g1, h', f, rfl⟩
    rcases hx2 with (⟨i, k, rfl, fd, ed, hk, h1, h2⟩ | ⟨a, rfl, hf⟩) | ⟨a, us, rfl, hsq, hD, fd, hi⟩
    · refine ⟨_, rfl, _, _, _, _, false, rfl, .own _, tyI _, T.I_Far.ik, ?_⟩
      refine ⟨_, rfl, iteF ?_⟩
      dsimp only [tNext]
      refine ⟨_, rfl, .inl ⟨_, rfl, .inl ⟨i, rfl, ?_⟩⟩⟩
      refine ⟨_, rfl, iteT ?_⟩
      refine ⟨_, rfl, i, k, rfl, hk, h1, h2, fun v r H1 g1 g2 g3 g4 D1 sm1 => ?_⟩
      have : r = d := fm_inj g1 fd (by rw [g2, ed])
      subst this
      exact ⟨v, r, rfl, D1, fd, hw, by omega, fun H2 sm2 => q v H2 (dp_tk (tk_same sm2) fd D1) (sm1.trans sm2)⟩
    · refine ⟨_, rfl, _, _, _, _, true, rfl, .own _, ty_far T.I_Far T.k_Far hf, T.I_Far.ks, ?_⟩
      refine ⟨_, rfl, iteT ?_⟩
      obtain ⟨dx, v, h1, h2, h3⟩ := hf
      exact ⟨_, rfl, a, _, dx, _, v, rfl, h1, T.k_Far, T.n_Far, lk_own v, q v H h2 (Same.refl _)⟩
    · refine ⟨_, rfl, _, _, _, _, false, rfl, .own _, tyT hsq, T.I_Far.tk, ?_⟩
      refine ⟨_, rfl, iteF ?_⟩
      dsimp only [tNext]
      refine ⟨_, rfl, .inr ⟨_, "tuple", false, rfl, tyT hsq, .inl ⟨k_ti, rfl⟩, ?_⟩⟩
      refine ⟨_, rfl, iteF ?_⟩
      dsimp only [tNext]
      obtain ⟨ds, rfl⟩ := fm_isT fd hi
      have hn0 : n ≠ 0 := fun z => by
        rw [depth_tuple] at hdd
        omega
      refine ⟨_, rfl, by show 2 ≤ sizeLine; decide, fun t nt => ?_⟩
      have st := sm_upd (o := .tup [.ty "list", .ty "tuple"]) nt
      refine ⟨_, _, _, _, _, true, rfl, upd_same, .cons (.ty "list") (.cons (.ty "tuple") .nil), tyT (HX.Same.tup st hsq), ?_, ?_⟩
      · exact kitAny_cons (kit_ty (by decide +kernel : kitB "tuple" "list" = some false)) (fun _ => kitAny_cons (kit_ty k_tt) (fun z => absurd z (by decide)) fun _ => rfl) (fun z => absurd z (by decide))
      refine ⟨_, rfl, iteT ?_⟩
      refine ⟨_, rfl, hn0, _, _, rfl, dp_tk (tk_same st) fd hD, fd, hi, hw, by omega, by omega, fun v H' D sm => ?_⟩
      exact q v H' D (st.trans sm)
theorem ok_given_formF (T : Top K mg) : ∀ n, FnOk P w K mg base CX0 (2 * n + 11) T.f_given_form T.fd_given_form ["value"]  (sp_givenF K T.C_Far n)
  | 0 => given_formT T 0 (.inl rfl)
  | n + 1 => given_formT T (n + 1) (.inr (row_formF T n (ok_given_formF T n)))
/-- a new Far gets its form, or the form of a number -/
def sp_initF (K : PySem.W.Frag) (C : Addr) (n : Nat) : Sp := fun vs H Q _ => ∃ (a dx : Addr) (x : V) (d : PyData), vs = [.ref a, x] ∧ H a = some (.ins C dx []) ∧ NumF K C H x d ∧ wt d ≤ 2000 ∧ d.depth ≤ n ∧ n ≤ 6 ∧
  ∀ v H', H' a = some (.ins C dx [(("own_form" : Str), v)]) → Dp K H' v d → (∀ b o, b ≠ a → H b = some o → H' b = some o) → Q .non H'
theorem ok_Far___init__F (T : Top K mg) (n : Nat) : FnOk P w K mg base CX0 (2 * n + 12) T.f_Far___init__ T.fd_Far___init__ ["self", "value"] (sp_initF K T.C_Far n) := by
  have G_given_form : FnOk P w K mg base CX0 (2 * n + 11) T.f_given_form T.fd_given_form ["value"]  (sp_givenF K T.C_Far n) := ok_given_formF T n
  refine funD_ok0 T.F_Far___init__ sc_Far___init__ (fun vs H Q E h => ?_) (fun cdv A outer s H vs Q E hr h => ?_)
  · obtain ⟨a, dx, x, d, rfl, _⟩ := h
    rfl
  · obtain ⟨a, dx, x, d, rfl, ha, hx, hw, hdd, hn, q⟩ := h
    refine ⟨_, (pss_one (ps_fld (pv 0) (pe_call G_given_form (hr.mono (by omega)) (by rfl) T.g_given_form T.F_given_form.kp T.b_given_form .nil pass0 (pa_cons (pv 1) pa_nil)) rfl)), ?_⟩
    refine ⟨_, rfl, x, d, rfl, hx, hw, hdd, hn, fun v H1 D1 sm1 => ?_⟩
    refine ⟨_, rfl, a, T.C_Far, dx, [], rfl, sm1 _ _ ha, T.k_Far, T.n_Far, by show 0 < 1000; decide, ?_⟩
    refine q v _ upd_same (dp_tk (tk_mut (p := a) ?_) hx.fm D1) (fun b o hb e => ?_)
    · rw [sm1 _ _ ha]
      trivial
    · rw [upd_ne hb]
      exact sm1 _ _ e
/-- a call of the class: a new Far -/
theorem new_farF {C : Addr} {H : Hp} {x : V} {d : PyData} {n : Nat} {Q : VK} {E : XK} (hx : NumF K C H x d) (hw : wt d ≤ 2000) (hdd : d.depth ≤ n) (hn : n ≤ 6) (q : ∀ a H', H a = none → FarAt K C H' a d → Same H H' → Q (.ref a) H') :
    ∀ a dx, H a = none → H dx = none → dx ≠ a → sp_initF K C n (.ref a :: ([x] ++ [])) (upd (upd H dx (.own a)) a (.ins C dx [])) (fun v H2 => v = .non ∧ Q (.ref a) H2) E := fun a dx na nd ne => by
  have s2 : Same H (upd (upd H dx (.own a)) a (.ins C dx [])) := fun b o e => by
    rw [upd_ne (ne_of_none e na), upd_ne (ne_of_none e nd)]
    exact e
  refine ⟨a, dx, x, d, rfl, upd_same, hx.same s2, hw, hdd, hn, fun v H' h1 D e => ⟨rfl, q a H' na ⟨dx, v, h1, D, hx.fm⟩ fun b o z => e b o (ne_of_none z na) (s2 _ _ z)⟩⟩
/-- .. of an int with few bits -/
theorem new_farI {C : Addr} {H : Hp} {x : V} {m : Int} {k : Nat} {Q : VK} {E : XK} (hx : NumF K C H x (fo m)) (hb : Bw k m) (hk : k ≤ 1900) (q : ∀ a H', H a = none → FarI K C H' a m → Same H H' → Q (.ref a) H') :
    ∀ a dx, H a = none → H dx = none → dx ≠ a → sp_initF K C 1 (.ref a :: ([x] ++ [])) (upd (upd H dx (.own a)) a (.ins C dx [])) (fun v H2 => v = .non ∧ Q (.ref a) H2) E := by
  have l := fo_lim (by omega) hb
  exact new_farF hx (by omega) l.2 (by decide) q
/-- .. where what follows is not known by name -/
theorem init_farI {C : Addr} {H : Hp} {a dx : Addr} {x : V} {m : Int} {k : Nat} {E : XK} {G : Hp → Prop} (na : H a = none) (nd : H dx = none) (ne : dx ≠ a) (hx : NumF K C H x (fo m)) (hb : Bw k m) (hk : k ≤ 1900) (q : ∀ H', FarI K C H' a m → Same H H' → G H') :
    sp_initF K C 1 [.ref a, x] (upd (upd H dx (.own a)) a (.ins C dx [])) (fun v H2 => v = .non ∧ G H2) E := by
  have l := fo_lim (by omega) hb
  have s2 : Same H (upd (upd H dx (.own a)) a (.ins C dx [])) := fun b o e => by
    rw [upd_ne (ne_of_none e na), upd_ne (ne_of_none e nd)]
    exact e
  refine ⟨a, dx, x, fo m, rfl, upd_same, hx.same s2, by omega, l.2, by decide, fun v H' h1 D e => ⟨rfl, q H' ⟨dx, v, h1, D, hx.fm⟩ fun b o z => e b o (ne_of_none z na) (s2 _ _ z)⟩⟩
end
end K37
set_option Elab.async false
set_option linter.all false
set_option maxRecDepth 100000
set_option pp.deepTerms false
set_option pp.maxSteps 1500
/-! operands that are no numbers -/
namespace K37
open PySem PySem.Spec PyProof.Rows L2 HX TV FM DX FB FC PM FI
local macro_rules | `(tactic| walk_at "r") => `(tactic| (repeat (first | refine Exists.intro _ (And.intro rfl ?_) | refine And.intro rfl ?_ | refine Exists.intro _ (Exists.intro _ (And.intro rfl (And.intro rfl ?_))) | refine And.intro (by omega) ?_ | refine And.intro (Or.inl (And.intro (by omega) (by omega))) ?_ | refine And.intro (Or.inr (And.intro (by omega) (by omega))) ?_ | refine And.intro (And.intro (by omega) (by omega)) ?_ | refine And.intro (And.intro (by decide) (And.intro (by decide) (by decide))) ?_ | refine Or.inl (Exists.intro _ (And.intro rfl ?_)) | (dsimp only [gName]; first | with_reducible refine seqC ?_ | with_reducible refine asgC ?_))))
local macro_rules | `(tactic| walk_at "s") => `(tactic| (repeat (first | refine Exists.intro _ (And.intro rfl ?_) | refine And.intro rfl ?_ | refine Exists.intro _ (Exists.intro _ (And.intro rfl (And.intro rfl ?_))) | refine And.intro (by omega) ?_ | refine And.intro (Or.inl (And.intro (by omega) (by omega))) ?_ | refine And.intro (Or.inr (And.intro (by omega) (by omega))) ?_ | refine And.intro (And.intro (by omega) (by omega)) ?_ | refine And.intro (And.intro (by decide) (And.intro (by decide) (by decide))) ?_ | refine Or.inl (Exists.intro _ (And.intro rfl ?_)) | refine Exists.intro _ (Exists.intro _ (And.intro rfl ?_)) | (dsimp only [gName]; first | with_reducible refine seqC ?_ | with_reducible refine asgC ?_))))
section
variable {P : Program} {w : World} {K : PySem.W.Frag} {mg : Str → Option Value} {base : Heap}
/-- a value that is no number -/
def Odd (K : PySem.W.Frag) (C : Addr) (H : Hp) (x : V) : Prop := ∃ t : String, TyX K H x (.type t) ∧ PySem.W.kitOne K (.type t) (.ref C) = some false ∧ (kitB t "int" = some false ∨ (kitB t "int" = some true ∧ kitB t "bool" = some true))
section
variable {C : Addr} {H : Hp}
theorem odd_non (I : IsiOwn K C) : Odd K C H .non := ⟨"NoneType", .base .non, I.nk, .inl (by decide +kernel)⟩
theorem odd_bl (I : IsiOwn K C) (b : Bool) : Odd K C H (.bl b) := ⟨"bool", .base (.bl b), I.bk, .inr ⟨by decide +kernel, by decide +kernel⟩⟩
theorem odd_str (I : IsiOwn K C) (x : Str) : Odd K C H (.str x) := ⟨"str", .base (.str x), I.sk, .inl (by decide +kernel)⟩
theorem odd_tup (I : IsiOwn K C) {a : Addr} {xs : List V} (h : SqT K H a xs) : Odd K C H (.ref a) := ⟨"tuple", tyT h, I.tk, .inl k_ti⟩
theorem odd_lst (I : IsiOwn K C) {a : Addr} {xs : List V} (h : H a = some (.lst xs)) : Odd K C H (.ref a) := ⟨"list", .base (.lst h), I.lk, .inl (by decide +kernel)⟩
end
def sp_operandO (K : PySem.W.Frag) (C : Addr) : Sp := fun vs H Q _ => ∃ x, vs = [x] ∧ Odd K C H x ∧ Q .non H
theorem ok_operandO (T : Top K mg) : FnOk P w K mg base CX0 (3) T.f_operand T.fd_operand ["value"]  (sp_operandO K T.C_Far) := by
  have G_is_int : FnOk P w K mg base CX0 (1) T.f_is_int T.fd_is_int ["value"]  (sp_isintO K T.C_Far) := ok_is_intO T
  have G_of_int : FnOk P w K mg base CX0 (2) T.f_of_int T.fd_of_int ["number"]  (sp_ofint K) := ok_of_int T
  refine T.F_operand.ok sc_operand (fun vs H Q E h => ?_) (fun cdv A outer s H vs Q E hr h => ?_)
  · obtain ⟨x, rfl, _⟩ := h
    rfl
  · obtain ⟨x, rfl, ⟨t, ht, hk, hi⟩, q⟩ := h
    refine ⟨_, (pss_cons (ps_if (pt_val (pe_callB call_isi (by rfl) T.m_isinstance (by decide +kernel) (pa_cons (pv 0) (pa_cons (pe_glob (v := .ref T.C_Far) (by rfl) T.g_Far rfl) pa_nil))) (fun _ => rfl))
      (pss_one (ps_ret (pe_fld (pv 0) rfl)))
      pss_nil)
    (pss_cons (ps_if (pt_val (pe_call G_is_int (hr.mono (by omega)) (by rfl) T.g_is_int T.F_is_int.kp T.b_is_int .nil pass0 (pa_cons (pv 0) pa_nil)) (fun _ => rfl))
      (pss_one (ps_ret (pe_call G_of_int (hr.mono (by omega)) (by rfl) T.g_of_int T.F_of_int.kp T.b_of_int .nil pass0 (pa_cons (pv 0) pa_nil))))
      pss_nil)
    (pss_one (ps_ret pe_non)))), ?_⟩
    refine ⟨_, rfl, _, _, _, _, false, rfl, .own _, ht, hk, ?_⟩
    refine ⟨_, rfl, iteF ?_⟩
    dsimp only [tNext]
    refine ⟨_, rfl, _, t, false, rfl, ht, ?_, ?_⟩
    · rcases hi with h | ⟨h1, h2⟩
      · exact .inl ⟨h, rfl⟩
      · exact .inr ⟨h1, h2⟩
    refine ⟨_, rfl, iteF ?_⟩
    exact q
/-- a number, or a value that is none -/
def Arg (K : PySem.W.Frag) (C : Addr) (k : Nat) (H : Hp) (x : V) (r : Option Int) : Prop := (∃ n, r = some n ∧ NumI K C H x n ∧ Bw k n) ∨ (r = none ∧ Odd K C H x)
def sp_operandA (K : PySem.W.Frag) (C : Addr) : Sp := fun vs H Q _ => ∃ x r k, vs = [x] ∧ Arg K C k H x r ∧ k ≤ 900000 ∧ (∀ n, r = some n → ∀ v H', DI K H' v n → Same H H' → Q v H') ∧ (r = none → Q .non H)
theorem ok_operandA (T : Top K mg) : FnOk P w K mg base CX0 (3) T.f_operand T.fd_operand ["value"]  (sp_operandA K T.C_Far) := (ok_or (ok_operand T) (ok_operandO T)).imp fun vs H Q E h => by
  obtain ⟨x, r, k, rfl, hx, hk, q1, q2⟩ := h
  rcases hx with ⟨n, rfl, hn, hb⟩ | ⟨rfl, ho⟩
  · exact .inl ⟨x, fo n, rfl, hn, fun v H' D sm => q1 n rfl v H' D sm⟩
  · exact .inr ⟨x, rfl, ho, q2 rfl⟩
end
end K37
set_option Elab.async false
set_option linter.all false
set_option maxRecDepth 100000
set_option pp.deepTerms false
set_option pp.maxSteps 1500
set_option maxHeartbeats 1000000
/-! Fars made of lists of turns, each a number or a form -/
namespace K37
open PySem PySem.Spec PyProof.Rows L2 HX TV FM DX FB FC PM FI
local macro_rules | `(tactic| walk_at "r") => `(tactic| (repeat (first | refine Exists.intro _ (And.intro rfl ?_) | refine And.intro rfl ?_ | refine Exists.intro _ (Exists.intro _ (And.intro rfl (And.intro rfl ?_))) | refine And.intro (by omega) ?_ | refine And.intro (Or.inl (And.intro (by omega) (by omega))) ?_ | refine And.intro (Or.inr (And.intro (by omega) (by omega))) ?_ | refine And.intro (And.intro (by omega) (by omega)) ?_ | refine And.intro (And.intro (by decide) (And.intro (by decide) (by decide))) ?_ | refine Or.inl (Exists.intro _ (And.intro rfl ?_)) | (dsimp only [gName]; first | with_reducible refine seqC ?_ | with_reducible refine asgC ?_))))
local macro_rules | `(tactic| walk_at "s") => `(tactic| (repeat (first | refine Exists.intro _ (And.intro rfl ?_) | refine And.intro rfl ?_ | refine Exists.intro _ (Exists.intro _ (And.intro rfl (And.intro rfl ?_))) | refine And.intro (by omega) ?_ | refine And.intro (Or.inl (And.intro (by omega) (by omega))) ?_ | refine And.intro (Or.inr (And.intro (by omega) (by omega))) ?_ | refine And.intro (And.intro (by omega) (by omega)) ?_ | refine And.intro (And.intro (by decide) (And.intro (by decide) (by decide))) ?_ | refine Or.inl (Exists.intro _ (And.intro rfl ?_)) | refine Exists.intro _ (Exists.intro _ (And.intro rfl ?_)) | (dsimp only [gName]; first | with_reducible refine seqC ?_ | with_reducible refine asgC ?_))))
section
variable {P : Program} {w : World} {K : PySem.W.Frag} {mg : Str → Option Value} {base : Heap}
inductive NumFs (K : PySem.W.Frag) (C : Addr) (H : Hp) : List V → List PyData → Prop
  | nil : NumFs K C H [] []
  | cons {x : V} {d : PyData} {us : List V} {ds : List PyData} : NumF K C H x d → NumFs K C H us ds → NumFs K C H (x :: us) (d :: ds)
section
variable {C : Addr} {H H' : Hp} {us : List V} {ds : List PyData}
theorem NumFs.len (h : NumFs K C H us ds) : us.length = ds.length := by
  induction h with
  | nil => rfl
  | cons _ _ ih => rw [List.length_cons, List.length_cons, ih]
theorem NumFs.get (h : NumFs K C H us ds) : ∀ {i : Nat} {x : V}, us[i]? = some x → ∃ d, ds[i]? = some d ∧ NumF K C H x d := by
  induction h with
  | nil => intro i x e; simp at e
  | cons h1 _ ih =>
    intro i x e
    cases i with
    | zero =>
      cases e
      exact ⟨_, rfl, h1⟩
    | succ i => exact ih e
theorem NumFs.same (h : NumFs K C H us ds) (e : Same H H') : NumFs K C H' us ds := by
  induction h with
  | nil => exact .nil
  | cons h1 _ ih => exact .cons (h1.same e) ih
theorem NumF.but {l : Addr} {zs : List V} {x : V} {d : PyData} (h : NumF K C H x d) (b : But l H H') (hl : H l = some (.lst zs)) : NumF K C H' x d := by
  have mu : Mut (H l) := by
    rw [hl]
    trivial
  rcases h with (h | ⟨a, rfl, dx, v, h1, h2, h3⟩) | ⟨h, f⟩
  · exact .inl (.inl h)
  · exact .inl (.inr ⟨a, rfl, dx, v, b a _ (fun z => by rw [z, hl] at h1; cases h1) h1, dp_tk (tk_but b mu) h3 h2, h3⟩)
  · exact .inr ⟨dp_tk (tk_but b mu) f h, f⟩
theorem NumFs.but {l : Addr} {zs : List V} (h : NumFs K C H us ds) (b : But l H H') (hl : H l = some (.lst zs)) : NumFs K C H' us ds := by
  induction h with
  | nil => exact .nil
  | cons h1 _ ih => exact .cons (h1.but b hl) ih
end
def sp_rowL (K : PySem.W.Frag) (C : Addr) (n : Nat) : Sp := fun vs H Q _ => ∃ (a : Addr) (us : List V) (ds : List PyData), vs = [.ref a] ∧ H a = some (.lst us) ∧ NumFs K C H us ds ∧ FmAll ds ∧ Asc (vals ds) ∧ 1 + wtAll ds ≤ 2000 ∧ (∀ d ∈ ds, d.depth ≤ n) ∧ n ≤ 5 ∧
  ∀ v d H', Fm d → val d = tv (vals ds) → d.depth ≤ n + 1 → wt d ≤ 1 + wtAll ds → Dp K H' v d → Same H H' → Q v H'
theorem row_formL (T : Top K mg) (n : Nat) : FnOk P w K mg base CX0 (2 * n + 12) T.f_row_form T.fd_row_form ["members"]  (sp_rowL K T.C_Far n) := by
  have G_given_form : FnOk P w K mg base CX0 (2 * n + 11) T.f_given_form T.fd_given_form ["value"]  (sp_givenF K T.C_Far n) := ok_given_formF T n
  have G_negative : FnOk P w K mg base CX0 (1) T.f_negative T.fd_negative ["x"]  (sp_neg K) := ok_negative T
  have G_order : FnOk P w K mg base CX0 (n + 3) T.f_order T.fd_order ["x", "y"]  (sp_ord K n) := ok_order T n
  have G_made : FnOk P w K mg base CX0 (1) T.f_made T.fd_made ["found"]  (sp_made K) := ok_made T
  have G_kept : FnOk P w K mg base CX0 (0 + 8) T.f_kept T.fd_kept ["x"]  (sp_kept K) := ok_kept T
  refine T.F_row_form.ok sc_row_form (fun vs H Q E h => ?_) (fun cdv Ar outer s H vs Q E hr h => ?_)
  · obtain ⟨a, us, ds, rfl, _⟩ := h
    rfl
  · obtain ⟨a, us, ds, rfl, hsq, hD, fA, hA, hw, hdd, hn, q⟩ := h
    have hll := hD.len
    have hul := len_wt ds
    refine ⟨_, (pss_cons (ps_set (i := 1) sc_row_form.nd rfl (Or.inl rfl) (pe_lst pa_nil))
    (pss_cons (ps_for PassesOwn.never rfl (pi_enum (by rfl) T.m_enumerate (pa_cons (pv 0) pa_nil)) (pg_tup rfl (pgs_cons (pg_name (i := 2) sc_row_form.nd rfl (Or.inl rfl)) (pgs_cons (pg_name (i := 3) sc_row_form.nd rfl (Or.inl rfl)) pgs_nil)))
      (pss_cons (ps_set (i := 4) sc_row_form.nd rfl (Or.inl rfl) (pe_call G_given_form (hr.mono (by omega)) (by rfl) T.g_given_form T.F_given_form.kp T.b_given_form .nil pass0 (pa_cons (pv 3) pa_nil)))
      (pss_cons (ps_if (PW.pt (pw_or (pt_val (pe_call G_negative (hr.mono (by omega)) (by rfl) T.g_negative T.F_negative.kp T.b_negative .nil pass0 (pa_cons (pv 4) pa_nil)) (fun _ => rfl)) (pw_or1 (PW.pt (pw_and (pt_cmpR op_gt (pv 2) pe_int (nomark _)) (pw_and1 (pt_cmpR op_ge (pe_call G_order (hr.mono (by omega)) (by rfl) T.g_order T.F_order.kp T.b_order .nil pass0 (pa_cons (pe_ix ix_list (pv 1) (pe_un un_neg pe_int) (fun _ _ => rfl)) (pa_cons (pv 4) pa_nil))) pe_int (nomark _))))))))
        (pss_one ps_never)
        pss_nil)
      (pss_one (ps_expr (pe_bm PySem.F.plainAttrs_list PySem.F.slot_list_append PySem.F.type_list_append mt_append (pv 1) (pa_cons (pv 4) pa_nil)))))))
    (pss_one (ps_ret (pe_call G_kept (hr.mono (by omega)) (by rfl) T.g_kept T.F_kept.kp T.b_kept .nil pass0 (pa_cons (pe_call G_made (hr.mono (by omega)) (by rfl) T.g_made T.F_made.kp T.b_made .nil pass0 (pa_cons (pv 1) pa_nil)) pa_nil)))))), ?_⟩
    refine ⟨len_le (Nat.le_of_ble_eq_true rfl), fun l nl => ?_⟩
    generalize eH1 : upd H l _ = H1
    obtain ⟨sl, hl⟩ := new_step nl eH1
    clear eH1
    have hsq1 := sl _ _ hsq
    have hD1 := hD.same sl
    dsimp only [gName]
    have mu : ∀ {H'' : Hp} {zs : List V}, H'' l = some (.lst zs) → Mut (H'' l) := fun z => by
      rw [z]
      trivial
    have nal : a ≠ l := fun z => by rw [z, nl] at hsq; cases hsq
    refine ⟨_, rfl, a, us, rfl, .inl (.inl hsq1), flE (xs := us) (fun i σ H' => ∃ (z2 z3 z4 : Option V) (zs : List V), σ = [some (.ref a), some (.ref l), z2, z3, z4] ∧ H' l = some (.lst zs) ∧ DpAll K H' zs (ds.take i) ∧ But l H1 H')
      ⟨none, none, none, [], rfl, hl, .nil, But.refl _⟩ ?_ ?_ ?_⟩
    · rintro i σ H' _ ⟨_, _, _, zs, _, _, _, bt⟩
      exact .inl (.inl (bt _ _ nal hsq1))
    · rintro i x σ H' hx ⟨z2, z3, z4, zs, rfl, hl', hZ, bt⟩ Tt nT D' B
      obtain ⟨e, he, hx'⟩ := (hD1.but bt hl).get hx
      have hil := (List.getElem?_eq_some_iff.mp he).1
      have hme := List.mem_of_getElem? he
      have fe := fmAll_mem fA e hme
      have wte := wt_mem hme
      have dpe := hdd e hme
      have sT := sm_upd (o := .tup [.int (i : Nat), x]) nT
      refine ⟨Tt, _, rfl, .inl (.inl upd_same), rfl, _, _, rfl, _, _, rfl, rfl, ?_⟩
      revert sT
      generalize upd H' Tt (.tup [.int (i : Nat), x]) = H2
      intro sT
      have hl2 := sT _ _ hl'
      have hZ2 := dpAll_tk (tk_same sT) (fmAll_sub (List.take_sublist i ds) fA) hZ
      have bt2 := bt.trans (But.of sT)
      walk_at "r"
      refine ⟨x, e, rfl, hx'.same sT, by omega, by omega, by omega, fun v H3 D3 sm3 => ?_⟩
      have hl3 := sm3 _ _ hl2
      have hZ3 := dpAll_tk (tk_same sm3) (fmAll_sub (List.take_sublist i ds) fA) hZ2
      have bt3 := bt2.trans (But.of sm3)
      have lzs := dpAll_len hZ3
      rw [List.length_take] at lzs
      dsimp only [gName]
      refine ⟨_, rfl, v, e, rfl, D3, fe.1, ?_⟩
      rw [decide_eq_false (by omega)]
      refine ⟨_, rfl, iteF ?_⟩
      have fin : ∀ H4, Same H3 H4 → D'.nx [some (.ref a), some (.ref l), some (.int (i : Nat)), some x, some v] (upd H4 l (.lst (zs ++ [v]))) := fun H4 sm4 => by
        refine B.nx _ _ ⟨_, _, _, zs ++ [v], rfl, upd_same, ?_, ?_⟩
        · have z4 : DpAll K H4 (zs ++ [v]) (ds.take (i + 1)) := by
            rw [List.take_add_one, he]
            exact dpAll_app (dpAll_tk (tk_same sm4) (fmAll_sub (List.take_sublist i ds) fA) hZ3) (.cons (dp_tk (tk_same sm4) fe.1 D3) .nil)
          exact dpAll_tk (tk_mut (mu (sm4 _ _ hl3))) (fmAll_sub (List.take_sublist (i + 1) ds) fA) z4
        · exact (bt3.trans (But.of sm4)).upd
      walk_at "r"
      refine ifD (fun hz => ?_) (fun hz => ?_)
      · obtain ⟨j, rfl⟩ : ∃ j, i = j + 1 := ⟨i - 1, by omega⟩
        obtain ⟨p, hp⟩ : ∃ p, ds[j]? = some p := ⟨ds[j], List.getElem?_eq_getElem (by omega)⟩
        have fp := fmAll_mem fA p (List.mem_of_getElem? hp)
        have hpt : (ds.take (j + 1))[j]? = some p := by rw [List.getElem?_take, if_pos (by omega)]; exact hp
        obtain ⟨vp, hvp, Dpp⟩ := dpAll_at hZ3 hpt
        have hlt : val p < val e := by
          have h1 := vals_at hp
          have h2 := vals_at he
          have := asc_pairwise.mp hA
          rw [List.pairwise_iff_getElem] at this
          obtain ⟨q1, q2⟩ := List.getElem?_eq_some_iff.mp h1
          obtain ⟨q3, q4⟩ := List.getElem?_eq_some_iff.mp h2
          have := this j (j + 1) q1 q3 (by omega)
          rw [q2, q4] at this
          show val p < val e
          have e1 : vl p = (val p).toNat := rfl
          have e2 : vl e = (val e).toNat := rfl
          omega
        walk_at "r"
        refine ⟨l, zs, -1, vp, rfl, rfl, .inl (.inl hl3), atI_neg1 (by rw [show zs.length - 1 = j by omega]; exact hvp), ?_⟩
        have dpp := hdd p (List.mem_of_getElem? hp)
        walk_at "r"
        refine ⟨vp, v, p, e, rfl, Dpp, D3, fp.1, fe.1, by omega, by omega, by omega, fun H4 sm4 => ?_⟩
        rw [sg_lt hlt]
        walk_at "r"
        refine ⟨.inl ⟨rfl, _, .inl (.inl (sm4 _ _ hl3))⟩, _, rfl, l, _, _, rfl, rfl, sm4 _ _ hl3, len_lt (by omega), fin H4 sm4⟩
      · dsimp only [tNext]
        refine ⟨_, rfl, .inl ⟨rfl, _, .inl (.inl hl3)⟩, _, rfl, l, _, _, rfl, rfl, hl3, len_lt (by omega), fin H3 (Same.refl _)⟩
    · rintro σ H' ⟨z2, z3, z4, zs, rfl, hl', hZ, bt⟩
      rw [hll, List.take_length] at hZ
      walk_at "r"
      refine ⟨l, zs, ds, rfl, .inl (.inl (.inl hl')), hZ, fA, hA, fun v d2 H2 f2 e2 dp2 w2 D2 sm2 => ?_⟩
      have dpl : PyData.depthAll ds ≤ n := depthAll_le.mpr hdd
      refine ⟨v, d2, rfl, D2, f2, by omega, by omega, fun H3 sm3 => ?_⟩
      refine q v d2 H3 f2 e2 (by omega) (by omega) (dp_tk (tk_same sm3) f2 D2) (fun b o z => ?_)
      exact sm3 _ _ (sm2 _ _ (bt b o (ne_of_none z nl) (sl _ _ z)))
theorem given_formL (T : Top K mg) (n : Nat) : FnOk P w K mg base CX0 (2 * n + 13) T.f_given_form T.fd_given_form ["value"]  (sp_rowL K T.C_Far n) := by
  have G_row_form : FnOk P w K mg base CX0 (2 * n + 12) T.f_row_form T.fd_row_form ["members"]  (sp_rowL K T.C_Far n) := row_formL T n
  have G_is_int : FnOk P w K mg base CX0 (1) T.f_is_int T.fd_is_int ["value"]  (sp_isintO K T.C_Far) := ok_is_intO T
  have G_of_int : FnOk P w K mg base CX0 (2) T.f_of_int T.fd_of_int ["number"]  (sp_ofint K) := ok_of_int T
  have G_kept : FnOk P w K mg base CX0 (0 + 8) T.f_kept T.fd_kept ["x"]  (sp_kept K) := ok_kept T
  refine T.F_given_form.ok sc_given_form (fun vs H Q E h => ?_) (fun cdv A outer s H vs Q E hr h => ?_)
  · obtain ⟨a, us, ds, rfl, _⟩ := h
    rfl
  · obtain ⟨a, us, ds, rfl, hsq, hD, fA, hA, hw, hdd, hn, q⟩ := h
    refine ⟨_, (pss_cons (ps_if (pt_val (pe_callB call_isi (by rfl) T.m_isinstance (by decide +kernel) (pa_cons (pv 0) (pa_cons (pe_glob (v := .ref T.C_Far) (by rfl) T.g_Far rfl) pa_nil))) (fun _ => rfl))
      (pss_one (ps_ret (pe_fld (pv 0) rfl)))
      pss_nil)
    (pss_cons (ps_if (pt_val (pe_call G_is_int (hr.mono (by omega)) (by rfl) T.g_is_int T.F_is_int.kp T.b_is_int .nil pass0 (pa_cons (pv 0) pa_nil)) (fun _ => rfl))
      (pss_one (ps_ret (pe_call G_kept (hr.mono (by omega)) (by rfl) T.g_kept T.F_kept.kp T.b_kept .nil pass0 (pa_cons (pe_call G_of_int (hr.mono (by omega)) (by rfl) T.g_of_int T.F_of_int.kp T.b_of_int .nil pass0 (pa_cons (pv 0) pa_nil)) pa_nil))))
      pss_nil)
    (pss_cons (ps_if (pt_val (pe_callB call_isiT (by rfl) T.m_isinstance (by decide +kernel) (pa_cons (pv 0) (pa_cons (pe_tup (pa_cons (pe_bltn (v := .ty "list") (by rfl) T.m_list (by decide +kernel) rfl) (pa_cons (pe_bltn (v := .ty "tuple") (by rfl) T.m_tuple (by decide +kernel) rfl) pa_nil))) pa_nil))) (fun _ => rfl))
      (pss_one (ps_ret (pe_call G_row_form (hr.mono (by omega)) (by rfl) T.g_row_form T.F_row_form.kp T.b_row_form .nil pass0 (pa_cons (pv 0) pa_nil))))
      pss_nil)
    (pss_one ps_never)))), ?_⟩
    have tyl : ∀ {H' : Hp}, H' a = some (.lst us) → TyX K H' (.ref a) (.type "list") := fun e => .base (.lst e)
    refine ⟨_, rfl, _, _, _, _, false, rfl, .own _, tyl hsq, T.I_Far.lk, ?_⟩
    refine ⟨_, rfl, iteF ?_⟩
    dsimp only [tNext]
    refine ⟨_, rfl, _, "list", false, rfl, tyl hsq, .inl ⟨by decide +kernel, rfl⟩, ?_⟩
    refine ⟨_, rfl, iteF ?_⟩
    dsimp only [tNext]
    refine ⟨_, rfl, by show 2 ≤ sizeLine; decide, fun t nt => ?_⟩
    have st := sm_upd (o := .tup [.ty "list", .ty "tuple"]) nt
    refine ⟨_, _, _, _, _, true, rfl, upd_same, .cons (.ty "list") (.cons (.ty "tuple") .nil), tyl (st _ _ hsq), ?_, ?_⟩
    · exact kitAny_cons (kit_ty (by decide +kernel : kitB "list" "list" = some true)) (fun z => absurd z (by decide)) fun _ => rfl
    refine ⟨_, rfl, iteT ?_⟩
    refine ⟨_, rfl, a, us, ds, rfl, st _ _ hsq, hD.same st, fA, hA, hw, hdd, hn, fun v d H' f e dp wd D sm => ?_⟩
    exact q v d H' f e dp wd D (st.trans sm)
def sp_initL (K : PySem.W.Frag) (C : Addr) (n : Nat) : Sp := fun vs H Q _ => ∃ (a dx b : Addr) (us : List V) (ds : List PyData), vs = [.ref a, .ref b] ∧ H a = some (.ins C dx []) ∧ H b = some (.lst us) ∧ NumFs K C H us ds ∧ FmAll ds ∧ Asc (vals ds) ∧ 1 + wtAll ds ≤ 2000 ∧ (∀ d ∈ ds, d.depth ≤ n) ∧ n ≤ 5 ∧
  ∀ v d H', Fm d → val d = tv (vals ds) → d.depth ≤ n + 1 → wt d ≤ 1 + wtAll ds → H' a = some (.ins C dx [(("own_form" : Str), v)]) → Dp K H' v d → (∀ b o, b ≠ a → H b = some o → H' b = some o) → Q .non H'
theorem ok_Far___init__L (T : Top K mg) (n : Nat) : FnOk P w K mg base CX0 (2 * n + 14) T.f_Far___init__ T.fd_Far___init__ ["self", "value"] (sp_initL K T.C_Far n) := by
  have G_given_form : FnOk P w K mg base CX0 (2 * n + 13) T.f_given_form T.fd_given_form ["value"]  (sp_rowL K T.C_Far n) := given_formL T n
  refine funD_ok0 T.F_Far___init__ sc_Far___init__ (fun vs H Q E h => ?_) (fun cdv A outer s H vs Q E hr h => ?_)
  · obtain ⟨a, dx, b, us, ds, rfl, _⟩ := h
    rfl
  · obtain ⟨a, dx, b, us, ds, rfl, ha, hb, hD, fA, hA, hw, hdd, hn, q⟩ := h
    refine ⟨_, (pss_one (ps_fld (pv 0) (pe_call G_given_form (hr.mono (by omega)) (by rfl) T.g_given_form T.F_given_form.kp T.b_given_form .nil pass0 (pa_cons (pv 1) pa_nil)) rfl)), ?_⟩
    refine ⟨_, rfl, b, us, ds, rfl, hb, hD, fA, hA, hw, hdd, hn, fun v d H1 f e dp wd D1 sm1 => ?_⟩
    refine ⟨_, rfl, a, T.C_Far, dx, [], rfl, sm1 _ _ ha, T.k_Far, T.n_Far, by show 0 < 1000; decide, ?_⟩
    refine q v d _ f e dp wd upd_same (dp_tk (tk_mut (p := a) ?_) f D1) (fun b o hb e => ?_)
    · rw [sm1 _ _ ha]
      trivial
    · rw [upd_ne hb]
      exact sm1 _ _ e
/-- a call of the class with a list: a new Far -/
theorem new_farL {C : Addr} {H : Hp} {b : Addr} {us : List V} {ds : List PyData} {n : Nat} {Q : VK} {E : XK} (hb : H b = some (.lst us)) (hD : NumFs K C H us ds) (fA : FmAll ds) (hA : Asc (vals ds)) (hw : 1 + wtAll ds ≤ 2000) (hdd : ∀ d ∈ ds, d.depth ≤ n) (hn : n ≤ 5)
    (q : ∀ a d H', H a = none → Fm d → val d = tv (vals ds) → d.depth ≤ n + 1 → wt d ≤ 1 + wtAll ds → FarAt K C H' a d → Same H H' → Q (.ref a) H') :
    ∀ a dx, H a = none → H dx = none → dx ≠ a → sp_initL K C n (.ref a :: ([.ref b] ++ [])) (upd (upd H dx (.own a)) a (.ins C dx [])) (fun v H2 => v = .non ∧ Q (.ref a) H2) E := fun a dx na nd ne => by
  have s2 : Same H (upd (upd H dx (.own a)) a (.ins C dx [])) := fun b o e => by
    rw [upd_ne (ne_of_none e na), upd_ne (ne_of_none e nd)]
    exact e
  refine ⟨a, dx, b, us, ds, rfl, upd_same, s2 _ _ hb, hD.same s2, fA, hA, hw, hdd, hn, fun v d H' f e dp wd h1 D g => ⟨rfl, q a d H' na f e dp wd ⟨dx, v, h1, D, f⟩ fun b o z => g b o (ne_of_none z na) (s2 _ _ z)⟩⟩
end
end K37
set_option Elab.async false
set_option linter.all false
set_option maxRecDepth 100000
set_option pp.deepTerms false
set_option pp.maxSteps 1500
/-! comparisons of a Far with a number -/
namespace K37
open PySem PySem.Spec PyProof.Rows L2 HX TV FM DX FB FC PM FI
local macro_rules | `(tactic| walk_at "r") => `(tactic| (repeat (first | refine Exists.intro _ (And.intro rfl ?_) | refine And.intro rfl ?_ | refine Exists.intro _ (Exists.intro _ (And.intro rfl (And.intro rfl ?_))) | refine And.intro (by omega) ?_ | refine And.intro (Or.inl (And.intro (by omega) (by omega))) ?_ | refine And.intro (Or.inr (And.intro (by omega) (by omega))) ?_ | refine And.intro (And.intro (by omega) (by omega)) ?_ | refine And.intro (And.intro (by decide) (And.intro (by decide) (by decide))) ?_ | refine Or.inl (Exists.intro _ (And.intro rfl ?_)) | (dsimp only [gName]; first | with_reducible refine seqC ?_ | with_reducible refine asgC ?_))))
local macro_rules | `(tactic| walk_at "s") => `(tactic| (repeat (first | refine Exists.intro _ (And.intro rfl ?_) | refine And.intro rfl ?_ | refine Exists.intro _ (Exists.intro _ (And.intro rfl (And.intro rfl ?_))) | refine And.intro (by omega) ?_ | refine And.intro (Or.inl (And.intro (by omega) (by omega))) ?_ | refine And.intro (Or.inr (And.intro (by omega) (by omega))) ?_ | refine And.intro (And.intro (by omega) (by omega)) ?_ | refine And.intro (And.intro (by decide) (And.intro (by decide) (by decide))) ?_ | refine Or.inl (Exists.intro _ (And.intro rfl ?_)) | refine Exists.intro _ (Exists.intro _ (And.intro rfl ?_)) | (dsimp only [gName]; first | with_reducible refine seqC ?_ | with_reducible refine asgC ?_))))
section
variable {P : Program} {w : World} {K : PySem.W.Frag} {mg : Str → Option Value} {base : Heap}
def sp_cmpF (K : PySem.W.Frag) (C : Addr) (f : Int → Bool) : Sp := fun vs H Q _ => ∃ (a : Addr) (y : V) (d e : PyData), vs = [.ref a, y] ∧ FarAt K C H a d ∧ Num K C H y e ∧ d.depth ≤ 6 ∧ e.depth ≤ 6 ∧ ∀ H', Same H H' → Q (.bl (f (sg (val d) (val e)))) H'
/-- == of a Far and a number, of any form -/
def sp_eqF (K : PySem.W.Frag) (C : Addr) : Sp := fun vs H Q _ => ∃ (a : Addr) (y : V) (d e : PyData), vs = [.ref a, y] ∧ FarAt K C H a d ∧ Num K C H y e ∧ d.depth ≤ 6 ∧ e.depth ≤ 6 ∧ ∀ H', Same H H' → Q (.bl (decide (val d = val e))) H'
/-- == of a Far and what is no number -/
def sp_eqO (K : PySem.W.Frag) (C : Addr) : Sp := fun vs H Q _ => ∃ (a : Addr) (y : V) (d : PyData), vs = [.ref a, y] ∧ FarAt K C H a d ∧ Odd K C H y ∧ Q (.bl false) H
theorem ok_Far___eq__F (T : Top K mg) : FnOk P w K mg base CX0 (4) T.f_Far___eq__ T.fd_Far___eq__ ["self", "other"]  (sp_eqF K T.C_Far) := by
  have G_operand : FnOk P w K mg base CX0 (3) T.f_operand T.fd_operand ["value"]  (sp_operand K T.C_Far) := ok_operand T
  refine T.F_Far___eq__.ok sc_Far___eq__ (fun vs H Q E h => ?_) (fun cdv A outer s H vs Q E hr h => ?_)
  · obtain ⟨a, y, d, e, rfl, _⟩ := h
    rfl
  · obtain ⟨a, y, d, e, rfl, hx, hy, hd, he, q⟩ := h
    refine ⟨_, (pss_cons (ps_set (i := 2) sc_Far___eq__.nd rfl (Or.inl rfl) (pe_call G_operand (hr.mono (by omega)) (by rfl) T.g_operand T.F_operand.kp T.b_operand .nil pass0 (pa_cons (pv 1) pa_nil)))
    (pss_one (ps_ret (pe_and (pe_cmpR op_notN (pv 2) pe_non (nomark _)) (pe_one (pe_cmpR (op_eqD hr.units) (pe_fld (pv 0) rfl) (pv 2) (nomark _))))))), ?_⟩
    obtain ⟨dx, vd, h1, h2, h3⟩ := hx
    have hfe := Num.fm hy
    refine ⟨_, rfl, y, e, rfl, hy, fun v H1 D1 sm1 => ?_⟩
    dsimp only [gName]
    walk_at "r"
    rw [decide_eq_false (fun z => by
      rw [z] at D1
      cases D1
      simp [Fm] at hfe)]
    refine iteT ?_
    refine ⟨_, rfl, a, _, dx, _, vd, rfl, sm1 _ _ h1, T.k_Far, T.n_Far, lk_own _, _, rfl, d, e, dp_tk (tk_same sm1) h3 h2, D1, shaped_fm h3 (by omega), shaped_fm hfe (by omega), ?_⟩
    rw [eqv_val h3 hfe]
    exact q H1 sm1
theorem ok_Far___eq__O (T : Top K mg) : FnOk P w K mg base CX0 (4) T.f_Far___eq__ T.fd_Far___eq__ ["self", "other"]  (sp_eqO K T.C_Far) := by
  have G_operand : FnOk P w K mg base CX0 (3) T.f_operand T.fd_operand ["value"]  (sp_operandO K T.C_Far) := ok_operandO T
  refine T.F_Far___eq__.ok sc_Far___eq__ (fun vs H Q E h => ?_) (fun cdv A outer s H vs Q E hr h => ?_)
  · obtain ⟨a, y, d, rfl, _⟩ := h
    rfl
  · obtain ⟨a, y, d, rfl, hx, hy, q⟩ := h
    refine ⟨_, (pss_cons (ps_set (i := 2) sc_Far___eq__.nd rfl (Or.inl rfl) (pe_call G_operand (hr.mono (by omega)) (by rfl) T.g_operand T.F_operand.kp T.b_operand .nil pass0 (pa_cons (pv 1) pa_nil)))
    (pss_one (ps_ret (pe_and (pe_cmpR op_notN (pv 2) pe_non (nomark _)) (pe_one (pe_cmpR (op_eqD hr.units) (pe_fld (pv 0) rfl) (pv 2) (nomark _))))))), ?_⟩
    refine ⟨_, rfl, y, rfl, hy, ?_⟩
    dsimp only [gName]
    walk_at "r"
    exact q
end
end K37
set_option Elab.async false
set_option linter.all false
set_option maxRecDepth 100000
set_option pp.deepTerms false
set_option pp.maxSteps 1500
set_option maxHeartbeats 1000000
/-! Fars made of nested lists of turns (laws k37 to k41) -/
namespace K37
open PySem PySem.Spec PyProof.Rows L2 HX TV FM DX FB FC PM FI
local macro_rules | `(tactic| walk_at "r") => `(tactic| (repeat (first | refine Exists.intro _ (And.intro rfl ?_) | refine And.intro rfl ?_ | refine Exists.intro _ (Exists.intro _ (And.intro rfl (And.intro rfl ?_))) | refine And.intro (by omega) ?_ | refine And.intro (Or.inl (And.intro (by omega) (by omega))) ?_ | refine And.intro (Or.inr (And.intro (by omega) (by omega))) ?_ | refine And.intro (And.intro (by omega) (by omega)) ?_ | refine And.intro (And.intro (by decide) (And.intro (by decide) (by decide))) ?_ | refine Or.inl (Exists.intro _ (And.intro rfl ?_)) | (dsimp only [gName]; first | with_reducible refine seqC ?_ | with_reducible refine asgC ?_))))
local macro_rules | `(tactic| walk_at "s") => `(tactic| (repeat (first | refine Exists.intro _ (And.intro rfl ?_) | refine And.intro rfl ?_ | refine Exists.intro _ (Exists.intro _ (And.intro rfl (And.intro rfl ?_))) | refine And.intro (by omega) ?_ | refine And.intro (Or.inl (And.intro (by omega) (by omega))) ?_ | refine And.intro (Or.inr (And.intro (by omega) (by omega))) ?_ | refine And.intro (And.intro (by omega) (by omega)) ?_ | refine And.intro (And.intro (by decide) (And.intro (by decide) (by decide))) ?_ | refine Or.inl (Exists.intro _ (And.intro rfl ?_)) | refine Exists.intro _ (Exists.intro _ (And.intro rfl ?_)) | (dsimp only [gName]; first | with_reducible refine seqC ?_ | with_reducible refine asgC ?_))))
section
variable {P : Program} {w : World} {K : PySem.W.Frag} {mg : Str → Option Value} {base : Heap}
/-- what Far takes: a number or a form, or a list of such (nested m deep at most), and the form that it means -/
inductive Giv (K : PySem.W.Frag) (C : Addr) (H : Hp) : Nat → Nat → V → PyData → Prop
  | num {m n : Nat} {x : V} {d : PyData} (h : NumF K C H x d) (hw : wt d ≤ 2000) (hd : d.depth ≤ n) : Giv K C H m n x d
  | lst {m n : Nat} {a : Addr} {us : List V} {ds : List PyData} {d : PyData} (h : H a = some (.lst us)) (hl : us.length = ds.length)
      (hx : ∀ (i : Nat) (x : V) (e : PyData), us[i]? = some x → ds[i]? = some e → Giv K C H m n x e) (fA : FmAll ds) (hA : Asc (vals ds)) (hw : 1 + wtAll ds ≤ 2000) (hd : ∀ d ∈ ds, d.depth ≤ n)
      (f : Fm d) (e : val d = tv (vals ds)) : Giv K C H (m + 1) (n + 1) (.ref a) d
theorem Giv.keep {C : Addr} {H H' : Hp} {m n : Nat} {x : V} {d : PyData} (h : Giv K C H m n x d) (e : ∀ a us, H a = some (.lst us) → H' a = some (.lst us)) (hf : ∀ x d, NumF K C H x d → NumF K C H' x d) : Giv K C H' m n x d := by
  induction h with
  | num h hw hd => exact .num (hf _ _ h) hw hd
  | lst h hl hx fA hA hw hd f ev ih => exact .lst (e _ _ h) hl ih fA hA hw hd f ev
theorem Giv.same {C : Addr} {H H' : Hp} {m n : Nat} {x : V} {d : PyData} (h : Giv K C H m n x d) (e : Same H H') : Giv K C H' m n x d := h.keep (fun a us z => e _ _ z) fun x d z => z.same e
/-- entries of a list -/
def Givs (K : PySem.W.Frag) (C : Addr) (H : Hp) (m n : Nat) (us : List V) (ds : List PyData) : Prop := us.length = ds.length ∧ ∀ (i : Nat) (x : V) (e : PyData), us[i]? = some x → ds[i]? = some e → Giv K C H m n x e
theorem Givs.len {C : Addr} {H : Hp} {m n : Nat} {us : List V} {ds : List PyData} (h : Givs K C H m n us ds) : us.length = ds.length := h.1
theorem Givs.same {C : Addr} {H H' : Hp} {m n : Nat} {us : List V} {ds : List PyData} (h : Givs K C H m n us ds) (e : Same H H') : Givs K C H' m n us ds := ⟨h.1, fun i x d h1 h2 => (h.2 i x d h1 h2).same e⟩
theorem Givs.get {C : Addr} {H : Hp} {m n : Nat} {us : List V} {ds : List PyData} (h : Givs K C H m n us ds) {i : Nat} {x : V} (hx : us[i]? = some x) : ∃ d, ds[i]? = some d ∧ Giv K C H m n x d := by
  have hi : i < ds.length := by
    have := (List.getElem?_eq_some_iff.mp hx).1
    have := h.1
    omega
  exact ⟨_, List.getElem?_eq_getElem hi, h.2 i _ _ hx (List.getElem?_eq_getElem hi)⟩
def sp_givenG (K : PySem.W.Frag) (C : Addr) (m n : Nat) : Sp := fun vs H Q _ => ∃ x d, vs = [x] ∧ Giv K C H m n x d ∧ n ≤ 6 ∧ ∀ v H', Dp K H' v d → Same H H' → Q v H'
def sp_rowG (K : PySem.W.Frag) (C : Addr) (m n : Nat) : Sp := fun vs H Q _ => ∃ (a : Addr) (us : List V) (ds : List PyData), vs = [.ref a] ∧ H a = some (.lst us) ∧ Givs K C H m n us ds ∧ FmAll ds ∧ Asc (vals ds) ∧ 1 + wtAll ds ≤ 2000 ∧ (∀ d ∈ ds, d.depth ≤ n) ∧ n ≤ 5 ∧
  ∀ v d H', Fm d → val d = tv (vals ds) → d.depth ≤ n + 1 → wt d ≤ 1 + wtAll ds → Dp K H' v d → Same H H' → Q v H'
theorem row_formG (T : Top K mg) (m n : Nat) (hG : FnOk P w K mg base CX0 (2 * n + 2 * m + 11) T.f_given_form T.fd_given_form ["value"]  (sp_givenG K T.C_Far m n)) : FnOk P w K mg base CX0 (2 * n + 2 * m + 12) T.f_row_form T.fd_row_form ["members"]  (sp_rowG K T.C_Far m n) := by
  have G_given_form : FnOk P w K mg base CX0 (2 * n + 2 * m + 11) T.f_given_form T.fd_given_form ["value"]  (sp_givenG K T.C_Far m n) := hG
  have G_negative : FnOk P w K mg base CX0 (1) T.f_negative T.fd_negative ["x"]  (sp_neg K) := ok_negative T
  have G_order : FnOk P w K mg base CX0 (n + 3) T.f_order T.fd_order ["x", "y"]  (sp_ord K n) := ok_order T n
  have G_made : FnOk P w K mg base CX0 (1) T.f_made T.fd_made ["found"]  (sp_made K) := ok_made T
  have G_kept : FnOk P w K mg base CX0 (0 + 8) T.f_kept T.fd_kept ["x"]  (sp_kept K) := ok_kept T
  refine T.F_row_form.ok sc_row_form (fun vs H Q E h => ?_) (fun cdv Ar outer s H vs Q E hr h => ?_)
  · obtain ⟨a, us, ds, rfl, _⟩ := h
    rfl
  · obtain ⟨a, us, ds, rfl, hsq, hD, fA, hA, hw, hdd, hn, q⟩ := h
    have hll := hD.len
    have hul := len_wt ds
    refine ⟨_, (pss_cons (ps_set (i := 1) sc_row_form.nd rfl (Or.inl rfl) (pe_lst pa_nil))
    (pss_cons (ps_for PassesOwn.never rfl (pi_enum (by rfl) T.m_enumerate (pa_cons (pv 0) pa_nil)) (pg_tup rfl (pgs_cons (pg_name (i := 2) sc_row_form.nd rfl (Or.inl rfl)) (pgs_cons (pg_name (i := 3) sc_row_form.nd rfl (Or.inl rfl)) pgs_nil)))
      (pss_cons (ps_set (i := 4) sc_row_form.nd rfl (Or.inl rfl) (pe_call G_given_form (hr.mono (by omega)) (by rfl) T.g_given_form T.F_given_form.kp T.b_given_form .nil pass0 (pa_cons (pv 3) pa_nil)))
      (pss_cons (ps_if (PW.pt (pw_or (pt_val (pe_call G_negative (hr.mono (by omega)) (by rfl) T.g_negative T.F_negative.kp T.b_negative .nil pass0 (pa_cons (pv 4) pa_nil)) (fun _ => rfl)) (pw_or1 (PW.pt (pw_and (pt_cmpR op_gt (pv 2) pe_int (nomark _)) (pw_and1 (pt_cmpR op_ge (pe_call G_order (hr.mono (by omega)) (by rfl) T.g_order T.F_order.kp T.b_order .nil pass0 (pa_cons (pe_ix ix_list (pv 1) (pe_un un_neg pe_int) (fun _ _ => rfl)) (pa_cons (pv 4) pa_nil))) pe_int (nomark _))))))))
        (pss_one ps_never)
        pss_nil)
      (pss_one (ps_expr (pe_bm PySem.F.plainAttrs_list PySem.F.slot_list_append PySem.F.type_list_append mt_append (pv 1) (pa_cons (pv 4) pa_nil)))))))
    (pss_one (ps_ret (pe_call G_kept (hr.mono (by omega)) (by rfl) T.g_kept T.F_kept.kp T.b_kept .nil pass0 (pa_cons (pe_call G_made (hr.mono (by omega)) (by rfl) T.g_made T.F_made.kp T.b_made .nil pass0 (pa_cons (pv 1) pa_nil)) pa_nil)))))), ?_⟩
    refine ⟨len_le (Nat.le_of_ble_eq_true rfl), fun l nl => ?_⟩
    generalize eH1 : upd H l _ = H1
    obtain ⟨sl, hl⟩ := new_step nl eH1
    clear eH1
    have hsq1 := sl _ _ hsq
    have hD1 := hD.same sl
    dsimp only [gName]
    have mu : ∀ {H'' : Hp} {zs : List V}, H'' l = some (.lst zs) → Mut (H'' l) := fun z => by
      rw [z]
      trivial
    have nal : a ≠ l := fun z => by rw [z, nl] at hsq; cases hsq
    refine ⟨_, rfl, a, us, rfl, .inl (.inl hsq1), flE (xs := us) (fun i σ H' => ∃ (z2 z3 z4 : Option V) (zs : List V), σ = [some (.ref a), some (.ref l), z2, z3, z4] ∧ H' l = some (.lst zs) ∧ DpAll K H' zs (ds.take i) ∧ But l H1 H')
      ⟨none, none, none, [], rfl, hl, .nil, But.refl _⟩ ?_ ?_ ?_⟩
    · rintro i σ H' _ ⟨_, _, _, zs, _, _, _, bt⟩
      exact .inl (.inl (bt _ _ nal hsq1))
    · rintro i x σ H' hx ⟨z2, z3, z4, zs, rfl, hl', hZ, bt⟩ Tt nT D' B
      obtain ⟨e, he, hx'⟩ := (hD.same (fun b o z => bt b o (ne_of_none z nl) (sl _ _ z))).get hx
      have hil := (List.getElem?_eq_some_iff.mp he).1
      have hme := List.mem_of_getElem? he
      have fe := fmAll_mem fA e hme
      have wte := wt_mem hme
      have dpe := hdd e hme
      have sT := sm_upd (o := .tup [.int (i : Nat), x]) nT
      refine ⟨Tt, _, rfl, .inl (.inl upd_same), rfl, _, _, rfl, _, _, rfl, rfl, ?_⟩
      revert sT
      generalize upd H' Tt (.tup [.int (i : Nat), x]) = H2
      intro sT
      have hl2 := sT _ _ hl'
      have hZ2 := dpAll_tk (tk_same sT) (fmAll_sub (List.take_sublist i ds) fA) hZ
      have bt2 := bt.trans (But.of sT)
      walk_at "r"
      refine ⟨x, e, rfl, hx'.same sT, by omega, fun v H3 D3 sm3 => ?_⟩
      have hl3 := sm3 _ _ hl2
      have hZ3 := dpAll_tk (tk_same sm3) (fmAll_sub (List.take_sublist i ds) fA) hZ2
      have bt3 := bt2.trans (But.of sm3)
      have lzs := dpAll_len hZ3
      rw [List.length_take] at lzs
      dsimp only [gName]
      refine ⟨_, rfl, v, e, rfl, D3, fe.1, ?_⟩
      rw [decide_eq_false (by omega)]
      refine ⟨_, rfl, iteF ?_⟩
      have fin : ∀ H4, Same H3 H4 → D'.nx [some (.ref a), some (.ref l), some (.int (i : Nat)), some x, some v] (upd H4 l (.lst (zs ++ [v]))) := fun H4 sm4 => by
        refine B.nx _ _ ⟨_, _, _, zs ++ [v], rfl, upd_same, ?_, ?_⟩
        · have z4 : DpAll K H4 (zs ++ [v]) (ds.take (i + 1)) := by
            rw [List.take_add_one, he]
            exact dpAll_app (dpAll_tk (tk_same sm4) (fmAll_sub (List.take_sublist i ds) fA) hZ3) (.cons (dp_tk (tk_same sm4) fe.1 D3) .nil)
          exact dpAll_tk (tk_mut (mu (sm4 _ _ hl3))) (fmAll_sub (List.take_sublist (i + 1) ds) fA) z4
        · exact (bt3.trans (But.of sm4)).upd
      walk_at "r"
      refine ifD (fun hz => ?_) (fun hz => ?_)
      · obtain ⟨j, rfl⟩ : ∃ j, i = j + 1 := ⟨i - 1, by omega⟩
        obtain ⟨p, hp⟩ : ∃ p, ds[j]? = some p := ⟨ds[j], List.getElem?_eq_getElem (by omega)⟩
        have fp := fmAll_mem fA p (List.mem_of_getElem? hp)
        have hpt : (ds.take (j + 1))[j]? = some p := by rw [List.getElem?_take, if_pos (by omega)]; exact hp
        obtain ⟨vp, hvp, Dpp⟩ := dpAll_at hZ3 hpt
        have hlt : val p < val e := by
          have h1 := vals_at hp
          have h2 := vals_at he
          have := asc_pairwise.mp hA
          rw [List.pairwise_iff_getElem] at this
          obtain ⟨q1, q2⟩ := List.getElem?_eq_some_iff.mp h1
          obtain ⟨q3, q4⟩ := List.getElem?_eq_some_iff.mp h2
          have := this j (j + 1) q1 q3 (by omega)
          rw [q2, q4] at this
          show val p < val e
          have e1 : vl p = (val p).toNat := rfl
          have e2 : vl e = (val e).toNat := rfl
          omega
        walk_at "r"
        refine ⟨l, zs, -1, vp, rfl, rfl, .inl (.inl hl3), atI_neg1 (by rw [show zs.length - 1 = j by omega]; exact hvp), ?_⟩
        have dpp := hdd p (List.mem_of_getElem? hp)
        walk_at "r"
        refine ⟨vp, v, p, e, rfl, Dpp, D3, fp.1, fe.1, by omega, by omega, by omega, fun H4 sm4 => ?_⟩
        rw [sg_lt hlt]
        walk_at "r"
        refine ⟨.inl ⟨rfl, _, .inl (.inl (sm4 _ _ hl3))⟩, _, rfl, l, _, _, rfl, rfl, sm4 _ _ hl3, len_lt (by omega), fin H4 sm4⟩
      · dsimp only [tNext]
        refine ⟨_, rfl, .inl ⟨rfl, _, .inl (.inl hl3)⟩, _, rfl, l, _, _, rfl, rfl, hl3, len_lt (by omega), fin H3 (Same.refl _)⟩
    · rintro σ H' ⟨z2, z3, z4, zs, rfl, hl', hZ, bt⟩
      rw [hll, List.take_length] at hZ
      walk_at "r"
      refine ⟨l, zs, ds, rfl, .inl (.inl (.inl hl')), hZ, fA, hA, fun v d2 H2 f2 e2 dp2 w2 D2 sm2 => ?_⟩
      have dpl : PyData.depthAll ds ≤ n := depthAll_le.mpr hdd
      refine ⟨v, d2, rfl, D2, f2, by omega, by omega, fun H3 sm3 => ?_⟩
      refine q v d2 H3 f2 e2 (by omega) (by omega) (dp_tk (tk_same sm3) f2 D2) (fun b o z => ?_)
      exact sm3 _ _ (sm2 _ _ (bt b o (ne_of_none z nl) (sl _ _ z)))
theorem given_formGL (T : Top K mg) (m n : Nat) (hR : FnOk P w K mg base CX0 (2 * n + 2 * m + 12) T.f_row_form T.fd_row_form ["members"]  (sp_rowG K T.C_Far m n)) : FnOk P w K mg base CX0 (2 * n + 2 * m + 13) T.f_given_form T.fd_given_form ["value"]  (sp_rowG K T.C_Far m n) := by
  have G_row_form : FnOk P w K mg base CX0 (2 * n + 2 * m + 12) T.f_row_form T.fd_row_form ["members"]  (sp_rowG K T.C_Far m n) := hR
  have G_is_int : FnOk P w K mg base CX0 (1) T.f_is_int T.fd_is_int ["value"]  (sp_isintO K T.C_Far) := ok_is_intO T
  have G_of_int : FnOk P w K mg base CX0 (2) T.f_of_int T.fd_of_int ["number"]  (sp_ofint K) := ok_of_int T
  have G_kept : FnOk P w K mg base CX0 (0 + 8) T.f_kept T.fd_kept ["x"]  (sp_kept K) := ok_kept T
  refine T.F_given_form.ok sc_given_form (fun vs H Q E h => ?_) (fun cdv A outer s H vs Q E hr h => ?_)
  · obtain ⟨a, us, ds, rfl, _⟩ := h
    rfl
  · obtain ⟨a, us, ds, rfl, hsq, hD, fA, hA, hw, hdd, hn, q⟩ := h
    refine ⟨_, (pss_cons (ps_if (pt_val (pe_callB call_isi (by rfl) T.m_isinstance (by decide +kernel) (pa_cons (pv 0) (pa_cons (pe_glob (v := .ref T.C_Far) (by rfl) T.g_Far rfl) pa_nil))) (fun _ => rfl))
      (pss_one (ps_ret (pe_fld (pv 0) rfl)))
      pss_nil)
    (pss_cons (ps_if (pt_val (pe_call G_is_int (hr.mono (by omega)) (by rfl) T.g_is_int T.F_is_int.kp T.b_is_int .nil pass0 (pa_cons (pv 0) pa_nil)) (fun _ => rfl))
      (pss_one (ps_ret (pe_call G_kept (hr.mono (by omega)) (by rfl) T.g_kept T.F_kept.kp T.b_kept .nil pass0 (pa_cons (pe_call G_of_int (hr.mono (by omega)) (by rfl) T.g_of_int T.F_of_int.kp T.b_of_int .nil pass0 (pa_cons (pv 0) pa_nil)) pa_nil))))
      pss_nil)
    (pss_cons (ps_if (pt_val (pe_callB call_isiT (by rfl) T.m_isinstance (by decide +kernel) (pa_cons (pv 0) (pa_cons (pe_tup (pa_cons (pe_bltn (v := .ty "list") (by rfl) T.m_list (by decide +kernel) rfl) (pa_cons (pe_bltn (v := .ty "tuple") (by rfl) T.m_tuple (by decide +kernel) rfl) pa_nil))) pa_nil))) (fun _ => rfl))
      (pss_one (ps_ret (pe_call G_row_form (hr.mono (by omega)) (by rfl) T.g_row_form T.F_row_form.kp T.b_row_form .nil pass0 (pa_cons (pv 0) pa_nil))))
      pss_nil)
    (pss_one ps_never)))), ?_⟩
    have tyl : ∀ {H' : Hp}, H' a = some (.lst us) → TyX K H' (.ref a) (.type "list") := fun e => .base (.lst e)
    refine ⟨_, rfl, _, _, _, _, false, rfl, .own _, tyl hsq, T.I_Far.lk, ?_⟩
    refine ⟨_, rfl, iteF ?_⟩
    dsimp only [tNext]
    refine ⟨_, rfl, _, "list", false, rfl, tyl hsq, .inl ⟨by decide +kernel, rfl⟩, ?_⟩
    refine ⟨_, rfl, iteF ?_⟩
    dsimp only [tNext]
    refine ⟨_, rfl, by show 2 ≤ sizeLine; decide, fun t nt => ?_⟩
    have st := sm_upd (o := .tup [.ty "list", .ty "tuple"]) nt
    refine ⟨_, _, _, _, _, true, rfl, upd_same, .cons (.ty "list") (.cons (.ty "tuple") .nil), tyl (st _ _ hsq), ?_, ?_⟩
    · exact kitAny_cons (kit_ty (by decide +kernel : kitB "list" "list" = some true)) (fun z => absurd z (by decide)) fun _ => rfl
    refine ⟨_, rfl, iteT ?_⟩
    refine ⟨_, rfl, a, us, ds, rfl, st _ _ hsq, hD.same st, fA, hA, hw, hdd, hn, fun v d H' f e dp wd D sm => ?_⟩
    exact q v d H' f e dp wd D (st.trans sm)
theorem fm_of_val {d d' : PyData} (f : Fm d) (f' : Fm d') (e : val d = val d') : d = d' := fm_inj f f' e
theorem ok_given_formG (T : Top K mg) : ∀ m n, n ≤ 5 → FnOk P w K mg base CX0 (2 * n + 2 * m + 11) T.f_given_form T.fd_given_form ["value"]  (sp_givenG K T.C_Far m n) := by
  intro m
  induction m with
  | zero =>
    intro n hn
    exact (ok_given_formF T n).imp fun vs H Q E ⟨x, d, e, g, hn6, q⟩ => by
      cases g with
      | num h hw hd => exact ⟨x, d, e, h, hw, hd, hn6, q⟩
  | succ m ih =>
    intro n hn
    cases n with
    | zero =>
      refine FnOk.mono (ok_given_formF T 0) (by omega) |>.imp fun vs H Q E ⟨x, d, e, g, hn6, q⟩ => ?_
      cases g with
      | num h hw hd => exact ⟨x, d, e, h, hw, hd, hn6, q⟩
    | succ n =>
      have hR := given_formGL T m n (row_formG T m n (ih n (by omega)))
      have h1 : FnOk P w K mg base CX0 (2 * n + 2 * m + 15) T.f_given_form T.fd_given_form ["value"]  (sp_givenF K T.C_Far (n + 1)) := FnOk.mono (ok_given_formF T (n + 1)) (by omega)
      have h2 : FnOk P w K mg base CX0 (2 * n + 2 * m + 15) T.f_given_form T.fd_given_form ["value"]  (sp_rowG K T.C_Far m n) := FnOk.mono hR (by omega)
      rw [show 2 * (n + 1) + 2 * (m + 1) + 11 = 2 * n + 2 * m + 15 by omega]
      refine (ok_or h1 h2).imp fun vs H Q E ⟨x, d, e, g, hn6, q⟩ => ?_
      cases g with
      | num h hw hd => exact .inl ⟨x, d, e, h, hw, hd, hn6, q⟩
      | lst h hl hx fA hA hw hd f ev =>
        refine .inr ⟨_, _, _, e, h, ⟨hl, hx⟩, fA, hA, hw, hd, by omega, fun v d' H' f' e' _ _ D sm => ?_⟩
        obtain rfl := fm_of_val f' f (by rw [e', ev])
        exact q v H' D sm
/-- a new Far of nested lists -/
def sp_initG (K : PySem.W.Frag) (C : Addr) (m n : Nat) : Sp := fun vs H Q _ => ∃ (a dx : Addr) (x : V) (d : PyData), vs = [.ref a, x] ∧ H a = some (.ins C dx []) ∧ Giv K C H m n x d ∧ Fm d ∧ n ≤ 5 ∧
  ∀ v H', H' a = some (.ins C dx [(("own_form" : Str), v)]) → Dp K H' v d → (∀ b o, b ≠ a → H b = some o → H' b = some o) → Q .non H'
theorem ok_Far___init__G (T : Top K mg) (m n : Nat) (hn5 : n ≤ 5) : FnOk P w K mg base CX0 (2 * n + 2 * m + 12) T.f_Far___init__ T.fd_Far___init__ ["self", "value"] (sp_initG K T.C_Far m n) := by
  have G_given_form : FnOk P w K mg base CX0 (2 * n + 2 * m + 11) T.f_given_form T.fd_given_form ["value"]  (sp_givenG K T.C_Far m n) := ok_given_formG T m n hn5
  refine funD_ok0 T.F_Far___init__ sc_Far___init__ (fun vs H Q E h => ?_) (fun cdv A outer s H vs Q E hr h => ?_)
  · obtain ⟨a, dx, x, d, rfl, _⟩ := h
    rfl
  · obtain ⟨a, dx, x, d, rfl, ha, hx, fd, hn, q⟩ := h
    refine ⟨_, (pss_one (ps_fld (pv 0) (pe_call G_given_form (hr.mono (by omega)) (by rfl) T.g_given_form T.F_given_form.kp T.b_given_form .nil pass0 (pa_cons (pv 1) pa_nil)) rfl)), ?_⟩
    refine ⟨_, rfl, x, d, rfl, hx, by omega, fun v H1 D1 sm1 => ?_⟩
    refine ⟨_, rfl, a, T.C_Far, dx, [], rfl, sm1 _ _ ha, T.k_Far, T.n_Far, by show 0 < 1000; decide, ?_⟩
    refine q v _ upd_same (dp_tk (tk_mut (p := a) ?_) fd D1) (fun b o hb e => ?_)
    · rw [sm1 _ _ ha]
      trivial
    · rw [upd_ne hb]
      exact sm1 _ _ e
end
end K37
set_option Elab.async false
set_option linter.all false
set_option maxRecDepth 100000
set_option pp.deepTerms false
set_option pp.maxSteps 1500
set_option maxHeartbeats 1000000
/-! groups of small ints: the law's turns (laws k37 to k41) -/
namespace K37
open PySem PySem.Spec PyProof.Rows L2 HX TV FM DX FB FC PM FI GL
local macro_rules | `(tactic| walk_at "r") => `(tactic| (repeat (first | refine Exists.intro _ (And.intro rfl ?_) | refine And.intro rfl ?_ | refine Exists.intro _ (Exists.intro _ (And.intro rfl (And.intro rfl ?_))) | refine And.intro (by omega) ?_ | refine And.intro (Or.inl (And.intro (by omega) (by omega))) ?_ | refine And.intro (Or.inr (And.intro (by omega) (by omega))) ?_ | refine And.intro (And.intro (by omega) (by omega)) ?_ | refine And.intro (And.intro (by decide) (And.intro (by decide) (by decide))) ?_ | refine Or.inl (Exists.intro _ (And.intro rfl ?_)) | (dsimp only [gName]; first | with_reducible refine seqC ?_ | with_reducible refine asgC ?_))))
local macro_rules | `(tactic| walk_at "s") => `(tactic| (repeat (first | refine Exists.intro _ (And.intro rfl ?_) | refine And.intro rfl ?_ | refine Exists.intro _ (Exists.intro _ (And.intro rfl (And.intro rfl ?_))) | refine And.intro (by omega) ?_ | refine And.intro (Or.inl (And.intro (by omega) (by omega))) ?_ | refine And.intro (Or.inr (And.intro (by omega) (by omega))) ?_ | refine And.intro (And.intro (by omega) (by omega)) ?_ | refine And.intro (And.intro (by decide) (And.intro (by decide) (by decide))) ?_ | refine Or.inl (Exists.intro _ (And.intro rfl ?_)) | refine Exists.intro _ (Exists.intro _ (And.intro rfl ?_)) | (dsimp only [gName]; first | with_reducible refine seqC ?_ | with_reducible refine asgC ?_))))
section
variable {P : Program} {w : World} {K : PySem.W.Frag} {mg : Str → Option Value} {base : Heap}
/-- the bit below a place -/
def bl (n : Int) (a : Nat) : Bool := if a = 0 then false else tb n (a - 1)
theorem bl_succ (n : Int) (a : Nat) : bl n (a + 1) = tb n a := by
  unfold bl
  rw [if_neg (by omega), Nat.add_sub_cancel]
theorem turn_iff (n : Int) (p : Nat) : p ∈ turnsOf n ↔ tb n p ≠ bl n p := by
  have := mem_tb (turnsOf_asc n) p
  rw [turnsOf_tv] at this
  exact this
/-- the turns below a place -/
noncomputable def lowT (n : Int) (a : Nat) : List Nat := (turnsOf n).filter fun t => decide (t < a)
theorem filter_last {ts : List Nat} (h : Asc ts) (a : Nat) : (ts.filter fun t => decide (t < a + 1)) = (ts.filter fun t => decide (t < a)) ++ if a ∈ ts then [a] else [] := by
  rw [asc_pairwise] at h
  induction ts with
  | nil => rfl
  | cons t r ih =>
    rw [List.pairwise_cons] at h
    have ih := ih h.2
    by_cases h1 : t < a
    · rw [List.filter_cons_of_pos (by simpa using Nat.lt_succ_of_lt h1), List.filter_cons_of_pos (by simpa using h1), ih]
      have : a ∈ t :: r ↔ a ∈ r := by
        rw [List.mem_cons]
        exact ⟨fun z => z.resolve_left (by omega), .inr⟩
      simp only [this, List.cons_append]
    · have hr : ∀ x ∈ r, a < x := fun x hx => by have := h.1 x hx; omega
      have e1 : (r.filter fun t => decide (t < a + 1)) = [] := List.filter_eq_nil_iff.mpr fun x hx => by have := hr x hx; simp; omega
      have e2 : (r.filter fun t => decide (t < a)) = [] := List.filter_eq_nil_iff.mpr fun x hx => by have := hr x hx; simp; omega
      rw [List.filter_cons_of_neg (a := t) (p := fun t => decide (t < a)) (by simpa using h1), e2]
      by_cases h2 : t = a
      · subst h2
        rw [List.filter_cons_of_pos (by simp), e1, if_pos List.mem_cons_self]
        rfl
      · rw [List.filter_cons_of_neg (by simp; omega), e1, if_neg]
        · rfl
        · rw [List.mem_cons]
          rintro (z | z)
          · exact h2 z.symm
          · exact absurd (hr a z) (by omega)
theorem lowT_succ (n : Int) (a : Nat) : lowT n (a + 1) = lowT n a ++ if tb n a ≠ bl n a then [a] else [] := by
  unfold lowT
  rw [filter_last (turnsOf_asc n) a]
  simp only [turn_iff]
theorem lowT_zero (n : Int) : lowT n 0 = [] := List.filter_eq_nil_iff.mpr fun t _ => by simp
/-- nothing more above -/
theorem lowT_all {n : Int} {a : Nat} (h : n / 2 ^ a = if bl n a then -1 else 0) : lowT n a = turnsOf n := by
  unfold lowT
  refine List.filter_eq_self.mpr fun t ht => ?_
  rw [decide_eq_true_iff]
  apply Nat.lt_of_not_le
  intro hat
  have hq : ∀ p, a ≤ p → tb n p = bl n a := fun p hp => by
    obtain ⟨k, rfl⟩ : ∃ k, p = a + k := ⟨p - a, by omega⟩
    unfold tb
    rw [Int.pow_add, ← Int.ediv_ediv_of_nonneg (by have := Nat.two_pow_pos a; exact_mod_cast Nat.le_of_lt this), h]
    have h2 : 0 < (2 : Int) ^ k := by have := Nat.two_pow_pos k; exact_mod_cast this
    cases bl n a
    · rw [if_neg (by decide), Int.zero_ediv]
      rfl
    · rw [if_pos rfl]
      have : (-1 : Int) / 2 ^ k = -1 := by
        generalize (2 : Int) ^ k = b at h2
        exact ((Int.ediv_emod_unique (r := b - 1) (q := -1) h2).mpr ⟨by omega, by omega, by omega⟩).1
      rw [this]
      rfl
  have h3 := (turn_iff n t).mp ht
  rw [hq t hat] at h3
  rcases Nat.lt_or_ge a t with h4 | h4
  · have : bl n t = tb n (t - 1) := by unfold bl; rw [if_neg (by omega)]
    rw [this, hq (t - 1) (by omega)] at h3
    exact h3 rfl
  · have : t = a := by omega
    subst this
    exact h3 rfl
theorem div_small {n : Int} {a : Nat} (h : n.natAbs < 2 ^ 40) (ha : 40 ≤ a) : n / 2 ^ a = if n < 0 then -1 else 0 := by
  have h1 : (2 : Nat) ^ 40 ≤ 2 ^ a := Nat.pow_le_pow_right (by decide) ha
  have e : (2 : Int) ^ a = ((2 ^ a : Nat) : Int) := by norm_cast
  rw [e]
  generalize 2 ^ a = b at h1
  split
  · exact ((Int.ediv_emod_unique (r := n + (b : Nat)) (q := -1) (by omega)).mpr ⟨by omega, by omega, by omega⟩).1
  · exact ((Int.ediv_emod_unique (r := n) (q := 0) (by omega)).mpr ⟨by omega, by omega, by omega⟩).1
theorem end_small {n : Int} {a : Nat} (h : n.natAbs < 2 ^ 40) (ha : 41 ≤ a) : n / 2 ^ a = if bl n a then -1 else 0 := by
  have e : bl n a = decide (n < 0) := by
    unfold bl tb
    rw [if_neg (by omega), div_small h (show 40 ≤ a - 1 by omega)]
    by_cases hn : n < 0
    · rw [if_pos hn, decide_eq_true hn]
      rfl
    · rw [if_neg hn, decide_eq_false hn]
      rfl
  rw [div_small h (by omega), e]
  by_cases hn : n < 0
  · rw [if_pos hn, decide_eq_true hn]
    rfl
  · rw [if_neg hn, decide_eq_false hn]
    rfl
theorem lowT_len (n : Int) : ∀ a, (lowT n a).length ≤ a
  | 0 => by rw [lowT_zero]; exact Nat.le_refl _
  | a + 1 => by
    rw [lowT_succ, List.length_append]
    have := lowT_len n a
    split
    · show _ + 1 ≤ _; omega
    · show _ + 0 ≤ _; omega
def bI (b : Bool) : Int := if b then 1 else 0
def sp_gturns : Sp := fun vs H Q _ => ∃ n : Int, vs = [.int n] ∧ n.natAbs < 2 ^ 40 ∧ ∀ l H', Same H H' → H l = none → H' l = some (.lst (nv (turnsOf n))) → Q (.ref l) H'
theorem ok__law_turnsG (T : Top K mg) : FnOk P w K mg base CX0 (1) T.f__law_turns T.fd__law_turns ["_law_number"]  sp_gturns := by
  refine T.F__law_turns.ok sc__law_turns (fun vs H Q E h => ?_) (fun cdv A outer s H vs Q E hr h => ?_)
  · obtain ⟨n, rfl, _⟩ := h
    rfl
  · obtain ⟨n, rfl, hn, q⟩ := h
    refine ⟨_, (pss_cons (ps_par3 (i := 1) (j := 2) (l := 3) rfl sc__law_turns.nd rfl rfl rfl (by decide) (by decide) (by decide) rfl rfl rfl (pa_cons (pe_lst pa_nil) (pa_cons pe_int (pa_cons pe_int pa_nil))) (by rfl))
    (pss_cons (ps_while PassesOwn.never (pt_cmpR op_ne (pe_op op_shr (pv 0) (pv 3)) (pe_un un_neg (pv 2)) (nomark _))
      (pss_cons (ps_if (pt_cmpR op_ne (pe_op op_and (pe_op op_shr (pv 0) (pv 3)) pe_int) (pv 2) (nomark _))
        (pss_cons (ps_expr (pe_bm PySem.F.plainAttrs_list PySem.F.slot_list_append PySem.F.type_list_append mt_append (pv 1) (pa_cons (pv 3) pa_nil)))
        (pss_one (ps_set (i := 2) sc__law_turns.nd rfl (Or.inl rfl) (pe_op op_sub pe_int (pv 2)))))
        pss_nil)
      (pss_one (ps_set (i := 3) sc__law_turns.nd rfl (Or.inl rfl) (pe_op op_add (pv 3) pe_int)))))
    (pss_one (ps_ret (pv 1))))), ?_⟩
    refine ⟨len_le (Nat.le_of_ble_eq_true rfl), fun l nl => ?_⟩
    generalize eH1 : upd H l _ = H1
    obtain ⟨sl, hl⟩ := new_step nl eH1
    clear eH1
    walk_at "r"
    refine ⟨_, _, _, rfl, ?_⟩
    refine ⟨fun m σ H' => ∃ a : Nat, σ = [some (.int n), some (.ref l), some (.int (bI (bl n a))), some (.int (a : Nat))] ∧ 42 ≤ a + m ∧ a ≤ 41 ∧ H' l = some (.lst (nv (lowT n a))) ∧ Same H H', ⟨42, 0, rfl, by omega, by omega, by rw [lowT_zero]; exact hl, sl⟩, ?_⟩
    rintro m σ H' ⟨a, rfl, hm, ha41, hl', sm⟩
    have et : n / 2 ^ (((a : Nat) : Int)).toNat = n / 2 ^ a := by rw [Int.toNat_natCast]
    refine ⟨_, rfl, _, rfl, _, _, rfl, rfl, by omega, ?_⟩
    refine ⟨_, rfl, _, rfl, rfl, _, rfl, ?_⟩
    refine ifNE (fun hc => wb fun D' B => ?_) (fun hc => ?_)
    · rw [et] at hc
      have ha : a ≤ 40 := by
        apply Nat.le_of_not_lt
        intro z
        refine hc ?_
        rw [end_small hn z]
        unfold bI
        cases bl n a <;> rfl
      have hbit : Builtin.bitAnd (n / 2 ^ (((a : Nat) : Int)).toNat) 1 = bI (tb n a) := by
        rw [et, bitAnd_m1]
        unfold tb bI
        have := Int.emod_two_eq (n / 2 ^ a)
        rcases this with e | e
        · rw [e]; rfl
        · rw [e]; rfl
      have hsc := lowT_succ n a
      refine ⟨_, rfl, _, rfl, _, _, rfl, rfl, by omega, _, _, rfl, rfl, _, rfl, rfl, _, rfl, ?_⟩
      refine if_join (fun σ' H1 => σ' = [some (.int n), some (.ref l), some (.int (bI (bl n (a + 1)))), some (.int (a : Nat))] ∧ H1 l = some (.lst (nv (lowT n (a + 1)))) ∧ Same H H1) ?_ (fun D2 J hb => ?_) (fun D2 J hb => ?_)
      · rintro σ' H1 ⟨rfl, h1, h2⟩
        refine ⟨_, rfl, _, _, rfl, rfl, ?_⟩
        exact B.nx _ _ ⟨m - 1, by omega, a + 1, rfl, by omega, by omega, h1, h2⟩
      · have hne : tb n a ≠ bl n a := fun e => by
          have hb2 := of_decide_eq_false ((Bool.not_eq_true' _).mp hb)
          exact hb2 (show V.int (Builtin.bitAnd (n / 2 ^ (((a : Nat) : Int)).toNat) 1) = V.int (bI (bl n a)) by rw [hbit, e])
        rw [if_pos hne] at hsc
        refine ⟨_, rfl, .inl ⟨rfl, _, .inl (.inl hl')⟩, _, rfl, l, _, _, rfl, rfl, hl', len_lt (by have := lowT_len n a; rw [nv_len]; omega), ?_⟩
        refine ⟨_, rfl, _, _, rfl, rfl, ?_⟩
        refine J.nx _ _ ⟨?_, ?_, sm_mut sm nl⟩
        · rw [bl_succ]
          show [some (V.int n), some (V.ref l), some (V.int (1 - bI (bl n a))), some (V.int (a : Nat))] = _
          have : 1 - bI (bl n a) = bI (tb n a) := by
            revert hne
            unfold bI
            cases tb n a <;> cases bl n a <;> simp
          rw [this]
        · rw [upd_same, hsc, ← nv_app]
      · have he : tb n a = bl n a := by
          have hb3 : V.int (Builtin.bitAnd (n / 2 ^ (((a : Nat) : Int)).toNat) 1) = V.int (bI (bl n a)) := by
            apply Classical.byContradiction
            intro z
            exact hb ((Bool.not_eq_true' _).mpr (decide_eq_false z))
          rw [hbit] at hb3
          have hb4 := V.int.inj hb3
          revert hb4
          unfold bI
          cases tb n a <;> cases bl n a <;> simp
        rw [if_neg (by rw [he]; simp), List.append_nil] at hsc
        exact J.nx _ _ ⟨by rw [bl_succ, he], by rw [hsc]; exact hl', sm⟩
    · refine ⟨_, rfl, ?_⟩
      have e : lowT n a = turnsOf n := lowT_all (by
        rw [← et, hc]
        unfold bI
        cases bl n a <;> rfl)
      rw [e] at hl'
      exact q l H' sm nl hl'
end
end K37
set_option Elab.async false
set_option linter.all false
set_option maxRecDepth 100000
set_option pp.deepTerms false
set_option pp.maxSteps 1500
/-! the pen: what is drawn from the script (laws k24 to k33) -/
namespace K37
open PySem PySem.Spec PyProof.Rows L2 HX TV FM
local macro_rules | `(tactic| walk_at "r") => `(tactic| (repeat (first | refine Exists.intro _ (And.intro rfl ?_) | refine And.intro rfl ?_ | refine Exists.intro _ (Exists.intro _ (And.intro rfl (And.intro rfl ?_))) | refine And.intro (by omega) ?_ | refine And.intro (Or.inl (And.intro (by omega) (by omega))) ?_ | refine And.intro (Or.inr (And.intro (by omega) (by omega))) ?_ | refine And.intro (And.intro (by omega) (by omega)) ?_ | refine And.intro (And.intro (by decide) (And.intro (by decide) (by decide))) ?_ | refine Or.inl (Exists.intro _ (And.intro rfl ?_)) | (dsimp only [gName]; first | with_reducible refine seqC ?_ | with_reducible refine asgC ?_))))
local macro_rules | `(tactic| walk_at "s") => `(tactic| (repeat (first | refine Exists.intro _ (And.intro rfl ?_) | refine And.intro rfl ?_ | refine Exists.intro _ (Exists.intro _ (And.intro rfl (And.intro rfl ?_))) | refine And.intro (by omega) ?_ | refine And.intro (Or.inl (And.intro (by omega) (by omega))) ?_ | refine And.intro (Or.inr (And.intro (by omega) (by omega))) ?_ | refine And.intro (And.intro (by omega) (by omega)) ?_ | refine And.intro (And.intro (by decide) (And.intro (by decide) (by decide))) ?_ | refine Or.inl (Exists.intro _ (And.intro rfl ?_)) | refine Exists.intro _ (Exists.intro _ (And.intro rfl ?_)) | (dsimp only [gName]; first | with_reducible refine seqC ?_ | with_reducible refine asgC ?_))))
section
variable {P : Program} {w : World} {K : PySem.W.Frag} {mg : Str → Option Value} {base : Heap}
/-- the pen: its cells, how many were taken, the rest -/
abbrev penV (c : Addr) (i r : Int) : List (Key × V) := tri "cells" "place" "rest" (.ref c) (.int i) (.int r)
theorem dif : Dif "cells" "place" "rest" := ⟨by decide, by decide, by decide⟩
structure Pn where
  p : Addr
  c : Addr
  ns : List Int
def Pen (H : Hp) (τ : Pn) (n : Nat) : Prop := ∃ (i r : Int), H τ.p = some (.dK (penV τ.c i r)) ∧ H τ.c = some (.lst (τ.ns.map V.int)) ∧ τ.ns.length ≤ 63 ∧ 0 ≤ i ∧ i ≤ n
theorem Pen.mono {H H' : Hp} {τ : Pn} {n m : Nat} (h : Pen H τ n) (e : Same H H') (l : n ≤ m) : Pen H' τ m := by
  obtain ⟨i, r, h1, h2, h3, h4, h5⟩ := h
  exact ⟨i, r, e _ _ h1, e _ _ h2, h3, h4, by omega⟩
theorem Pen.le {H : Hp} {τ : Pn} {n m : Nat} (h : Pen H τ n) (l : n ≤ m) : Pen H τ m := h.mono (Same.refl _) l
theorem Pen.up {H H' : Hp} {τ : Pn} {n : Nat} (h : Pen H τ n) (e : Same H H') : Pen H' τ n := h.mono e (Nat.le_refl _)
theorem Pen.dict {H : Hp} {τ : Pn} {n : Nat} (h : Pen H τ n) : ∃ kvs, H τ.p = some (.dK kvs) := by
  obtain ⟨i, r, h1, _⟩ := h
  exact ⟨_, h1⟩
/-- an object that is no dict with keys is not the pen -/
theorem Pen.ne {H : Hp} {τ : Pn} {b : Addr} {n : Nat} {o : HO} (h : Pen H τ n) (e : H b = some o) (no : ∀ kvs, o ≠ .dK kvs) : b ≠ τ.p := by
  obtain ⟨i, r, h1, _⟩ := h
  exact ne_of e h1 (no _)
theorem Pen.neL {H : Hp} {τ : Pn} {b : Addr} {n : Nat} {xs : List V} (h : Pen H τ n) (e : H b = some (.lst xs)) : b ≠ τ.p := h.ne e (fun _ z => by cases z)
theorem Pen.new {H : Hp} {τ : Pn} {b : Addr} {n : Nat} (h : Pen H τ n) (e : H b = none) : b ≠ τ.p ∧ b ≠ τ.c := by
  obtain ⟨i, r, h1, h2, _⟩ := h
  exact ⟨(ne_of_none h1 e).symm, (ne_of_none h2 e).symm⟩
theorem Pen.mut {H : Hp} {τ : Pn} {n : Nat} (h : Pen H τ n) : Mut (H τ.p) := by
  obtain ⟨kvs, e⟩ := h.dict
  rw [e]
  trivial
def sp_pen (K : PySem.W.Frag) : Sp := fun vs H Q _ => ∃ (a : Addr) (ns : List Int), vs = [.ref a] ∧ SqL K H a (ns.map V.int) ∧ ns.length ≤ 63 ∧ ∀ τ H', Same H H' → H τ.p = none → Pen H' τ 0 → Q (.ref τ.p) H'
theorem cut63 {xs : List V} (h : xs.length ≤ 63) : cutV xs none (some 63) = xs := by
  unfold cutV
  rw [show HT.sIx xs.length xs.length (some 63) = min 63 xs.length from HT.sIx_nat xs.length xs.length 63, HT.sIx_none]
  show List.take (min 63 xs.length - 0) xs = xs
  exact List.take_of_length_le (by omega)
theorem ok__law_pen (T : Top K mg) {k : Nat} : FnOk P w K mg base CX0 (k + 1) T.f__law_pen T.fd__law_pen ["_law_script"]  (sp_pen K) := by
  refine T.F__law_pen.ok sc__law_pen (fun vs H Q E h => ?_) (fun cdv A outer s H vs Q E hr h => ?_)
  · obtain ⟨a, ns, rfl, _⟩ := h
    rfl
  · obtain ⟨a, ns, rfl, hS, hl, q⟩ := h
    refine ⟨_, (pss_one (ps_ret (pe_disp (pps_cons pe_str (pe_callTy call_list_of (by rfl) T.m_list (by decide +kernel) (pa_cons (pe_slice sl_list (pv 0) po_none (po_some pe_int)) pa_nil)) (pps_cons pe_str pe_int (pps_cons pe_str pe_int pps_nil))) (by rfl) (by rfl) (fun z => by cases z) (by decide)))), ?_⟩
    intro p np
    have s1 := sm_upd (o := .dK []) np
    refine ⟨_, rfl, 63, rfl, a, _, rfl, s1.seq hS, fun b nb => ?_⟩
    have s2 := sm_upd (o := .lst (cutV (ns.map V.int) none (some 63))) nb
    have hb := upd_at (o := .lst (cutV (ns.map V.int) none (some 63))) nb
    rw [show cutV (ns.map V.int) none (some 63) = ns.map V.int from cut63 (by simpa using hl)] at *
    have hp := s2 _ _ (upd_at (o := .dK []) np)
    refine ⟨b, _, rfl, .inl (.inl (.inl hb)), fun c nc => ?_⟩
    have s3 := sm_upd (o := .lst (ns.map V.int)) nc
    have hc := upd_at (o := .lst (ns.map V.int)) nc
    have hp3 := s3 _ _ hp
    have npc : c ≠ p := ne_of hc hp3 (by intro z; cases z)
    refine ⟨hp3, tri "cells" "place" "rest" (.ref c) (.int 0) (.int 0), rfl, by show 3 ≤ 15; decide, ?_⟩
    rw [tri_disp dif]
    refine q ⟨p, c, ns⟩ _ (sm_mut (s1.trans (s2.trans s3)) np) np ⟨0, 0, upd_same, ?_, hl, Int.le_refl _, Int.le_refl _⟩
    show upd _ p _ c = _
    rw [upd_ne npc]
    exact hc
theorem eqvI : ∀ ns : List Int, (!PyData.eqv (.list (ns.map PyData.int)) (.list [])) = decide (ns ≠ [])
  | [] => rfl
  | n :: ns => by
    simp [PyData.eqv, PyData.eqvAll]
def sp_pdraw : Sp := fun vs H Q _ => ∃ (τ : Pn) (m : Nat) (n : Int), vs = [.ref τ.p, .int n] ∧ 1 ≤ n ∧ n ≤ 2 ^ 80 ∧ m < 1000000 ∧ Pen H τ m ∧
  ∀ (d : Int) H', 0 ≤ d → d < n → Pen H' τ (m + 1) → But τ.p H H' → Q (.int d) H'
theorem log_80 {n : Int} (h1 : 1 ≤ n) (h2 : n ≤ 2 ^ 80) : n.natAbs.log2 < 9000 := by
  rw [Nat.log2_lt (by omega)]
  have h3 : n.natAbs ≤ 2 ^ 80 := by omega
  exact Nat.lt_of_le_of_lt h3 (Nat.pow_lt_pow_right (by decide) (by decide))
theorem ok__law_draw (T : Top K mg) {k : Nat} : FnOk P w K mg base CX0 (k + 1) T.f__law_draw T.fd__law_draw ["_law_pen_here", "_law_number"]  sp_pdraw := by
  refine T.F__law_draw.ok sc__law_draw (fun vs H Q E h => ?_) (fun cdv A outer s H vs Q E hr h => ?_)
  · obtain ⟨τ, m, n, rfl, _⟩ := h
    rfl
  · obtain ⟨⟨p, c, ns⟩, m, n, rfl, hn1, hn2, hm, ⟨i, r, hp, hc, hlen, hi1, hi2⟩, q⟩ := h
    replace hp : H p = some (.dK (penV c i r)) := hp
    replace hc : H c = some (.lst (ns.map V.int)) := hc
    replace hlen : ns.length ≤ 63 := hlen
    have hlog := log_80 hn1 hn2
    have npc : c ≠ p := ne_of hc hp (by intro z; cases z)
    refine ⟨_, (pss_cons (ps_if (pt_cmpR op_ge (pe_dget (hu_of hr) (pv 0) pe_str (fun _ _ => rfl)) (pv 1) (nomark _))
      (pss_cons (ps_set (i := 2) sc__law_draw.nd rfl (Or.inl rfl) (pe_op op_mod (pe_callTy call_int1 (by rfl) T.m_int (by decide +kernel) (pa_cons (pe_dget (hu_of hr) (pv 0) pe_str (fun _ _ => rfl)) pa_nil)) (pv 1)))
      (pss_cons (ps_dput (hu_of hr) (pv 0) pe_str (pe_op op_fdivW (pe_dget (hu_of hr) (pv 0) pe_str (fun _ _ => rfl)) (pv 1)) rfl)
      (pss_one (ps_ret (pv 2)))))
      pss_nil)
    (pss_cons (ps_set (i := 3) sc__law_draw.nd rfl (Or.inl rfl) (pe_dget (hu_of hr) (pv 0) pe_str (fun _ _ => rfl)))
    (pss_cons (ps_dput (hu_of hr) (pv 0) pe_str (pe_op op_add (pv 3) pe_int) rfl)
    (pss_cons (ps_set (i := 4) sc__law_draw.nd rfl (Or.inl rfl) (pe_op op_add (pe_op op_mul pe_int (pv 3)) pe_int))
    (pss_cons (ps_if (pt_cmpR (op_neD hr.units) (pe_dget (hu_of hr) (pv 0) pe_str (fun _ _ => rfl)) (pe_lst pa_nil) (nomark _))
      (pss_one (ps_set (i := 4) sc__law_draw.nd rfl (Or.inl rfl) (pe_ix ix_list (pe_dget (hu_of hr) (pv 0) pe_str (fun _ _ => rfl)) (pe_op op_mod (pe_callTy call_int1 (by rfl) T.m_int (by decide +kernel) (pa_cons (pv 3) pa_nil)) (pe_callB call_len_seq (by rfl) T.m_len PySem.boot_len (pa_cons (pe_dget (hu_of hr) (pv 0) pe_str (fun _ _ => rfl)) pa_nil))) (fun _ _ => rfl))))
      pss_nil)
    (pss_cons (ps_if (PW.pt (pw_and (pt_cmpR op_lt (pv 3) (pe_callB call_len_seq (by rfl) T.m_len PySem.boot_len (pa_cons (pe_dget (hu_of hr) (pv 0) pe_str (fun _ _ => rfl)) pa_nil)) (nomark _)) (pw_and1 (pt_cmpR op_ge (pv 4) (pe_op op_pow pe_int pe_int) (nomark _)))))
      (pss_cons (ps_dput (hu_of hr) (pv 0) pe_str (pe_op op_fdivW (pe_op op_sub (pv 4) (pe_op op_pow pe_int pe_int)) (pv 1)) rfl)
      (pss_one (ps_ret (pe_op op_mod (pe_callTy call_int1 (by rfl) T.m_int (by decide +kernel) (pa_cons (pe_op op_sub (pv 4) (pe_op op_pow pe_int pe_int)) pa_nil)) (pv 1)))))
      pss_nil)
    (pss_cons (ps_set (i := 5) sc__law_draw.nd rfl (Or.inl rfl) (pe_op op_mod (pe_callTy call_int1 (by rfl) T.m_int (by decide +kernel) (pa_cons (pe_op op_add (pe_op op_add (pe_op op_add (pe_op op_mul (pe_op op_mod (pe_callTy call_int1 (by rfl) T.m_int (by decide +kernel) (pa_cons (pv 4) pa_nil)) pe_int) pe_int) (pe_op op_mul (pe_op op_mul pe_int (pv 3)) (pv 3))) (pe_op op_mul pe_int (pv 3))) pe_int) pa_nil)) pe_int))
    (pss_cons (ps_set (i := 5) sc__law_draw.nd rfl (Or.inl rfl) (pe_op op_mod (pe_callTy call_int1 (by rfl) T.m_int (by decide +kernel) (pa_cons (pe_op op_add (pe_op op_mul (pv 5) (pe_op op_add (pv 5) pe_int)) (pe_op op_mul pe_int (pv 3))) pa_nil)) pe_int))
    (pss_one (ps_ret (pe_op op_mod (pe_callTy call_int1 (by rfl) T.m_int (by decide +kernel) (pa_cons (pe_op op_fdiv (pe_op op_mod (pe_callTy call_int1 (by rfl) T.m_int (by decide +kernel) (pa_cons (pe_op op_add (pe_op op_mul (pv 5) (pv 5)) (pe_op op_mul pe_int (pv 5))) pa_nil)) pe_int) pe_int) pa_nil)) (pv 1)))))))))))), ?_⟩
    refine ⟨_, rfl, p, _, rfl, tri_get3 dif hp, ?_⟩
    walk_at "r"
    refine ifD (fun hb => ?_) (fun hb => ?_)
    · walk_at "r"
      refine ⟨p, _, rfl, tri_get3 dif hp, ?_⟩
      walk_at "r"
      refine ⟨p, _, rfl, tri_get3 dif hp, ?_⟩
      walk_at "r"
      refine ⟨p, _, rfl, tri_put3 dif hp, ?_⟩
      walk_at "r"
      refine q _ _ (Int.emod_nonneg _ (by omega)) (Int.emod_lt_of_pos _ (by omega)) ⟨i, _, upd_same, ?_, hlen, by omega, by omega⟩ (But.refl _).upd
      show upd _ p _ c = _
      rw [upd_ne npc]
      exact hc
    · walk_at "r"
      refine ⟨p, _, rfl, tri_get2 dif hp, ?_⟩
      walk_at "r"
      refine ⟨p, _, rfl, tri_put2 dif hp, ?_⟩
      walk_at "r"
      have hp3 := upd_same (H := H) (a := p) (o := .dK (penV c (i + 1) r))
      have hc3 : (upd H p (.dK (penV c (i + 1) r))) c = some (.lst (ns.map V.int)) := by
        rw [upd_ne npc]
        exact hc
      have bt3 : But p H (upd H p (.dK (penV c (i + 1) r))) := (But.refl _).upd
      revert hp3 hc3 bt3
      generalize upd H p (.dK (penV c (i + 1) r)) = H3
      intro hp3 hc3 bt3
      refine ⟨p, _, rfl, tri_get1 hp3, ?_⟩
      walk_at "r"
      refine ⟨len_le (Nat.le_of_ble_eq_true rfl), fun t nt => ?_⟩
      generalize eH4 : upd H3 t _ = H4
      obtain ⟨st, ht⟩ := new_step nt eH4
      clear eH4
      have hc4 := st _ _ hc3
      refine ⟨_, _, Dp.lst (.inl (.inl hc4)) (dp_ints ns), Dp.lst (.inl (.inl ht)) DpAll.nil, shaped_ints ns, rfl, ?_⟩
      rw [eqvI]
      have hp4 := st _ _ hp3
      have bt4 := bt3.trans (But.of st)
      walk_at "r"
      refine if_join (fun σ' H' => ∃ (cell : Int), σ' = [some (.ref p), some (.int n), none, some (.int i), some (.int cell), none] ∧ H' = H4) ?_ (fun D1 J hb => ?_) (fun D1 J hb => ?_)
      · rintro σ' H' ⟨cell, rfl, rfl⟩
        dsimp only
        walk_at "r"
        refine ⟨p, _, rfl, tri_get1 hp4, ?_⟩
        refine ⟨c, _, rfl, .inl (.inl (.inl hc4)), ?_⟩
        walk_at "r"
        rw [List.length_map]
        refine ifAnd ?_ (fun hb1 hY => ?_)
        · walk_at "r"
          exact q _ _ (Int.emod_nonneg _ (by omega)) (Int.emod_lt_of_pos _ (by omega)) ⟨i + 1, r, hp4, hc4, hlen, by omega, by omega⟩ bt4
        · walk_at "r"
          refine ifD (fun hb2 => ?_) (fun hb2 => hY)
          walk_at "r"
          refine ⟨p, _, rfl, tri_put3 dif hp4, ?_⟩
          walk_at "r"
          refine q _ _ (Int.emod_nonneg _ (by omega)) (Int.emod_lt_of_pos _ (by omega)) ⟨i + 1, _, upd_same, ?_, hlen, by omega, by omega⟩ bt4.upd
          show upd _ p _ c = _
          rw [upd_ne npc]
          exact hc4
      · have hb0 : ns ≠ [] := of_decide_eq_true hb
        have hlen0 : 0 < ns.length := List.length_pos_iff.mpr hb0
        walk_at "r"
        refine ⟨p, _, rfl, tri_get1 hp4, ?_⟩
        walk_at "r"
        refine ⟨p, _, rfl, tri_get1 hp4, ?_⟩
        refine ⟨c, _, rfl, .inl (.inl (.inl hc4)), ?_⟩
        walk_at "r"
        rw [List.length_map]
        have hm1 := Int.emod_nonneg i (show (ns.length : Int) ≠ 0 by omega)
        have hm2 := Int.emod_lt_of_pos i (show 0 < (ns.length : Int) by omega)
        have hm3 : (i % (ns.length : Int)).toNat < ns.length := by omega
        refine ⟨show (0 : Int) < (ns.length : Int) by omega, ?_⟩
        refine ⟨c, _, _, .int (ns[(i % (ns.length : Int)).toNat]), rfl, rfl, .inl (.inl hc4), at_of (j := (i % (ns.length : Int)).toNat) (by omega) ?_, ?_⟩
        · rw [List.getElem?_map, List.getElem?_eq_getElem hm3]
          rfl
        exact J.nx _ _ ⟨_, rfl, rfl⟩
      · exact J.nx _ _ ⟨_, rfl, rfl⟩
def sp_ppick : Sp := fun vs H Q _ => ∃ (τ : Pn) (b : Addr) (m : Nat) (xs : List V), vs = [.ref τ.p, .ref b] ∧ m < 1000000 ∧ Pen H τ m ∧ H b = some (.lst xs) ∧ 1 ≤ xs.length ∧ xs.length ≤ 100000 ∧
  ∀ (v : V) H', v ∈ xs → Pen H' τ (m + 1) → But τ.p H H' → Q v H'
theorem ok__law_pick (T : Top K mg) {k : Nat} : FnOk P w K mg base CX0 (k + 2) T.f__law_pick T.fd__law_pick ["_law_pen_here", "_law_items"]  sp_ppick := by
  have G__law_draw : FnOk P w K mg base CX0 (k + 1) T.f__law_draw T.fd__law_draw ["_law_pen_here", "_law_number"]  sp_pdraw := ok__law_draw T
  refine T.F__law_pick.ok sc__law_pick (fun vs H Q E h => ?_) (fun cdv A outer s H vs Q E hr h => ?_)
  · obtain ⟨τ, b, m, xs, rfl, _⟩ := h
    rfl
  · obtain ⟨τ, b, m, xs, rfl, hm, hT, hb, hx1, hx2, q⟩ := h
    refine ⟨_, (pss_one (ps_ret (pe_ix ix_list (pv 1) (pe_call G__law_draw (hr.mono (by omega)) (by rfl) T.g__law_draw T.F__law_draw.kp T.b__law_draw .nil pass0 (pa_cons (pv 0) (pa_cons (pe_callB call_len_seq (by rfl) T.m_len PySem.boot_len (pa_cons (pv 1) pa_nil)) pa_nil))) (fun _ _ => rfl)))), ?_⟩
    walk_at "r"
    refine ⟨b, _, rfl, .inl (.inl (.inl hb)), ?_⟩
    refine ⟨τ, m, xs.length, rfl, by omega, by omega, hm, hT, fun d H' hd1 hd2 hT' bt => ?_⟩
    have hb' := bt b _ (hT.neL hb) hb
    have hd3 : d.toNat < xs.length := by omega
    refine ⟨b, _, _, xs[d.toNat], rfl, rfl, .inl (.inl hb'), at_of (j := d.toNat) (by omega) (List.getElem?_eq_getElem hd3), ?_⟩
    exact q _ _ (List.getElem_mem hd3) hT' bt
theorem oft_le {z : Int} {t i : Nat} (h : z.natAbs ≤ i * 2 ^ 600) (ht : t < 600) :
    (z + 1 * 2 ^ ((t : Nat) : Int).toNat).natAbs ≤ (i + 1) * 2 ^ 600 ∧ (z - 1 * 2 ^ ((t : Nat) : Int).toNat).natAbs ≤ (i + 1) * 2 ^ 600 := by
  have hp : 2 ^ t ≤ 2 ^ 600 := Nat.pow_le_pow_right (by decide) (by omega)
  rw [Int.toNat_natCast]
  have e : (2 : Int) ^ t = ((2 ^ t : Nat) : Int) := by norm_cast
  rw [e]
  revert h hp
  generalize 2 ^ 600 = B
  generalize 2 ^ t = A
  intro h hp
  rw [Nat.succ_mul]
  generalize i * B = C at *
  omega
/-- the int with these turns: what the loop holds -/
def sp_oft : Sp := fun vs H Q _ => ∃ (b : Addr) (ts : List Nat), vs = [.ref b] ∧ H b = some (.lst (nv ts)) ∧ (∀ t ∈ ts, t < 600) ∧ ts.length ≤ 10 ∧ ∀ (z : Int), z.natAbs ≤ ts.length * 2 ^ 600 → Q (.int z) H
end
end K37
set_option Elab.async false
set_option linter.all false
set_option maxRecDepth 100000
set_option pp.deepTerms false
set_option pp.maxSteps 1500
set_option maxHeartbeats 1000000
/-! what Far takes for places and numbers written as groups (laws k37 to k41) -/
namespace K37
open PySem PySem.Spec PyProof.Rows L2 HX TV FM DX FB FC PM FI GL
local macro_rules | `(tactic| walk_at "r") => `(tactic| (repeat (first | refine Exists.intro _ (And.intro rfl ?_) | refine And.intro rfl ?_ | refine Exists.intro _ (Exists.intro _ (And.intro rfl (And.intro rfl ?_))) | refine And.intro (by omega) ?_ | refine And.intro (Or.inl (And.intro (by omega) (by omega))) ?_ | refine And.intro (Or.inr (And.intro (by omega) (by omega))) ?_ | refine And.intro (And.intro (by omega) (by omega)) ?_ | refine And.intro (And.intro (by decide) (And.intro (by decide) (by decide))) ?_ | refine Or.inl (Exists.intro _ (And.intro rfl ?_)) | (dsimp only [gName]; first | with_reducible refine seqC ?_ | with_reducible refine asgC ?_))))
local macro_rules | `(tactic| walk_at "s") => `(tactic| (repeat (first | refine Exists.intro _ (And.intro rfl ?_) | refine And.intro rfl ?_ | refine Exists.intro _ (Exists.intro _ (And.intro rfl (And.intro rfl ?_))) | refine And.intro (by omega) ?_ | refine And.intro (Or.inl (And.intro (by omega) (by omega))) ?_ | refine And.intro (Or.inr (And.intro (by omega) (by omega))) ?_ | refine And.intro (And.intro (by omega) (by omega)) ?_ | refine And.intro (And.intro (by decide) (And.intro (by decide) (by decide))) ?_ | refine Or.inl (Exists.intro _ (And.intro rfl ?_)) | refine Exists.intro _ (Exists.intro _ (And.intro rfl ?_)) | (dsimp only [gName]; first | with_reducible refine seqC ?_ | with_reducible refine asgC ?_))))
section
variable {P : Program} {w : World} {K : PySem.W.Frag} {mg : Str → Option Value} {base : Heap}
/-- a place as the law holds it -/
inductive SpV (H : Hp) : V → Plc → Prop
  | int (n : Nat) : SpV H (.int (n : Nat)) (.int n)
  | far (t : Addr) (v : V) (s : Plc) (few : Nat) (h : H t = some (.tup [v, .int (few : Nat)])) (hv : SpV H v s) : SpV H (.ref t) (.far s few)
theorem SpV.keep {H H' : Hp} {v : V} {s : Plc} (h : SpV H v s) (e : ∀ a xs, H a = some (.tup xs) → H' a = some (.tup xs)) : SpV H' v s := by
  induction h with
  | int n => exact .int n
  | far t v s few h hv ih => exact .far t v s few (e _ _ h) ih
theorem SpV.same {H H' : Hp} {v : V} {s : Plc} (h : SpV H v s) (e : Same H H') : SpV H' v s := h.keep fun a xs z => e _ _ z
def SpOk : Plc → Prop
  | .int n => 65 ≤ n ∧ n < 2 ^ 60
  | .far s few => SpOk s ∧ few ≤ 20
def wS : Plc → Nat
  | .int _ => 1
  | .far s _ => 9 + 2 * wS s
def dS : Plc → Nat
  | .int _ => 0
  | .far s _ => dS s + 1
theorem pv_big : ∀ {s : Plc}, SpOk s → 65 ≤ pv s
  | .int n, h => h.1
  | .far s few, h => by
    have := pv_big h.1
    have h2 : (2 : Nat) ^ 65 ≤ 2 ^ pv s := Nat.pow_le_pow_right (by decide) this
    have : (65 : Nat) ≤ 2 ^ 65 := by decide
    show 65 ≤ 2 ^ pv s + few
    omega
theorem Giv.mono {C : Addr} {H : Hp} {m n : Nat} {x : V} {d : PyData} (h : Giv K C H m n x d) : ∀ {m' n' : Nat}, m ≤ m' → n ≤ n' → Giv K C H m' n' x d := by
  induction h with
  | num h hw hd => exact fun _ l => .num h hw (Nat.le_trans hd l)
  | @lst m n a us ds d h hl hx fA hA hw hd f ev ih =>
    intro m' n' l1 l2
    obtain ⟨m2, rfl⟩ : ∃ m2, m' = m2 + 1 := ⟨m' - 1, by omega⟩
    obtain ⟨n2, rfl⟩ : ∃ n2, n' = n2 + 1 := ⟨n' - 1, by omega⟩
    exact .lst h hl (fun i x e h1 h2 => ih i x e h1 h2 (by omega) (by omega)) fA hA hw (fun d hd' => Nat.le_trans (hd d hd') (by omega)) f ev
theorem row_exG {ds : List PyData} (fA : FmAll ds) (hA : Asc (vals ds)) : ∃ d, Fm d ∧ val d = tv (vals ds) ∧ wt d ≤ wtAll ds + 1 ∧ d.depth ≤ PyData.depthAll ds + 1 := by
  by_cases h : ∃ t ∈ vals ds, 64 < t
  · exact ⟨.tuple ds, (fm_tuple ds).mpr ⟨fA, hA, h⟩, val_tuple ds, by rw [wt_tuple]; omega, by rw [depth_tuple]; omega⟩
  · refine ⟨.int (tv (vals ds)), (fm_int _).mpr ((tv_range hA).mp fun t ht => ?_), val_int _, by rw [wt_int]; omega, by rw [depth_int]; omega⟩
    apply Nat.le_of_not_lt
    intro hc
    exact h ⟨t, ht, hc⟩
theorem Givs.nil {C : Addr} {H : Hp} {m n : Nat} : Givs K C H m n [] [] := ⟨rfl, fun i x e h => by simp at h⟩
theorem Givs.cons {C : Addr} {H : Hp} {m n : Nat} {x : V} {d : PyData} {us : List V} {ds : List PyData} (h : Giv K C H m n x d) (g : Givs K C H m n us ds) : Givs K C H m n (x :: us) (d :: ds) := by
  refine ⟨by rw [List.length_cons, List.length_cons, g.1], fun i y e h1 h2 => ?_⟩
  cases i with
  | zero =>
    have e1 : x = y := by simpa using h1
    have e2 : d = e := by simpa using h2
    subst e1
    subst e2
    exact h
  | succ i => exact g.2 i y e (by simpa using h1) (by simpa using h2)
theorem Givs.app {C : Addr} {H : Hp} {m n : Nat} {us vs : List V} {ds es : List PyData} (h : Givs K C H m n us ds) (g : Givs K C H m n vs es) : Givs K C H m n (us ++ vs) (ds ++ es) := by
  induction us generalizing ds with
  | nil =>
    have : ds = [] := List.eq_nil_of_length_eq_zero h.1.symm
    subst this
    exact g
  | cons u r ih =>
    cases ds with
    | nil => exact absurd h.1 (by simp)
    | cons d ds => exact .cons (h.2 0 u d rfl rfl) (ih ⟨by simpa using h.1, fun i x e h1 h2 => h.2 (i + 1) x e (by simpa using h1) (by simpa using h2)⟩)
theorem Givs.mono {C : Addr} {H : Hp} {m n m' n' : Nat} {us : List V} {ds : List PyData} (h : Givs K C H m n us ds) (l1 : m ≤ m') (l2 : n ≤ n') : Givs K C H m' n' us ds := ⟨h.1, fun i x e h1 h2 => (h.2 i x e h1 h2).mono l1 l2⟩
/-- the turns of a small int -/
theorem few_turns {n : Nat} (h : n < 64) : (∀ t ∈ turnsOf (n : Int), t ≤ 6) ∧ (turnsOf (n : Int)).length ≤ 7 ∧ (turnsOf (n : Int)).length % 2 = 0 := by
  have hb : Bw 6 (n : Int) := ⟨by omega, by omega⟩
  have h1 := hb.turns
  refine ⟨h1, ?_, ?_⟩
  · have ha := turnsOf_asc (n : Int)
    have := asc_len (a := 0) ha fun t ht => ⟨Nat.zero_le _, h1 t ht⟩
    omega
  · have := neg_odd (n : Int)
    have h0 : ¬ ((n : Int) < 0) := by omega
    have : ¬ ((turnsOf (n : Int)).length % 2 = 1) := fun z => h0 (this.mpr z)
    omega
def iDs (ts : List Nat) : List PyData := ts.map fun t => .int (t : Nat)
theorem vals_iDs (ts : List Nat) : vals (iDs ts) = ts := by
  induction ts with
  | nil => exact vals_nil
  | cons t r ih =>
    show vals (.int (t : Nat) :: iDs r) = _
    rw [vals_cons, val_int, ih]
    rfl
theorem fmAll_iDs {ts : List Nat} (h : ∀ t ∈ ts, t < 2 ^ 63) : FmAll (iDs ts) := by
  induction ts with
  | nil => exact fmAll_nil
  | cons t r ih =>
    have h1 := h t (by simp)
    exact (fmAll_cons _ _).mpr ⟨(fm_int _).mpr (by omega), by rw [val_int]; omega, ih fun x hx => h x (by simp [hx])⟩
theorem wtAll_iDs (ts : List Nat) : wtAll (iDs ts) = ts.length := by
  induction ts with
  | nil => exact wtAll_nil
  | cons t r ih =>
    show wtAll (.int (t : Nat) :: iDs r) = _
    rw [wtAll_cons, wt_int, ih, List.length_cons]
    omega
theorem dep_iDs {ts : List Nat} {d : PyData} (h : d ∈ iDs ts) : d.depth = 0 := by
  obtain ⟨t, _, rfl⟩ := List.mem_map.mp h
  exact depth_int _
theorem givs_ints {C : Addr} {H : Hp} {m n : Nat} {ts : List Nat} (h : ∀ t ∈ ts, t < 2 ^ 63) : Givs K C H m n (nv ts) (iDs ts) := by
  induction ts with
  | nil => exact .nil
  | cons t r ih =>
    have h1 := h t (by simp)
    exact .cons (.num (.inr ⟨.int _, (fm_int _).mpr (by omega)⟩) (by rw [wt_int]; decide) (by rw [depth_int]; exact Nat.zero_le _)) (ih fun x hx => h x (by simp [hx]))
/-- what is new behind H -/
def fr (H H' : Hp) : Hp := fun a => if H a = none then H' a else none
theorem same_fr {H H1 H2 H' : Hp} (e : Same H H1) (g : Same H2 H') : Same (fr H1 H2) (fr H H') := fun a o h => by
  unfold fr at *
  by_cases h1 : H1 a = none
  · rw [if_pos h1] at h
    have h0 : H a = none := by
      match q : H a with
      | none => rfl
      | some u => rw [e a u q] at h1; cases h1
    rw [if_pos h0]
    exact g a o h
  · rw [if_neg h1] at h
    cases h
theorem fr_sub {H H' : Hp} : Same (fr H H') H' := fun a o h => by
  unfold fr at h
  split at h
  · exact h
  · cases h
theorem fr_new {H H' : Hp} {a : Addr} {o : HO} (h : H a = none) (g : H' a = some o) : fr H H' a = some o := by
  unfold fr
  rw [if_pos h]
  exact g
theorem none_back {H H' : Hp} {a : Addr} (e : Same H H') (h : H' a = none) : H a = none := by
  match q : H a with
  | none => rfl
  | some u => rw [e a u q] at h; cases h
def sp_grow (K : PySem.W.Frag) (C : Addr) (k : Nat) : Sp := fun vs H Q _ => ∃ (v : V) (s : Plc) (m : Nat), vs = [v, .int (m : Nat)] ∧ SpV H v s ∧ SpOk s ∧ dS s ≤ k ∧ m ≤ 40 ∧ wS s ≤ 300 ∧
  ∀ x d H', Giv K C (fr H H') (dS s) (dS s) x d → Fm d → val d = ((pv s + m : Nat) : Int) → wt d ≤ wS s → d.depth ≤ dS s → Same H H' → Q x H'
theorem ok__law_row (T : Top K mg) : ∀ k, FnOk P w K mg base CX0 (k + 2) T.f__law_row T.fd__law_row ["_law_spec", "_law_more"]  (sp_grow K T.C_Far k) := by
  intro k
  induction k with
  | zero =>
    refine T.F__law_row.ok sc__law_row (fun vs H Q E h => ?_) (fun cdv A outer s H vs Q E hr h => ?_)
    · obtain ⟨v, s, m, rfl, _⟩ := h
      rfl
    obtain ⟨v, s, m, rfl, hs, ok, hk, hm, hw, q⟩ := h
    cases hs with
    | far t v s few ht hv => exact absurd hk (by show ¬ (dS s + 1 ≤ 0); omega)
    | int n =>
      refine ⟨_, (pss_cons (ps_if (pt_val (pe_callB call_isi (by rfl) T.m_isinstance (by decide +kernel) (pa_cons (pv 0) (pa_cons (pe_bltn (v := .ty "int") (by rfl) T.m_int (by decide +kernel) rfl) pa_nil))) (fun _ => rfl))
      (pss_one (ps_ret (pe_op op_add (pv 0) (pv 1))))
      pss_nil)
    (pss_one (ps_ret pe_never))), ?_⟩
      refine ⟨_, rfl, _, _, _, _, true, rfl, .ty "int", tyI _, k_ii, ?_⟩
      refine ⟨_, rfl, iteT ?_⟩
      walk_at "r"
      have := ok.1
      have h60 := ok.2
      have f1 : Fm (.int ((n + m : Nat) : Int)) := (fm_int _).mpr (by omega)
      exact q _ (.int ((n + m : Nat) : Int)) H (.num (.inr ⟨.int _, f1⟩) (by rw [wt_int]; decide) (by rw [depth_int]; exact Nat.zero_le _)) f1 (val_int _) (by rw [wt_int]; exact Nat.le_refl _) (by rw [depth_int]; exact Nat.zero_le _) (Same.refl _)
  | succ k ih =>
    have G__law_row : FnOk P w K mg base CX0 (k + 2) T.f__law_row T.fd__law_row ["_law_spec", "_law_more"]  (sp_grow K T.C_Far k) := ih
    have G__law_turns : FnOk P w K mg base CX0 (1) T.f__law_turns T.fd__law_turns ["_law_number"]  sp_gturns := ok__law_turnsG T
    refine T.F__law_row.ok sc__law_row (fun vs H Q E h => ?_) (fun cdv A outer s H vs Q E hr h => ?_)
    · obtain ⟨v, s, m, rfl, _⟩ := h
      rfl
    obtain ⟨v, s, m, rfl, hs, ok, hk, hm, hw, q⟩ := h
    cases hs with
    | int n =>
      refine ⟨_, (pss_cons (ps_if (pt_val (pe_callB call_isi (by rfl) T.m_isinstance (by decide +kernel) (pa_cons (pv 0) (pa_cons (pe_bltn (v := .ty "int") (by rfl) T.m_int (by decide +kernel) rfl) pa_nil))) (fun _ => rfl))
      (pss_one (ps_ret (pe_op op_add (pv 0) (pv 1))))
      pss_nil)
    (pss_one (ps_ret pe_never))), ?_⟩
      refine ⟨_, rfl, _, _, _, _, true, rfl, .ty "int", tyI _, k_ii, ?_⟩
      refine ⟨_, rfl, iteT ?_⟩
      walk_at "r"
      have := ok.1
      have h60 := ok.2
      have f1 : Fm (.int ((n + m : Nat) : Int)) := (fm_int _).mpr (by omega)
      exact q _ (.int ((n + m : Nat) : Int)) H (.num (.inr ⟨.int _, f1⟩) (by rw [wt_int]; decide) (by rw [depth_int]; exact Nat.zero_le _)) f1 (val_int _) (by rw [wt_int]; exact Nat.le_refl _) (by rw [depth_int]; exact Nat.zero_le _) (Same.refl _)
    | far t v s few ht hv =>
      refine ⟨_, (pss_cons (ps_if (pt_val (pe_callB call_isi (by rfl) T.m_isinstance (by decide +kernel) (pa_cons (pv 0) (pa_cons (pe_bltn (v := .ty "int") (by rfl) T.m_int (by decide +kernel) rfl) pa_nil))) (fun _ => rfl))
      (pss_one (ps_ret pe_never))
      pss_nil)
    (pss_one (ps_ret (pe_op op_cat (pe_call G__law_turns (hr.mono (by omega)) (by rfl) T.g__law_turns T.F__law_turns.kp T.b__law_turns .nil pass0 (pa_cons (pe_op op_add (pe_ix ix_tup (pv 0) pe_int (fun _ _ => rfl)) (pv 1)) pa_nil)) (pe_lst (pa_cons (pe_call G__law_row (hr.mono (by omega)) (by rfl) T.g__law_row T.F__law_row.kp T.b__law_row .nil pass0 (pa_cons (pe_ix ix_tup (pv 0) pe_int (fun _ _ => rfl)) (pa_cons pe_int pa_nil))) (pa_cons (pe_call G__law_row (hr.mono (by omega)) (by rfl) T.g__law_row T.F__law_row.kp T.b__law_row .nil pass0 (pa_cons (pe_ix ix_tup (pv 0) pe_int (fun _ _ => rfl)) (pa_cons pe_int pa_nil))) pa_nil))))))), ?_⟩
      obtain ⟨ok1, ok2⟩ : SpOk s ∧ few ≤ 20 := ok
      have hk' : dS s ≤ k := by
        have : dS s + 1 ≤ k + 1 := hk
        omega
      have hw' : 9 + 2 * wS s ≤ 300 := hw
      refine ⟨_, rfl, _, _, _, _, false, rfl, .ty "int", tyT (.inl (.inl ht)), k_ti, ?_⟩
      refine ⟨_, rfl, iteF ?_⟩
      dsimp only [tNext]
      walk_at "r"
      refine ⟨t, _, 1, .int (few : Nat), rfl, rfl, .inl (.inl ht), at_of (j := 1) rfl rfl, ?_⟩
      walk_at "r"
      refine fun l1 H1 s1 n1 h1 => ?_
      refine ⟨_, rfl, t, _, 0, v, rfl, rfl, .inl (.inl (s1 _ _ ht)), at_of (j := 0) rfl rfl, ?_⟩
      refine ⟨v, s, 0, rfl, hv.same s1, ok1, hk', by decide, by omega, fun x0 d0 H2 g0 f0 e0 w0 dp0 s2 => ?_⟩
      have s12 := s1.trans s2
      refine ⟨_, rfl, t, _, 0, v, rfl, rfl, .inl (.inl (s12 _ _ ht)), at_of (j := 0) rfl rfl, ?_⟩
      refine ⟨v, s, 1, rfl, hv.same s12, ok1, hk', by decide, by omega, fun x1 d1 H3 g1 f1 e1 w1 dp1 s3 => ?_⟩
      refine ⟨len_le (by show 2 ≤ _; decide), fun l2 n2 => ?_⟩
      have sl2 := sm_upd (o := .lst [x0, x1]) n2
      have hl2 : upd H3 l2 (.lst [x0, x1]) l2 = some (.lst [x0, x1]) := upd_same
      revert sl2 hl2
      generalize upd H3 l2 (.lst [x0, x1]) = H4
      intro sl2 hl2
      have h14 := ((s2.trans s3).trans sl2) _ _ h1
      rw [show (few : Int) + (m : Int) = ((few + m : Nat) : Int) by omega] at h14
      obtain ⟨t1, t2, t3⟩ := few_turns (n := few + m) (by omega)
      refine ⟨l1, l2, _, _, rfl, rfl, h14, hl2, len_le (by rw [nv_len]; show _ + 2 ≤ _; omega), fun l3 n3 => ?_⟩
      have sl3 := sm_upd (o := .lst (nv (turnsOf ((few + m : Nat) : Int)) ++ [x0, x1])) n3
      have big := pv_big ok1
      have hle : (few + m : Nat) < 2 ^ pv s := by
        have h2 : (2 : Nat) ^ 65 ≤ 2 ^ pv s := Nat.pow_le_pow_right (by decide) big
        have : (100 : Nat) < 2 ^ 65 := by decide
        omega
      have ev : vals (iDs (turnsOf ((few + m : Nat) : Int)) ++ [d0, d1]) = turnsOf ((few + m : Nat) : Int) ++ [pv s, pv s + 1] := by
        rw [vals_app, vals_iDs, vals_cons, vals_cons, vals_nil, e0, e1]
        simp
      have hA : Asc (turnsOf ((few + m : Nat) : Int) ++ [pv s, pv s + 1]) := by
        refine asc_app (P := 65) (turnsOf_asc _) (asc_cons (by simp) (asc_cons (by simp) trivial)) (fun t ht => by have := t1 t ht; omega) (fun t ht => ?_)
        simp only [List.mem_cons, List.not_mem_nil, or_false] at ht
        omega
      have fA : FmAll (iDs (turnsOf ((few + m : Nat) : Int)) ++ [d0, d1]) := (fmAll_app _ _).mpr ⟨fmAll_iDs fun t ht => by have := t1 t ht; omega, (fmAll_cons _ _).mpr ⟨f0, by omega, (fmAll_cons _ _).mpr ⟨f1, by omega, fmAll_nil⟩⟩⟩
      have hwA : wtAll (iDs (turnsOf ((few + m : Nat) : Int)) ++ [d0, d1]) ≤ 7 + 2 * wS s := by
        rw [wtAll_app, wtAll_iDs, wtAll_cons, wtAll_cons, wtAll_nil]
        omega
      have hdA : ∀ d ∈ iDs (turnsOf ((few + m : Nat) : Int)) ++ [d0, d1], d.depth ≤ dS s := fun d hd => by
        rcases List.mem_append.mp hd with hd | hd
        · rw [dep_iDs hd]
          exact Nat.zero_le _
        · simp only [List.mem_cons, List.not_mem_nil, or_false] at hd
          rcases hd with rfl | rfl
          · exact dp0
          · exact dp1
      obtain ⟨d, fd, ed, wd, dd⟩ := row_exG fA (by rw [ev]; exact hA)
      have gs : Givs K T.C_Far (fr H (upd H4 l3 (.lst (nv (turnsOf ((few + m : Nat) : Int)) ++ [x0, x1])))) (dS s) (dS s) (nv (turnsOf ((few + m : Nat) : Int)) ++ [x0, x1]) (iDs (turnsOf ((few + m : Nat) : Int)) ++ [d0, d1]) :=
        (givs_ints fun t ht => by have := t1 t ht; omega).app (.cons (g0.same (same_fr s1 ((s3.trans sl2).trans sl3))) (.cons (g1.same (same_fr s12 (sl2.trans sl3))) .nil))
      have edv : val d = ((pv (.far s few) + m : Nat) : Int) := by
        rw [ed, ev, tv_app, if_pos t3, turnsOf_tv, tv2]
        show _ = ((2 ^ pv s + few + m : Nat) : Int)
        have : (((2 : Nat) ^ pv s : Nat) : Int) = (2 : Int) ^ pv s := by norm_cast
        rw [Int.pow_succ]
        push_cast
        omega
      refine q (.ref l3) d _ (.lst (fr_new (none_back ((s12.trans s3).trans sl2) n3) upd_same) gs.1 gs.2 fA (by rw [ev]; exact hA) (by omega) hdA fd ed) fd edv (by show _ ≤ 9 + 2 * wS s; omega) ?_ ((s12.trans s3).trans (sl2.trans sl3))
      have := depthAll_le.mpr hdA
      show _ ≤ dS s + 1
      omega
end
end K37
set_option Elab.async false
set_option linter.all false
set_option maxRecDepth 100000
set_option pp.deepTerms false
set_option pp.maxSteps 1500
set_option maxHeartbeats 1000000
/-! numbers written as groups (laws k37 to k41) -/
namespace K37
open PySem PySem.Spec PyProof.Rows L2 HX TV FM DX FB FC PM FI GL
local macro_rules | `(tactic| walk_at "r") => `(tactic| (repeat (first | refine Exists.intro _ (And.intro rfl ?_) | refine And.intro rfl ?_ | refine Exists.intro _ (Exists.intro _ (And.intro rfl (And.intro rfl ?_))) | refine And.intro (by omega) ?_ | refine And.intro (Or.inl (And.intro (by omega) (by omega))) ?_ | refine And.intro (Or.inr (And.intro (by omega) (by omega))) ?_ | refine And.intro (And.intro (by omega) (by omega)) ?_ | refine And.intro (And.intro (by decide) (And.intro (by decide) (by decide))) ?_ | refine Or.inl (Exists.intro _ (And.intro rfl ?_)) | (dsimp only [gName]; first | with_reducible refine seqC ?_ | with_reducible refine asgC ?_))))
local macro_rules | `(tactic| walk_at "s") => `(tactic| (repeat (first | refine Exists.intro _ (And.intro rfl ?_) | refine And.intro rfl ?_ | refine Exists.intro _ (Exists.intro _ (And.intro rfl (And.intro rfl ?_))) | refine And.intro (by omega) ?_ | refine And.intro (Or.inl (And.intro (by omega) (by omega))) ?_ | refine And.intro (Or.inr (And.intro (by omega) (by omega))) ?_ | refine And.intro (And.intro (by omega) (by omega)) ?_ | refine And.intro (And.intro (by decide) (And.intro (by decide) (by decide))) ?_ | refine Or.inl (Exists.intro _ (And.intro rfl ?_)) | refine Exists.intro _ (Exists.intro _ (And.intro rfl ?_)) | (dsimp only [gName]; first | with_reducible refine seqC ?_ | with_reducible refine asgC ?_))))
section
variable {P : Program} {w : World} {K : PySem.W.Frag} {mg : Str → Option Value} {base : Heap}
/-- the places of a list -/
structure SpVs (H : Hp) (us : List V) (ss : List Plc) : Prop where
  len : us.length = ss.length
  get : ∀ (i : Nat) (v : V) (s : Plc), us[i]? = some v → ss[i]? = some s → SpV H v s
theorem SpVs.same {H H' : Hp} {us : List V} {ss : List Plc} (h : SpVs H us ss) (e : Same H H') : SpVs H' us ss := ⟨h.len, fun i v s h1 h2 => (h.get i v s h1 h2).same e⟩
/-- groups with room: small parts -/
structure Grp (k N : Nat) (ss : List Plc) (p0 : Int) (cs : List Int) : Prop where
  len : cs.length = ss.length
  ok : ∀ s ∈ ss, SpOk s ∧ dS s ≤ k ∧ wS s ≤ 300
  n0 : p0.natAbs < 2 ^ 30
  nc : ∀ c ∈ cs, c.natAbs < 2 ^ 30
  cnt : ∀ c ∈ cs, (turnsOf c).length + 1 ≤ N ∧ (turnsOf (c - 1)).length + 1 ≤ N
  room : ∃ lo, (∀ t ∈ turnsOf p0, t ≤ lo) ∧ Room 32 lo ((ss.map pv).zip cs)
  wt : (turnsOf p0).length + N * (ss.map wS).sum ≤ 1998
  sz : ss.length ≤ 10
noncomputable def gl (ss : List Plc) (p0 : Int) (cs : List Int) : Int := linFrom p0 ((ss.map pv).zip cs)
def sp_gwrit (K : PySem.W.Frag) (C : Addr) (k : Nat) : Sp := fun vs H Q _ => ∃ (a b : Addr) (us : List V) (ss : List Plc) (p0 : Int) (cs : List Int) (N : Nat), vs = [.ref a, .ref b] ∧ H a = some (.lst us) ∧ SpVs H us ss ∧ H b = some (.lst ((p0 :: cs).map V.int)) ∧ Grp k N ss p0 cs ∧
  ∀ l ws ds H', H' l = some (.lst ws) → Givs K C H' k k ws ds → FmAll ds → vals ds = turnsOf (gl ss p0 cs) → 1 + wtAll ds ≤ 2000 → (∀ d ∈ ds, d.depth ≤ k) → Same H H' → Q (.ref l) H'
theorem small_turns {n : Int} (h : n.natAbs < 2 ^ 31) : ∀ t ∈ turnsOf n, t ≤ 31 := by
  have hb : Bw 31 n := ⟨by omega, by omega⟩
  exact hb.turns
theorem rows_app : ∀ (L : List (Nat × Int)) (ts : List Nat) (P : Nat) (c : Int), rowsFrom ts (L ++ [(P, c)]) = GL.step (rowsFrom ts L) P c
  | [], _, _, _ => rfl
  | (P', c') :: r, ts, P, c => by
    show rowsFrom (GL.step ts P' c') (r ++ [(P, c)]) = GL.step (rowsFrom (GL.step ts P' c') r) P c
    exact rows_app r _ P c
theorem step_par (ts : List Nat) (P : Nat) (c : Int) : (c - (if ts.length % 2 = 1 then 1 else 0) < 0) ↔ (GL.step ts P c).length % 2 = 1 := by
  unfold GL.step
  rw [List.length_append, List.length_map]
  by_cases h : ts.length % 2 = 1
  · rw [if_pos h, if_pos h, neg_odd]
    have := (len_tog (turnsOf (c - 1))).2
    omega
  · rw [if_neg h, if_neg h, neg_odd, Int.sub_zero]
    omega
theorem eqv_take (ys : List Nat) : PyData.eqv (.list (iDs (ys.take 1))) (.list (iDs [0])) = (ys.head? == some 0) := by
  match ys with
  | [] => rfl
  | 0 :: r => rfl
  | (t + 1) :: r =>
    have h : ((((t + 1 : Nat) : Int)) == 0) = false := by
      rw [beq_eq_false_iff_ne]
      omega
    simp [iDs, PyData.eqv, PyData.eqvAll, h]
    omega
theorem take_sum {l : List Nat} {i w : Nat} (h : l[i]? = some w) : (l.take (i + 1)).sum = (l.take i).sum + w ∧ (l.take i).sum + w ≤ l.sum := by
  have e : l.take (i + 1) = l.take i ++ [w] := by rw [List.take_add_one, h]; rfl
  have e1 : (l.take (i + 1)).sum = (l.take i).sum + w := by rw [e, List.sum_append]; simp
  refine ⟨e1, ?_⟩
  rw [← e1]
  have := congrArg List.sum (List.take_append_drop (i + 1) l)
  rw [List.sum_append] at this
  omega
theorem ok__law_written (T : Top K mg) (k : Nat) : FnOk P w K mg base CX0 (k + 3) T.f__law_written T.fd__law_written ["_law_specs_here", "_law_parts_here"]  (sp_gwrit K T.C_Far k) := by
  have G__law_turns : FnOk P w K mg base CX0 (1) T.f__law_turns T.fd__law_turns ["_law_number"]  sp_gturns := ok__law_turnsG T
  have G__law_row : FnOk P w K mg base CX0 (k + 2) T.f__law_row T.fd__law_row ["_law_spec", "_law_more"]  (sp_grow K T.C_Far k) := ok__law_row T k
  refine T.F__law_written.ok sc__law_written (fun vs H Q E h => ?_) (fun cdv A outer s H vs Q E hr h => ?_)
  · obtain ⟨a, b, us, ss, p0, cs, N, rfl, _⟩ := h
    rfl
  · obtain ⟨a, b, us, ss, p0, cs, N, rfl, ha, hus, hb, G, q⟩ := h
    refine ⟨_, (pss_cons (ps_par (i := 2) (j := 3) rfl sc__law_written.nd rfl rfl (by decide) rfl rfl (pa_cons (pe_call G__law_turns (hr.mono (by omega)) (by rfl) T.g__law_turns T.F__law_turns.kp T.b__law_turns .nil pass0 (pa_cons (pe_ix ix_list (pv 1) pe_int (fun _ _ => rfl)) pa_nil)) (pa_cons (pe_callTy call_int1 (by rfl) T.m_int (by decide +kernel) (pa_cons (pe_cmpR op_lt (pe_ix ix_list (pv 1) pe_int (fun _ _ => rfl)) pe_int (nomark _)) pa_nil)) pa_nil)) rfl)
    (pss_cons (ps_for PassesOwn.never rfl (pi_range1 (by rfl) T.m_range (pa_cons (pe_callB call_len_seq (by rfl) T.m_len PySem.boot_len (pa_cons (pv 0) pa_nil)) pa_nil)) (pg_name (i := 4) sc__law_written.nd rfl (Or.inr rfl))
      (pss_cons (ps_set (i := 5) sc__law_written.nd rfl (Or.inl rfl) (pe_op op_sub (pe_ix ix_list (pv 1) (pe_op op_add (pv 4) pe_int) (fun _ _ => rfl)) (pv 3)))
      (pss_cons (ps_set (i := 6) sc__law_written.nd rfl (Or.inl rfl) (pe_call G__law_turns (hr.mono (by omega)) (by rfl) T.g__law_turns T.F__law_turns.kp T.b__law_turns .nil pass0 (pa_cons (pv 5) pa_nil)))
      (pss_cons (ps_if (pt_cmpR op_eq (pv 3) pe_int (nomark _))
        (pss_one (ps_set (i := 6) sc__law_written.nd rfl (Or.inl rfl) (pe_ifExp (pt_cmpR (op_eqD hr.units) (pe_slice sl_list (pv 6) po_none (po_some pe_int)) (pe_lst (pa_cons pe_int pa_nil)) (nomark _)) (pe_slice sl_list (pv 6) (po_some pe_int) po_none) (pe_op op_cat (pe_lst (pa_cons pe_int pa_nil)) (pv 6)))))
        pss_nil)
      (pss_cons (ps_set (i := 2) sc__law_written.nd rfl (Or.inl rfl) (pe_op op_cat (pv 2) (pe_lc (own := [("_law_one", 7)]) (g := gName 7) (by rfl) sc__law_written.nd (pi_list (pv 6)) (blkOk_by (own := [("_law_one", 7)]) (N := ["_law_specs_here", "_law_parts_here", "_law_found", "_law_below", "_law_index", "_law_here", "_law_some", "_law_one"]) (sc := defScope s__law_written) (by decide +kernel)) (fun _ _ _ _ _ => (pg_name (i := 7) sc__law_written.nd rfl (Or.inl rfl))) (fun _ _ _ _ _ => pts_nil) (fun _ _ _ _ _ => (pe_call G__law_row (hr.mono (by omega)) (by rfl) T.g__law_row T.F__law_row.kp T.b__law_row .nil pass0 (pa_cons (pe_ix (r := rIxL K) ix_list (pv 0) (pv 4) (fun _ _ => rfl)) (pa_cons (pv 7) pa_nil)))))))
      (pss_one (ps_set (i := 3) sc__law_written.nd rfl (Or.inl rfl) (pe_callTy call_int1 (by rfl) T.m_int (by decide +kernel) (pa_cons (pe_cmpR op_lt (pv 5) pe_int (nomark _)) pa_nil)))))))))
    (pss_one (ps_ret (pv 2))))), ?_⟩
    have hn0 := G.n0
    walk_at "r"
    refine ⟨b, _, 0, .int p0, rfl, rfl, .inl (.inl hb), at_of (j := 0) rfl rfl, ?_⟩
    walk_at "r"
    refine fun l1 H1 s1 n1 h1 => ?_
    walk_at "r"
    refine ⟨b, _, 0, .int p0, rfl, rfl, .inl (.inl (s1 _ _ hb)), at_of (j := 0) rfl rfl, ?_⟩
    walk_at "r"
    refine .inr ⟨_, rfl, ?_⟩
    walk_at "r"
    refine ⟨_, _, rfl, ?_⟩
    dsimp only [gName]
    have hbl : (if decide (p0 < 0) = true then (1 : Int) else 0) = bI (decide ((turnsOf p0).length % 2 = 1)) := by
      unfold bI
      rw [decide_eq_decide.mpr (neg_odd p0)]
    rw [hbl]
    have hss := hus.len
    have hcl := G.len
    have hsz := G.sz
    refine ⟨_, rfl, a, us, rfl, .inl (.inl (.inl (s1 _ _ ha))), ?_⟩
    refine ⟨_, rfl, ?_, ?_, ?_⟩
    · omega
    · omega
    refine flR (fun i σ H' => ∃ (l : Addr) (z4 z5 z6 z7 : Option V) (ws : List V) (ds : List PyData), σ = [some (.ref a), some (.ref b), some (.ref l), some (.int (bI (decide ((rowsFrom (turnsOf p0) (((ss.map pv).zip cs).take i)).length % 2 = 1)))), z4, z5, z6, z7] ∧ H' l = some (.lst ws) ∧ Givs K T.C_Far H' k k ws ds ∧ FmAll ds ∧ vals ds = rowsFrom (turnsOf p0) (((ss.map pv).zip cs).take i) ∧ wtAll ds ≤ (turnsOf p0).length + N * ((ss.map wS).take i).sum ∧ (∀ d ∈ ds, d.depth ≤ k) ∧ Same H H') ⟨l1, none, none, none, none, _, iDs (turnsOf p0), rfl, h1, givs_ints fun t ht => by have := small_turns (by omega : p0.natAbs < 2 ^ 31) t ht; omega, fmAll_iDs fun t ht => by have := small_turns (by omega : p0.natAbs < 2 ^ 31) t ht; omega, vals_iDs _, by rw [wtAll_iDs]; exact Nat.le_add_right _ _, fun d hd => by rw [dep_iDs hd]; exact Nat.zero_le _, s1⟩ ?_ ?_
    · rintro i σ H2 hi ⟨l, z4, z5, z6, z7, ws, ds, rfl, hl, gs, fA, hv, hw, hd, s2⟩ D' B
      have hiu : i < us.length := by simpa using hi
      obtain ⟨c, hc⟩ : ∃ c, cs[i]? = some c := ⟨_, List.getElem?_eq_getElem (by omega)⟩
      obtain ⟨sp, hsp⟩ : ∃ sp, ss[i]? = some sp := ⟨_, List.getElem?_eq_getElem (by omega)⟩
      obtain ⟨v, hv0⟩ : ∃ v, us[i]? = some v := ⟨_, List.getElem?_eq_getElem hiu⟩
      have hvs := hus.get i v sp hv0 hsp
      obtain ⟨ok1, ok2, ok3⟩ := G.ok sp (List.mem_of_getElem? hsp)
      have hcn := G.nc c (List.mem_of_getElem? hc)
      obtain ⟨cn1, cn2⟩ := G.cnt c (List.mem_of_getElem? hc)
      have hL : ((ss.map pv).zip cs).take (i + 1) = ((ss.map pv).zip cs).take i ++ [(pv sp, c)] := by
        rw [List.take_add_one]
        congr 1
        rw [(List.getElem?_zip_eq_some (z := (pv sp, c))).mpr ⟨by rw [List.getElem?_map, hsp]; rfl, hc⟩]
        rfl
      obtain ⟨ts, ets⟩ : ∃ ts, ts = rowsFrom (turnsOf p0) (((ss.map pv).zip cs).take i) := ⟨_, rfl⟩
      rw [← ets] at hv ⊢
      dsimp only [gName]
      walk_at "r"
      refine ⟨b, _, _, .int c, rfl, rfl, .inl (.inl (s2 _ _ hb)), at_of (j := i + 1) (by omega) (by simp [hc]), ?_⟩
      walk_at "r"
      have hb01 : bI (decide (ts.length % 2 = 1)) = if ts.length % 2 = 1 then 1 else 0 := by
        unfold bI
        by_cases hp : ts.length % 2 = 1
        · rw [decide_eq_true hp, if_pos rfl, if_pos hp]
        · rw [decide_eq_false hp, if_neg (by decide), if_neg hp]
      refine ⟨by rw [hb01]; split <;> omega, fun l5 H5 s5 n5 h5 => ?_⟩
      dsimp only [gName]
      with_reducible refine cut (fun σ' H' => ∃ (lz : Addr) (zs : List Nat), σ' = [some (.ref a), some (.ref b), some (.ref l), some (.int (bI (decide (ts.length % 2 = 1)))), some (.int (0 + (i : Nat))), some (.int (c - bI (decide (ts.length % 2 = 1)))), some (.ref lz), z7] ∧ H' lz = some (.lst (nv zs)) ∧ zs = (if ts.length % 2 = 1 then tog (turnsOf (c - 1)) else turnsOf c) ∧ Same H5 H') (fun D1 J1 => ?_) ?_
      · walk_at "r"
        refine ifE (fun h1 => ?_) (fun h1 => ?_)
        · have hp : ts.length % 2 = 1 := by
            rw [hb01] at h1
            split at h1
            · assumption
            · cases h1
          rw [hb01, if_pos hp] at h5
          obtain ⟨ys, eys⟩ : ∃ ys, ys = turnsOf (c - 1) := ⟨_, rfl⟩
          rw [← eys] at h5
          have ec1 : cutV (nv ys) none (some 1) = (nv ys).take 1 := cut_to (m := 1)
          have ec2 : cutV (nv ys) (some 1) none = (nv ys).drop 1 := cut_from (m := 1)
          walk_at "r"
          refine ⟨l5, _, rfl, .inl (.inl h5), fun l6 n6 => ?_⟩
          rw [ec1]
          have s6 := sm_upd (o := .lst ((nv ys).take 1)) n6
          have h6 : upd H5 l6 (.lst ((nv ys).take 1)) l6 = some (.lst ((nv ys).take 1)) := upd_same
          revert s6 h6
          generalize upd H5 l6 _ = H6
          intro s6 h6
          walk_at "r"
          refine ⟨len_le (by show 1 ≤ _; decide), fun l7 n7 => ?_⟩
          have s7 := sm_upd (o := .lst [V.int 0]) n7
          have h7 : upd H6 l7 (.lst [V.int 0]) l7 = some (.lst [V.int 0]) := upd_same
          revert s7 h7
          generalize upd H6 l7 _ = H7
          intro s7 h7
          have dpi : ∀ {G : Hp} (r : List Nat), DpAll K G (nv r) (iDs r) := fun r => by
            induction r with
            | nil => exact .nil
            | cons t r ih => exact .cons (.int _) ih
          have hsh : ∀ r : List Nat, SeqAt.shaped (.list (iDs r)) = true := fun r => by
            have := shaped_ints (r.map fun t => ((t : Nat) : Int))
            rw [List.map_map] at this
            exact this
          have etk : (nv ys).take 1 = nv (ys.take 1) := by unfold nv; rw [List.map_take]
          rw [etk] at h6
          refine ⟨.list (iDs (ys.take 1)), .list (iDs [0]), .lst (.inl (.inl (s7 _ _ h6))) (dpi _), .lst (.inl (.inl h7)) (dpi [0]), hsh _, hsh _, ?_⟩
          rw [eqv_take]
          have h57 := (s6.trans s7) _ _ h5
          refine ⟨_, rfl, ?_⟩
          have hl31 := asc_len (ts := ys) (a := 0) (k := 31) (by rw [eys]; exact turnsOf_asc _) fun t ht => ⟨Nat.zero_le _, small_turns (n := c - 1) (by omega) t (by rw [← eys]; exact ht)⟩
          refine ite2 (fun h => ?_) (fun h => ?_)
          · have hr : ∃ r, ys = 0 :: r := by
              match ys, h with
              | t :: r, h => exact ⟨r, by simpa using h⟩
            obtain ⟨r, er⟩ := hr
            walk_at "r"
            refine ⟨l5, _, rfl, .inl (.inl h57), fun l8 n8 => ?_⟩
            rw [ec2]
            refine J1.nx _ _ ⟨l8, r, rfl, ?_, ?_, ((s6.trans s7).trans (sm_upd n8))⟩
            · rw [upd_same, er]
              rfl
            · rw [if_pos hp, ← eys, er]
              rfl
          · walk_at "r"
            refine ⟨len_le (by show 1 ≤ _; decide), fun l8 n8 => ?_⟩
            have s8 := sm_upd (o := .lst [V.int 0]) n8
            have h8 : upd H7 l8 (.lst [V.int 0]) l8 = some (.lst [V.int 0]) := upd_same
            revert s8 h8
            generalize upd H7 l8 _ = H8
            intro s8 h8
            refine ⟨_, rfl, l8, l5, _, _, rfl, rfl, h8, s8 _ _ h57, len_le (by rw [nv_len]; show 1 + _ ≤ _; omega), fun l9 n9 => ?_⟩
            refine J1.nx _ _ ⟨l9, 0 :: ys, rfl, ?_, ?_, (((s6.trans s7).trans s8).trans (sm_upd n9))⟩
            · rw [upd_same]
              rfl
            · rw [if_pos hp, ← eys]
              match ys, h with
              | [], _ => rfl
              | 0 :: r, h => exact absurd (show ((0 :: r).head? == some 0) = true by simp) h
              | (t + 1) :: r, _ => rfl
        · have hp : ¬ ts.length % 2 = 1 := fun hp => h1 (by rw [hb01, if_pos hp])
          rw [hb01, if_neg hp, Int.sub_zero] at h5
          exact J1.nx _ _ ⟨l5, _, rfl, h5, by rw [if_neg hp], Same.refl _⟩
      rintro σ' H6 ⟨lz, zs, rfl, hlz, ezs, s6⟩
      have hzl : zs.length ≤ N := by
        rw [ezs]
        split
        · have := (len_tog (turnsOf (c - 1))).1
          omega
        · omega
      have hz31 : ∀ t ∈ zs, t ≤ 31 := by
        rw [ezs]
        split
        · exact tog_le (small_turns (by omega))
        · exact small_turns (by omega)
      have hz32 : zs.length ≤ 32 := by
        refine asc_len (a := 0) (k := 31) ?_ fun t ht => ⟨Nat.zero_le _, hz31 t ht⟩
        rw [ezs]
        split
        · exact asc_tog (turnsOf_asc _)
        · exact turnsOf_asc _
      refine ⟨_, rfl, _, rfl, lz, rfl, ⟨_, .inl (.inl hlz)⟩, fun D nD => lc_list (xs := nv zs) (fun j H' => Same H6 H' ∧ ∃ (wj : List V) (dj : List PyData), H' D = some (.lst wj) ∧ Givs K T.C_Far (fr (upd H6 D (.lst [])) H') k k wj dj ∧ FmAll dj ∧ vals dj = (zs.take j).map (pv sp + ·) ∧ wtAll dj ≤ j * wS sp ∧ ∀ d ∈ dj, d.depth ≤ k) ?_ ?_ ?_ ?_⟩
      · exact ⟨sm_upd nD, [], [], upd_same, .nil, fmAll_nil, vals_nil, by rw [wtAll_nil]; exact Nat.zero_le _, by simp⟩
      · rintro j H' _ ⟨sm, _⟩
        exact .inl (.inl (sm _ _ hlz))
      · rintro j x H' hx ⟨sm, wj, dj, eD, gj, fj, vj, wtj, dpj⟩
        obtain ⟨t, ht, rfl⟩ := nv_get hx
        have htm := hz31 t (List.mem_of_getElem? ht)
        have hjl := (List.getElem?_eq_some_iff.mp ht).1
        refine ⟨rfl, ?_⟩
        walk_at "r"
        have s06 := ((s2.trans s5).trans s6).trans sm
        refine ⟨a, us, _, v, rfl, rfl, .inl (.inl (s06 _ _ ha)), at_of (j := i) (by omega) hv0, ?_⟩
        refine ⟨_, rfl, v, sp, t, rfl, hvs.same s06, ok1, ok2, by omega, ok3, fun x d H'' gx fx ex wx dx sx => ?_⟩
        have sB : Same (upd H6 D (.lst [])) (upd H6 D (.lst [])) := Same.refl _
        refine ⟨wj, sx _ _ eD, ?_, sm_mut (sm.trans sx) nD, wj ++ [x], dj ++ [d], upd_same, ?_, ?_, ?_, ?_, ?_⟩
        · have h1 := gj.1
          have h2 := congrArg List.length vj
          rw [vals_len, List.length_map, List.length_take] at h2
          exact len_lt (by omega)
        · have e1 : fr (upd H6 D (.lst [])) (upd H'' D (.lst (wj ++ [x]))) = fr (upd H6 D (.lst [])) H'' := by
            funext z
            unfold fr
            by_cases hz : z = D
            · subst hz
              rw [if_neg (by rw [upd_same]; exact Option.some_ne_none _), if_neg (by rw [upd_same]; exact Option.some_ne_none _)]
            · rw [upd_ne (o := .lst (wj ++ [x])) hz]
          rw [e1]
          refine (gj.same (same_fr (Same.refl _) sx)).app (.cons ((gx.same ?_).mono ok2 ok2) .nil)
          intro z o hz
          unfold fr at *
          by_cases h1 : H' z = none
          · rw [if_pos h1] at hz
            have h2 : upd H6 D (.lst []) z = none := by
              by_cases hzD : z = D
              · subst hzD
                rw [h1] at eD
                cases eD
              · rw [upd_ne hzD]
                exact none_back sm h1
            rw [if_pos h2]
            exact hz
          · rw [if_neg h1] at hz
            cases hz
        · exact (fmAll_app _ _).mpr ⟨fj, (fmAll_cons _ _).mpr ⟨fx, by omega, fmAll_nil⟩⟩
        · rw [vals_app, vals_cons, vals_nil, vj, ex, List.take_add_one, ht, List.map_append]
          simp
          omega
        · rw [wtAll_app, wtAll_cons, wtAll_nil, Nat.add_mul]
          omega
        · intro d' hd'
          rcases List.mem_append.mp hd' with h | h
          · exact dpj d' h
          · rw [List.mem_singleton.mp h]
            omega
      rintro H7 ⟨s7, wj, dj, eD, gj, fj, vj, wtj, dpj⟩
      have hwS := take_sum (l := ss.map wS) (i := i) (w := wS sp) (by rw [List.getElem?_map, hsp]; rfl)
      rw [nv_len, List.take_length] at vj
      rw [nv_len] at wtj
      have hNw : zs.length * wS sp ≤ N * wS sp := Nat.mul_le_mul_right _ hzl
      have hNs : N * ((ss.map wS).take i).sum + N * wS sp ≤ N * (ss.map wS).sum := by
        rw [← Nat.mul_add]
        exact Nat.mul_le_mul_left _ hwS.2
      have hGw := G.wt
      have l1' := len_wt ds
      have l2' := len_wt dj
      have g1 := gs.1
      have g2 := gj.1
      have s27 := ((s5.trans s6).trans s7)
      refine ⟨l, D, ws, wj, rfl, rfl, s27 _ _ hl, eD, len_le (by omega), fun l9 n9 => ?_⟩
      have s9 := sm_upd (o := .lst (ws ++ wj)) n9
      have h9 : upd H7 l9 (.lst (ws ++ wj)) l9 = some (.lst (ws ++ wj)) := upd_same
      revert s9 h9
      generalize upd H7 l9 _ = H9
      intro s9 h9
      dsimp only [gName]
      walk_at "r"
      refine .inr ⟨_, rfl, ?_⟩
      have hbel : (if decide (c - bI (decide (ts.length % 2 = 1)) < 0) = true then (1 : Int) else 0) = bI (decide ((GL.step ts (pv sp) c).length % 2 = 1)) := by
        rw [hb01]
        unfold bI
        rw [decide_eq_decide.mpr (step_par ts (pv sp) c)]
      dsimp only [gName]
      rw [hbel]
      have hst : GL.step ts (pv sp) c = ts ++ zs.map (pv sp + ·) := by
        unfold GL.step
        rw [ezs]
      refine B.nx _ _ ⟨l9, some (.int (0 + (i : Nat))), some (.int (c - bI (decide (ts.length % 2 = 1)))), some (.ref lz), z7, ws ++ wj, ds ++ dj, ?_, h9, (gs.same (s27.trans s9)).app ((gj.same fr_sub).same s9), (fmAll_app _ _).mpr ⟨fA, fj⟩, ?_, ?_, fun d' hd' => (List.mem_append.mp hd').elim (hd d') (dpj d'), (s2.trans s27).trans s9⟩
      · rw [hL, rows_app, ← ets]
        rfl
      · rw [vals_app, hv, vj, hL, rows_app, ← ets, hst]
      · rw [wtAll_app, hwS.1, Nat.mul_add]
        omega
    · rintro σ H9 ⟨l, z4, z5, z6, z7, ws, ds, rfl, hl, gs, fA, hv, hw, hd, s9⟩
      obtain ⟨lo, hlo, hroom⟩ := G.room
      have eall : ((ss.map pv).zip cs).take (((us.length : Nat) : Int)).toNat = (ss.map pv).zip cs := by
        rw [List.take_of_length_le]
        rw [List.length_zip, List.length_map]
        omega
      have eallw : (ss.map wS).take (((us.length : Nat) : Int)).toNat = ss.map wS := by
        rw [List.take_of_length_le]
        rw [List.length_map]
        omega
      rw [eall, ← lin_turns _ lo p0 hroom hlo] at hv
      rw [eallw] at hw
      have hGw := G.wt
      refine ⟨_, rfl, ?_⟩
      exact q l ws ds H9 hl gs fA hv (by omega) hd s9
end
end K37
set_option Elab.async false
set_option linter.all false
set_option maxRecDepth 100000
set_option pp.deepTerms false
set_option pp.maxSteps 1500
set_option maxHeartbeats 1000000
/-! places that are drawn (laws k37 to k41) -/
namespace K37
open PySem PySem.Spec PyProof.Rows L2 HX TV FM DX FB FC PM FI GL
local macro_rules | `(tactic| walk_at "r") => `(tactic| (repeat (first | refine Exists.intro _ (And.intro rfl ?_) | refine And.intro rfl ?_ | refine Exists.intro _ (Exists.intro _ (And.intro rfl (And.intro rfl ?_))) | refine And.intro (by omega) ?_ | refine And.intro (Or.inl (And.intro (by omega) (by omega))) ?_ | refine And.intro (Or.inr (And.intro (by omega) (by omega))) ?_ | refine And.intro (And.intro (by omega) (by omega)) ?_ | refine And.intro (And.intro (by decide) (And.intro (by decide) (by decide))) ?_ | refine Or.inl (Exists.intro _ (And.intro rfl ?_)) | (dsimp only [gName]; first | with_reducible refine seqC ?_ | with_reducible refine asgC ?_))))
local macro_rules | `(tactic| walk_at "s") => `(tactic| (repeat (first | refine Exists.intro _ (And.intro rfl ?_) | refine And.intro rfl ?_ | refine Exists.intro _ (Exists.intro _ (And.intro rfl (And.intro rfl ?_))) | refine And.intro (by omega) ?_ | refine And.intro (Or.inl (And.intro (by omega) (by omega))) ?_ | refine And.intro (Or.inr (And.intro (by omega) (by omega))) ?_ | refine And.intro (And.intro (by omega) (by omega)) ?_ | refine And.intro (And.intro (by decide) (And.intro (by decide) (by decide))) ?_ | refine Or.inl (Exists.intro _ (And.intro rfl ?_)) | refine Exists.intro _ (Exists.intro _ (And.intro rfl ?_)) | (dsimp only [gName]; first | with_reducible refine seqC ?_ | with_reducible refine asgC ?_))))
section
variable {P : Program} {w : World} {K : PySem.W.Frag} {mg : Str → Option Value} {base : Heap}
/-- one place far behind another -/
def Gap (s t : Plc) : Prop := pv s + 60 < pv t
structure Menu (ms : List Plc) : Prop where
  ok : ∀ s ∈ ms, SpOk s ∧ dS s ≤ 2 ∧ wS s ≤ 31
  gap : ms.Pairwise Gap
theorem pow_gap {a b : Nat} (h : a + 1 ≤ b) (ha : 10 ≤ a) : 2 ^ a + 100 < 2 ^ b := by
  have h1 : (2 : Nat) ^ (a + 1) ≤ 2 ^ b := Nat.pow_le_pow_right (by decide) h
  have h2 : (2 : Nat) ^ 10 ≤ 2 ^ a := Nat.pow_le_pow_right (by decide) ha
  have h3 : (2 : Nat) ^ 10 = 1024 := by decide
  rw [Nat.pow_succ] at h1
  omega
theorem menu7 {a1 a2 a3 a4 a5 a6 a7 f4 f5 f6 f7 g6 g7 : Nat} (h1 : 70 ≤ a1 ∧ a1 < 100) (h2 : 180 ≤ a2 ∧ a2 < 270) (h3 : 800 ≤ a3 ∧ a3 < 1700) (h4 : 80 ≤ a4 ∧ a4 < 89) (h5 : 95 ≤ a5 ∧ a5 < 145) (h6 : 70 ≤ a6 ∧ a6 < 90) (h7 : 100 ≤ a7 ∧ a7 < 150)
    (b4 : f4 < 8) (b5 : f5 < 8) (b6 : f6 < 8) (b7 : f7 < 8) (c6 : g6 < 8) (c7 : g7 < 8) :
    Menu [.int a1, .int a2, .int a3, .far (.int a4) f4, .far (.int a5) f5, .far (.far (.int a6) f6) g6, .far (.far (.int a7) f7) g7] := by
  have p80 : (2 : Nat) ^ 80 ≤ 2 ^ a4 := Nat.pow_le_pow_right (by decide) h4.1
  have p80' : (10000 : Nat) < 2 ^ 80 := by decide
  have p45 : (2 : Nat) ^ a4 + 100 < 2 ^ a5 := pow_gap (by omega) (by omega)
  have q6 : (2 : Nat) ^ 70 ≤ 2 ^ a6 := Nat.pow_le_pow_right (by decide) h6.1
  have q6' : (1000 : Nat) < 2 ^ 70 := by decide
  have p56 : (2 : Nat) ^ a5 + 100 < 2 ^ (2 ^ a6 + f6) := pow_gap (by omega) (by omega)
  have p67 : (2 : Nat) ^ a6 + 100 < 2 ^ a7 := pow_gap (by omega) (by omega)
  have p67' : (2 : Nat) ^ (2 ^ a6 + f6) + 100 < 2 ^ (2 ^ a7 + f7) := pow_gap (by omega) (by omega)
  refine ⟨?_, ?_⟩
  · intro s hs
    simp only [List.mem_cons, List.not_mem_nil, or_false] at hs
    rcases hs with rfl | rfl | rfl | rfl | rfl | rfl | rfl <;> simp only [SpOk, dS, wS] <;> omega
  · simp only [List.pairwise_cons, List.mem_cons, List.not_mem_nil, or_false, Gap]
    refine ⟨?_, ?_, ?_, ?_, ?_, ?_, ?_, .nil⟩
    all_goals
      intro t ht
      rcases ht with rfl | rfl | rfl | rfl | rfl | rfl | rfl <;> simp only [GL.pv] <;> omega
/-- the places of a number: each a power of two far up, and a few -/
structure Drawn (ss ms : List Plc) (fs : List Nat) : Prop where
  eq : ss = List.zipWith Plc.far ms fs
  len : fs.length = ms.length
  menu : Menu ms
  few : ∀ f ∈ fs, 1 ≤ f ∧ f ≤ 7
  sz : ms.length ≤ 4
def sp_gspecs (K : PySem.W.Frag) : Sp := fun vs H Q _ => ∃ (τ : Pn) (n m : Nat), vs = [.ref τ.p, .int (m : Nat)] ∧ n < 900000 ∧ m ≤ 7 ∧ Pen H τ n ∧
  ∀ (l : Addr) (us : List V) (ss ms : List Plc) (fs : List Nat) H', Drawn ss ms fs → SpVs H' us ss → H l = none → H' l = some (.lst us) → Pen H' τ (n + 40) → But τ.p H H' → Q (.ref l) H'
theorem SpVs.keep {H H' : Hp} {us : List V} {ss : List Plc} (h : SpVs H us ss) (e : ∀ a xs, H a = some (.tup xs) → H' a = some (.tup xs)) : SpVs H' us ss := ⟨h.len, fun i v s h1 h2 => (h.get i v s h1 h2).keep e⟩
theorem SpVs.app {H : Hp} {us vs : List V} {ss ts : List Plc} (h : SpVs H us ss) (g : SpVs H vs ts) : SpVs H (us ++ vs) (ss ++ ts) := by
  refine ⟨by rw [List.length_append, List.length_append, h.len, g.len], fun i v s h1 h2 => ?_⟩
  have hl := h.len
  by_cases hi : i < us.length
  · rw [List.getElem?_append_left hi] at h1
    rw [List.getElem?_append_left (by omega)] at h2
    exact h.get i v s h1 h2
  · rw [List.getElem?_append_right (by omega)] at h1
    rw [List.getElem?_append_right (by omega)] at h2
    rw [← hl] at h2
    exact g.get _ v s h1 h2
theorem SpVs.one {H : Hp} {v : V} {s : Plc} (h : SpV H v s) : SpVs H [v] [s] := ⟨rfl, fun i x z h1 h2 => by
  match i with
  | 0 =>
    cases h1
    cases h2
    exact h
  | i + 1 => simp at h1⟩
theorem SpVs.nil {H : Hp} : SpVs H [] [] := ⟨rfl, fun i x z h1 => by simp at h1⟩
theorem ok__law_specs (T : Top K mg) : FnOk P w K mg base CX0 (3) T.f__law_specs T.fd__law_specs ["_law_pen_here", "_law_limit"]  (sp_gspecs K) := by
  have G__law_draw : FnOk P w K mg base CX0 (1) T.f__law_draw T.fd__law_draw ["_law_pen_here", "_law_number"]  sp_pdraw := ok__law_draw T
  refine T.F__law_specs.ok sc__law_specs (fun vs H Q E h => ?_) (fun cdv A outer s H vs Q E hr h => ?_)
  · obtain ⟨τ, n, m, rfl, _⟩ := h
    rfl
  · obtain ⟨τ, n, m, rfl, hn, hm, hT, q⟩ := h
    refine ⟨_, (pss_cons (ps_set (i := 2) sc__law_specs.nd rfl (Or.inl rfl) (pe_lst (pa_cons (pe_op op_add pe_int (pe_call G__law_draw (hr.mono (by omega)) (by rfl) T.g__law_draw T.F__law_draw.kp T.b__law_draw .nil pass0 (pa_cons (pv 0) (pa_cons pe_int pa_nil)))) (pa_cons (pe_op op_add pe_int (pe_call G__law_draw (hr.mono (by omega)) (by rfl) T.g__law_draw T.F__law_draw.kp T.b__law_draw .nil pass0 (pa_cons (pv 0) (pa_cons pe_int pa_nil)))) (pa_cons (pe_op op_add pe_int (pe_call G__law_draw (hr.mono (by omega)) (by rfl) T.g__law_draw T.F__law_draw.kp T.b__law_draw .nil pass0 (pa_cons (pv 0) (pa_cons pe_int pa_nil)))) pa_nil)))))
    (pss_cons (ps_set (i := 2) sc__law_specs.nd rfl (Or.inl rfl) (pe_op op_cat (pv 2) (pe_lst (pa_cons (pe_tup (pa_cons (pe_op op_add pe_int (pe_call G__law_draw (hr.mono (by omega)) (by rfl) T.g__law_draw T.F__law_draw.kp T.b__law_draw .nil pass0 (pa_cons (pv 0) (pa_cons pe_int pa_nil)))) (pa_cons (pe_call G__law_draw (hr.mono (by omega)) (by rfl) T.g__law_draw T.F__law_draw.kp T.b__law_draw .nil pass0 (pa_cons (pv 0) (pa_cons pe_int pa_nil))) pa_nil))) (pa_cons (pe_tup (pa_cons (pe_op op_add pe_int (pe_call G__law_draw (hr.mono (by omega)) (by rfl) T.g__law_draw T.F__law_draw.kp T.b__law_draw .nil pass0 (pa_cons (pv 0) (pa_cons pe_int pa_nil)))) (pa_cons (pe_call G__law_draw (hr.mono (by omega)) (by rfl) T.g__law_draw T.F__law_draw.kp T.b__law_draw .nil pass0 (pa_cons (pv 0) (pa_cons pe_int pa_nil))) pa_nil))) pa_nil)))))
    (pss_cons (ps_set (i := 2) sc__law_specs.nd rfl (Or.inl rfl) (pe_op op_cat (pv 2) (pe_lst (pa_cons (pe_tup (pa_cons (pe_tup (pa_cons (pe_op op_add pe_int (pe_call G__law_draw (hr.mono (by omega)) (by rfl) T.g__law_draw T.F__law_draw.kp T.b__law_draw .nil pass0 (pa_cons (pv 0) (pa_cons pe_int pa_nil)))) (pa_cons (pe_call G__law_draw (hr.mono (by omega)) (by rfl) T.g__law_draw T.F__law_draw.kp T.b__law_draw .nil pass0 (pa_cons (pv 0) (pa_cons pe_int pa_nil))) pa_nil))) (pa_cons (pe_call G__law_draw (hr.mono (by omega)) (by rfl) T.g__law_draw T.F__law_draw.kp T.b__law_draw .nil pass0 (pa_cons (pv 0) (pa_cons pe_int pa_nil))) pa_nil))) pa_nil))))
    (pss_cons (ps_set (i := 2) sc__law_specs.nd rfl (Or.inl rfl) (pe_op op_cat (pv 2) (pe_lst (pa_cons (pe_tup (pa_cons (pe_tup (pa_cons (pe_op op_add pe_int (pe_call G__law_draw (hr.mono (by omega)) (by rfl) T.g__law_draw T.F__law_draw.kp T.b__law_draw .nil pass0 (pa_cons (pv 0) (pa_cons pe_int pa_nil)))) (pa_cons (pe_call G__law_draw (hr.mono (by omega)) (by rfl) T.g__law_draw T.F__law_draw.kp T.b__law_draw .nil pass0 (pa_cons (pv 0) (pa_cons pe_int pa_nil))) pa_nil))) (pa_cons (pe_call G__law_draw (hr.mono (by omega)) (by rfl) T.g__law_draw T.F__law_draw.kp T.b__law_draw .nil pass0 (pa_cons (pv 0) (pa_cons pe_int pa_nil))) pa_nil))) pa_nil))))
    (pss_cons (ps_par (i := 2) (j := 3) rfl sc__law_specs.nd rfl rfl (by decide) rfl rfl (pa_cons (pe_slice sl_list (pv 2) po_none (po_some (pv 1))) (pa_cons (pe_lst pa_nil) pa_nil)) rfl)
    (pss_cons (ps_for PassesOwn.never rfl (pi_range1 (by rfl) T.m_range (pa_cons (pe_callB call_len_seq (by rfl) T.m_len PySem.boot_len (pa_cons (pv 2) pa_nil)) pa_nil)) (pg_name (i := 4) sc__law_specs.nd rfl (Or.inl rfl))
      (pss_one (ps_if (PW.pt (pw_or (pt_cmpR op_le (pe_op op_sub (pe_op op_add (pe_callB call_len_seq (by rfl) T.m_len PySem.boot_len (pa_cons (pv 3) pa_nil)) (pe_callB call_len_seq (by rfl) T.m_len PySem.boot_len (pa_cons (pv 2) pa_nil))) (pv 4)) pe_int (nomark _)) (pw_or1 (PW.pt (pw_and (pt_cmpR op_lt (pe_callB call_len_seq (by rfl) T.m_len PySem.boot_len (pa_cons (pv 3) pa_nil)) pe_int (nomark _)) (pw_and1 (pt_cmpR op_eq (pe_call G__law_draw (hr.mono (by omega)) (by rfl) T.g__law_draw T.F__law_draw.kp T.b__law_draw .nil pass0 (pa_cons (pv 0) (pa_cons pe_int pa_nil))) pe_int (nomark _))))))))
        (pss_one (ps_expr (pe_bm PySem.F.plainAttrs_list PySem.F.slot_list_append PySem.F.type_list_append mt_append (pv 3) (pa_cons (pe_tup (pa_cons (pe_ix ix_list (pv 2) (pv 4) (fun _ _ => rfl)) (pa_cons (pe_op op_add pe_int (pe_call G__law_draw (hr.mono (by omega)) (by rfl) T.g__law_draw T.F__law_draw.kp T.b__law_draw .nil pass0 (pa_cons (pv 0) (pa_cons pe_int pa_nil)))) pa_nil))) pa_nil))))
        pss_nil)))
    (pss_one (ps_ret (pv 3))))))))), ?_⟩
    have hT0 := hT
    have bt : But τ.p H H := But.refl _
    walk_at "r"
    refine ⟨τ, _, 30, rfl, by decide, by decide, by omega, hT, fun y1 H1a ya1 yb1 t1 b1 => ?_⟩
    obtain ⟨x1, rfl⟩ := Int.eq_ofNat_of_zero_le ya1
    replace bt := bt.trans b1
    replace hT := t1
    walk_at "r"
    refine ⟨τ, _, 90, rfl, by decide, by decide, by omega, hT, fun y2 H2a ya2 yb2 t2 b2 => ?_⟩
    obtain ⟨x2, rfl⟩ := Int.eq_ofNat_of_zero_le ya2
    replace bt := bt.trans b2
    replace hT := t2
    walk_at "r"
    refine ⟨τ, _, 900, rfl, by decide, by decide, by omega, hT, fun y3 H3a ya3 yb3 t3 b3 => ?_⟩
    obtain ⟨x3, rfl⟩ := Int.eq_ofNat_of_zero_le ya3
    replace bt := bt.trans b3
    replace hT := t3
    walk_at "r"
    refine ⟨len_le (by show 3 ≤ _; decide), fun l1 nl1 => ?_⟩
    have sl1 := sm_upd (o := .lst [V.int (70 + (x1 : Int)), .int (180 + (x2 : Int)), .int (800 + (x3 : Int))]) nl1
    have hl1 : upd H3a l1 (.lst [V.int (70 + (x1 : Int)), .int (180 + (x2 : Int)), .int (800 + (x3 : Int))]) l1 = some (.lst [V.int (70 + (x1 : Int)), .int (180 + (x2 : Int)), .int (800 + (x3 : Int))]) := upd_same
    revert sl1 hl1
    generalize upd H3a l1 _ = Gl1
    intro sl1 hl1
    replace bt := bt.trans (But.of sl1)
    replace hT := hT.up sl1
    walk_at "r"
    dsimp only [gName]
    walk_at "r"
    refine ⟨τ, _, 9, rfl, by decide, by decide, by omega, hT, fun y4 H4a ya4 yb4 t4 b4 => ?_⟩
    obtain ⟨x4, rfl⟩ := Int.eq_ofNat_of_zero_le ya4
    replace hl1 := b4 _ _ (hT.ne hl1 (fun _ z => nomatch z)) hl1
    replace bt := bt.trans b4
    replace hT := t4
    walk_at "r"
    refine ⟨τ, _, 8, rfl, by decide, by decide, by omega, hT, fun y5 H5a ya5 yb5 t5 b5 => ?_⟩
    obtain ⟨x5, rfl⟩ := Int.eq_ofNat_of_zero_le ya5
    replace hl1 := b5 _ _ (hT.ne hl1 (fun _ z => nomatch z)) hl1
    replace bt := bt.trans b5
    replace hT := t5
    walk_at "r"
    refine ⟨len_le (by show 2 ≤ _; decide), fun tA ntA => ?_⟩
    have stA := sm_upd (o := .tup [V.int (80 + (x4 : Int)), .int (x5 : Int)]) ntA
    have htA : upd H5a tA (.tup [V.int (80 + (x4 : Int)), .int (x5 : Int)]) tA = some (.tup [V.int (80 + (x4 : Int)), .int (x5 : Int)]) := upd_same
    revert stA htA
    generalize upd H5a tA _ = GtA
    intro stA htA
    replace hl1 := stA _ _ hl1
    replace bt := bt.trans (But.of stA)
    replace hT := hT.up stA
    walk_at "r"
    refine ⟨τ, _, 50, rfl, by decide, by decide, by omega, hT, fun y6 H6a ya6 yb6 t6 b6 => ?_⟩
    obtain ⟨x6, rfl⟩ := Int.eq_ofNat_of_zero_le ya6
    replace hl1 := b6 _ _ (hT.ne hl1 (fun _ z => nomatch z)) hl1
    replace htA := b6 _ _ (hT.ne htA (fun _ z => nomatch z)) htA
    replace bt := bt.trans b6
    replace hT := t6
    walk_at "r"
    refine ⟨τ, _, 8, rfl, by decide, by decide, by omega, hT, fun y7 H7a ya7 yb7 t7 b7 => ?_⟩
    obtain ⟨x7, rfl⟩ := Int.eq_ofNat_of_zero_le ya7
    replace hl1 := b7 _ _ (hT.ne hl1 (fun _ z => nomatch z)) hl1
    replace htA := b7 _ _ (hT.ne htA (fun _ z => nomatch z)) htA
    replace bt := bt.trans b7
    replace hT := t7
    walk_at "r"
    refine ⟨len_le (by show 2 ≤ _; decide), fun tB ntB => ?_⟩
    have stB := sm_upd (o := .tup [V.int (95 + (x6 : Int)), .int (x7 : Int)]) ntB
    have htB : upd H7a tB (.tup [V.int (95 + (x6 : Int)), .int (x7 : Int)]) tB = some (.tup [V.int (95 + (x6 : Int)), .int (x7 : Int)]) := upd_same
    revert stB htB
    generalize upd H7a tB _ = GtB
    intro stB htB
    replace hl1 := stB _ _ hl1
    replace htA := stB _ _ htA
    replace bt := bt.trans (But.of stB)
    replace hT := hT.up stB
    walk_at "r"
    refine ⟨len_le (by show 2 ≤ _; decide), fun l2 nl2 => ?_⟩
    have sl2 := sm_upd (o := .lst [V.ref tA, .ref tB]) nl2
    have hl2 : upd GtB l2 (.lst [V.ref tA, .ref tB]) l2 = some (.lst [V.ref tA, .ref tB]) := upd_same
    revert sl2 hl2
    generalize upd GtB l2 _ = Gl2
    intro sl2 hl2
    replace hl1 := sl2 _ _ hl1
    replace htA := sl2 _ _ htA
    replace htB := sl2 _ _ htB
    replace bt := bt.trans (But.of sl2)
    replace hT := hT.up sl2
    walk_at "r"
    refine ⟨l1, l2, _, _, rfl, rfl, hl1, hl2, len_le (by show 5 ≤ _; decide), fun m2 nm2 => ?_⟩
    have sm2 := sm_upd (o := .lst ([V.int (70 + (x1 : Int)), .int (180 + (x2 : Int)), .int (800 + (x3 : Int))] ++ [V.ref tA, .ref tB])) nm2
    have hm2 : upd Gl2 m2 (.lst ([V.int (70 + (x1 : Int)), .int (180 + (x2 : Int)), .int (800 + (x3 : Int))] ++ [V.ref tA, .ref tB])) m2 = some (.lst ([V.int (70 + (x1 : Int)), .int (180 + (x2 : Int)), .int (800 + (x3 : Int))] ++ [V.ref tA, .ref tB])) := upd_same
    revert sm2 hm2
    generalize upd Gl2 m2 _ = Gm2
    intro sm2 hm2
    dsimp only [gName]
    replace hl1 := sm2 _ _ hl1
    replace htA := sm2 _ _ htA
    replace htB := sm2 _ _ htB
    replace hl2 := sm2 _ _ hl2
    replace bt := bt.trans (But.of sm2)
    replace hT := hT.up sm2
    walk_at "r"
    refine ⟨τ, _, 20, rfl, by decide, by decide, by omega, hT, fun y8 H8a ya8 yb8 t8 b8 => ?_⟩
    obtain ⟨x8, rfl⟩ := Int.eq_ofNat_of_zero_le ya8
    replace hl1 := b8 _ _ (hT.ne hl1 (fun _ z => nomatch z)) hl1
    replace htA := b8 _ _ (hT.ne htA (fun _ z => nomatch z)) htA
    replace htB := b8 _ _ (hT.ne htB (fun _ z => nomatch z)) htB
    replace hl2 := b8 _ _ (hT.ne hl2 (fun _ z => nomatch z)) hl2
    replace hm2 := b8 _ _ (hT.ne hm2 (fun _ z => nomatch z)) hm2
    replace bt := bt.trans b8
    replace hT := t8
    walk_at "r"
    refine ⟨τ, _, 8, rfl, by decide, by decide, by omega, hT, fun y9 H9a ya9 yb9 t9 b9 => ?_⟩
    obtain ⟨x9, rfl⟩ := Int.eq_ofNat_of_zero_le ya9
    replace hl1 := b9 _ _ (hT.ne hl1 (fun _ z => nomatch z)) hl1
    replace htA := b9 _ _ (hT.ne htA (fun _ z => nomatch z)) htA
    replace htB := b9 _ _ (hT.ne htB (fun _ z => nomatch z)) htB
    replace hl2 := b9 _ _ (hT.ne hl2 (fun _ z => nomatch z)) hl2
    replace hm2 := b9 _ _ (hT.ne hm2 (fun _ z => nomatch z)) hm2
    replace bt := bt.trans b9
    replace hT := t9
    walk_at "r"
    refine ⟨len_le (by show 2 ≤ _; decide), fun tC0 ntC0 => ?_⟩
    have stC0 := sm_upd (o := .tup [V.int (70 + (x8 : Int)), .int (x9 : Int)]) ntC0
    have htC0 : upd H9a tC0 (.tup [V.int (70 + (x8 : Int)), .int (x9 : Int)]) tC0 = some (.tup [V.int (70 + (x8 : Int)), .int (x9 : Int)]) := upd_same
    revert stC0 htC0
    generalize upd H9a tC0 _ = GtC0
    intro stC0 htC0
    replace hl1 := stC0 _ _ hl1
    replace htA := stC0 _ _ htA
    replace htB := stC0 _ _ htB
    replace hl2 := stC0 _ _ hl2
    replace hm2 := stC0 _ _ hm2
    replace bt := bt.trans (But.of stC0)
    replace hT := hT.up stC0
    walk_at "r"
    refine ⟨τ, _, 8, rfl, by decide, by decide, by omega, hT, fun y10 H10a ya10 yb10 t10 b10 => ?_⟩
    obtain ⟨x10, rfl⟩ := Int.eq_ofNat_of_zero_le ya10
    replace hl1 := b10 _ _ (hT.ne hl1 (fun _ z => nomatch z)) hl1
    replace htA := b10 _ _ (hT.ne htA (fun _ z => nomatch z)) htA
    replace htB := b10 _ _ (hT.ne htB (fun _ z => nomatch z)) htB
    replace hl2 := b10 _ _ (hT.ne hl2 (fun _ z => nomatch z)) hl2
    replace hm2 := b10 _ _ (hT.ne hm2 (fun _ z => nomatch z)) hm2
    replace htC0 := b10 _ _ (hT.ne htC0 (fun _ z => nomatch z)) htC0
    replace bt := bt.trans b10
    replace hT := t10
    walk_at "r"
    refine ⟨len_le (by show 2 ≤ _; decide), fun tC ntC => ?_⟩
    have stC := sm_upd (o := .tup [V.ref tC0, .int (x10 : Int)]) ntC
    have htC : upd H10a tC (.tup [V.ref tC0, .int (x10 : Int)]) tC = some (.tup [V.ref tC0, .int (x10 : Int)]) := upd_same
    revert stC htC
    generalize upd H10a tC _ = GtC
    intro stC htC
    replace hl1 := stC _ _ hl1
    replace htA := stC _ _ htA
    replace htB := stC _ _ htB
    replace hl2 := stC _ _ hl2
    replace hm2 := stC _ _ hm2
    replace htC0 := stC _ _ htC0
    replace bt := bt.trans (But.of stC)
    replace hT := hT.up stC
    walk_at "r"
    refine ⟨len_le (by show 1 ≤ _; decide), fun l3 nl3 => ?_⟩
    have sl3 := sm_upd (o := .lst [V.ref tC]) nl3
    have hl3 : upd GtC l3 (.lst [V.ref tC]) l3 = some (.lst [V.ref tC]) := upd_same
    revert sl3 hl3
    generalize upd GtC l3 _ = Gl3
    intro sl3 hl3
    replace hl1 := sl3 _ _ hl1
    replace htA := sl3 _ _ htA
    replace htB := sl3 _ _ htB
    replace hl2 := sl3 _ _ hl2
    replace hm2 := sl3 _ _ hm2
    replace htC0 := sl3 _ _ htC0
    replace htC := sl3 _ _ htC
    replace bt := bt.trans (But.of sl3)
    replace hT := hT.up sl3
    walk_at "r"
    refine ⟨m2, l3, _, _, rfl, rfl, hm2, hl3, len_le (by show 6 ≤ _; decide), fun m3 nm3 => ?_⟩
    have sm3 := sm_upd (o := .lst (([V.int (70 + (x1 : Int)), .int (180 + (x2 : Int)), .int (800 + (x3 : Int))] ++ [V.ref tA, .ref tB]) ++ [V.ref tC])) nm3
    have hm3 : upd Gl3 m3 (.lst (([V.int (70 + (x1 : Int)), .int (180 + (x2 : Int)), .int (800 + (x3 : Int))] ++ [V.ref tA, .ref tB]) ++ [V.ref tC])) m3 = some (.lst (([V.int (70 + (x1 : Int)), .int (180 + (x2 : Int)), .int (800 + (x3 : Int))] ++ [V.ref tA, .ref tB]) ++ [V.ref tC])) := upd_same
    revert sm3 hm3
    generalize upd Gl3 m3 _ = Gm3
    intro sm3 hm3
    dsimp only [gName]
    replace hl1 := sm3 _ _ hl1
    replace htA := sm3 _ _ htA
    replace htB := sm3 _ _ htB
    replace hl2 := sm3 _ _ hl2
    replace hm2 := sm3 _ _ hm2
    replace htC0 := sm3 _ _ htC0
    replace htC := sm3 _ _ htC
    replace hl3 := sm3 _ _ hl3
    replace bt := bt.trans (But.of sm3)
    replace hT := hT.up sm3
    walk_at "r"
    refine ⟨τ, _, 50, rfl, by decide, by decide, by omega, hT, fun y11 H11a ya11 yb11 t11 b11 => ?_⟩
    obtain ⟨x11, rfl⟩ := Int.eq_ofNat_of_zero_le ya11
    replace hl1 := b11 _ _ (hT.ne hl1 (fun _ z => nomatch z)) hl1
    replace htA := b11 _ _ (hT.ne htA (fun _ z => nomatch z)) htA
    replace htB := b11 _ _ (hT.ne htB (fun _ z => nomatch z)) htB
    replace hl2 := b11 _ _ (hT.ne hl2 (fun _ z => nomatch z)) hl2
    replace hm2 := b11 _ _ (hT.ne hm2 (fun _ z => nomatch z)) hm2
    replace htC0 := b11 _ _ (hT.ne htC0 (fun _ z => nomatch z)) htC0
    replace htC := b11 _ _ (hT.ne htC (fun _ z => nomatch z)) htC
    replace hl3 := b11 _ _ (hT.ne hl3 (fun _ z => nomatch z)) hl3
    replace hm3 := b11 _ _ (hT.ne hm3 (fun _ z => nomatch z)) hm3
    replace bt := bt.trans b11
    replace hT := t11
    walk_at "r"
    refine ⟨τ, _, 8, rfl, by decide, by decide, by omega, hT, fun y12 H12a ya12 yb12 t12 b12 => ?_⟩
    obtain ⟨x12, rfl⟩ := Int.eq_ofNat_of_zero_le ya12
    replace hl1 := b12 _ _ (hT.ne hl1 (fun _ z => nomatch z)) hl1
    replace htA := b12 _ _ (hT.ne htA (fun _ z => nomatch z)) htA
    replace htB := b12 _ _ (hT.ne htB (fun _ z => nomatch z)) htB
    replace hl2 := b12 _ _ (hT.ne hl2 (fun _ z => nomatch z)) hl2
    replace hm2 := b12 _ _ (hT.ne hm2 (fun _ z => nomatch z)) hm2
    replace htC0 := b12 _ _ (hT.ne htC0 (fun _ z => nomatch z)) htC0
    replace htC := b12 _ _ (hT.ne htC (fun _ z => nomatch z)) htC
    replace hl3 := b12 _ _ (hT.ne hl3 (fun _ z => nomatch z)) hl3
    replace hm3 := b12 _ _ (hT.ne hm3 (fun _ z => nomatch z)) hm3
    replace bt := bt.trans b12
    replace hT := t12
    walk_at "r"
    refine ⟨len_le (by show 2 ≤ _; decide), fun tD0 ntD0 => ?_⟩
    have stD0 := sm_upd (o := .tup [V.int (100 + (x11 : Int)), .int (x12 : Int)]) ntD0
    have htD0 : upd H12a tD0 (.tup [V.int (100 + (x11 : Int)), .int (x12 : Int)]) tD0 = some (.tup [V.int (100 + (x11 : Int)), .int (x12 : Int)]) := upd_same
    revert stD0 htD0
    generalize upd H12a tD0 _ = GtD0
    intro stD0 htD0
    replace hl1 := stD0 _ _ hl1
    replace htA := stD0 _ _ htA
    replace htB := stD0 _ _ htB
    replace hl2 := stD0 _ _ hl2
    replace hm2 := stD0 _ _ hm2
    replace htC0 := stD0 _ _ htC0
    replace htC := stD0 _ _ htC
    replace hl3 := stD0 _ _ hl3
    replace hm3 := stD0 _ _ hm3
    replace bt := bt.trans (But.of stD0)
    replace hT := hT.up stD0
    walk_at "r"
    refine ⟨τ, _, 8, rfl, by decide, by decide, by omega, hT, fun y13 H13a ya13 yb13 t13 b13 => ?_⟩
    obtain ⟨x13, rfl⟩ := Int.eq_ofNat_of_zero_le ya13
    replace hl1 := b13 _ _ (hT.ne hl1 (fun _ z => nomatch z)) hl1
    replace htA := b13 _ _ (hT.ne htA (fun _ z => nomatch z)) htA
    replace htB := b13 _ _ (hT.ne htB (fun _ z => nomatch z)) htB
    replace hl2 := b13 _ _ (hT.ne hl2 (fun _ z => nomatch z)) hl2
    replace hm2 := b13 _ _ (hT.ne hm2 (fun _ z => nomatch z)) hm2
    replace htC0 := b13 _ _ (hT.ne htC0 (fun _ z => nomatch z)) htC0
    replace htC := b13 _ _ (hT.ne htC (fun _ z => nomatch z)) htC
    replace hl3 := b13 _ _ (hT.ne hl3 (fun _ z => nomatch z)) hl3
    replace hm3 := b13 _ _ (hT.ne hm3 (fun _ z => nomatch z)) hm3
    replace htD0 := b13 _ _ (hT.ne htD0 (fun _ z => nomatch z)) htD0
    replace bt := bt.trans b13
    replace hT := t13
    walk_at "r"
    refine ⟨len_le (by show 2 ≤ _; decide), fun tD ntD => ?_⟩
    have stD := sm_upd (o := .tup [V.ref tD0, .int (x13 : Int)]) ntD
    have htD : upd H13a tD (.tup [V.ref tD0, .int (x13 : Int)]) tD = some (.tup [V.ref tD0, .int (x13 : Int)]) := upd_same
    revert stD htD
    generalize upd H13a tD _ = GtD
    intro stD htD
    replace hl1 := stD _ _ hl1
    replace htA := stD _ _ htA
    replace htB := stD _ _ htB
    replace hl2 := stD _ _ hl2
    replace hm2 := stD _ _ hm2
    replace htC0 := stD _ _ htC0
    replace htC := stD _ _ htC
    replace hl3 := stD _ _ hl3
    replace hm3 := stD _ _ hm3
    replace htD0 := stD _ _ htD0
    replace bt := bt.trans (But.of stD)
    replace hT := hT.up stD
    walk_at "r"
    refine ⟨len_le (by show 1 ≤ _; decide), fun l4 nl4 => ?_⟩
    have sl4 := sm_upd (o := .lst [V.ref tD]) nl4
    have hl4 : upd GtD l4 (.lst [V.ref tD]) l4 = some (.lst [V.ref tD]) := upd_same
    revert sl4 hl4
    generalize upd GtD l4 _ = Gl4
    intro sl4 hl4
    replace hl1 := sl4 _ _ hl1
    replace htA := sl4 _ _ htA
    replace htB := sl4 _ _ htB
    replace hl2 := sl4 _ _ hl2
    replace hm2 := sl4 _ _ hm2
    replace htC0 := sl4 _ _ htC0
    replace htC := sl4 _ _ htC
    replace hl3 := sl4 _ _ hl3
    replace hm3 := sl4 _ _ hm3
    replace htD0 := sl4 _ _ htD0
    replace htD := sl4 _ _ htD
    replace bt := bt.trans (But.of sl4)
    replace hT := hT.up sl4
    walk_at "r"
    refine ⟨m3, l4, _, _, rfl, rfl, hm3, hl4, len_le (by show 7 ≤ _; decide), fun m4 nm4 => ?_⟩
    have sm4 := sm_upd (o := .lst ((([V.int (70 + (x1 : Int)), .int (180 + (x2 : Int)), .int (800 + (x3 : Int))] ++ [V.ref tA, .ref tB]) ++ [V.ref tC]) ++ [V.ref tD])) nm4
    have hm4 : upd Gl4 m4 (.lst ((([V.int (70 + (x1 : Int)), .int (180 + (x2 : Int)), .int (800 + (x3 : Int))] ++ [V.ref tA, .ref tB]) ++ [V.ref tC]) ++ [V.ref tD])) m4 = some (.lst ((([V.int (70 + (x1 : Int)), .int (180 + (x2 : Int)), .int (800 + (x3 : Int))] ++ [V.ref tA, .ref tB]) ++ [V.ref tC]) ++ [V.ref tD])) := upd_same
    revert sm4 hm4
    generalize upd Gl4 m4 _ = Gm4
    intro sm4 hm4
    dsimp only [gName]
    replace hl1 := sm4 _ _ hl1
    replace htA := sm4 _ _ htA
    replace htB := sm4 _ _ htB
    replace hl2 := sm4 _ _ hl2
    replace hm2 := sm4 _ _ hm2
    replace htC0 := sm4 _ _ htC0
    replace htC := sm4 _ _ htC
    replace hl3 := sm4 _ _ hl3
    replace hm3 := sm4 _ _ hm3
    replace htD0 := sm4 _ _ htD0
    replace htD := sm4 _ _ htD
    replace hl4 := sm4 _ _ hl4
    replace bt := bt.trans (But.of sm4)
    replace hT := hT.up sm4
    obtain ⟨us, eus⟩ : ∃ us, us = ((([V.int (70 + (x1 : Int)), .int (180 + (x2 : Int)), .int (800 + (x3 : Int))] ++ [V.ref tA, .ref tB]) ++ [V.ref tC]) ++ [V.ref tD]) := ⟨_, rfl⟩
    have ms7 := menu7 (a1 := 70 + x1) (a2 := 180 + x2) (a3 := 800 + x3) (a4 := 80 + x4) (a5 := 95 + x6) (a6 := 70 + x8) (a7 := 100 + x11) (f4 := x5) (f5 := x7) (f6 := x9) (f7 := x12) (g6 := x10) (g7 := x13) (by omega) (by omega) (by omega) (by omega) (by omega) (by omega) (by omega) (by omega) (by omega) (by omega) (by omega) (by omega) (by omega)
    obtain ⟨ms, ems⟩ : ∃ ms, ms = [Plc.int (70 + x1), .int (180 + x2), .int (800 + x3), .far (.int (80 + x4)) x5, .far (.int (95 + x6)) x7, .far (.far (.int (70 + x8)) x9) x10, .far (.far (.int (100 + x11)) x12) x13] := ⟨_, rfl⟩
    rw [← ems] at ms7
    rw [← eus] at hm4
    have hsv : SpVs Gm4 us ms := by
      refine ⟨by rw [eus, ems]; rfl, ?_⟩
      rw [eus, ems]
      intro j v z h1 h2
      match j with
      | 0 => cases h1; cases h2; exact .int _
      | 1 => cases h1; cases h2; exact .int _
      | 2 => cases h1; cases h2; exact .int _
      | 3 => cases h1; cases h2; exact .far _ _ _ _ htA (.int _)
      | 4 => cases h1; cases h2; exact .far _ _ _ _ htB (.int _)
      | 5 => cases h1; cases h2; exact .far _ _ _ _ htC (.far _ _ _ _ htC0 (.int _))
      | 6 => cases h1; cases h2; exact .far _ _ _ _ htD (.far _ _ _ _ htD0 (.int _))
      | j + 7 => simp at h1
    walk_at "r"
    refine ⟨m4, _, rfl, .inl (.inl hm4), fun l5 nl5 => ?_⟩
    rw [cut_to]
    have s5 := sm_upd (o := .lst (us.take m)) nl5
    have h5 : upd Gm4 l5 (.lst (us.take m)) l5 = some (.lst (us.take m)) := upd_same
    revert s5 h5
    generalize upd Gm4 l5 _ = Q5
    intro s5 h5
    walk_at "r"
    refine ⟨len_le (by show 0 ≤ _; decide), fun lf nlf => ?_⟩
    have sf := sm_upd (o := .lst []) nlf
    have hf : upd Q5 lf (.lst []) lf = some (.lst []) := upd_same
    have nlf0 : Gm4 lf = none := none_back s5 nlf
    revert sf hf
    generalize upd Q5 lf _ = Q6
    intro sf hf
    have bt0 := bt
    replace hsv := hsv.same (s5.trans sf)
    replace bt := bt.trans (But.of (s5.trans sf))
    replace hT := hT.up (s5.trans sf)
    have h56 := sf _ _ h5
    have hne : l5 ≠ lf := fun z => by rw [z] at h5; rw [nlf] at h5; cases h5
    have nH : H lf = none := by
      match q : H lf with
      | none => rfl
      | some u =>
        exfalso
        by_cases hz : lf = τ.p
        · obtain ⟨kvs, hd⟩ := hT.dict
          rw [← hz, hf] at hd
          cases hd
        · have := bt0 _ _ hz q
          rw [nlf0] at this
          cases this
    have hul := hsv.len
    refine ⟨_, _, rfl, ?_⟩
    dsimp only [gName]
    refine ⟨_, rfl, l5, us.take m, rfl, .inl (.inl (.inl h56)), ?_⟩
    have hml : ms.length = 7 := by rw [ems]; rfl
    have htl : (us.take m).length ≤ 7 := by rw [List.length_take]; omega
    refine ⟨_, rfl, ?_, ?_, ?_⟩
    · omega
    · omega
    refine flR (fun i σ H' => ∃ (z4 : Option V) (wl : List V) (ml : List Plc) (fl : List Nat), σ = [some (.ref τ.p), some (.int (m : Nat)), some (.ref l5), some (.ref lf), z4] ∧ H' l5 = some (.lst (us.take m)) ∧ H' lf = some (.lst wl) ∧ SpVs H' us ms ∧ SpVs H' wl (List.zipWith Plc.far ml fl) ∧ fl.length = ml.length ∧ ml.Sublist ((ms.take m).take i) ∧ (∀ f ∈ fl, 1 ≤ f ∧ f ≤ 7) ∧ ml.length ≤ 4 ∧ Pen H' τ (n + 14 + 2 * i) ∧ But τ.p H H') ⟨none, [], [], [], rfl, h56, hf, hsv, .nil, rfl, List.nil_sublist _, by simp, by decide, hT.le (by omega), bt⟩ ?_ ?_
    · rintro i σ H7 hi ⟨z4, wl, ml, fl, rfl, h57, hf7, hsv7, hwl, hfl, hsub, hfew, hm4', hT7, bt7⟩ D' B
      have hi7 : i < (us.take m).length := by simpa using hi
      have hwll := hwl.len
      rw [List.length_zipWith] at hwll
      dsimp only [gName]
      have hmsl := ms7
      obtain ⟨sp, hsp⟩ : ∃ sp, (ms.take m)[i]? = some sp := ⟨_, List.getElem?_eq_getElem (by rw [List.length_take] at hi7 ⊢; omega)⟩
      obtain ⟨vp, hvp⟩ : ∃ vp, (us.take m)[i]? = some vp := ⟨_, List.getElem?_eq_getElem hi7⟩
      have hsp' : ms[i]? = some sp := by
        rw [List.getElem?_take] at hsp
        split at hsp
        · exact hsp
        · cases hsp
      have hvp' : us[i]? = some vp := by
        rw [List.getElem?_take] at hvp
        split at hvp
        · exact hvp
        · cases hvp
      have htk : (ms.take m).take (i + 1) = (ms.take m).take i ++ [sp] := by rw [List.take_add_one, hsp]; rfl
      have hso := (ms7.ok sp (List.mem_of_getElem? hsp')).1
      have add : ∀ H8, ml.length ≤ 3 → H8 l5 = some (.lst (us.take m)) → H8 lf = some (.lst wl) → SpVs H8 us ms → SpVs H8 wl (List.zipWith Plc.far ml fl) → Pen H8 τ (n + 14 + 2 * i + 1) → But τ.p H H8 → (tDrop (tBM K "list" rAppend (tVar 3) (tCons (tTup (tCons (tOp (rIxL K) (tVar 2) (tVar 4)) (tCons (tOp (rI0 fun i j => .int (i + j)) (L2.tC (.int 1)) (tCall sp_pdraw [] E0 (tCons (tVar 0) (tCons (L2.tC (.int 7)) tNil)))) tNil))) tNil)) : TS) D' [some (.ref τ.p), some (.int (m : Nat)), some (.ref l5), some (.ref lf), some (.int (0 + (i : Nat)))] H8 := by
        intro H8 hl3 g5 gf gsv gwl gT gb
        refine ⟨_, rfl, .inl ⟨rfl, _, .inl (.inl gf)⟩, ?_⟩
        walk_at "r"
        refine ⟨l5, _, _, vp, rfl, rfl, .inl (.inl g5), at_of (j := i) (by omega) hvp, ?_⟩
        walk_at "r"
        refine ⟨τ, _, 7, rfl, by decide, by decide, by omega, gT, fun y H9 y0 y1 t9 b9 => ?_⟩
        obtain ⟨x9, rfl⟩ := Int.eq_ofNat_of_zero_le y0
        walk_at "r"
        refine ⟨len_le (by show 2 ≤ _; decide), fun tq ntq => ?_⟩
        have sq := sm_upd (o := .tup [vp, .int (1 + (x9 : Int))]) ntq
        have hq : upd H9 tq (.tup [vp, .int (1 + (x9 : Int))]) tq = some (.tup [vp, .int (1 + (x9 : Int))]) := upd_same
        revert sq hq
        generalize upd H9 tq _ = H10
        intro sq hq
        have gf10 := sq _ _ (b9 _ _ (gT.neL gf) gf)
        have kt : ∀ a xs, H8 a = some (.tup xs) → (upd H10 lf (.lst (wl ++ [.ref tq]))) a = some (.tup xs) := fun a xs z => by
          have z1 := b9 _ _ (gT.ne z (fun _ z => nomatch z)) z
          have hne2 : a ≠ lf := fun e => by rw [e, gf] at z; cases z
          rw [upd_ne hne2]
          exact sq _ _ z1
        have hq11 : (upd H10 lf (.lst (wl ++ [.ref tq]))) tq = some (.tup [vp, .int ((1 + x9 : Nat) : Int)]) := by
          have hne2 : tq ≠ lf := fun e => by rw [e, gf10] at hq; cases hq
          rw [upd_ne hne2, hq]
          congr 3
        have gsv11 := gsv.keep kt
        have gwl11 := gwl.keep kt
        have hz : List.zipWith Plc.far (ml ++ [sp]) (fl ++ [1 + x9]) = List.zipWith Plc.far ml fl ++ [.far sp (1 + x9)] := List.zipWith_append (by omega)
        refine ⟨lf, wl, _, rfl, rfl, gf10, len_lt (by omega), ?_⟩
        refine B.nx _ _ ⟨_, wl ++ [.ref tq], ml ++ [sp], fl ++ [1 + x9], rfl, ?_, upd_same, gsv11, ?_, by rw [List.length_append, List.length_append, hfl]; rfl, ?_, ?_, by rw [List.length_append]; show _ + 1 ≤ 4; omega, ?_, ?_⟩
        · rw [upd_ne hne]
          exact sq _ _ (b9 _ _ (gT.neL g5) g5)
        · rw [hz]
          exact gwl11.app (.one (.far _ _ _ _ hq11 (gsv11.get i vp sp hvp' hsp')))
        · rw [htk]
          exact hsub.append (List.Sublist.refl _)
        · intro f hf
          rcases List.mem_append.mp hf with h | h
          · exact hfew f h
          · rw [List.mem_singleton.mp h]
            omega
        · obtain ⟨p1, p2⟩ := hT0.new nH
          obtain ⟨ii, rr, c1, c2, c3, c4, c5⟩ := t9.up sq
          exact ⟨ii, rr, by rw [upd_ne p1.symm]; exact c1, by rw [upd_ne p2.symm]; exact c2, c3, c4, by omega⟩
        · intro z o hz hzo
          have hne2 : z ≠ lf := fun e => by rw [e, nH] at hzo; cases hzo
          rw [upd_ne hne2]
          exact sq _ _ (b9 _ _ hz (gb _ _ hz hzo))
      walk_at "r"
      refine ⟨lf, wl, rfl, .inl (.inl (.inl hf7)), ?_⟩
      walk_at "r"
      refine ⟨l5, _, rfl, .inl (.inl (.inl h57)), ?_⟩
      walk_at "r"
      refine ifD (fun h => ?_) (fun h => ?_)
      · exact add H7 (by omega) h57 hf7 hsv7 hwl (hT7.le (by omega)) bt7
      · walk_at "r"
        refine ⟨lf, wl, rfl, .inl (.inl (.inl hf7)), ?_⟩
        walk_at "r"
        refine ifD (fun h2 => ?_) (fun h2 => ?_)
        · walk_at "r"
          refine ⟨τ, _, 2, rfl, by decide, by decide, by omega, hT7, fun y H8 y0 y1 t8 b8 => ?_⟩
          have g5 := b8 _ _ (hT7.neL h57) h57
          have gf := b8 _ _ (hT7.neL hf7) hf7
          have kt : ∀ a xs, H7 a = some (.tup xs) → H8 a = some (.tup xs) := fun a xs z => b8 _ _ (hT7.ne z (fun _ z => nomatch z)) z
          walk_at "r"
          refine ifE (fun _ => ?_) (fun _ => ?_)
          · exact add H8 (by omega) g5 gf (hsv7.keep kt) (hwl.keep kt) t8 (bt7.trans b8)
          · exact B.nx _ _ ⟨_, wl, ml, fl, rfl, g5, gf, hsv7.keep kt, hwl.keep kt, hfl, hsub.trans (List.take_sublist_take_left (by omega)), hfew, hm4', t8.le (by omega), bt7.trans b8⟩
        · refine iteF ?_
          exact B.nx _ _ ⟨_, wl, ml, fl, rfl, h57, hf7, hsv7, hwl, hfl, hsub.trans (List.take_sublist_take_left (by omega)), hfew, hm4', hT7.le (by omega), bt7⟩
    · rintro σ H7 ⟨z4, wl, ml, fl, rfl, h57, hf7, hsv7, hwl, hfl, hsub, hfew, hm4', hT7, bt7⟩
      refine ⟨_, rfl, ?_⟩
      refine q lf wl _ ml fl H7 ⟨rfl, hfl, ⟨fun s hs => ms7.ok s ?_, ms7.gap.sublist ?_⟩, hfew, hm4'⟩ hwl nH hf7 (hT7.le (by omega)) bt7
      · exact List.mem_of_mem_take (List.mem_of_mem_take (hsub.subset hs))
      · exact (hsub.trans (List.take_sublist _ _)).trans (List.take_sublist _ _)
end
end K37
set_option Elab.async false
set_option linter.all false
set_option maxRecDepth 100000
/-! lists of ints in order: xs < ys, of one length -/
namespace HX
open PySem PySem.Spec PyProof.Rows L2
def rLtL (K : PySem.W.Frag) : R2 := fun x y H Q => ∃ a b ns ms, x = .ref a ∧ y = .ref b ∧ SqL K H a (ns.map V.int) ∧ SqL K H b (ms.map V.int) ∧ ns.length = ms.length ∧ Q (.bl (HT.lexLt ns ms)) H
theorem lex_first {ns ms : List Int} (hl : ns.length = ms.length) : ∀ k i, ns.length - i = k →
    SeqAt.firstLt (fun j => ns.getD j 0 == ms.getD j 0) (fun j => decide (ns.getD j 0 < ms.getD j 0)) false ((List.range ns.length).drop i) = HT.lexLt (ns.drop i) (ms.drop i)
  | 0, i, h => by
    have e : (List.range ns.length).drop i = [] := by simp; omega
    rw [e, List.drop_of_length_le (by omega), List.drop_of_length_le (by omega)]
    rfl
  | k + 1, i, h => by
    have h1 : i < ns.length := by omega
    have h2 : i < ms.length := by omega
    have h3 : i < (List.range ns.length).length := by rw [List.length_range]; exact h1
    have ih := lex_first hl k (i + 1) (by omega)
    rw [List.drop_eq_getElem_cons h3, List.drop_eq_getElem_cons h1, List.drop_eq_getElem_cons h2, HT.lexLt_cons, List.getElem_range]
    have g1 : ns.getD i 0 = ns[i] := by rw [List.getD_eq_getElem?_getD, List.getElem?_eq_getElem h1]; rfl
    have g2 : ms.getD i 0 = ms[i] := by rw [List.getD_eq_getElem?_getD, List.getElem?_eq_getElem h2]; rfl
    by_cases hc : ns[i] = ms[i]
    · rw [if_pos hc, SeqAt.firstLt_yes (by rw [g1, g2]; simpa using hc), ih]
    · rw [if_neg hc, SeqAt.firstLt_no (by rw [g1, g2]; simpa using hc), g1, g2]
section
variable {X : Cx}
theorem op_ltL (hu : X.A.units < cLine) : OpR X (compareOp .Lt) (rLtL X.K) := by
  intro pins s σ H x y v u Q I rx ry h
  obtain ⟨a, b, ns, ms, rfl, rfl, ha, hb, hl, q⟩ := h
  cases rx
  cases ry
  obtain ⟨its, r1, p1, _⟩ := I.list ha
  obtain ⟨its2, r2, p2, _⟩ := I.list hb
  have z1 : its.length = ns.length := by rw [← r1.length, List.length_map]
  have z2 : its2.length = ms.length := by rw [← r2.length, List.length_map]
  have at1 : ∀ j (h1 : j < its.toArray.size), ∃ t, its.toArray[j] = .int (ns.getD j 0) t := fun j h1 => by
    have h1' : j < its.length := by simpa using h1
    obtain ⟨u, hu', ru⟩ := r1.get (i := j) (x := .int (ns.getD j 0)) (by rw [List.getElem?_map, List.getElem?_eq_getElem (by omega), List.getD_eq_getElem?_getD, List.getElem?_eq_getElem (by omega)]; rfl)
    obtain ⟨t, e⟩ := (show ∃ t, u = Value.int (ns.getD j 0) t from ru)
    refine ⟨t, ?_⟩
    rw [List.getElem?_eq_getElem h1'] at hu'
    rw [List.getElem_toArray, Option.some.inj hu', e]
  have at2 : ∀ j (h1 : j < its2.toArray.size), ∃ t, its2.toArray[j] = .int (ms.getD j 0) t := fun j h1 => by
    have h1' : j < its2.length := by simpa using h1
    obtain ⟨u, hu', ru⟩ := r2.get (i := j) (x := .int (ms.getD j 0)) (by rw [List.getElem?_map, List.getElem?_eq_getElem (by omega), List.getD_eq_getElem?_getD, List.getElem?_eq_getElem (by omega)]; rfl)
    obtain ⟨t, e⟩ := (show ∃ t, u = Value.int (ms.getD j 0) t from ru)
    refine ⟨t, ?_⟩
    rw [List.getElem?_eq_getElem h1'] at hu'
    rw [List.getElem_toArray, Option.some.inj hu', e]
  have main := SeqAt.RcLt.lists (A := X.A) (s := s) (e := fun j => ns.getD j 0 == ms.getD j 0) (r := fun j => decide (ns.getD j 0 < ms.getD j 0)) p1.isList p2.isList hu (fun j h1 h2 => by
    obtain ⟨t1, e1⟩ := at1 j h1
    obtain ⟨t2, e2⟩ := at2 j h2
    rw [e1, e2]
    exact SeqAt.EqAt.int_int _ _ _ _) (fun j h1 h2 _ => by
    obtain ⟨t1, e1⟩ := at1 j h1
    obtain ⟨t2, e2⟩ := at2 j h2
    rw [e1, e2]
    exact fun prog w E Q h => HT.rcLt_int _ _ _ _ _ _ prog w E Q h)
  refine main X.prog X.w X.xe _ ?_
  have e3 : SeqAt.firstLt (fun j => ns.getD j 0 == ms.getD j 0) (fun j => decide (ns.getD j 0 < ms.getD j 0)) (decide (its.toArray.size < its2.toArray.size)) (List.range (min its.toArray.size its2.toArray.size)) = HT.lexLt ns ms := by
    have e4 : decide (its.toArray.size < its2.toArray.size) = false := decide_eq_false (by simp; omega)
    have e5 : min its.toArray.size its2.toArray.size = ns.length := by simp; omega
    rw [e4, e5]
    exact lex_first hl _ 0 rfl
  rw [e3]
  exact ⟨.bl (HT.lexLt ns ms), H, I, rfl, q⟩
end
end HX
set_option Elab.async false
set_option linter.all false
set_option maxRecDepth 100000
set_option pp.deepTerms false
set_option pp.maxSteps 1500
set_option maxHeartbeats 1000000
/-! parts that are drawn, inner places, rows of small ints (laws k37 to k41) -/
namespace K37
open PySem PySem.Spec PyProof.Rows L2 HX TV FM DX FB FC PM FI GL
local macro_rules | `(tactic| walk_at "r") => `(tactic| (repeat (first | refine Exists.intro _ (And.intro rfl ?_) | refine And.intro rfl ?_ | refine Exists.intro _ (Exists.intro _ (And.intro rfl (And.intro rfl ?_))) | refine And.intro (by omega) ?_ | refine And.intro (Or.inl (And.intro (by omega) (by omega))) ?_ | refine And.intro (Or.inr (And.intro (by omega) (by omega))) ?_ | refine And.intro (And.intro (by omega) (by omega)) ?_ | refine And.intro (And.intro (by decide) (And.intro (by decide) (by decide))) ?_ | refine Or.inl (Exists.intro _ (And.intro rfl ?_)) | (dsimp only [gName]; first | with_reducible refine seqC ?_ | with_reducible refine asgC ?_))))
local macro_rules | `(tactic| walk_at "s") => `(tactic| (repeat (first | refine Exists.intro _ (And.intro rfl ?_) | refine And.intro rfl ?_ | refine Exists.intro _ (Exists.intro _ (And.intro rfl (And.intro rfl ?_))) | refine And.intro (by omega) ?_ | refine And.intro (Or.inl (And.intro (by omega) (by omega))) ?_ | refine And.intro (Or.inr (And.intro (by omega) (by omega))) ?_ | refine And.intro (And.intro (by omega) (by omega)) ?_ | refine And.intro (And.intro (by decide) (And.intro (by decide) (by decide))) ?_ | refine Or.inl (Exists.intro _ (And.intro rfl ?_)) | refine Exists.intro _ (Exists.intro _ (And.intro rfl ?_)) | (dsimp only [gName]; first | with_reducible refine seqC ?_ | with_reducible refine asgC ?_))))
section
variable {P : Program} {w : World} {K : PySem.W.Frag} {mg : Str → Option Value} {base : Heap}
def sp_gparts (K : PySem.W.Frag) : Sp := fun vs H Q _ => ∃ (τ : Pn) (n : Nat) (a : Addr) (us : List V), vs = [.ref τ.p, .ref a] ∧ n < 900000 ∧ Pen H τ n ∧ H a = some (.lst us) ∧ us.length ≤ 10 ∧
  ∀ (l : Addr) (p0 : Int) (cs : List Int) H', p0.natAbs ≤ 40 → (∀ c ∈ cs, c.natAbs ≤ 20) → cs.length = us.length → H l = none → H' l = some (.lst ((p0 :: cs).map V.int)) → Pen H' τ (n + 11) → But τ.p H H' → Q (.ref l) H'
theorem ok__law_parts (T : Top K mg) : FnOk P w K mg base CX0 (3) T.f__law_parts T.fd__law_parts ["_law_pen_here", "_law_specs_here"]  (sp_gparts K) := by
  have G__law_draw : FnOk P w K mg base CX0 (1) T.f__law_draw T.fd__law_draw ["_law_pen_here", "_law_number"]  sp_pdraw := ok__law_draw T
  refine T.F__law_parts.ok sc__law_parts (fun vs H Q E h => ?_) (fun cdv A outer s H vs Q E hr h => ?_)
  · obtain ⟨τ, n, a, us, rfl, _⟩ := h
    rfl
  · obtain ⟨τ, n, a, us, rfl, hn, hT, ha, hul, q⟩ := h
    refine ⟨_, (pss_one (ps_ret (pe_op op_cat (pe_lst (pa_cons (pe_op op_sub (pe_call G__law_draw (hr.mono (by omega)) (by rfl) T.g__law_draw T.F__law_draw.kp T.b__law_draw .nil pass0 (pa_cons (pv 0) (pa_cons pe_int pa_nil))) pe_int) pa_nil)) (pe_lc (own := [("_law_one", 2)]) (g := gName 2) (by rfl) sc__law_parts.nd (pi_list (pv 1)) (blkOk_by (own := [("_law_one", 2)]) (N := ["_law_pen_here", "_law_specs_here", "_law_one"]) (sc := defScope s__law_parts) (by decide +kernel)) (fun _ _ _ _ _ => (pg_name (i := 2) sc__law_parts.nd rfl (Or.inl rfl))) (fun _ _ _ _ _ => pts_nil) (fun _ _ _ _ _ => (pe_op op_sub (pe_call G__law_draw (hr.mono (by omega)) (by rfl) T.g__law_draw T.F__law_draw.kp T.b__law_draw .nil pass0 (pa_cons (pv 0) (pa_cons pe_int pa_nil))) pe_int)))))), ?_⟩
    walk_at "r"
    refine ⟨τ, _, 81, rfl, by decide, by decide, by omega, hT, fun y H1 y0 y1 t1 b1 => ?_⟩
    walk_at "r"
    refine ⟨len_le (by show 1 ≤ _; decide), fun l1 n1 => ?_⟩
    have s1 := sm_upd (o := .lst [V.int (y - 40)]) n1
    have h1 : upd H1 l1 (.lst [V.int (y - 40)]) l1 = some (.lst [V.int (y - 40)]) := upd_same
    revert s1 h1
    generalize upd H1 l1 _ = H2
    intro s1 h1
    have ha2 := s1 _ _ (b1 _ _ (hT.neL ha) ha)
    have t2 := t1.up s1
    have b2 : But τ.p H H2 := b1.trans (But.of s1)
    dsimp only
    refine ⟨_, rfl, a, rfl, ⟨_, .inl (.inl ha2)⟩, fun D nD => lc_list (xs := us) (fun j H' => ∃ cj : List Int, H' D = some (.lst (cj.map V.int)) ∧ cj.length = j ∧ (∀ c ∈ cj, c.natAbs ≤ 20) ∧ Pen H' τ (n + 1 + j) ∧ But τ.p H2 H') ⟨[], upd_same, rfl, by simp, (t2.up (sm_upd nD)).le (by omega), But.of (sm_upd nD)⟩ ?_ ?_ ?_⟩
    · rintro j H' _ ⟨cj, _, _, _, _, b⟩
      exact .inl (.inl (b _ _ (t2.neL ha2) ha2))
    · rintro j x H' hx ⟨cj, eD, hcl, hcb, tj, bj⟩
      have hj := (List.getElem?_eq_some_iff.mp hx).1
      refine ⟨rfl, ?_⟩
      walk_at "r"
      refine ⟨τ, _, 41, rfl, by decide, by decide, by omega, tj, fun z H'' z0 z1 tz bz => ?_⟩
      walk_at "r"
      have eD2 := bz _ _ (tj.neL eD) eD
      obtain ⟨q1, q2⟩ := t2.new nD
      refine ⟨_, eD2, len_lt (by rw [List.length_map]; omega), cj ++ [z - 20], ?_, by rw [List.length_append, hcl]; rfl, ?_, ?_, ?_⟩
      · rw [upd_same, List.map_append]
        rfl
      · intro c hc
        rcases List.mem_append.mp hc with h | h
        · exact hcb c h
        · rw [List.mem_singleton.mp h]
          omega
      · obtain ⟨ii, rr, c1, c2, c3, c4, c5⟩ := tz
        exact ⟨ii, rr, by rw [upd_ne q1.symm]; exact c1, by rw [upd_ne q2.symm]; exact c2, c3, c4, by omega⟩
      · intro w o hw hwo
        have hne : w ≠ D := fun e => by rw [e, nD] at hwo; cases hwo
        rw [upd_ne hne]
        exact bz _ _ hw (bj _ _ hw hwo)
    rintro H3 ⟨cj, eD, hcl, hcb, t3, b3⟩
    have h13 := b3 _ _ (t2.neL h1) h1
    refine ⟨l1, D, _, _, rfl, rfl, h13, eD, len_le (by rw [List.length_map]; show 1 + _ ≤ _; omega), fun l4 n4 => ?_⟩
    have s4 := sm_upd (o := .lst ([V.int (y - 40)] ++ cj.map V.int)) n4
    have n40 : H l4 = none := by
      match hq : H l4 with
      | none => rfl
      | some u =>
        exfalso
        by_cases hz : l4 = τ.p
        · obtain ⟨kvs, hd⟩ := t3.dict
          rw [← hz, n4] at hd
          cases hd
        · have := b3 _ _ hz (b2 _ _ hz hq)
          rw [n4] at this
          cases this
    exact q l4 (y - 40) cj _ (by omega) hcb hcl n40 upd_same ((t3.up s4).le (by omega)) ((b2.trans b3).trans (But.of s4))
def sp_ginner (K : PySem.W.Frag) : Sp := fun vs H Q _ => ∃ (a : Addr) (us : List V) (ms : List Plc) (fs : List Nat), vs = [.ref a] ∧ H a = some (.lst us) ∧ SpVs H us (List.zipWith Plc.far ms fs) ∧ fs.length = ms.length ∧ ms.length ≤ 10 ∧
  ∀ (l : Addr) (ws : List V) H', SpVs H' ws ms → H l = none → H' l = some (.lst ws) → Same H H' → Q (.ref l) H'
theorem ok__law_inner (T : Top K mg) : FnOk P w K mg base CX0 (1) T.f__law_inner T.fd__law_inner ["_law_specs_here"]  (sp_ginner K) := by
  refine T.F__law_inner.ok sc__law_inner (fun vs H Q E h => ?_) (fun cdv A outer s H vs Q E hr h => ?_)
  · obtain ⟨a, us, ms, fs, rfl, _⟩ := h
    rfl
  · obtain ⟨a, us, ms, fs, rfl, ha, hus, hfl, hml, q⟩ := h
    refine ⟨_, (pss_one (ps_ret (pe_lc (own := [("_law_one", 1)]) (g := gName 1) (by rfl) sc__law_inner.nd (pi_list (pv 0)) (blkOk_by (own := [("_law_one", 1)]) (N := ["_law_specs_here", "_law_one"]) (sc := defScope s__law_inner) (by decide +kernel)) (fun _ _ _ _ _ => (pg_name (i := 1) sc__law_inner.nd rfl (Or.inl rfl))) (fun _ _ _ _ _ => pts_nil) (fun _ _ _ _ _ => (pe_ix (r := rIxT K) ix_tup (pv 1) pe_int (fun _ _ => rfl)))))), ?_⟩
    dsimp only
    have hul := hus.len
    rw [List.length_zipWith] at hul
    refine ⟨_, rfl, a, rfl, ⟨_, .inl (.inl ha)⟩, fun D nD => lc_list (xs := us) (fun j H' => Same H H' ∧ ∃ wj : List V, H' D = some (.lst wj) ∧ SpVs H' wj (ms.take j)) ⟨sm_upd nD, [], upd_same, .nil⟩ ?_ ?_ ?_⟩
    · rintro j H' _ ⟨sm, _⟩
      exact .inl (.inl (sm _ _ ha))
    · rintro j x H' hx ⟨sm, wj, eD, hw⟩
      have hj := (List.getElem?_eq_some_iff.mp hx).1
      obtain ⟨sp, hsp⟩ : ∃ sp, ms[j]? = some sp := ⟨_, List.getElem?_eq_getElem (by omega)⟩
      obtain ⟨f, hf⟩ : ∃ f, fs[j]? = some f := ⟨_, List.getElem?_eq_getElem (by omega)⟩
      have hz : (List.zipWith Plc.far ms fs)[j]? = some (.far sp f) := by
        rw [List.getElem?_zipWith, hsp, hf]
      have hsv := hus.get j x _ hx hz
      have htk : ms.take (j + 1) = ms.take j ++ [sp] := by rw [List.take_add_one, hsp]; rfl
      cases hsv with
      | far t v _ _ ht hv =>
        refine ⟨rfl, ?_⟩
        walk_at "r"
        refine ⟨t, _, 0, v, rfl, rfl, .inl (.inl (sm _ _ ht)), at_of (j := 0) rfl rfl, ?_⟩
        have hwl := hw.len
        rw [List.length_take] at hwl
        refine ⟨wj, eD, len_lt (by omega), sm_mut sm nD, wj ++ [v], upd_same, ?_⟩
        have kt : ∀ a xs, H' a = some (.tup xs) → (upd H' D (.lst (wj ++ [v]))) a = some (.tup xs) := fun a xs z => by
          rw [upd_ne (fun e => by rw [e, eD] at z; cases z)]
          exact z
        rw [htk]
        exact (hw.keep kt).app (.one ((hv.same sm).keep kt))
    rintro H3 ⟨sm, wj, eD, hw⟩
    rw [List.take_of_length_le (by omega)] at hw
    exact q D wj H3 hw nD eD sm
def sp_gplus (K : PySem.W.Frag) : Sp := fun vs H Q _ => ∃ (a b : Addr) (xs ys : List Int) (k : Int), vs = [.ref a, .ref b, .int k] ∧ H a = some (.lst (xs.map V.int)) ∧ H b = some (.lst (ys.map V.int)) ∧ xs.length = ys.length ∧ xs.length ≤ 20 ∧ k.natAbs ≤ 10 ∧
  ∀ (l : Addr) H', H l = none → H' l = some (.lst ((List.zipWith (fun x y => x + k * y) xs ys).map V.int)) → Same H H' → Q (.ref l) H'
theorem ok__law_plus (T : Top K mg) : FnOk P w K mg base CX0 (1) T.f__law_plus T.fd__law_plus ["_law_one", "_law_second", "_law_times"]  (sp_gplus K) := by
  refine T.F__law_plus.ok sc__law_plus (fun vs H Q E h => ?_) (fun cdv A outer s H vs Q E hr h => ?_)
  · obtain ⟨a, b, xs, ys, k, rfl, _⟩ := h
    rfl
  · obtain ⟨a, b, xs, ys, k, rfl, ha, hb, hl, hl2, hk, q⟩ := h
    refine ⟨_, (pss_one (ps_ret (pe_lc (own := [("_law_index", 3)]) (g := gName 3) (by rfl) sc__law_plus.nd (pi_range1 (by rfl) T.m_range (pa_cons (pe_callB call_len_seq (by rfl) T.m_len PySem.boot_len (pa_cons (pv 0) pa_nil)) pa_nil)) (blkOk_by (own := [("_law_index", 3)]) (N := ["_law_one", "_law_second", "_law_times", "_law_index"]) (sc := defScope s__law_plus) (by decide +kernel)) (fun _ _ _ _ _ => (pg_name (i := 3) sc__law_plus.nd rfl (Or.inl rfl))) (fun _ _ _ _ _ => pts_nil) (fun _ _ _ _ _ => (pe_op op_add (pe_ix (r := rIxL K) ix_list (pv 0) (pv 3) (fun _ _ => rfl)) (pe_op op_mul (pv 2) (pe_ix (r := rIxL K) ix_list (pv 1) (pv 3) (fun _ _ => rfl)))))))), ?_⟩
    dsimp only
    walk_at "r"
    refine ⟨a, _, rfl, .inl (.inl (.inl ha)), ?_⟩
    rw [List.length_map]
    refine ⟨_, rfl, by omega, by omega, fun D nD => lc_range (lo := 0) (n := ((xs.length : Nat) : Int).toNat) (fun j H' => Same H H' ∧ H' D = some (.lst (((List.zipWith (fun x y => x + k * y) xs ys).take j).map V.int))) ⟨sm_upd nD, upd_same⟩ ?_ ?_⟩
    · rintro j H' hj ⟨sm, eD⟩
      rw [Int.toNat_natCast] at hj
      obtain ⟨x, hx⟩ : ∃ x, xs[j]? = some x := ⟨_, List.getElem?_eq_getElem hj⟩
      obtain ⟨y, hy⟩ : ∃ y, ys[j]? = some y := ⟨_, List.getElem?_eq_getElem (by omega)⟩
      have hz : (List.zipWith (fun x y => x + k * y) xs ys)[j]? = some (x + k * y) := by rw [List.getElem?_zipWith, hx, hy]
      refine ⟨rfl, ?_⟩
      walk_at "r"
      refine ⟨a, _, _, .int x, rfl, rfl, .inl (.inl (sm _ _ ha)), at_of (j := j) (by omega) (by rw [List.getElem?_map, hx]; rfl), ?_⟩
      walk_at "r"
      refine ⟨b, _, _, .int y, rfl, rfl, .inl (.inl (sm _ _ hb)), at_of (j := j) (by omega) (by rw [List.getElem?_map, hy]; rfl), ?_⟩
      walk_at "r"
      refine ⟨_, eD, ?_, sm_mut sm nD, ?_⟩
      · rw [List.length_map, List.length_take]
        exact len_lt (by omega)
      · rw [upd_same, List.take_add_one, hz, List.map_append]
        rfl
    · rintro H' ⟨sm, eD⟩
      rw [Int.toNat_natCast, List.take_of_length_le (by rw [List.length_zipWith]; omega)] at eD
      exact q D H' nD eD sm
end
end K37
set_option Elab.async false
set_option linter.all false
set_option maxRecDepth 100000
set_option pp.deepTerms false
set_option pp.maxSteps 1500
set_option maxHeartbeats 1000000
/-! rows of small ints over far places: their values and their order (laws k37 to k41) -/
namespace K37
open PySem PySem.Spec PyProof.Rows L2 HX TV FM DX FB FC PM FI GL
local macro_rules | `(tactic| walk_at "r") => `(tactic| (repeat (first | refine Exists.intro _ (And.intro rfl ?_) | refine And.intro rfl ?_ | refine Exists.intro _ (Exists.intro _ (And.intro rfl (And.intro rfl ?_))) | refine And.intro (by omega) ?_ | refine And.intro (Or.inl (And.intro (by omega) (by omega))) ?_ | refine And.intro (Or.inr (And.intro (by omega) (by omega))) ?_ | refine And.intro (And.intro (by omega) (by omega)) ?_ | refine And.intro (And.intro (by decide) (And.intro (by decide) (by decide))) ?_ | refine Or.inl (Exists.intro _ (And.intro rfl ?_)) | (dsimp only [gName]; first | with_reducible refine seqC ?_ | with_reducible refine asgC ?_))))
local macro_rules | `(tactic| walk_at "s") => `(tactic| (repeat (first | refine Exists.intro _ (And.intro rfl ?_) | refine And.intro rfl ?_ | refine Exists.intro _ (Exists.intro _ (And.intro rfl (And.intro rfl ?_))) | refine And.intro (by omega) ?_ | refine And.intro (Or.inl (And.intro (by omega) (by omega))) ?_ | refine And.intro (Or.inr (And.intro (by omega) (by omega))) ?_ | refine And.intro (And.intro (by omega) (by omega)) ?_ | refine And.intro (And.intro (by decide) (And.intro (by decide) (by decide))) ?_ | refine Or.inl (Exists.intro _ (And.intro rfl ?_)) | refine Exists.intro _ (Exists.intro _ (And.intro rfl ?_)) | (dsimp only [gName]; first | with_reducible refine seqC ?_ | with_reducible refine asgC ?_))))
section
variable {P : Program} {w : World} {K : PySem.W.Frag} {mg : Str → Option Value} {base : Heap}
/-! ### the value of a row -/
def ev (ms : List Plc) : List Int → Int
  | [] => 0
  | x :: xs => linFrom x ((ms.map GL.pv).zip xs)
theorem lin_add : ∀ (L : List (Nat × Int)) (v : Int), linFrom v L = v + (L.map fun p => p.2 * 2 ^ p.1).sum
  | [], v => by simp [linFrom]
  | (P, c) :: r, v => by
    show linFrom (v + c * 2 ^ P) r = _
    rw [lin_add r]
    simp
    omega
/-- the value of a row by its places, the first one 0 -/
def evL : List Nat → List Int → Int
  | p :: ps, x :: xs => x * 2 ^ p + evL ps xs
  | _, _ => 0
theorem evL_zip : ∀ (ps : List Nat) (xs : List Int), ((ps.zip xs).map fun p => p.2 * 2 ^ p.1).sum = evL ps xs
  | [], xs => by simp [evL]
  | p :: ps, [] => by simp [evL]
  | p :: ps, x :: xs => by
    simp only [List.zip_cons_cons, List.map_cons, List.sum_cons, evL]
    rw [evL_zip ps xs]
theorem ev_evL (ms : List Plc) (x : Int) (xs : List Int) : ev ms (x :: xs) = evL (0 :: ms.map GL.pv) (x :: xs) := by
  show linFrom x _ = x * 2 ^ 0 + evL (ms.map GL.pv) xs
  rw [lin_add, evL_zip]
  simp
theorem evL_app : ∀ (ps : List Nat) (xs : List Int) (p : Nat) (x : Int), ps.length = xs.length → evL (ps ++ [p]) (xs ++ [x]) = evL ps xs + x * 2 ^ p
  | [], [], p, x, _ => by simp [evL]
  | q :: ps, y :: ys, p, x, h => by
    show y * 2 ^ q + evL (ps ++ [p]) (ys ++ [x]) = y * 2 ^ q + evL ps ys + x * 2 ^ p
    rw [evL_app ps ys p x (by simpa using h)]
    omega
theorem evL_plus (k : Int) : ∀ (ps : List Nat) (xs ys : List Int), xs.length = ys.length → evL ps (List.zipWith (fun x y => x + k * y) xs ys) = evL ps xs + k * evL ps ys
  | [], xs, ys, _ => by simp [evL]
  | p :: ps, [], [], _ => by simp [evL]
  | p :: ps, x :: xs, y :: ys, h => by
    simp only [List.zipWith_cons_cons, evL]
    rw [evL_plus k ps xs ys (by simpa using h)]
    grind
/-- places downwards with great room between -/
def Dn : List Nat → Prop
  | [] => True
  | p :: ps => (∀ q ∈ ps, q + 60 ≤ p) ∧ Dn ps
theorem below_top : ∀ (ps : List Nat) (xs : List Int) (p : Nat), Dn (p :: ps) → (∀ x ∈ xs, x.natAbs < 2 ^ 40) → -(2 ^ p) ≤ 2 ^ 19 * evL ps xs ∧ 2 ^ 19 * evL ps xs ≤ 2 ^ p
  | [], xs, p, _, _ => by
    have : (0 : Int) < 2 ^ p := Int.pow_pos (by decide)
    simp only [evL]
    omega
  | q :: ps, [], p, _, _ => by
    have : (0 : Int) < 2 ^ p := Int.pow_pos (by decide)
    simp only [evL]
    omega
  | q :: ps, x :: xs, p, h, hx => by
    obtain ⟨h1, h2⟩ := below_top ps xs q h.2 fun y hy => hx y (by simp [hy])
    have hq := h.1 q (by simp)
    have hx0 := hx x (by simp)
    have hA : (0 : Int) < 2 ^ q := Int.pow_pos (by decide)
    have e1 : (2 : Int) ^ p = 2 ^ (p - q - 60) * (2 ^ 60 * 2 ^ q) := by
      rw [← Int.pow_add, ← Int.pow_add]
      congr 1
      omega
    have e2 : (1 : Int) ≤ 2 ^ (p - q - 60) := by
      have : (0 : Int) < 2 ^ (p - q - 60) := Int.pow_pos (by decide)
      omega
    have e3 : (2 : Int) ^ 60 * 2 ^ q ≤ 2 ^ p := by
      rw [e1]
      have := Int.mul_le_mul_of_nonneg_right e2 (show (0 : Int) ≤ 2 ^ 60 * 2 ^ q by omega)
      omega
    have k40 : (2 : Int) ^ 40 = 1099511627776 := by decide
    have k60 : (2 : Int) ^ 60 = 1152921504606846976 := by decide
    have k19 : (2 : Int) ^ 19 = 524288 := by decide
    have xa : x * 2 ^ q ≤ 2 ^ 40 * 2 ^ q := Int.mul_le_mul_of_nonneg_right (by omega) (by omega)
    have xb : -(2 ^ 40) * 2 ^ q ≤ x * 2 ^ q := Int.mul_le_mul_of_nonneg_right (by omega) (by omega)
    simp only [evL]
    rw [k19] at h1 h2 ⊢
    rw [k60] at e3
    rw [k40] at xa xb
    generalize (2 : Int) ^ q = A at *
    generalize x * A = XA at *
    omega
/-- the order of rows from the top on is that of their values -/
theorem lex_val : ∀ (ps : List Nat) (xs ys : List Int), Dn ps → xs.length = ps.length → ys.length = ps.length → (∀ x ∈ xs, x.natAbs < 2 ^ 39) → (∀ y ∈ ys, y.natAbs < 2 ^ 39) → HT.lexLt xs ys = decide (evL ps xs < evL ps ys)
  | [], [], [], _, _, _, _, _ => by simp [HT.lexLt, evL]
  | p :: ps, x :: xs, y :: ys, h, hx, hy, bx, bY => by
    have ih := lex_val ps xs ys h.2 (by simpa using hx) (by simpa using hy) (fun z hz => bx z (by simp [hz])) (fun z hz => bY z (by simp [hz]))
    rw [HT.lexLt_cons]
    simp only [evL]
    by_cases hc : x = y
    · rw [if_pos hc, ih, hc]
      exact decide_eq_decide.mpr (by omega)
    · rw [if_neg hc]
      obtain ⟨a1, a2⟩ := below_top ps xs p h fun z hz => by have := bx z (by simp [hz]); omega
      obtain ⟨b1, b2⟩ := below_top ps ys p h fun z hz => by have := bY z (by simp [hz]); omega
      have hA : (0 : Int) < 2 ^ p := Int.pow_pos (by decide)
      have k19 : (2 : Int) ^ 19 = 524288 := by decide
      rw [k19] at a1 a2 b1 b2
      refine decide_eq_decide.mpr ⟨fun hlt => ?_, fun hlt => ?_⟩
      · have : (x + 1) * 2 ^ p ≤ y * 2 ^ p := Int.mul_le_mul_of_nonneg_right (by omega) (by omega)
        rw [Int.add_mul, Int.one_mul] at this
        generalize (2 : Int) ^ p = A at *
        generalize x * A = XA at *
        generalize y * A = YA at *
        omega
      · apply Classical.byContradiction
        intro hge
        have : (y + 1) * 2 ^ p ≤ x * 2 ^ p := Int.mul_le_mul_of_nonneg_right (by omega) (by omega)
        rw [Int.add_mul, Int.one_mul] at this
        generalize (2 : Int) ^ p = A at *
        generalize x * A = XA at *
        generalize y * A = YA at *
        omega
  | [], _ :: _, _, _, h, _, _, _ => by simp at h
  | [], [], _ :: _, _, _, h, _, _ => by simp at h
  | _ :: _, [], _, _, h, _, _, _ => by simp at h
  | _ :: _, _ :: _, [], _, _, h, _, _ => by simp at h
theorem evL_rev (ps : List Nat) (xs : List Int) (h : ps.length = xs.length) : evL ps.reverse xs.reverse = evL ps xs := by
  induction ps generalizing xs with
  | nil =>
    cases xs with
    | nil => rfl
    | cons x xs => simp at h
  | cons p ps ih =>
    cases xs with
    | nil => simp at h
    | cons x xs =>
      rw [List.reverse_cons, List.reverse_cons, evL_app _ _ _ _ (by simpa using h), ih xs (by simpa using h)]
      simp only [evL]
      omega
theorem dn_rev : ∀ {ps : List Nat}, ps.Pairwise (fun a b => a + 60 ≤ b) → Dn ps.reverse := by
  intro ps h
  have h' := List.pairwise_reverse.mpr h
  revert h'
  generalize ps.reverse = rs
  intro h'
  induction rs with
  | nil => trivial
  | cons r rs ih =>
    obtain ⟨h1, h2⟩ := List.pairwise_cons.mp h'
    exact ⟨fun q hq => h1 q hq, ih h2⟩
/-- the law's order of rows -/
theorem row_less {ms : List Plc} (h : Menu ms) {xs ys : List Int} (hx : xs.length = ms.length + 1) (hy : ys.length = ms.length + 1) (bx : ∀ x ∈ xs, x.natAbs < 2 ^ 39) (bY : ∀ y ∈ ys, y.natAbs < 2 ^ 39) :
    HT.lexLt xs.reverse ys.reverse = decide (evL (0 :: ms.map GL.pv) xs < evL (0 :: ms.map GL.pv) ys) := by
  have hd : Dn (0 :: ms.map GL.pv).reverse := by
    refine dn_rev (List.pairwise_cons.mpr ⟨fun q hq => ?_, ?_⟩)
    · obtain ⟨s, hs, rfl⟩ := List.mem_map.mp hq
      have := pv_big (h.ok s hs).1
      omega
    · rw [List.pairwise_map]
      exact h.gap.imp fun g => by unfold Gap at g; omega
  rw [lex_val _ _ _ hd (by simp [hx]) (by simp [hy]) (fun x hx' => bx x (List.mem_reverse.mp hx')) (fun y hy' => bY y (List.mem_reverse.mp hy')), evL_rev _ _ (by simp [hx]), evL_rev _ _ (by simp [hy])]
def sp_gless (K : PySem.W.Frag) : Sp := fun vs H Q _ => ∃ (a b : Addr) (xs ys : List Int), vs = [.ref a, .ref b] ∧ H a = some (.lst (xs.map V.int)) ∧ H b = some (.lst (ys.map V.int)) ∧ xs.length = ys.length ∧
  ∀ H', Same H H' → Q (.bl (HT.lexLt xs.reverse ys.reverse)) H'
theorem ok__law_less (T : Top K mg) : FnOk P w K mg base CX0 (1) T.f__law_less T.fd__law_less ["_law_one", "_law_second"]  (sp_gless K) := by
  refine T.F__law_less.ok sc__law_less (fun vs H Q E h => ?_) (fun cdv A outer s H vs Q E hr h => ?_)
  · obtain ⟨a, b, xs, ys, rfl, _⟩ := h
    rfl
  · obtain ⟨a, b, xs, ys, rfl, ha, hb, hl, q⟩ := h
    refine ⟨_, (pss_one (ps_ret (pe_cmpR (op_ltL hr.units0) (pe_revL (pv 0)) (pe_revL (pv 1)) (nomark _)))), ?_⟩
    refine ⟨_, rfl, a, _, rfl, .inl (.inl ha), fun p1 n1 => ?_⟩
    have s1 := sm_upd (o := .lst (xs.map V.int).reverse) n1
    have h1 : upd H p1 (.lst (xs.map V.int).reverse) p1 = some (.lst (xs.map V.int).reverse) := upd_same
    revert s1 h1
    generalize upd H p1 _ = H1
    intro s1 h1
    refine ⟨_, rfl, b, _, rfl, .inl (.inl (s1 _ _ hb)), fun p2 n2 => ?_⟩
    have s2 := sm_upd (o := .lst (ys.map V.int).reverse) n2
    refine ⟨p1, p2, xs.reverse, ys.reverse, rfl, rfl, .inl (.inl ?_), .inl (.inl ?_), by simp [hl], q _ (s1.trans s2)⟩
    · rw [List.map_reverse]
      exact s2 _ _ h1
    · rw [List.map_reverse]
      exact upd_same
end
end K37
set_option Elab.async false
set_option linter.all false
set_option maxRecDepth 100000
set_option pp.deepTerms false
set_option pp.maxSteps 1500
set_option maxHeartbeats 1000000
/-! the turns of a number as rows of small ints (laws k37 to k41) -/
namespace K37
open PySem PySem.Spec PyProof.Rows L2 HX TV FM DX FB FC PM FI GL
local macro_rules | `(tactic| walk_at "r") => `(tactic| (repeat (first | refine Exists.intro _ (And.intro rfl ?_) | refine And.intro rfl ?_ | refine Exists.intro _ (Exists.intro _ (And.intro rfl (And.intro rfl ?_))) | refine And.intro (by omega) ?_ | refine And.intro (Or.inl (And.intro (by omega) (by omega))) ?_ | refine And.intro (Or.inr (And.intro (by omega) (by omega))) ?_ | refine And.intro (And.intro (by omega) (by omega)) ?_ | refine And.intro (And.intro (by decide) (And.intro (by decide) (by decide))) ?_ | refine Or.inl (Exists.intro _ (And.intro rfl ?_)) | (dsimp only [gName]; first | with_reducible refine seqC ?_ | with_reducible refine asgC ?_))))
local macro_rules | `(tactic| walk_at "s") => `(tactic| (repeat (first | refine Exists.intro _ (And.intro rfl ?_) | refine And.intro rfl ?_ | refine Exists.intro _ (Exists.intro _ (And.intro rfl (And.intro rfl ?_))) | refine And.intro (by omega) ?_ | refine And.intro (Or.inl (And.intro (by omega) (by omega))) ?_ | refine And.intro (Or.inr (And.intro (by omega) (by omega))) ?_ | refine And.intro (And.intro (by omega) (by omega)) ?_ | refine And.intro (And.intro (by decide) (And.intro (by decide) (by decide))) ?_ | refine Or.inl (Exists.intro _ (And.intro rfl ?_)) | refine Exists.intro _ (Exists.intro _ (And.intro rfl ?_)) | (dsimp only [gName]; first | with_reducible refine seqC ?_ | with_reducible refine asgC ?_))))
section
variable {P : Program} {w : World} {K : PySem.W.Frag} {mg : Str → Option Value} {base : Heap}
/-- rows of ints, none of them at D -/
def RowsN (D : Option Addr) (H : Hp) (ws : List V) (R : List (List Int)) : Prop := ws.length = R.length ∧ ∀ (i : Nat) (v : V) (r : List Int), ws[i]? = some v → R[i]? = some r → ∃ a, v = .ref a ∧ some a ≠ D ∧ H a = some (.lst (r.map V.int))
theorem RowsN.nil {D : Option Addr} {H : Hp} : RowsN D H [] [] := ⟨rfl, fun i v r h => by simp at h⟩
theorem RowsN.keep {D : Option Addr} {H H' : Hp} {ws : List V} {R : List (List Int)} (h : RowsN D H ws R) (e : ∀ a xs, some a ≠ D → H a = some (.lst xs) → H' a = some (.lst xs)) : RowsN D H' ws R := ⟨h.1, fun i v r h1 h2 => by
  obtain ⟨a, e1, e2, e3⟩ := h.2 i v r h1 h2
  exact ⟨a, e1, e2, e _ _ e2 e3⟩⟩
theorem RowsN.same {D : Option Addr} {H H' : Hp} {ws : List V} {R : List (List Int)} (h : RowsN D H ws R) (e : Same H H') : RowsN D H' ws R := h.keep fun a xs _ z => e _ _ z
theorem RowsN.free {D : Option Addr} {H : Hp} {ws : List V} {R : List (List Int)} (h : RowsN D H ws R) : RowsN none H ws R := ⟨h.1, fun i v r h1 h2 => by
  obtain ⟨a, e1, e2, e3⟩ := h.2 i v r h1 h2
  exact ⟨a, e1, nofun, e3⟩⟩
theorem RowsN.app {D : Option Addr} {H : Hp} {us vs : List V} {R S : List (List Int)} (h : RowsN D H us R) (g : RowsN D H vs S) : RowsN D H (us ++ vs) (R ++ S) := by
  refine ⟨by rw [List.length_append, List.length_append, h.1, g.1], fun i v s h1 h2 => ?_⟩
  have hl := h.1
  by_cases hi : i < us.length
  · rw [List.getElem?_append_left hi] at h1
    rw [List.getElem?_append_left (by omega)] at h2
    exact h.2 i v s h1 h2
  · rw [List.getElem?_append_right (by omega)] at h1
    rw [List.getElem?_append_right (by omega)] at h2
    rw [← hl] at h2
    exact g.2 _ v s h1 h2
theorem RowsN.one {D : Option Addr} {H : Hp} {a : Addr} {r : List Int} (hn : some a ≠ D) (h : H a = some (.lst (r.map V.int))) : RowsN D H [.ref a] [r] := ⟨rfl, fun i x z h1 h2 => by
  match i with
  | 0 =>
    cases h1
    cases h2
    exact ⟨a, rfl, hn, h⟩
  | i + 1 => simp at h1⟩
theorem evL_zero : ∀ (ps : List Nat) (n : Nat), evL ps (List.replicate n 0) = 0
  | [], n => by simp [evL]
  | p :: ps, 0 => by simp [evL]
  | p :: ps, n + 1 => by
    rw [List.replicate_succ]
    simp only [evL]
    rw [evL_zero ps n]
    omega
theorem evL_unit : ∀ (ps : List Nat) (i m p : Nat), ps[i]? = some p → evL ps (List.replicate i 0 ++ 1 :: List.replicate m 0) = 2 ^ p
  | [], i, m, p, h => by simp at h
  | q :: ps, 0, m, p, h => by
    have : q = p := by simpa using h
    subst this
    show evL (q :: ps) (1 :: List.replicate m 0) = _
    simp only [evL]
    rw [evL_zero]
    omega
  | q :: ps, i + 1, m, p, h => by
    rw [List.replicate_succ, List.cons_append]
    simp only [evL]
    rw [evL_unit ps i m p (by simpa using h)]
    omega
/-- the rows of turns -/
structure Spots (ms : List Plc) (R : List (List Int)) (ts : List Nat) : Prop where
  val : R.map (evL (0 :: ms.map GL.pv)) = ts.map fun t => ((t : Nat) : Int)
  len : ∀ r ∈ R, r.length = ms.length + 1
  sm : ∀ r ∈ R, ∀ x ∈ r, 0 ≤ x ∧ x ≤ 80
theorem Spots.app {ms : List Plc} {R S : List (List Int)} {ts us : List Nat} (h : Spots ms R ts) (g : Spots ms S us) : Spots ms (R ++ S) (ts ++ us) :=
  ⟨by rw [List.map_append, List.map_append, h.val, g.val], fun r hr => (List.mem_append.mp hr).elim (h.len r) (g.len r), fun r hr => (List.mem_append.mp hr).elim (h.sm r) (g.sm r)⟩
theorem rep_zero : ∀ k : Nat, (List.replicate k [V.int 0]).flatten = (List.replicate k 0).map V.int
  | 0 => rfl
  | k + 1 => by
    rw [List.replicate_succ, List.replicate_succ, List.flatten_cons, rep_zero k]
    rfl
def sp_gspots (K : PySem.W.Frag) : Sp := fun vs H Q _ => ∃ (a b : Addr) (us : List V) (ms : List Plc) (fs : List Nat) (p0 : Int) (cs : List Int) (k N : Nat), vs = [.ref a, .ref b] ∧ H a = some (.lst us) ∧ SpVs H us (List.zipWith Plc.far ms fs) ∧ fs.length = ms.length ∧ (∀ f ∈ fs, f ≤ 20) ∧ H b = some (.lst ((p0 :: cs).map V.int)) ∧ Grp k N (List.zipWith Plc.far ms fs) p0 cs ∧
  ∀ l ws R H', H' l = some (.lst ws) → RowsN none H' ws R → Spots ms R (turnsOf (gl (List.zipWith Plc.far ms fs) p0 cs)) → H l = none → Same H H' → Q (.ref l) H'
theorem ok__law_spots (T : Top K mg) : FnOk P w K mg base CX0 (3) T.f__law_spots T.fd__law_spots ["_law_specs_here", "_law_parts_here"]  (sp_gspots K) := by
  have G__law_turns : FnOk P w K mg base CX0 (1) T.f__law_turns T.fd__law_turns ["_law_number"]  sp_gturns := ok__law_turnsG T
  refine T.F__law_spots.ok sc__law_spots (fun vs H Q E h => ?_) (fun cdv A outer s H vs Q E hr h => ?_)
  · obtain ⟨a, b, us, ms, fs, p0, cs, k, N, rfl, _⟩ := h
    rfl
  · obtain ⟨a, b, us, ms, fs, p0, cs, k, N, rfl, ha, hus, hfl, hfw, hb, G, q⟩ := h
    refine ⟨_, (pss_cons (ps_set (i := 2) sc__law_spots.nd rfl (Or.inr rfl) (pe_op op_rep (pe_lst (pa_cons pe_int pa_nil)) (pe_callB call_len_seq (by rfl) T.m_len PySem.boot_len (pa_cons (pv 0) pa_nil))))
    (pss_cons (ps_par (i := 3) (j := 4) rfl sc__law_spots.nd rfl rfl (by decide) rfl rfl (pa_cons (pe_lc (own := [("_law_one", 5)]) (g := gName 5) (by rfl) sc__law_spots.nd (pi_list (pe_call G__law_turns (hr.mono (by omega)) (by rfl) T.g__law_turns T.F__law_turns.kp T.b__law_turns .nil pass0 (pa_cons (pe_ix ix_list (pv 1) pe_int (fun _ _ => rfl)) pa_nil))) (blkOk_by (own := [("_law_one", 5)]) (N := ["_law_specs_here", "_law_parts_here", "_law_none", "_law_found", "_law_below", "_law_one", "_law_index", "_law_here", "_law_some", "_law_tower"]) (sc := defScope s__law_spots) (by decide +kernel)) (fun _ _ _ _ _ => (pg_name (i := 5) sc__law_spots.nd rfl (Or.inl rfl))) (fun _ _ _ _ _ => pts_nil) (fun _ _ _ _ _ => (pe_op op_cat (pe_lst (pa_cons (pv 5) pa_nil)) (pv 2)))) (pa_cons (pe_callTy call_int1 (by rfl) T.m_int (by decide +kernel) (pa_cons (pe_cmpR op_lt (pe_ix ix_list (pv 1) pe_int (fun _ _ => rfl)) pe_int (nomark _)) pa_nil)) pa_nil)) rfl)
    (pss_cons (ps_for PassesOwn.never rfl (pi_range1 (by rfl) T.m_range (pa_cons (pe_callB call_len_seq (by rfl) T.m_len PySem.boot_len (pa_cons (pv 0) pa_nil)) pa_nil)) (pg_name (i := 6) sc__law_spots.nd rfl (Or.inr rfl))
      (pss_cons (ps_set (i := 7) sc__law_spots.nd rfl (Or.inl rfl) (pe_op op_sub (pe_ix ix_list (pv 1) (pe_op op_add (pv 6) pe_int) (fun _ _ => rfl)) (pv 4)))
      (pss_cons (ps_set (i := 8) sc__law_spots.nd rfl (Or.inl rfl) (pe_call G__law_turns (hr.mono (by omega)) (by rfl) T.g__law_turns T.F__law_turns.kp T.b__law_turns .nil pass0 (pa_cons (pv 7) pa_nil)))
      (pss_cons (ps_if (pt_cmpR op_eq (pv 4) pe_int (nomark _))
        (pss_one (ps_set (i := 8) sc__law_spots.nd rfl (Or.inl rfl) (pe_ifExp (pt_cmpR (op_eqD hr.units) (pe_slice sl_list (pv 8) po_none (po_some pe_int)) (pe_lst (pa_cons pe_int pa_nil)) (nomark _)) (pe_slice sl_list (pv 8) (po_some pe_int) po_none) (pe_op op_cat (pe_lst (pa_cons pe_int pa_nil)) (pv 8)))))
        pss_nil)
      (pss_cons (ps_set (i := 9) sc__law_spots.nd rfl (Or.inr rfl) (pe_op op_cat (pe_op op_cat (pe_slice sl_list (pv 2) po_none (po_some (pv 6))) (pe_lst (pa_cons pe_int pa_nil))) (pe_slice sl_list (pv 2) (po_some (pe_op op_add (pv 6) pe_int)) po_none)))
      (pss_cons (ps_set (i := 3) sc__law_spots.nd rfl (Or.inl rfl) (pe_op op_cat (pv 3) (pe_lc (own := [("_law_one", 5)]) (g := gName 5) (by rfl) sc__law_spots.nd (pi_list (pv 8)) (blkOk_by (own := [("_law_one", 5)]) (N := ["_law_specs_here", "_law_parts_here", "_law_none", "_law_found", "_law_below", "_law_one", "_law_index", "_law_here", "_law_some", "_law_tower"]) (sc := defScope s__law_spots) (by decide +kernel)) (fun _ _ _ _ _ => (pg_name (i := 5) sc__law_spots.nd rfl (Or.inl rfl))) (fun _ _ _ _ _ => pts_nil) (fun _ _ _ _ _ => (pe_op op_cat (pe_lst (pa_cons (pe_op op_add (pe_ix (r := rIxT K) ix_tup (pe_ix (r := rIxL K) ix_list (pv 0) (pv 6) (fun _ _ => rfl)) pe_int (fun _ _ => rfl)) (pv 5)) pa_nil)) (pv 9))))))
      (pss_one (ps_set (i := 4) sc__law_spots.nd rfl (Or.inl rfl) (pe_callTy call_int1 (by rfl) T.m_int (by decide +kernel) (pa_cons (pe_cmpR op_lt (pv 7) pe_int (nomark _)) pa_nil))))))))))
    (pss_one (ps_ret (pv 3)))))), ?_⟩
    have hn0 := G.n0
    have hul := hus.len
    rw [List.length_zipWith] at hul
    have hsz := G.sz
    have hcl := G.len
    rw [List.length_zipWith] at hsz hcl
    have hml : us.length = ms.length := by omega
    refine ⟨len_le (by show 1 ≤ _; decide), fun l0 n0 => ?_⟩
    have s0 := sm_upd (o := .lst [V.int 0]) n0
    have h0 : upd H l0 (.lst [V.int 0]) l0 = some (.lst [V.int 0]) := upd_same
    revert s0 h0
    generalize upd H l0 _ = H0
    intro s0 h0
    walk_at "r"
    refine ⟨a, us, rfl, .inl (.inl (.inl (s0 _ _ ha))), ?_⟩
    refine ⟨l0, _, _, rfl, rfl, h0, by omega, by omega, len_le (by show 1 * ((us.length : Nat) : Int).toNat ≤ _; omega), fun lz nz => ?_⟩
    rw [Int.toNat_natCast, rep_zero, hml]
    have sz := sm_upd (o := .lst ((List.replicate ms.length 0).map V.int)) nz
    have hz : upd H0 lz (.lst ((List.replicate ms.length 0).map V.int)) lz = some (.lst ((List.replicate ms.length 0).map V.int)) := upd_same
    revert sz hz
    generalize upd H0 lz _ = H1
    intro sz hz
    have s1 := s0.trans sz
    dsimp only [gName]
    refine ⟨_, rfl, b, _, 0, .int p0, rfl, rfl, .inl (.inl (s1 _ _ hb)), at_of (j := 0) rfl rfl, ?_⟩
    refine ⟨p0, rfl, by omega, fun l1 H2 s2 n1 h1 => ?_⟩
    have hz2 := s2 _ _ hz
    have hp31 := small_turns (n := p0) (by omega)
    have hp32 := asc_len (a := 0) (k := 31) (turnsOf_asc p0) fun t ht => ⟨Nat.zero_le _, hp31 t ht⟩
    refine ⟨l1, rfl, ⟨_, .inl (.inl h1)⟩, fun D nD => lc_list (xs := nv (turnsOf p0)) (fun j H' => Same H2 H' ∧ ∃ (wj : List V) (R : List (List Int)), H' D = some (.lst wj) ∧ RowsN (some D) H' wj R ∧ Spots ms R ((turnsOf p0).take j) ∧ R.length = j) ⟨sm_upd nD, [], [], upd_same, .nil, ⟨rfl, by simp, by simp⟩, rfl⟩ ?_ ?_ ?_⟩
    · rintro j H' _ ⟨sm, _⟩
      exact .inl (.inl (sm _ _ h1))
    · rintro j x H' hx ⟨sm, wj, R, eD, hR, hS, hRl⟩
      obtain ⟨t, ht, rfl⟩ := nv_get hx
      have ht31 := hp31 t (List.mem_of_getElem? ht)
      have hjl := (List.getElem?_eq_some_iff.mp ht).1
      refine ⟨rfl, ?_⟩
      walk_at "r"
      refine ⟨len_le (by show 1 ≤ _; decide), fun p1 np1 => ?_⟩
      have sp1 := sm_upd (o := .lst [V.int (t : Int)]) np1
      have hp1 : upd H' p1 (.lst [V.int (t : Int)]) p1 = some (.lst [V.int (t : Int)]) := upd_same
      revert sp1 hp1
      generalize upd H' p1 _ = H''
      intro sp1 hp1
      refine ⟨_, rfl, p1, lz, _, _, rfl, rfl, hp1, sp1 _ _ (sm _ _ hz2), len_le (by rw [List.length_map, List.length_replicate]; show 1 + _ ≤ _; omega), fun p2 np2 => ?_⟩
      have sp2 := sm_upd (o := .lst ([V.int (t : Int)] ++ (List.replicate ms.length 0).map V.int)) np2
      have hp2 : upd H'' p2 (.lst ([V.int (t : Int)] ++ (List.replicate ms.length 0).map V.int)) p2 = some (.lst ((((t : Nat) : Int) :: List.replicate ms.length 0).map V.int)) := upd_same
      revert sp2 hp2
      generalize upd H'' p2 _ = H3
      intro sp2 hp2
      have eD3 := sp2 _ _ (sp1 _ _ eD)
      have hne : p2 ≠ D := fun e => by
        rw [e] at np2
        rw [sp1 _ _ eD] at np2
        cases np2
      have hw1 := hR.1
      refine ⟨wj, eD3, len_lt (by omega), sm_mut ((sm.trans sp1).trans sp2) nD, wj ++ [.ref p2], R ++ [((t : Nat) : Int) :: List.replicate ms.length 0], upd_same, ?_, ?_, by rw [List.length_append, hRl]; rfl⟩
      · refine (hR.keep fun a xs ha' z => ?_).app (.one (by simpa using hne) (by rw [upd_ne hne]; exact hp2))
        rw [upd_ne (by simpa using ha')]
        exact sp2 _ _ (sp1 _ _ z)
      · rw [List.take_add_one, ht]
        refine hS.app ⟨?_, ?_, ?_⟩
        · show [evL _ _] = [((t : Nat) : Int)]
          simp only [evL]
          rw [evL_zero]
          simp
        · intro r hr
          rw [List.mem_singleton.mp hr]
          simp
        · intro r hr x hx
          rw [List.mem_singleton.mp hr] at hx
          rcases List.mem_cons.mp hx with rfl | hx
          · omega
          · rw [List.eq_of_mem_replicate hx]
            omega
    rintro H3 ⟨s3, w0, R0, eD, hR0, hS0, hRl0⟩
    rw [nv_len, List.take_length] at hS0
    walk_at "r"
    have s03 := (s1.trans s2).trans s3
    refine ⟨b, _, 0, .int p0, rfl, rfl, .inl (.inl (s03 _ _ hb)), at_of (j := 0) rfl rfl, ?_⟩
    walk_at "r"
    refine .inr ⟨_, rfl, ?_⟩
    walk_at "r"
    refine ⟨_, _, rfl, ?_⟩
    dsimp only [gName]
    have hbl : (if decide (p0 < 0) = true then (1 : Int) else 0) = bI (decide ((turnsOf p0).length % 2 = 1)) := by
      unfold bI
      rw [decide_eq_decide.mpr (neg_odd p0)]
    rw [hbl]
    refine ⟨_, rfl, a, us, rfl, .inl (.inl (.inl (s03 _ _ ha))), ?_⟩
    refine ⟨_, rfl, ?_, ?_, ?_⟩
    · omega
    · omega
    obtain ⟨L, eL⟩ : ∃ L, L = ((List.zipWith Plc.far ms fs).map GL.pv).zip cs := ⟨_, rfl⟩
    refine flR (fun i σ H' => ∃ (l : Addr) (z5 z6 z7 z8 z9 : Option V) (ws : List V) (R : List (List Int)), σ = [some (.ref a), some (.ref b), some (.ref lz), some (.ref l), some (.int (bI (decide ((rowsFrom (turnsOf p0) (L.take i)).length % 2 = 1)))), z5, z6, z7, z8, z9] ∧ H' l = some (.lst ws) ∧ RowsN none H' ws R ∧ Spots ms R (rowsFrom (turnsOf p0) (L.take i)) ∧ R.length ≤ 40 + 40 * i ∧ H' lz = some (.lst ((List.replicate ms.length 0).map V.int)) ∧ H l = none ∧ Same H H') ⟨D, none, none, none, none, none, w0, R0, rfl, eD, hR0.free, hS0, by rw [hRl0, nv_len]; omega, s3 _ _ hz2, none_back (s1.trans s2) nD, s03⟩ ?_ ?_
    · rintro i σ H4 hi ⟨l, z5, z6, z7, z8, z9, ws, R, rfl, hl, hR, hS, hRl, hz4, nl0, s4⟩ D' B
      have hiu : i < us.length := by simpa using hi
      obtain ⟨c, hc⟩ : ∃ c, cs[i]? = some c := ⟨_, List.getElem?_eq_getElem (by omega)⟩
      obtain ⟨mi, hmi⟩ : ∃ mi, ms[i]? = some mi := ⟨_, List.getElem?_eq_getElem (by omega)⟩
      obtain ⟨fi, hfi⟩ : ∃ fi, fs[i]? = some fi := ⟨_, List.getElem?_eq_getElem (by omega)⟩
      have hsp : (List.zipWith Plc.far ms fs)[i]? = some (.far mi fi) := by rw [List.getElem?_zipWith, hmi, hfi]
      obtain ⟨v, hv0⟩ : ∃ v, us[i]? = some v := ⟨_, List.getElem?_eq_getElem hiu⟩
      have hvs := hus.get i v _ hv0 hsp
      have hff := hfw fi (List.mem_of_getElem? hfi)
      have hcn := G.nc c (List.mem_of_getElem? hc)
      obtain ⟨cn1, cn2⟩ := G.cnt c (List.mem_of_getElem? hc)
      have hL : L.take (i + 1) = L.take i ++ [(GL.pv (.far mi fi), c)] := by
        rw [List.take_add_one, eL]
        congr 1
        rw [(List.getElem?_zip_eq_some (z := (GL.pv (.far mi fi), c))).mpr ⟨by rw [List.getElem?_map, hsp]; rfl, hc⟩]
        rfl
      obtain ⟨ts, ets⟩ : ∃ ts, ts = rowsFrom (turnsOf p0) (L.take i) := ⟨_, rfl⟩
      rw [← ets] at hS ⊢
      dsimp only [gName]
      walk_at "r"
      refine ⟨b, _, _, .int c, rfl, rfl, .inl (.inl (s4 _ _ hb)), at_of (j := i + 1) (by omega) (by simp [hc]), ?_⟩
      walk_at "r"
      have hb01 : bI (decide (ts.length % 2 = 1)) = if ts.length % 2 = 1 then 1 else 0 := by
        unfold bI
        by_cases hp : ts.length % 2 = 1
        · rw [decide_eq_true hp, if_pos rfl, if_pos hp]
        · rw [decide_eq_false hp, if_neg (by decide), if_neg hp]
      refine ⟨by rw [hb01]; split <;> omega, fun l5 H5 s5 n5 h5 => ?_⟩
      dsimp only [gName]
      with_reducible refine cut (fun σ' H' => ∃ (lq : Addr) (zs : List Nat), σ' = [some (.ref a), some (.ref b), some (.ref lz), some (.ref l), some (.int (bI (decide (ts.length % 2 = 1)))), z5, some (.int (0 + (i : Nat))), some (.int (c - bI (decide (ts.length % 2 = 1)))), some (.ref lq), z9] ∧ H' lq = some (.lst (nv zs)) ∧ zs = (if ts.length % 2 = 1 then tog (turnsOf (c - 1)) else turnsOf c) ∧ Same H5 H') (fun D1 J1 => ?_) ?_
      · walk_at "r"
        refine ifE (fun h1 => ?_) (fun h1 => ?_)
        · have hp : ts.length % 2 = 1 := by
            rw [hb01] at h1
            split at h1
            · assumption
            · cases h1
          rw [hb01, if_pos hp] at h5
          obtain ⟨ys, eys⟩ : ∃ ys, ys = turnsOf (c - 1) := ⟨_, rfl⟩
          rw [← eys] at h5
          have ec1 : cutV (nv ys) none (some 1) = (nv ys).take 1 := cut_to (m := 1)
          have ec2 : cutV (nv ys) (some 1) none = (nv ys).drop 1 := cut_from (m := 1)
          walk_at "r"
          refine ⟨l5, _, rfl, .inl (.inl h5), fun l6 n6 => ?_⟩
          rw [ec1]
          have s6 := sm_upd (o := .lst ((nv ys).take 1)) n6
          have h6 : upd H5 l6 (.lst ((nv ys).take 1)) l6 = some (.lst ((nv ys).take 1)) := upd_same
          revert s6 h6
          generalize upd H5 l6 _ = H6
          intro s6 h6
          walk_at "r"
          refine ⟨len_le (by show 1 ≤ _; decide), fun l7 n7 => ?_⟩
          have s7 := sm_upd (o := .lst [V.int 0]) n7
          have h7 : upd H6 l7 (.lst [V.int 0]) l7 = some (.lst [V.int 0]) := upd_same
          revert s7 h7
          generalize upd H6 l7 _ = H7
          intro s7 h7
          have dpi : ∀ {G : Hp} (r : List Nat), DpAll K G (nv r) (iDs r) := fun r => by
            induction r with
            | nil => exact .nil
            | cons t r ih => exact .cons (.int _) ih
          have hsh : ∀ r : List Nat, SeqAt.shaped (.list (iDs r)) = true := fun r => by
            have := shaped_ints (r.map fun t => ((t : Nat) : Int))
            rw [List.map_map] at this
            exact this
          have etk : (nv ys).take 1 = nv (ys.take 1) := by unfold nv; rw [List.map_take]
          rw [etk] at h6
          refine ⟨.list (iDs (ys.take 1)), .list (iDs [0]), .lst (.inl (.inl (s7 _ _ h6))) (dpi _), .lst (.inl (.inl h7)) (dpi [0]), hsh _, hsh _, ?_⟩
          rw [eqv_take]
          have h57 := (s6.trans s7) _ _ h5
          refine ⟨_, rfl, ?_⟩
          have hl31 := asc_len (ts := ys) (a := 0) (k := 31) (by rw [eys]; exact turnsOf_asc _) fun t ht => ⟨Nat.zero_le _, small_turns (n := c - 1) (by omega) t (by rw [← eys]; exact ht)⟩
          refine ite2 (fun h => ?_) (fun h => ?_)
          · have hr : ∃ r, ys = 0 :: r := by
              match ys, h with
              | t :: r, h => exact ⟨r, by simpa using h⟩
            obtain ⟨r, er⟩ := hr
            walk_at "r"
            refine ⟨l5, _, rfl, .inl (.inl h57), fun l8 n8 => ?_⟩
            rw [ec2]
            refine J1.nx _ _ ⟨l8, r, rfl, ?_, ?_, ((s6.trans s7).trans (sm_upd n8))⟩
            · rw [upd_same, er]
              rfl
            · rw [if_pos hp, ← eys, er]
              rfl
          · walk_at "r"
            refine ⟨len_le (by show 1 ≤ _; decide), fun l8 n8 => ?_⟩
            have s8 := sm_upd (o := .lst [V.int 0]) n8
            have h8 : upd H7 l8 (.lst [V.int 0]) l8 = some (.lst [V.int 0]) := upd_same
            revert s8 h8
            generalize upd H7 l8 _ = H8
            intro s8 h8
            refine ⟨_, rfl, l8, l5, _, _, rfl, rfl, h8, s8 _ _ h57, len_le (by rw [nv_len]; show 1 + _ ≤ _; omega), fun l9 n9 => ?_⟩
            refine J1.nx _ _ ⟨l9, 0 :: ys, rfl, ?_, ?_, (((s6.trans s7).trans s8).trans (sm_upd n9))⟩
            · rw [upd_same]
              rfl
            · rw [if_pos hp, ← eys]
              match ys, h with
              | [], _ => rfl
              | 0 :: r, h => exact absurd (show ((0 :: r).head? == some 0) = true by simp) h
              | (t + 1) :: r, _ => rfl
        · have hp : ¬ ts.length % 2 = 1 := fun hp => h1 (by rw [hb01, if_pos hp])
          rw [hb01, if_neg hp, Int.sub_zero] at h5
          exact J1.nx _ _ ⟨l5, _, rfl, h5, by rw [if_neg hp], Same.refl _⟩
      rintro σ' H6 ⟨lq, zs, rfl, hlq, ezs, s6⟩
      have hzl : zs.length ≤ N := by
        rw [ezs]
        split
        · have := (len_tog (turnsOf (c - 1))).1
          omega
        · omega
      have hz31 : ∀ t ∈ zs, t ≤ 31 := by
        rw [ezs]
        split
        · exact tog_le (small_turns (by omega))
        · exact small_turns (by omega)
      have hz32 : zs.length ≤ 32 := by
        refine asc_len (a := 0) (k := 31) ?_ fun t ht => ⟨Nat.zero_le _, hz31 t ht⟩
        rw [ezs]
        split
        · exact asc_tog (turnsOf_asc _)
        · exact turnsOf_asc _
      rw [Int.zero_add]
      have s46 := (s5.trans s6)
      have hz6 := s46 _ _ hz4
      have him : i < ms.length := by omega
      walk_at "r"
      refine ⟨lz, _, rfl, .inl (.inl hz6), fun q1 nq1 => ?_⟩
      rw [cut_to, ← List.map_take, List.take_replicate, Nat.min_eq_left (Nat.le_of_lt him)]
      have sq1 := sm_upd (o := .lst ((List.replicate i 0).map V.int)) nq1
      have hq1 : upd H6 q1 (.lst ((List.replicate i 0).map V.int)) q1 = some (.lst ((List.replicate i 0).map V.int)) := upd_same
      revert sq1 hq1
      generalize upd H6 q1 _ = J1
      intro sq1 hq1
      walk_at "r"
      refine ⟨len_le (by show 1 ≤ _; decide), fun q2 nq2 => ?_⟩
      have sq2 := sm_upd (o := .lst [V.int 1]) nq2
      have hq2 : upd J1 q2 (.lst [V.int 1]) q2 = some (.lst [V.int 1]) := upd_same
      revert sq2 hq2
      generalize upd J1 q2 _ = J2
      intro sq2 hq2
      refine ⟨q1, q2, _, _, rfl, rfl, sq2 _ _ hq1, hq2, len_le (by rw [List.length_map, List.length_replicate]; show _ + 1 ≤ _; omega), fun q3 nq3 => ?_⟩
      have sq3 := sm_upd (o := .lst ((List.replicate i 0).map V.int ++ [V.int 1])) nq3
      have hq3 : upd J2 q3 (.lst ((List.replicate i 0).map V.int ++ [V.int 1])) q3 = some (.lst ((List.replicate i 0).map V.int ++ [V.int 1])) := upd_same
      revert sq3 hq3
      generalize upd J2 q3 _ = J3
      intro sq3 hq3
      walk_at "r"
      refine ⟨lz, _, rfl, .inl (.inl (((sq1.trans sq2).trans sq3) _ _ hz6)), fun q4 nq4 => ?_⟩
      rw [show (i : Int) + 1 = ((i + 1 : Nat) : Int) by omega, cut_from, ← List.map_drop, List.drop_replicate]
      have sq4 := sm_upd (o := .lst ((List.replicate (ms.length - (i + 1)) 0).map V.int)) nq4
      have hq4 : upd J3 q4 (.lst ((List.replicate (ms.length - (i + 1)) 0).map V.int)) q4 = some (.lst ((List.replicate (ms.length - (i + 1)) 0).map V.int)) := upd_same
      revert sq4 hq4
      generalize upd J3 q4 _ = J4
      intro sq4 hq4
      refine ⟨q3, q4, _, _, rfl, rfl, sq4 _ _ hq3, hq4, len_le (by rw [List.length_append, List.length_map, List.length_map, List.length_replicate, List.length_replicate]; show _ + 1 + _ ≤ _; omega), fun q5 nq5 => ?_⟩
      obtain ⟨tower, etw⟩ : ∃ tower : List Int, tower = List.replicate i 0 ++ 1 :: List.replicate (ms.length - (i + 1)) 0 := ⟨_, rfl⟩
      have etw2 : (List.replicate i 0).map V.int ++ [V.int 1] ++ (List.replicate (ms.length - (i + 1)) 0).map V.int = tower.map V.int := by
        rw [etw, List.map_append, List.map_cons, List.append_assoc]
        rfl
      rw [etw2]
      have sq5 := sm_upd (o := .lst (tower.map V.int)) nq5
      have hq5 : upd J4 q5 (.lst (tower.map V.int)) q5 = some (.lst (tower.map V.int)) := upd_same
      revert sq5 hq5
      generalize upd J4 q5 _ = J5
      intro sq5 hq5
      have htl : tower.length = ms.length := by
        rw [etw, List.length_append, List.length_cons, List.length_replicate, List.length_replicate]
        omega
      have hts : ∀ x ∈ tower, 0 ≤ x ∧ x ≤ 1 := fun x hx => by
        rw [etw] at hx
        rcases List.mem_append.mp hx with h | h
        · rw [List.eq_of_mem_replicate h]
          omega
        · rcases List.mem_cons.mp h with rfl | h
          · omega
          · rw [List.eq_of_mem_replicate h]
            omega
      have hte : evL (ms.map GL.pv) tower = 2 ^ GL.pv mi := by
        rw [etw]
        exact evL_unit _ i _ _ (by rw [List.getElem?_map, hmi]; rfl)
      have s65 : Same H6 J5 := (((sq1.trans sq2).trans sq3).trans sq4).trans sq5
      have s05 := (s4.trans s46).trans s65
      cases hvs with
      | far t0 v0 _ _ ht0 hv00 =>
      dsimp only [gName]
      refine ⟨_, rfl, _, rfl, lq, rfl, ⟨_, .inl (.inl (s65 _ _ hlq))⟩, fun D nD => lc_list (xs := nv zs) (fun j H' => Same J5 H' ∧ ∃ (wj : List V) (Rj : List (List Int)), H' D = some (.lst wj) ∧ RowsN (some D) H' wj Rj ∧ Spots ms Rj ((zs.take j).map (GL.pv (.far mi fi) + ·)) ∧ Rj.length = j) ⟨sm_upd nD, [], [], upd_same, .nil, ⟨rfl, by simp, by simp⟩, rfl⟩ ?_ ?_ ?_⟩
      · rintro j H' _ ⟨sm, _⟩
        exact .inl (.inl (sm _ _ (s65 _ _ hlq)))
      · rintro j x H' hx ⟨sm, wj, Rj, eD, hRj, hSj, hRlj⟩
        obtain ⟨t, ht, rfl⟩ := nv_get hx
        have ht31 := hz31 t (List.mem_of_getElem? ht)
        have hjl := (List.getElem?_eq_some_iff.mp ht).1
        refine ⟨rfl, ?_⟩
        walk_at "r"
        have s06 := s05.trans sm
        refine ⟨a, us, _, .ref t0, rfl, rfl, .inl (.inl (s06 _ _ ha)), at_of (j := i) rfl hv0, ?_⟩
        walk_at "r"
        refine ⟨t0, _, 1, .int (fi : Nat), rfl, rfl, .inl (.inl (s06 _ _ ht0)), at_of (j := 1) rfl rfl, ?_⟩
        walk_at "r"
        refine ⟨len_le (by show 1 ≤ _; decide), fun p1 np1 => ?_⟩
        have sp1 := sm_upd (o := .lst [V.int ((fi : Int) + (t : Int))]) np1
        have hp1 : upd H' p1 (.lst [V.int ((fi : Int) + (t : Int))]) p1 = some (.lst [V.int ((fi : Int) + (t : Int))]) := upd_same
        revert sp1 hp1
        generalize upd H' p1 _ = H''
        intro sp1 hp1
        refine ⟨_, rfl, p1, q5, _, _, rfl, rfl, hp1, sp1 _ _ (sm _ _ hq5), len_le (by rw [List.length_map, htl]; show 1 + _ ≤ _; omega), fun p2 np2 => ?_⟩
        have sp2 := sm_upd (o := .lst ([V.int ((fi : Int) + (t : Int))] ++ tower.map V.int)) np2
        have hp2 : upd H'' p2 (.lst ([V.int ((fi : Int) + (t : Int))] ++ tower.map V.int)) p2 = some (.lst ((((fi : Int) + (t : Int)) :: tower).map V.int)) := upd_same
        revert sp2 hp2
        generalize upd H'' p2 _ = H3'
        intro sp2 hp2
        have eD3 := sp2 _ _ (sp1 _ _ eD)
        have hne : p2 ≠ D := fun e => by
          rw [e] at np2
          rw [sp1 _ _ eD] at np2
          cases np2
        have hw1 := hRj.1
        refine ⟨wj, eD3, len_lt (by omega), sm_mut ((sm.trans sp1).trans sp2) nD, wj ++ [.ref p2], Rj ++ [((fi : Int) + (t : Int)) :: tower], upd_same, ?_, ?_, by rw [List.length_append, hRlj]; rfl⟩
        · refine (hRj.keep fun a xs ha' z => ?_).app (.one (by simpa using hne) (by rw [upd_ne hne]; exact hp2))
          rw [upd_ne (by simpa using ha')]
          exact sp2 _ _ (sp1 _ _ z)
        · rw [List.take_add_one, ht, List.map_append]
          refine hSj.app ⟨?_, ?_, ?_⟩
          · show [evL _ _] = [((GL.pv (.far mi fi) + t : Nat) : Int)]
            simp only [evL]
            rw [hte]
            show [((fi : Int) + (t : Int)) * 2 ^ 0 + 2 ^ GL.pv mi] = [((2 ^ GL.pv mi + fi + t : Nat) : Int)]
            congr 1
            push_cast
            omega
          · intro r hr
            rw [List.mem_singleton.mp hr]
            simp [htl]
          · intro r hr x hx
            rw [List.mem_singleton.mp hr] at hx
            rcases List.mem_cons.mp hx with rfl | hx
            · omega
            · have := hts x hx
              omega
      rintro H7 ⟨s7, wj, Rj, eD, hRj, hSj, hRlj⟩
      rw [nv_len, List.take_length] at hSj
      rw [nv_len] at hRlj
      have s47 := (s46.trans s65).trans s7
      have g1 := hR.1
      have g2 := hRj.1
      refine ⟨l, D, ws, wj, rfl, rfl, s47 _ _ hl, eD, len_le (by omega), fun l9 n9 => ?_⟩
      have s9 := sm_upd (o := .lst (ws ++ wj)) n9
      have h9 : upd H7 l9 (.lst (ws ++ wj)) l9 = some (.lst (ws ++ wj)) := upd_same
      revert s9 h9
      generalize upd H7 l9 (.lst (ws ++ wj)) = H9
      intro s9 h9
      dsimp only [gName]
      walk_at "r"
      refine .inr ⟨_, rfl, ?_⟩
      have hbel : (if decide (c - bI (decide (ts.length % 2 = 1)) < 0) = true then (1 : Int) else 0) = bI (decide ((GL.step ts (GL.pv (.far mi fi)) c).length % 2 = 1)) := by
        rw [hb01]
        unfold bI
        rw [decide_eq_decide.mpr (step_par ts (GL.pv (.far mi fi)) c)]
      dsimp only [gName]
      rw [hbel]
      have hst : GL.step ts (GL.pv (.far mi fi)) c = ts ++ zs.map (GL.pv (.far mi fi) + ·) := by
        unfold GL.step
        rw [ezs]
      refine B.nx _ _ ⟨l9, z5, some (.int (i : Nat)), some (.int (c - bI (decide (ts.length % 2 = 1)))), some (.ref lq), some (.ref q5), ws ++ wj, R ++ Rj, ?_, h9, (hR.same (s47.trans s9)).app (hRj.free.same s9), ?_, by rw [List.length_append]; omega, (s47.trans s9) _ _ hz4, none_back ((s4.trans s47)) n9, (s4.trans s47).trans s9⟩
      · rw [hL, rows_app, ← ets]
        rfl
      · rw [hL, rows_app, ← ets, hst]
        exact hS.app hSj
    · rintro σ H9 ⟨l, z5, z6, z7, z8, z9, ws, R, rfl, hl, hR, hS, hRl, _, nl0, s9⟩
      obtain ⟨lo, hlo, hroom⟩ := G.room
      have eall : L.take (((us.length : Nat) : Int)).toNat = L := by
        rw [List.take_of_length_le]
        rw [eL, List.length_zip, List.length_map, List.length_zipWith]
        omega
      rw [eall, eL, ← lin_turns _ lo p0 hroom hlo] at hS
      refine ⟨_, rfl, ?_⟩
      exact q l ws R H9 hl hR hS nl0 s9
end
end K37
set_option Elab.async false
set_option linter.all false
set_option maxRecDepth 100000
set_option pp.deepTerms false
set_option pp.maxSteps 1500
set_option maxHeartbeats 1000000
/-! lengths of runs, added by hand (law k37) -/
namespace K37
open PySem PySem.Spec PyProof.Rows L2 HX TV FM DX FB FC PM FI GL
local macro_rules | `(tactic| walk_at "r") => `(tactic| (repeat (first | refine Exists.intro _ (And.intro rfl ?_) | refine And.intro rfl ?_ | refine Exists.intro _ (Exists.intro _ (And.intro rfl (And.intro rfl ?_))) | refine And.intro (by omega) ?_ | refine And.intro (Or.inl (And.intro (by omega) (by omega))) ?_ | refine And.intro (Or.inr (And.intro (by omega) (by omega))) ?_ | refine And.intro (And.intro (by omega) (by omega)) ?_ | refine And.intro (And.intro (by decide) (And.intro (by decide) (by decide))) ?_ | refine Or.inl (Exists.intro _ (And.intro rfl ?_)) | (dsimp only [gName]; first | with_reducible refine seqC ?_ | with_reducible refine asgC ?_))))
local macro_rules | `(tactic| walk_at "s") => `(tactic| (repeat (first | refine Exists.intro _ (And.intro rfl ?_) | refine And.intro rfl ?_ | refine Exists.intro _ (Exists.intro _ (And.intro rfl (And.intro rfl ?_))) | refine And.intro (by omega) ?_ | refine And.intro (Or.inl (And.intro (by omega) (by omega))) ?_ | refine And.intro (Or.inr (And.intro (by omega) (by omega))) ?_ | refine And.intro (And.intro (by omega) (by omega)) ?_ | refine And.intro (And.intro (by decide) (And.intro (by decide) (by decide))) ?_ | refine Or.inl (Exists.intro _ (And.intro rfl ?_)) | refine Exists.intro _ (Exists.intro _ (And.intro rfl ?_)) | (dsimp only [gName]; first | with_reducible refine seqC ?_ | with_reducible refine asgC ?_))))
section
variable {P : Program} {w : World} {K : PySem.W.Frag} {mg : Str → Option Value} {base : Heap}
/-- the lengths of the runs between turns, the last one open -/
def altS : List Int → Int
  | [] => 0
  | v :: r => -v - altS r
theorem altS_snoc : ∀ (vs : List Int) (v : Int), altS (vs ++ [v]) = altS vs + (if vs.length % 2 = 1 then v else -v)
  | [], v => by simp [altS]
  | x :: vs, v => by
    show -x - altS (vs ++ [v]) = -x - altS vs + _
    rw [altS_snoc vs v, List.length_cons]
    by_cases h : vs.length % 2 = 1
    · rw [if_pos h, if_neg (by omega)]
      omega
    · rw [if_neg h, if_pos (by omega)]
      omega
def sp_glens (K : PySem.W.Frag) : Sp := fun vs H Q _ => ∃ (a b : Addr) (ws : List V) (R : List (List Int)) (bh : List Int) (B : Nat), vs = [.ref a, .ref b] ∧ H a = some (.lst ws) ∧ RowsN none H ws R ∧ (∀ r ∈ R, r.length = bh.length) ∧ (∀ r ∈ R, ∀ x ∈ r, x.natAbs ≤ B) ∧ (∀ x ∈ bh, x.natAbs ≤ B) ∧ H b = some (.lst (bh.map V.int)) ∧ bh.length ≤ 20 ∧ R.length ≤ 1000 ∧
  ∀ (l : Addr) (xs : List Int) H', H' l = some (.lst (xs.map V.int)) → xs.length = bh.length → (∀ x ∈ xs, x.natAbs ≤ (R.length + 1) * B) → (∀ ps, evL ps xs = altS (R.map (evL ps)) + (if R.length % 2 = 1 then evL ps bh else 0)) → Same H H' → Q (.ref l) H'
theorem plus_bound {xs ys : List Int} {k : Int} {A B : Nat} (hk : k = 1 ∨ k = -1) (hx : ∀ x ∈ xs, x.natAbs ≤ A) (hy : ∀ y ∈ ys, y.natAbs ≤ B) : ∀ z ∈ List.zipWith (fun x y => x + k * y) xs ys, z.natAbs ≤ A + B := by
  intro z hz
  obtain ⟨i, hi, e⟩ := List.mem_iff_getElem.mp hz
  rw [List.length_zipWith] at hi
  rw [List.getElem_zipWith] at e
  have h1 := hx xs[i] (List.getElem_mem _)
  have h2 := hy ys[i] (List.getElem_mem _)
  rcases hk with rfl | rfl <;> omega
theorem ok__law_lengths (T : Top K mg) : FnOk P w K mg base CX0 (3) T.f__law_lengths T.fd__law_lengths ["_law_rows", "_law_behind"]  (sp_glens K) := by
  have G__law_plus : FnOk P w K mg base CX0 (1) T.f__law_plus T.fd__law_plus ["_law_one", "_law_second", "_law_times"]  (sp_gplus K) := ok__law_plus T
  refine T.F__law_lengths.ok sc__law_lengths (fun vs H Q E h => ?_) (fun cdv A outer s H vs Q E hr h => ?_)
  · obtain ⟨a, b, ws, R, bh, B, rfl, _⟩ := h
    rfl
  · obtain ⟨a, b, ws, R, bh, B, rfl, ha, hR, hRl, hRb, hbb, hb, hbl, hR1, q⟩ := h
    refine ⟨_, (pss_cons (ps_set (i := 2) sc__law_lengths.nd rfl (Or.inl rfl) (pe_op op_rep (pe_lst (pa_cons pe_int pa_nil)) (pe_callB call_len_seq (by rfl) T.m_len PySem.boot_len (pa_cons (pv 1) pa_nil))))
    (pss_cons (ps_for PassesOwn.never rfl (pi_range1 (by rfl) T.m_range (pa_cons (pe_callB call_len_seq (by rfl) T.m_len PySem.boot_len (pa_cons (pv 0) pa_nil)) pa_nil)) (pg_name (i := 3) sc__law_lengths.nd rfl (Or.inl rfl))
      (pss_one (ps_set (i := 2) sc__law_lengths.nd rfl (Or.inl rfl) (pe_call G__law_plus (hr.mono (by omega)) (by rfl) T.g__law_plus T.F__law_plus.kp T.b__law_plus .nil pass0 (pa_cons (pv 2) (pa_cons (pe_ix ix_list (pv 0) (pv 3) (fun _ _ => rfl)) (pa_cons (pe_ifExp (pt_cmpR op_eq (pe_op op_mod (pe_callTy call_int1 (by rfl) T.m_int (by decide +kernel) (pa_cons (pv 3) pa_nil)) pe_int) pe_int (nomark _)) pe_int (pe_un un_neg pe_int)) pa_nil)))))))
    (pss_one (ps_ret (pe_ifExp (pt_cmpR op_eq (pe_op op_mod (pe_callTy call_int1 (by rfl) T.m_int (by decide +kernel) (pa_cons (pe_callB call_len_seq (by rfl) T.m_len PySem.boot_len (pa_cons (pv 0) pa_nil)) pa_nil)) pe_int) pe_int (nomark _)) (pv 2) (pe_call G__law_plus (hr.mono (by omega)) (by rfl) T.g__law_plus T.F__law_plus.kp T.b__law_plus .nil pass0 (pa_cons (pv 2) (pa_cons (pv 1) (pa_cons pe_int pa_nil))))))))), ?_⟩
    have hwl := hR.1
    walk_at "r"
    refine ⟨len_le (by show 1 ≤ _; decide), fun l0 n0 => ?_⟩
    have s0 := sm_upd (o := .lst [V.int 0]) n0
    have h0 : upd H l0 (.lst [V.int 0]) l0 = some (.lst [V.int 0]) := upd_same
    revert s0 h0
    generalize upd H l0 _ = H0
    intro s0 h0
    walk_at "r"
    refine ⟨b, _, rfl, .inl (.inl (.inl (s0 _ _ hb))), ?_⟩
    rw [List.length_map]
    refine ⟨l0, _, _, rfl, rfl, h0, by omega, by omega, len_le (by show 1 * ((bh.length : Nat) : Int).toNat ≤ _; omega), fun lz nz => ?_⟩
    rw [Int.toNat_natCast, rep_zero]
    have sz := sm_upd (o := .lst ((List.replicate bh.length 0).map V.int)) nz
    have hz : upd H0 lz (.lst ((List.replicate bh.length 0).map V.int)) lz = some (.lst ((List.replicate bh.length 0).map V.int)) := upd_same
    revert sz hz
    generalize upd H0 lz _ = H1
    intro sz hz
    have s1 := s0.trans sz
    dsimp only [gName]
    refine ⟨_, rfl, a, ws, rfl, .inl (.inl (.inl (s1 _ _ ha))), ?_⟩
    refine ⟨_, rfl, ?_, ?_, ?_⟩
    · omega
    · omega
    refine flR (fun i σ H' => ∃ (l : Addr) (z3 : Option V) (xs : List Int), σ = [some (.ref a), some (.ref b), some (.ref l), z3] ∧ H' l = some (.lst (xs.map V.int)) ∧ xs.length = bh.length ∧ (∀ x ∈ xs, x.natAbs ≤ i * B) ∧ (∀ ps, evL ps xs = altS ((R.take i).map (evL ps))) ∧ Same H H') ⟨lz, none, _, rfl, hz, by simp, fun x hx => by rw [List.eq_of_mem_replicate hx]; exact Nat.zero_le _, fun ps => evL_zero ps _, s1⟩ ?_ ?_
    · rintro i σ H2 hi ⟨l, z3, xs, rfl, hl, hxl, hxb, hxe, s2⟩ D' Bn
      have hiw : i < ws.length := by simpa using hi
      obtain ⟨r, hr0⟩ : ∃ r, R[i]? = some r := ⟨_, List.getElem?_eq_getElem (by omega)⟩
      obtain ⟨v, hv0⟩ : ∃ v, ws[i]? = some v := ⟨_, List.getElem?_eq_getElem hiw⟩
      obtain ⟨ar, rfl, _, har⟩ := hR.2 i v r hv0 hr0
      have hrm := List.mem_of_getElem? hr0
      dsimp only [gName]
      walk_at "r"
      refine ⟨a, ws, _, .ref ar, rfl, rfl, .inl (.inl (s2 _ _ ha)), at_of (j := i) (by omega) hv0, ?_⟩
      walk_at "r"
      have htk : R.take (i + 1) = R.take i ++ [r] := by rw [List.take_add_one, hr0]; rfl
      have hil : (R.take i).length = i := by rw [List.length_take]; omega
      have step : ∀ (k : Int), (k = if i % 2 = 1 then 1 else -1) → sp_gplus K [.ref l, .ref ar, .int k] H2 (fun x H1 => D'.nx [some (.ref a), some (.ref b), some x, some (.int (0 + (i : Nat)))] H1) E0 := fun k hk => by
        have hk1 : k = 1 ∨ k = -1 := by
          rw [hk]
          split
          · exact .inl rfl
          · exact .inr rfl
        refine ⟨l, ar, xs, r, k, rfl, hl, s2 _ _ har, by rw [hxl, hRl r hrm], by omega, by rcases hk1 with h | h <;> omega, fun l3 H3 n3 h3 s3 => ?_⟩
        refine Bn.nx _ _ ⟨l3, _, _, rfl, h3, ?_, ?_, ?_, s2.trans s3⟩
        · rw [List.length_zipWith, hxl, hRl r hrm, Nat.min_self]
        · rw [Nat.add_mul, Nat.one_mul]
          exact plus_bound hk1 hxb (hRb r hrm)
        · intro ps
          rw [evL_plus k ps xs r (by rw [hxl, hRl r hrm]), hxe ps, htk, List.map_append, List.map_cons, List.map_nil, altS_snoc, List.length_map, hil, hk]
          by_cases h : i % 2 = 1
          · rw [if_pos h, if_pos h]
            omega
          · rw [if_neg h, if_neg h]
            omega
      refine ifE (fun h => ?_) (fun h => ?_)
      · exact step 1 (by rw [if_pos (by omega)])
      · walk_at "r"
        exact step (-1) (by rw [if_neg (by omega)])
    · rintro σ H2 ⟨l, z3, xs, rfl, hl, hxl, hxb, hxe, s2⟩
      rw [Int.toNat_natCast, hwl] at hxb
      have etk : R.take (((ws.length : Nat) : Int)).toNat = R := by
        rw [List.take_of_length_le]
        omega
      rw [etk] at hxe
      walk_at "r"
      refine ⟨a, ws, rfl, .inl (.inl (.inl (s2 _ _ ha))), ?_⟩
      walk_at "r"
      refine ifE (fun h => ?_) (fun h => ?_)
      · refine ⟨_, rfl, ?_⟩
        exact q l xs H2 hl hxl (fun x hx => Nat.le_trans (hxb x hx) (by rw [Nat.add_mul]; omega)) (fun ps => by rw [if_neg (by omega), hxe ps]; omega) s2
      · refine ⟨_, rfl, _, rfl, ?_⟩
        refine ⟨l, b, xs, bh, 1, rfl, hl, s2 _ _ hb, hxl, by omega, by decide, fun l3 H3 n3 h3 s3 => ?_⟩
        refine q l3 _ H3 h3 (by rw [List.length_zipWith, hxl, Nat.min_self]) ?_ (fun ps => ?_) (s2.trans s3)
        · rw [Nat.add_mul, Nat.one_mul]
          exact plus_bound (.inl rfl) hxb hbb
        · rw [evL_plus 1 ps xs bh hxl, hxe ps, if_pos (by omega)]
          omega
end
end K37
set_option Elab.async false
set_option linter.all false
set_option maxRecDepth 100000
set_option pp.deepTerms false
set_option pp.maxSteps 1500
set_option maxHeartbeats 1000000
/-! places near turns (law k37) -/
namespace K37
open PySem PySem.Spec PyProof.Rows L2 HX TV FM DX FB FC PM FI GL
local macro_rules | `(tactic| walk_at "r") => `(tactic| (repeat (first | refine Exists.intro _ (And.intro rfl ?_) | refine And.intro rfl ?_ | refine Exists.intro _ (Exists.intro _ (And.intro rfl (And.intro rfl ?_))) | refine And.intro (by omega) ?_ | refine And.intro (Or.inl (And.intro (by omega) (by omega))) ?_ | refine And.intro (Or.inr (And.intro (by omega) (by omega))) ?_ | refine And.intro (And.intro (by omega) (by omega)) ?_ | refine And.intro (And.intro (by decide) (And.intro (by decide) (by decide))) ?_ | refine Or.inl (Exists.intro _ (And.intro rfl ?_)) | (dsimp only [gName]; first | with_reducible refine seqC ?_ | with_reducible refine asgC ?_))))
local macro_rules | `(tactic| walk_at "s") => `(tactic| (repeat (first | refine Exists.intro _ (And.intro rfl ?_) | refine And.intro rfl ?_ | refine Exists.intro _ (Exists.intro _ (And.intro rfl (And.intro rfl ?_))) | refine And.intro (by omega) ?_ | refine And.intro (Or.inl (And.intro (by omega) (by omega))) ?_ | refine And.intro (Or.inr (And.intro (by omega) (by omega))) ?_ | refine And.intro (And.intro (by omega) (by omega)) ?_ | refine And.intro (And.intro (by decide) (And.intro (by decide) (by decide))) ?_ | refine Or.inl (Exists.intro _ (And.intro rfl ?_)) | refine Exists.intro _ (Exists.intro _ (And.intro rfl ?_)) | (dsimp only [gName]; first | with_reducible refine seqC ?_ | with_reducible refine asgC ?_))))
section
variable {P : Program} {w : World} {K : PySem.W.Frag} {mg : Str → Option Value} {base : Heap}
def rwD (R : List (List Int)) : List PyData := R.map fun r => .list (r.map PyData.int)
theorem rows_lay : ∀ R : List (List Int), PyData.canLayAll0 (rwD R) = true
  | [] => rfl
  | r :: R => by
    have h := rows_lay R
    have h1 := lay_ints r
    show (PyData.canLay0 (.list (r.map PyData.int)) && PyData.canLayAll0 (rwD R)) = true
    rw [h, Bool.and_true]
    exact h1
theorem rows_dep : ∀ R : List (List Int), PyData.depthAll (rwD R) ≤ 1
  | [] => Nat.zero_le _
  | r :: R => by
    have h := rows_dep R
    have h1 := dep_ints r
    show max (PyData.depthAll (r.map PyData.int) + 1) (PyData.depthAll (rwD R)) ≤ 1
    rw [h1]
    omega
theorem rows_shaped (R : List (List Int)) : SeqAt.shaped (.list (rwD R)) = true := by
  unfold SeqAt.shaped
  have h := rows_dep R
  show (PyData.canLayAll0 (rwD R) && decide (PyData.depthAll (rwD R) + 1 ≤ 64)) = true
  rw [rows_lay R, decide_eq_true (by omega)]
  rfl
theorem rows_dp {H : Hp} {ws : List V} {R : List (List Int)} (h : RowsN none H ws R) : DpAll K H ws (rwD R) := by
  induction ws generalizing R with
  | nil =>
    have : R = [] := List.eq_nil_of_length_eq_zero h.1.symm
    subst this
    exact .nil
  | cons v ws ih =>
    cases R with
    | nil => exact absurd h.1 (by simp)
    | cons r R =>
      obtain ⟨a, rfl, _, ha⟩ := h.2 0 v r rfl rfl
      have dpr : ∀ r : List Int, DpAll K H (r.map V.int) (r.map PyData.int) := fun r => by
        induction r with
        | nil => exact .nil
        | cons x r ih => exact .cons (.int _) ih
      exact .cons (.lst (.inl (.inl ha)) (dpr r)) (ih ⟨by simpa using h.1, fun i v r h1 h2 => h.2 (i + 1) v r (by simpa using h1) (by simpa using h2)⟩)
theorem lex_same : ∀ xs : List Int, HT.lexLt xs xs = false
  | [] => rfl
  | x :: xs => by
    rw [HT.lexLt_cons, if_pos rfl]
    exact lex_same xs
theorem lex_last : ∀ (n : Nat) (y : Int), 0 ≤ y → HT.lexLt (List.replicate n 0 ++ [y]) (List.replicate n 0 ++ [0]) = false
  | 0, y, h => by
    show HT.lexLt [y] [0] = false
    rw [HT.lexLt_cons]
    by_cases e : y = 0
    · rw [if_pos e]
      rfl
    · rw [if_neg e]
      exact decide_eq_false (by omega)
  | n + 1, y, h => by
    rw [List.replicate_succ, List.cons_append, List.cons_append, HT.lexLt_cons, if_pos rfl]
    exact lex_last n y h
theorem lex_few (n : Nat) (y : Int) (h : 0 ≤ y) : HT.lexLt (y :: List.replicate n 0).reverse (List.replicate (n + 1) 0).reverse = false := by
  rw [List.replicate_succ, List.reverse_cons, List.reverse_cons, List.reverse_replicate]
  exact lex_last n y h
def sp_gplace (K : PySem.W.Frag) : Sp := fun vs H Q _ => ∃ (τ : Pn) (n : Nat) (a : Addr) (ws : List V) (R : List (List Int)) (wd : Nat), vs = [.ref τ.p, .ref a, .int (wd : Nat)] ∧ n < 900000 ∧ Pen H τ n ∧ H a = some (.lst ws) ∧ RowsN none H ws R ∧ (∀ r ∈ R, r.length = wd + 1) ∧ (∀ r ∈ R, ∀ x ∈ r, 0 ≤ x ∧ x ≤ 80) ∧ R.length ≤ 1000 ∧ wd ≤ 10 ∧
  ∀ (l : Addr) (xs : List Int) H', H' l = some (.lst (xs.map V.int)) → xs.length = wd + 1 → (∀ x ∈ xs, x.natAbs ≤ 90) → HT.lexLt xs.reverse (List.replicate (wd + 1) 0).reverse = false → Pen H' τ (n + 3) → But τ.p H H' → Q (.ref l) H'
theorem ok__law_place (T : Top K mg) : FnOk P w K mg base CX0 (3) T.f__law_place T.fd__law_place ["_law_pen_here", "_law_rows", "_law_wide"]  (sp_gplace K) := by
  have G__law_draw : FnOk P w K mg base CX0 (1) T.f__law_draw T.fd__law_draw ["_law_pen_here", "_law_number"]  sp_pdraw := ok__law_draw T
  have G__law_pick : FnOk P w K mg base CX0 (2) T.f__law_pick T.fd__law_pick ["_law_pen_here", "_law_items"]  sp_ppick := ok__law_pick T
  have G__law_less : FnOk P w K mg base CX0 (1) T.f__law_less T.fd__law_less ["_law_one", "_law_second"]  (sp_gless K) := ok__law_less T
  refine T.F__law_place.ok sc__law_place (fun vs H Q E h => ?_) (fun cdv A outer s H vs Q E hr h => ?_)
  · obtain ⟨τ, n, a, ws, R, wd, rfl, _⟩ := h
    rfl
  · obtain ⟨τ, n, a, ws, R, wd, rfl, hn, hT, ha, hR, hRl, hRb, hR1, hwd, q⟩ := h
    refine ⟨_, (pss_cons (ps_set (i := 3) sc__law_place.nd rfl (Or.inl rfl) (pe_call G__law_draw (hr.mono (by omega)) (by rfl) T.g__law_draw T.F__law_draw.kp T.b__law_draw .nil pass0 (pa_cons (pv 0) (pa_cons pe_int pa_nil))))
    (pss_cons (ps_if (PW.pt (pw_or (pt_cmpR (op_eqD hr.units) (pv 1) (pe_lst pa_nil) (nomark _)) (pw_or1 (pt_cmpR op_eq (pe_call G__law_draw (hr.mono (by omega)) (by rfl) T.g__law_draw T.F__law_draw.kp T.b__law_draw .nil pass0 (pa_cons (pv 0) (pa_cons pe_int pa_nil))) pe_int (nomark _)))))
      (pss_one (ps_ret (pe_op op_cat (pe_lst (pa_cons (pv 3) pa_nil)) (pe_op op_rep (pe_lst (pa_cons pe_int pa_nil)) (pv 2)))))
      pss_nil)
    (pss_cons (ps_set (i := 4) sc__law_place.nd rfl (Or.inl rfl) (pe_callTy call_list_of (by rfl) T.m_list (by decide +kernel) (pa_cons (pe_call G__law_pick (hr.mono (by omega)) (by rfl) T.g__law_pick T.F__law_pick.kp T.b__law_pick .nil pass0 (pa_cons (pv 0) (pa_cons (pv 1) pa_nil))) pa_nil)))
    (pss_cons (ps_asg (pe_op op_sub (pe_op op_add (pe_ix ix_list (pv 4) pe_int (fun _ _ => rfl)) (pv 3)) pe_int) (pg_sub (pv 4) pe_int set_list))
    (pss_one (ps_ret (pe_ifExp (pt_not (pt_val (pe_call G__law_less (hr.mono (by omega)) (by rfl) T.g__law_less T.F__law_less.kp T.b__law_less .nil pass0 (pa_cons (pv 4) (pa_cons (pe_op op_rep (pe_lst (pa_cons pe_int pa_nil)) (pe_op op_add (pv 2) pe_int)) pa_nil))) (fun _ => rfl))) (pv 4) (pe_op op_rep (pe_lst (pa_cons pe_int pa_nil)) (pe_op op_add (pv 2) pe_int))))))))), ?_⟩
    have hwl := hR.1
    walk_at "r"
    refine ⟨τ, _, 9, rfl, by decide, by decide, by omega, hT, fun y H1 y0 y1 t1 b1 => ?_⟩
    have kr : ∀ {G G' : Hp} {m : Nat}, Pen G τ m → But τ.p G G' → RowsN none G ws R → RowsN none G' ws R := fun hp hb hr => hr.keep fun a xs _ z => hb _ _ (hp.neL z) z
    have hR1' := kr hT b1 hR
    have ha1 := b1 _ _ (hT.neL ha) ha
    dsimp only [gName]
    walk_at "r"
    refine ⟨by decide, fun e ne => ?_⟩
    have se := sm_upd (o := .lst []) ne
    have he : upd H1 e (.lst []) e = some (.lst []) := upd_same
    have tse := t1.up se
    have bse := b1.new (o := .lst []) ne
    revert se he tse bse
    generalize upd H1 e _ = H2
    intro se he tse bse
    have ha2 := se _ _ ha1
    have hR2 := hR1'.same se
    refine ⟨_, _, .lst (.inl (.inl ha2)) (rows_dp hR2), .lst (.inl (.inl he)) .nil, rows_shaped R, rows_shaped [], _, rfl, ?_⟩
    rw [eqv_nil]
    by_cases hR0 : R = []
    · rw [show (rwD R).isEmpty = true by rw [hR0]; rfl]
      refine iteT (iteT ?_)
      walk_at "r"
      refine ⟨len_le (by show 1 ≤ _; decide), fun c1 m1 => ?_⟩
      have u1 := sm_upd (o := .lst [V.int y]) m1
      have d1 : upd H2 c1 (.lst [V.int y]) c1 = some (.lst [V.int y]) := upd_same
      have tu1 := tse.up u1
      have bu1 := bse.new (o := .lst [V.int y]) m1
      revert u1 d1 tu1 bu1
      generalize upd H2 c1 _ = G1
      intro u1 d1 tu1 bu1
      refine ⟨len_le (by show 1 ≤ _; decide), fun c2 m2 => ?_⟩
      have u2 := sm_upd (o := .lst [V.int 0]) m2
      have d2 : upd G1 c2 (.lst [V.int 0]) c2 = some (.lst [V.int 0]) := upd_same
      have tu2 := tu1.up u2
      have bu2 := bu1.new (o := .lst [V.int 0]) m2
      revert u2 d2 tu2 bu2
      generalize upd G1 c2 _ = G2
      intro u2 d2 tu2 bu2
      refine ⟨_, rfl, c2, _, _, rfl, rfl, d2, by omega, by omega, len_le (by show 1 * ((wd : Nat) : Int).toNat ≤ _; omega), fun c3 m3 => ?_⟩
      rw [Int.toNat_natCast, rep_zero]
      have u3 := sm_upd (o := .lst ((List.replicate wd 0).map V.int)) m3
      have d3 : upd G2 c3 (.lst ((List.replicate wd 0).map V.int)) c3 = some (.lst ((List.replicate wd 0).map V.int)) := upd_same
      have tu3 := tu2.up u3
      have bu3 := bu2.new (o := .lst ((List.replicate wd 0).map V.int)) m3
      revert u3 d3 tu3 bu3
      generalize upd G2 c3 _ = G3
      intro u3 d3 tu3 bu3
      refine ⟨c1, c3, _, _, rfl, rfl, u3 _ _ (u2 _ _ d1), d3, len_le (by simp; omega), fun c4 m4 => ?_⟩
      exact q c4 (y :: List.replicate wd 0) _ upd_same (by simp) (fun x hx => by rcases List.mem_cons.mp hx with rfl | hx; (· omega); (· rw [List.eq_of_mem_replicate hx]; decide)) (lex_few wd y y0) ((tu3.up (sm_upd m4)).le (by omega)) (bu3.new m4)
    · rw [show (rwD R).isEmpty = false by cases R; exact absurd rfl hR0; rfl]
      refine iteF ?_
      have hR3 : 1 ≤ R.length := by cases R; exact absurd rfl hR0; simp
      walk_at "r"
      refine ⟨τ, _, 5, rfl, by decide, by decide, by omega, tse, fun w5 H3 w0 w1 t3 b3 => ?_⟩
      have ha3 := b3 _ _ (tse.neL ha2) ha2
      have hR4 := kr tse b3 hR2
      have bb := bse.trans b3
      walk_at "r"
      refine ifE (fun h => ?_) (fun h => ?_)
      · skip
        walk_at "r"
        refine ⟨len_le (by show 1 ≤ _; decide), fun c1 m1 => ?_⟩
        have u1 := sm_upd (o := .lst [V.int y]) m1
        have d1 : upd H3 c1 (.lst [V.int y]) c1 = some (.lst [V.int y]) := upd_same
        have tu1 := t3.up u1
        have bu1 := bb.new (o := .lst [V.int y]) m1
        revert u1 d1 tu1 bu1
        generalize upd H3 c1 _ = G1
        intro u1 d1 tu1 bu1
        refine ⟨len_le (by show 1 ≤ _; decide), fun c2 m2 => ?_⟩
        have u2 := sm_upd (o := .lst [V.int 0]) m2
        have d2 : upd G1 c2 (.lst [V.int 0]) c2 = some (.lst [V.int 0]) := upd_same
        have tu2 := tu1.up u2
        have bu2 := bu1.new (o := .lst [V.int 0]) m2
        revert u2 d2 tu2 bu2
        generalize upd G1 c2 _ = G2
        intro u2 d2 tu2 bu2
        refine ⟨_, rfl, c2, _, _, rfl, rfl, d2, by omega, by omega, len_le (by show 1 * ((wd : Nat) : Int).toNat ≤ _; omega), fun c3 m3 => ?_⟩
        rw [Int.toNat_natCast, rep_zero]
        have u3 := sm_upd (o := .lst ((List.replicate wd 0).map V.int)) m3
        have d3 : upd G2 c3 (.lst ((List.replicate wd 0).map V.int)) c3 = some (.lst ((List.replicate wd 0).map V.int)) := upd_same
        have tu3 := tu2.up u3
        have bu3 := bu2.new (o := .lst ((List.replicate wd 0).map V.int)) m3
        revert u3 d3 tu3 bu3
        generalize upd G2 c3 _ = G3
        intro u3 d3 tu3 bu3
        refine ⟨c1, c3, _, _, rfl, rfl, u3 _ _ (u2 _ _ d1), d3, len_le (by simp; omega), fun c4 m4 => ?_⟩
        exact q c4 (y :: List.replicate wd 0) _ upd_same (by simp) (fun x hx => by rcases List.mem_cons.mp hx with rfl | hx; (· omega); (· rw [List.eq_of_mem_replicate hx]; decide)) (lex_few wd y y0) ((tu3.up (sm_upd m4)).le (by omega)) (bu3.new m4)
      · walk_at "r"
        refine ⟨τ, a, _, ws, rfl, by omega, t3, ha3, by omega, by omega, fun v H4 hv t4 b4 => ?_⟩
        obtain ⟨i0, hi0, ei0⟩ := List.mem_iff_getElem.mp hv
        obtain ⟨r, hr0⟩ : ∃ r, R[i0]? = some r := ⟨_, List.getElem?_eq_getElem (by omega)⟩
        obtain ⟨ar, rfl, _, har⟩ := (kr t3 b4 hR4).2 i0 v r (by rw [List.getElem?_eq_getElem hi0, ei0]) hr0
        have hrm := List.mem_of_getElem? hr0
        have bb4 := bb.trans b4
        obtain ⟨x0, rs, rfl⟩ : ∃ x0 rs, r = x0 :: rs := by
          cases r with
          | nil => exact absurd (hRl _ hrm) (by simp)
          | cons x0 rs => exact ⟨x0, rs, rfl⟩
        have hrl : rs.length = wd := by simpa using hRl _ hrm
        have hb0 := hRb _ hrm
        refine ⟨ar, _, rfl, .inl (.inl (.inl har)), fun l5 m5 => ?_⟩
        have s5 := sm_upd (o := .lst ((x0 :: rs).map V.int)) m5
        have h5 : upd H4 l5 (.lst ((x0 :: rs).map V.int)) l5 = some (.lst ((x0 :: rs).map V.int)) := upd_same
        revert s5 h5
        generalize upd H4 l5 _ = H5
        intro s5 h5
        dsimp only [gName]
        walk_at "r"
        refine ⟨l5, _, _, _, rfl, rfl, .inl (.inl h5), at_of (j := 0) (by omega) rfl, ?_⟩
        walk_at "r"
        refine ⟨l5, _, _, 0, rfl, rfl, h5, by unfold ixN; rw [if_pos (by omega), if_pos (by simp)]; rfl, ?_⟩
        have s6 : Same H4 (upd H5 l5 (.lst (((x0 :: rs).map V.int).set 0 (.int (x0 + y - 4))))) := sm_mut s5 m5
        have h6 : (upd H5 l5 (.lst (((x0 :: rs).map V.int).set 0 (.int (x0 + y - 4))))) l5 = some (.lst (((x0 + y - 4) :: rs).map V.int)) := upd_same
        revert s6 h6
        generalize upd H5 l5 _ = H6
        intro s6 h6
        have t6 := t4.up s6
        have b6 := bb4.trans (But.of s6)
        dsimp only [gName]
        walk_at "r"
        refine ⟨len_le (by show 1 ≤ _; decide), fun c7 m7 => ?_⟩
        have u7 := sm_upd (o := .lst [V.int 0]) m7
        have d7 : upd H6 c7 (.lst [V.int 0]) c7 = some (.lst [V.int 0]) := upd_same
        have tu7 := t6.up u7
        have bu7 := b6.new (o := .lst [V.int 0]) m7
        revert u7 d7 tu7 bu7
        generalize upd H6 c7 _ = H7
        intro u7 d7 tu7 bu7
        walk_at "r"
        refine ⟨c7, _, _, rfl, rfl, d7, by omega, by omega, len_le (by show 1 * (((wd : Nat) : Int) + 1).toNat ≤ _; omega), fun c8 m8 => ?_⟩
        rw [show (((wd : Nat) : Int) + 1).toNat = wd + 1 by omega, rep_zero]
        have u8 := sm_upd (o := .lst ((List.replicate (wd + 1) 0).map V.int)) m8
        have d8 : upd H7 c8 (.lst ((List.replicate (wd + 1) 0).map V.int)) c8 = some (.lst ((List.replicate (wd + 1) 0).map V.int)) := upd_same
        have tu8 := tu7.up u8
        have bu8 := bu7.new (o := .lst ((List.replicate (wd + 1) 0).map V.int)) m8
        revert u8 d8 tu8 bu8
        generalize upd H7 c8 _ = H8
        intro u8 d8 tu8 bu8
        refine ⟨l5, c8, _, _, rfl, u8 _ _ (u7 _ _ h6), d8, by simp; omega, fun H9 s9 => ?_⟩
        refine ⟨_, rfl, ?_⟩
        have h9 := s9 _ _ (u8 _ _ (u7 _ _ h6))
        have t9 := tu8.up s9
        have b9 := bu8.trans (But.of s9)
        cases hle : HT.lexLt ((x0 + y - 4) :: rs).reverse (List.replicate (wd + 1) 0).reverse
        · refine iteT ?_
          refine ⟨_, rfl, ?_⟩
          refine q l5 _ H9 h9 (by simp; omega) (fun x hx => ?_) hle (t9.le (by omega)) b9
          rcases List.mem_cons.mp hx with rfl | hx
          · have := hb0 x0 (by simp)
            omega
          · have := hb0 x (by simp [hx])
            omega
        · refine iteF ?_
          refine ⟨len_le (by show 1 ≤ _; decide), fun ca ma => ?_⟩
          have ua := sm_upd (o := .lst [V.int 0]) ma
          have da : upd H9 ca (.lst [V.int 0]) ca = some (.lst [V.int 0]) := upd_same
          have tua := t9.up ua
          have bua := b9.new (o := .lst [V.int 0]) ma
          revert ua da tua bua
          generalize upd H9 ca _ = Ha
          intro ua da tua bua
          walk_at "r"
          refine ⟨ca, _, _, rfl, rfl, da, by omega, by omega, len_le (by show 1 * (((wd : Nat) : Int) + 1).toNat ≤ _; omega), fun cb mb => ?_⟩
          rw [show (((wd : Nat) : Int) + 1).toNat = wd + 1 by omega, rep_zero]
          exact q cb _ _ upd_same (by simp) (fun x hx => by rw [List.eq_of_mem_replicate hx]; decide) (lex_same _) ((tua.up (sm_upd mb)).le (by omega)) (bua.new mb)
end
end K37
set_option Elab.async false
set_option linter.all false
set_option maxRecDepth 100000
set_option pp.deepTerms false
set_option pp.maxSteps 1500
set_option maxHeartbeats 1000000
/-! the next place by hand (law k37) -/
namespace K37
open PySem PySem.Spec PyProof.Rows L2 HX TV FM DX FB FC PM FI GL
local macro_rules | `(tactic| walk_at "r") => `(tactic| (repeat (first | refine Exists.intro _ (And.intro rfl ?_) | refine And.intro rfl ?_ | refine Exists.intro _ (Exists.intro _ (And.intro rfl (And.intro rfl ?_))) | refine And.intro (by omega) ?_ | refine And.intro (Or.inl (And.intro (by omega) (by omega))) ?_ | refine And.intro (Or.inr (And.intro (by omega) (by omega))) ?_ | refine And.intro (And.intro (by omega) (by omega)) ?_ | refine And.intro (And.intro (by decide) (And.intro (by decide) (by decide))) ?_ | refine Or.inl (Exists.intro _ (And.intro rfl ?_)) | (dsimp only [gName]; first | with_reducible refine seqC ?_ | with_reducible refine asgC ?_))))
local macro_rules | `(tactic| walk_at "s") => `(tactic| (repeat (first | refine Exists.intro _ (And.intro rfl ?_) | refine And.intro rfl ?_ | refine Exists.intro _ (Exists.intro _ (And.intro rfl (And.intro rfl ?_))) | refine And.intro (by omega) ?_ | refine And.intro (Or.inl (And.intro (by omega) (by omega))) ?_ | refine And.intro (Or.inr (And.intro (by omega) (by omega))) ?_ | refine And.intro (And.intro (by omega) (by omega)) ?_ | refine And.intro (And.intro (by decide) (And.intro (by decide) (by decide))) ?_ | refine Or.inl (Exists.intro _ (And.intro rfl ?_)) | refine Exists.intro _ (Exists.intro _ (And.intro rfl ?_)) | (dsimp only [gName]; first | with_reducible refine seqC ?_ | with_reducible refine asgC ?_))))
section
variable {P : Program} {w : World} {K : PySem.W.Frag} {mg : Str → Option Value} {base : Heap}
/-- a row, or None -/
def OptRow (H : Hp) (v : V) : Option (List Int) → Prop
  | none => v = .non
  | some r => ∃ c, v = .ref c ∧ H c = some (.lst (r.map V.int))
def nextL (R : List (List Int)) (xs : List Int) (wy : Int) : Option (List Int) :=
  if (((R.filter fun r => !HT.lexLt xs.reverse r.reverse).length : Nat) : Int) % 2 = wy then some xs else (R.filter fun r => HT.lexLt xs.reverse r.reverse).head?
theorem filt_snoc {α : Type} (p : α → Bool) {R : List α} {j : Nat} {r : α} (h : R[j]? = some r) : (R.take (j + 1)).filter p = (R.take j).filter p ++ (if p r = true then [r] else []) := by
  rw [List.take_add_one, h, List.filter_append]
  cases e : p r <;> simp [e]
theorem filt_len {α : Type} (p : α → Bool) (R : List α) (j : Nat) : ((R.take j).filter p).length ≤ R.length :=
  Nat.le_trans (List.length_filter_le _ _) (by rw [List.length_take]; omega)
def sp_gnext (K : PySem.W.Frag) : Sp := fun vs H Q _ => ∃ (a b : Addr) (ws : List V) (R : List (List Int)) (xs : List Int) (wy : Int), vs = [.ref a, .ref b, .int wy] ∧ H a = some (.lst ws) ∧ RowsN none H ws R ∧ H b = some (.lst (xs.map V.int)) ∧ (∀ r ∈ R, r.length = xs.length) ∧ R.length ≤ 1000 ∧
  ∀ (v : V) H', OptRow H' v (nextL R xs wy) → Same H H' → Q v H'
theorem ok__law_next (T : Top K mg) : FnOk P w K mg base CX0 (2) T.f__law_next T.fd__law_next ["_law_rows", "_law_place_here", "_law_way"]  (sp_gnext K) := by
  have G__law_less : FnOk P w K mg base CX0 (1) T.f__law_less T.fd__law_less ["_law_one", "_law_second"]  (sp_gless K) := ok__law_less T
  refine T.F__law_next.ok sc__law_next (fun vs H Q E h => ?_) (fun cdv A outer s H vs Q E hr h => ?_)
  · obtain ⟨a, b, ws, R, xs, wy, rfl, _⟩ := h
    rfl
  · obtain ⟨a, b, ws, R, xs, wy, rfl, ha, hR, hb, hRl, hR1, q⟩ := h
    refine ⟨_, (pss_cons (ps_setLc (i := 3) (own := [("_law_one", 4)]) (g := gName 4) (by rfl) sc__law_next.nd rfl rfl (sw_true rfl rfl rfl (by decide +kernel)) (pi_list (pv 0)) (blkOk_by (own := [("_law_one", 4)]) (N := ["_law_rows", "_law_place_here", "_law_way", "_law_passed", "_law_one", "_law_behind"]) (sc := defScope s__law_next) (by decide +kernel)) (fun _ _ _ _ _ => (pg_name (i := 4) sc__law_next.nd rfl (Or.inl rfl))) (fun _ _ _ _ _ => pts_one (pt_not (pt_val (pe_call G__law_less (hr.mono (by omega)) (by rfl) T.g__law_less T.F__law_less.kp T.b__law_less .nil pass0 (pa_cons (pv 1) (pa_cons (pv 4) pa_nil))) (fun _ => rfl)))) (fun _ _ _ _ _ => (pv 4)))
    (pss_cons (ps_if (pt_cmpR op_eq (pe_op op_mod (pe_callTy call_int1 (by rfl) T.m_int (by decide +kernel) (pa_cons (pe_callB call_len_seq (by rfl) T.m_len PySem.boot_len (pa_cons (pv 3) pa_nil)) pa_nil)) pe_int) (pv 2) (nomark _))
      (pss_one (ps_ret (pv 1)))
      pss_nil)
    (pss_cons (ps_setLc (i := 5) (own := [("_law_one", 4)]) (g := gName 4) (by rfl) sc__law_next.nd rfl rfl (sw_true rfl rfl rfl (by decide +kernel)) (pi_list (pv 0)) (blkOk_by (own := [("_law_one", 4)]) (N := ["_law_rows", "_law_place_here", "_law_way", "_law_passed", "_law_one", "_law_behind"]) (sc := defScope s__law_next) (by decide +kernel)) (fun _ _ _ _ _ => (pg_name (i := 4) sc__law_next.nd rfl (Or.inl rfl))) (fun _ _ _ _ _ => pts_one (pt_val (pe_call G__law_less (hr.mono (by omega)) (by rfl) T.g__law_less T.F__law_less.kp T.b__law_less .nil pass0 (pa_cons (pv 1) (pa_cons (pv 4) pa_nil))) (fun _ => rfl))) (fun _ _ _ _ _ => (pv 4)))
    (pss_one (ps_ret (pe_ifExp (pt_cmpR (op_neD hr.units) (pv 5) (pe_lst pa_nil) (nomark _)) (pe_ix ix_list (pv 5) pe_int (fun _ _ => rfl)) pe_non)))))), ?_⟩
    have hwl := hR.1
    walk_at "r"
    refine ⟨⟨_, .inl (.inl ha)⟩, fun D nD => lc_list (xs := ws) (fun j H' => Same H H' ∧ ∃ wj, H' D = some (.lst wj) ∧ RowsN (some D) H' wj ((R.take j).filter fun r => !HT.lexLt xs.reverse r.reverse)) ⟨sm_upd nD, [], upd_same, .nil⟩ ?_ ?_ ?_⟩
    · rintro j H' _ ⟨sm, _⟩
      exact .inl (.inl (sm _ _ ha))
    · rintro j x H' hx ⟨sm, wj, eD, hj⟩
      have hjl := (List.getElem?_eq_some_iff.mp hx).1
      obtain ⟨r, hr0⟩ : ∃ r, R[j]? = some r := ⟨_, List.getElem?_eq_getElem (by omega)⟩
      obtain ⟨ar, rfl, _, har0⟩ := hR.2 j x r hx hr0
      have har := har0
      have hrm := List.mem_of_getElem? hr0
      refine ⟨rfl, ?_⟩
      walk_at "r"
      refine ⟨b, ar, xs, r, rfl, sm _ _ hb, sm _ _ har, (hRl r hrm).symm, fun H2 s2 => ?_⟩
      refine ⟨_, rfl, ?_⟩
      have smm := sm.trans s2
      have eD2 := s2 _ _ eD
      have hj2 := hj.same s2
      have hj1 := hj.1
      have hfl := filt_len (fun r => !HT.lexLt xs.reverse r.reverse) R j
      rw [filt_snoc _ hr0]
      cases hle : HT.lexLt xs.reverse r.reverse
      · refine iteT ?_
        refine ⟨_, rfl, ?_⟩
        refine ⟨wj, eD2, len_lt (by omega), sm_mut smm nD, wj ++ [.ref ar], upd_same, ?_⟩
        rw [if_pos (by first | rfl | (rw [hle]; rfl) | (rw [hle]))]
        refine (hj2.keep fun a' zs ha' z => ?_).app (.one (fun e => ne_of_none har nD (Option.some.inj e)) ?_)
        · rw [upd_ne (by simpa using ha')]
          exact z
        · rw [upd_ne (ne_of_none har nD)]
          exact smm _ _ har
      · refine iteF ?_
        refine ⟨smm, wj, eD2, ?_⟩
        rw [if_neg (by first | decide | simp [hle]), List.append_nil]
        exact hj2
    rintro H1 ⟨s1, w1, eD, h1⟩
    rw [List.take_of_length_le (by omega)] at h1
    have h1l := h1.1
    have hfl := List.length_filter_le (fun r => !HT.lexLt xs.reverse r.reverse) R
    walk_at "r"
    refine ⟨D, w1, rfl, .inl (.inl (.inl eD)), ?_⟩
    walk_at "r"
    refine ifE (fun h => ?_) (fun h => ?_)
    · refine ⟨_, rfl, ?_⟩
      refine q _ H1 ?_ s1
      rw [nextL, if_pos (by omega)]
      exact ⟨b, rfl, s1 _ _ hb⟩
    · walk_at "r"
      refine ⟨⟨_, .inl (.inl (s1 _ _ ha))⟩, fun D2 nD2 => lc_list (xs := ws) (fun j H' => Same H1 H' ∧ ∃ wj, H' D2 = some (.lst wj) ∧ RowsN (some D2) H' wj ((R.take j).filter fun r => HT.lexLt xs.reverse r.reverse)) ⟨sm_upd nD2, [], upd_same, .nil⟩ ?_ ?_ ?_⟩
      · rintro j H' _ ⟨sm, _⟩
        exact .inl (.inl (sm _ _ (s1 _ _ ha)))
      · rintro j x H' hx ⟨sm, wj, eD, hj⟩
        have hjl := (List.getElem?_eq_some_iff.mp hx).1
        obtain ⟨r, hr0⟩ : ∃ r, R[j]? = some r := ⟨_, List.getElem?_eq_getElem (by omega)⟩
        obtain ⟨ar, rfl, _, har0⟩ := hR.2 j x r hx hr0
        have har := s1 _ _ har0
        have hrm := List.mem_of_getElem? hr0
        refine ⟨rfl, ?_⟩
        walk_at "r"
        refine ⟨b, ar, xs, r, rfl, sm _ _ (s1 _ _ hb), sm _ _ har, (hRl r hrm).symm, fun H2 s2 => ?_⟩
        refine ⟨_, rfl, ?_⟩
        have smm := sm.trans s2
        have eD2 := s2 _ _ eD
        have hj2 := hj.same s2
        have hj1 := hj.1
        have hfl := filt_len (fun r => HT.lexLt xs.reverse r.reverse) R j
        rw [filt_snoc _ hr0]
        cases hle : HT.lexLt xs.reverse r.reverse
        · refine iteF ?_
          refine ⟨smm, wj, eD2, ?_⟩
          rw [if_neg (by first | decide | simp [hle]), List.append_nil]
          exact hj2
        · refine iteT ?_
          refine ⟨_, rfl, ?_⟩
          refine ⟨wj, eD2, len_lt (by omega), sm_mut smm nD2, wj ++ [.ref ar], upd_same, ?_⟩
          rw [if_pos (by first | rfl | (rw [hle]; rfl) | (rw [hle]))]
          refine (hj2.keep fun a' zs ha' z => ?_).app (.one (fun e => ne_of_none har nD2 (Option.some.inj e)) ?_)
          · rw [upd_ne (by simpa using ha')]
            exact z
          · rw [upd_ne (ne_of_none har nD2)]
            exact smm _ _ har
      rintro H2 ⟨s2, w2, eD2, h2⟩
      rw [List.take_of_length_le (by omega)] at h2
      have h2l := h2.1
      have s02 := s1.trans s2
      walk_at "r"
      refine ⟨by decide, fun e ne => ?_⟩
      have se := sm_upd (o := .lst []) ne
      have he : upd H2 e (.lst []) e = some (.lst []) := upd_same
      revert se he
      generalize upd H2 e (.lst []) = H3
      intro se he
      have eD3 := se _ _ eD2
      have h3 := h2.free.same se
      have s03 := s02.trans se
      refine ⟨_, _, .lst (.inl (.inl eD3)) (rows_dp h3), .lst (.inl (.inl he)) .nil, rows_shaped _, rows_shaped [], _, rfl, ?_⟩
      rw [eqv_nil]
      have en : nextL R xs wy = (R.filter fun r => HT.lexLt xs.reverse r.reverse).head? := by rw [nextL, if_neg (by omega)]
      cases hF : R.filter (fun r => HT.lexLt xs.reverse r.reverse) with
      | nil =>
        rw [hF] at en
        refine iteF ?_
        exact q .non H3 (by rw [en]; rfl) s03
      | cons r rs =>
        rw [hF] at en h3
        obtain ⟨v0, hv0⟩ : ∃ v0, w2[0]? = some v0 := ⟨_, List.getElem?_eq_getElem (by rw [h3.1]; simp)⟩
        obtain ⟨c, rfl, _, hc⟩ := h3.2 0 v0 r hv0 rfl
        refine iteT ?_
        refine ⟨_, rfl, ?_⟩
        refine ⟨D2, w2, 0, .ref c, rfl, rfl, .inl (.inl eD3), at_of (j := 0) rfl hv0, ?_⟩
        exact q _ H3 (by rw [en]; exact ⟨c, rfl, hc⟩) s03
end
end K37
set_option Elab.async false
set_option linter.all false
set_option maxRecDepth 100000
set_option pp.deepTerms false
set_option pp.maxSteps 1500
set_option maxHeartbeats 1000000
/-! groups with room, from what was drawn (law k37) -/
namespace K37
open PySem PySem.Spec PyProof.Rows L2 HX TV FM DX FB FC PM FI GL
local macro_rules | `(tactic| walk_at "r") => `(tactic| (repeat (first | refine Exists.intro _ (And.intro rfl ?_) | refine And.intro rfl ?_ | refine Exists.intro _ (Exists.intro _ (And.intro rfl (And.intro rfl ?_))) | refine And.intro (by omega) ?_ | refine And.intro (Or.inl (And.intro (by omega) (by omega))) ?_ | refine And.intro (Or.inr (And.intro (by omega) (by omega))) ?_ | refine And.intro (And.intro (by omega) (by omega)) ?_ | refine And.intro (And.intro (by decide) (And.intro (by decide) (by decide))) ?_ | refine Or.inl (Exists.intro _ (And.intro rfl ?_)) | (dsimp only [gName]; first | with_reducible refine seqC ?_ | with_reducible refine asgC ?_))))
local macro_rules | `(tactic| walk_at "s") => `(tactic| (repeat (first | refine Exists.intro _ (And.intro rfl ?_) | refine And.intro rfl ?_ | refine Exists.intro _ (Exists.intro _ (And.intro rfl (And.intro rfl ?_))) | refine And.intro (by omega) ?_ | refine And.intro (Or.inl (And.intro (by omega) (by omega))) ?_ | refine And.intro (Or.inr (And.intro (by omega) (by omega))) ?_ | refine And.intro (And.intro (by omega) (by omega)) ?_ | refine And.intro (And.intro (by decide) (And.intro (by decide) (by decide))) ?_ | refine Or.inl (Exists.intro _ (And.intro rfl ?_)) | refine Exists.intro _ (Exists.intro _ (And.intro rfl ?_)) | (dsimp only [gName]; first | with_reducible refine seqC ?_ | with_reducible refine asgC ?_))))
theorem bit_few {k : Nat} {c : Int} (h : Bw k c) : (turnsOf c).length ≤ k + 1 :=
  asc_len (a := 0) (turnsOf_asc c) fun t ht => ⟨Nat.zero_le _, h.turns t ht⟩
theorem bw_up {j k : Nat} {n : Int} (h : Bw j n) (l : j ≤ k) : Bw k n := by
  rw [bw_iff] at h ⊢
  have := Nat.pow_le_pow_right (n := 2) (by decide) l
  omega
theorem bw_abs {j : Nat} {n : Int} (h : Bw j n) (l : j ≤ 29) : n.natAbs < 2 ^ 30 := by
  have h1 := bw_up h l
  rw [bw_iff] at h1
  omega
theorem room_of : ∀ (ss : List Plc) (cs : List Int) (lo : Nat), (∀ s ∈ ss, lo < GL.pv s) → ss.Pairwise (fun s t => GL.pv s + 32 < GL.pv t) → (∀ c ∈ cs, Bw 29 c ∧ Bw 29 (c - 1)) → Room 32 lo ((ss.map GL.pv).zip cs)
  | [], _, _, _, _, _ => trivial
  | s :: ss, [], _, _, _, _ => trivial
  | s :: ss, c :: cs, lo, h1, h2, h3 => by
    rw [List.pairwise_cons] at h2
    have hc := h3 c (by simp)
    refine ⟨h1 s (by simp), fun t ht => ?_, fun t ht => ?_, room_of ss cs _ h2.1 h2.2 fun c hc => h3 c (by simp [hc])⟩
    · have := hc.1.turns t ht
      omega
    · have := hc.2.turns t ht
      omega
theorem grp_of {k N j0 j : Nat} {ss : List Plc} {p0 : Int} {cs : List Int} (hl : cs.length = ss.length) (ok : ∀ s ∈ ss, SpOk s ∧ dS s ≤ k ∧ wS s ≤ 300) (gap : ss.Pairwise fun s t => GL.pv s + 32 < GL.pv t)
    (h0 : Bw j0 p0) (hc : ∀ c ∈ cs, Bw j c ∧ Bw j (c - 1)) (hj0 : j0 ≤ 29) (hj : j ≤ 29) (hN : j + 2 ≤ N) (hw : j0 + 1 + N * (ss.map wS).sum ≤ 1998) (hz : ss.length ≤ 10) : Grp k N ss p0 cs where
  len := hl
  ok := ok
  n0 := bw_abs h0 hj0
  nc := fun c h => bw_abs (hc c h).1 hj
  cnt := fun c h => by
    have h1 := bit_few (hc c h).1
    have h2 := bit_few (hc c h).2
    omega
  room := ⟨29, (bw_up h0 hj0).turns, room_of ss cs 29 (fun s hs => by have := pv_big (ok s hs).1; omega) gap fun c h => ⟨bw_up (hc c h).1 hj, bw_up (hc c h).2 hj⟩⟩
  wt := by
    have := bit_few h0
    omega
  sz := hz
theorem mem_far {t : Plc} : ∀ {ms : List Plc} {fs : List Nat}, t ∈ List.zipWith Plc.far ms fs → ∃ m ∈ ms, ∃ f ∈ fs, t = .far m f
  | [], _, h => by simp at h
  | _ :: _, [], h => by simp at h
  | m :: ms, f :: fs, h => by
    rw [List.zipWith_cons_cons] at h
    rcases List.mem_cons.mp h with rfl | h
    · exact ⟨m, by simp, f, by simp, rfl⟩
    · obtain ⟨m', hm, f', hf, e⟩ := mem_far h
      exact ⟨m', by simp [hm], f', by simp [hf], e⟩
theorem far_gap : ∀ (ms : List Plc) (fs : List Nat), (∀ s ∈ ms, SpOk s) → ms.Pairwise Gap → (∀ f ∈ fs, f ≤ 7) → (List.zipWith Plc.far ms fs).Pairwise fun s t => GL.pv s + 32 < GL.pv t
  | [], _, _, _, _ => .nil
  | m :: ms, [], _, _, _ => .nil
  | m :: ms, f :: fs, h1, h2, h3 => by
    rw [List.zipWith_cons_cons, List.pairwise_cons]
    rw [List.pairwise_cons] at h2
    refine ⟨fun t ht => ?_, far_gap ms fs (fun s hs => h1 s (by simp [hs])) h2.2 fun f hf => h3 f (by simp [hf])⟩
    obtain ⟨m', hm', f', hf', rfl⟩ := mem_far ht
    have g := h2.1 m' hm'
    unfold Gap at g
    have hb := pv_big (h1 m (by simp))
    have hp := pow_gap (a := GL.pv m) (b := GL.pv m') (by omega) (by omega)
    have hf := h3 f (by simp)
    show 2 ^ GL.pv m + f + 32 < 2 ^ GL.pv m' + f'
    omega
theorem sum_le : ∀ (ss : List Plc) (B : Nat), (∀ s ∈ ss, wS s ≤ B) → (ss.map wS).sum ≤ ss.length * B
  | [], _, _ => by simp
  | s :: ss, B, h => by
    have ih := sum_le ss B fun s hs => h s (by simp [hs])
    have h1 := h s (by simp)
    rw [List.map_cons, List.sum_cons, List.length_cons, Nat.add_mul]
    omega
/-- the number as it is drawn -/
theorem drawn_grp {ss ms : List Plc} {fs : List Nat} {p0 : Int} {cs : List Int} (D : Drawn ss ms fs) (h0 : p0.natAbs ≤ 40) (hc : ∀ c ∈ cs, c.natAbs ≤ 20) (hl : cs.length = ss.length) : Grp 3 7 ss p0 cs := by
  obtain ⟨rfl, hlen, hM, hf, hz⟩ := D
  have hzl : (List.zipWith Plc.far ms fs).length = ms.length := by
    rw [List.length_zipWith]
    omega
  have hw : ∀ s ∈ List.zipWith Plc.far ms fs, SpOk s ∧ dS s ≤ 3 ∧ wS s ≤ 71 := fun s hs => by
    obtain ⟨m, hm, f, hf', rfl⟩ := mem_far hs
    obtain ⟨k1, k2, k3⟩ := hM.ok m hm
    have k4 := hf f hf'
    refine ⟨⟨k1, by omega⟩, ?_, ?_⟩
    · show dS m + 1 ≤ 3
      omega
    · show 9 + 2 * wS m ≤ 71
      omega
  have hs := sum_le _ 71 fun s h => (hw s h).2.2
  rw [hzl] at hs
  refine grp_of (j0 := 6) (j := 5) hl (fun s h => ⟨(hw s h).1, (hw s h).2.1, by have := (hw s h).2.2; omega⟩) (far_gap ms fs (fun s h => (hM.ok s h).1) hM.gap fun f h => (hf f h).2) ?_ (fun c h => ?_) (by decide) (by decide) (by decide) ?_ (by omega)
  · unfold Bw
    omega
  · have := hc c h
    unfold Bw
    omega
  · omega
/-- a row of small ints over the inner places -/
theorem inner_grp {ss ms : List Plc} {fs : List Nat} {r0 : Int} {rs : List Int} (D : Drawn ss ms fs) (h0 : r0.natAbs ≤ 8000) (hc : ∀ c ∈ rs, c.natAbs ≤ 8000) (hl : rs.length = ms.length) : Grp 2 15 ms r0 rs := by
  obtain ⟨rfl, hlen, hM, hf, hz⟩ := D
  have hs := sum_le _ 31 fun s h => (hM.ok s h).2.2
  refine grp_of (j0 := 13) (j := 13) hl (fun s h => ⟨(hM.ok s h).1, (hM.ok s h).2.1, by have := (hM.ok s h).2.2; omega⟩) (hM.gap.imp fun {s t} g => by unfold Gap at g; omega) ?_ (fun c h => ?_) (by decide) (by decide) (by decide) ?_ (by omega)
  · unfold Bw
    omega
  · have := hc c h
    unfold Bw
    omega
  · omega
end K37
set_option Elab.async false
set_option linter.all false
set_option maxRecDepth 100000
set_option pp.deepTerms false
set_option pp.maxSteps 1500
set_option maxHeartbeats 1000000
/-! how much a form of groups weighs, by its value (laws k37 to k41) -/
namespace K37
open PySem PySem.Spec PyProof.Rows L2 HX TV FM DX FB FC PM FI GL
local macro_rules | `(tactic| walk_at "r") => `(tactic| (repeat (first | refine Exists.intro _ (And.intro rfl ?_) | refine And.intro rfl ?_ | refine Exists.intro _ (Exists.intro _ (And.intro rfl (And.intro rfl ?_))) | refine And.intro (by omega) ?_ | refine And.intro (Or.inl (And.intro (by omega) (by omega))) ?_ | refine And.intro (Or.inr (And.intro (by omega) (by omega))) ?_ | refine And.intro (And.intro (by omega) (by omega)) ?_ | refine And.intro (And.intro (by decide) (And.intro (by decide) (by decide))) ?_ | refine Or.inl (Exists.intro _ (And.intro rfl ?_)) | (dsimp only [gName]; first | with_reducible refine seqC ?_ | with_reducible refine asgC ?_))))
local macro_rules | `(tactic| walk_at "s") => `(tactic| (repeat (first | refine Exists.intro _ (And.intro rfl ?_) | refine And.intro rfl ?_ | refine Exists.intro _ (Exists.intro _ (And.intro rfl (And.intro rfl ?_))) | refine And.intro (by omega) ?_ | refine And.intro (Or.inl (And.intro (by omega) (by omega))) ?_ | refine And.intro (Or.inr (And.intro (by omega) (by omega))) ?_ | refine And.intro (And.intro (by omega) (by omega)) ?_ | refine And.intro (And.intro (by decide) (And.intro (by decide) (by decide))) ?_ | refine Or.inl (Exists.intro _ (And.intro rfl ?_)) | refine Exists.intro _ (Exists.intro _ (And.intro rfl ?_)) | (dsimp only [gName]; first | with_reducible refine seqC ?_ | with_reducible refine asgC ?_))))
/-- a form of a place and few more -/
theorem form_far : ∀ (s : Plc) (m : Nat), SpOk s → m ≤ 32 → ∃ d, Fm d ∧ val d = ((GL.pv s + m : Nat) : Int) ∧ wt d ≤ wS s ∧ d.depth ≤ dS s
  | .int n, m, ok, hm => by
    have := ok.1
    have h60 := ok.2
    exact ⟨.int ((n + m : Nat) : Int), (fm_int _).mpr (by omega), val_int _, by rw [wt_int]; exact Nat.le_refl _, by rw [depth_int]; exact Nat.zero_le _⟩
  | .far s few, m, ok, hm => by
    obtain ⟨ok1, ok2⟩ : SpOk s ∧ few ≤ 20 := ok
    obtain ⟨d0, f0, e0, w0, dp0⟩ := form_far s 0 ok1 (by decide)
    obtain ⟨d1, f1, e1, w1, dp1⟩ := form_far s 1 ok1 (by decide)
    obtain ⟨t1, t2, t3⟩ := few_turns (n := few + m) (by omega)
    have big := pv_big ok1
    have hle : (few + m : Nat) < 2 ^ GL.pv s := by
      have h2 : (2 : Nat) ^ 65 ≤ 2 ^ GL.pv s := Nat.pow_le_pow_right (by decide) big
      have : (100 : Nat) < 2 ^ 65 := by decide
      omega
    have ev : vals (iDs (turnsOf ((few + m : Nat) : Int)) ++ [d0, d1]) = turnsOf ((few + m : Nat) : Int) ++ [GL.pv s, GL.pv s + 1] := by
      rw [vals_app, vals_iDs, vals_cons, vals_cons, vals_nil, e0, e1]
      simp
    have hA : Asc (turnsOf ((few + m : Nat) : Int) ++ [GL.pv s, GL.pv s + 1]) := by
      refine asc_app (P := 65) (turnsOf_asc _) (asc_cons (by simp) (asc_cons (by simp) trivial)) (fun t ht => by have := t1 t ht; omega) (fun t ht => ?_)
      simp only [List.mem_cons, List.not_mem_nil, or_false] at ht
      omega
    have fA : FmAll (iDs (turnsOf ((few + m : Nat) : Int)) ++ [d0, d1]) := (fmAll_app _ _).mpr ⟨fmAll_iDs fun t ht => by have := t1 t ht; omega, (fmAll_cons _ _).mpr ⟨f0, by omega, (fmAll_cons _ _).mpr ⟨f1, by omega, fmAll_nil⟩⟩⟩
    have hwA : wtAll (iDs (turnsOf ((few + m : Nat) : Int)) ++ [d0, d1]) ≤ 7 + 2 * wS s := by
      rw [wtAll_app, wtAll_iDs, wtAll_cons, wtAll_cons, wtAll_nil]
      omega
    have hdA : ∀ d ∈ iDs (turnsOf ((few + m : Nat) : Int)) ++ [d0, d1], d.depth ≤ dS s := fun d hd => by
      rcases List.mem_append.mp hd with hd | hd
      · rw [dep_iDs hd]
        exact Nat.zero_le _
      · simp only [List.mem_cons, List.not_mem_nil, or_false] at hd
        rcases hd with rfl | rfl
        · exact dp0
        · exact dp1
    obtain ⟨d, fd, ed, wd, dd⟩ := row_exG fA (by rw [ev]; exact hA)
    refine ⟨d, fd, ?_, ?_, ?_⟩
    · rw [ed, ev, tv_app, if_pos t3, turnsOf_tv, tv2]
      show _ = ((2 ^ GL.pv s + few + m : Nat) : Int)
      have : (((2 : Nat) ^ GL.pv s : Nat) : Int) = (2 : Int) ^ GL.pv s := by norm_cast
      rw [Int.pow_succ]
      push_cast
      omega
    · show _ ≤ 9 + 2 * wS s
      omega
    · have := depthAll_le.mpr hdA
      show _ ≤ dS s + 1
      omega
theorem form_row (s : Plc) (ok : SpOk s) : ∀ zs : List Nat, (∀ z ∈ zs, z ≤ 32) → ∃ es, FmAll es ∧ vals es = zs.map (GL.pv s + ·) ∧ wtAll es ≤ zs.length * wS s ∧ ∀ d ∈ es, d.depth ≤ dS s
  | [], _ => ⟨[], fmAll_nil, vals_nil, by rw [wtAll_nil]; exact Nat.zero_le _, fun d h => by simp at h⟩
  | z :: zs, h => by
    obtain ⟨es, f, e, w, dp⟩ := form_row s ok zs fun x hx => h x (by simp [hx])
    obtain ⟨d, fd, ed, wd, dd⟩ := form_far s z ok (h z (by simp))
    refine ⟨d :: es, (fmAll_cons _ _).mpr ⟨fd, by omega, f⟩, ?_, ?_, fun x hx => ?_⟩
    · rw [vals_cons, e, ed]
      rfl
    · rw [wtAll_cons, List.length_cons, Nat.add_mul]
      omega
    · rcases List.mem_cons.mp hx with rfl | hx
      · exact dd
      · exact dp x hx
theorem form_rows {k N : Nat} : ∀ (ss : List Plc) (cs : List Int) (ds : List PyData), (∀ s ∈ ss, SpOk s ∧ dS s ≤ k) → (∀ c ∈ cs, (∀ t ∈ turnsOf c, t ≤ 32) ∧ (∀ t ∈ turnsOf (c - 1), t ≤ 32) ∧ (turnsOf c).length + 1 ≤ N ∧ (turnsOf (c - 1)).length + 1 ≤ N) →
    FmAll ds → (∀ d ∈ ds, d.depth ≤ k) → ∃ es, FmAll es ∧ vals es = rowsFrom (vals ds) ((ss.map GL.pv).zip cs) ∧ wtAll es ≤ wtAll ds + N * (ss.map wS).sum ∧ ∀ d ∈ es, d.depth ≤ k
  | [], _, ds, _, _, f, dp => ⟨ds, f, rfl, by simp, dp⟩
  | s :: ss, [], ds, _, _, f, dp => ⟨ds, f, rfl, by omega, dp⟩
  | s :: ss, c :: cs, ds, h1, h2, f, dp => by
    obtain ⟨ok, ok2⟩ := h1 s (by simp)
    obtain ⟨b1, b2, b3, b4⟩ := h2 c (by simp)
    obtain ⟨zs, hz, hzl, ez⟩ : ∃ zs : List Nat, (∀ z ∈ zs, z ≤ 32) ∧ zs.length ≤ N ∧ zs = (if (vals ds).length % 2 = 1 then tog (turnsOf (c - 1)) else turnsOf c) := by
      refine ⟨_, ?_, ?_, rfl⟩
      · split
        · exact tog_le b2
        · exact b1
      · split
        · have := (len_tog (turnsOf (c - 1))).1
          omega
        · omega
    obtain ⟨es, fe, ee, we, de⟩ := form_row s ok zs hz
    have ev : vals (ds ++ es) = GL.step (vals ds) (GL.pv s) c := by
      rw [vals_app, ee, ez]
      rfl
    obtain ⟨gs, fg, eg, wg, dg⟩ := form_rows (N := N) ss cs (ds ++ es) (fun x hx => h1 x (by simp [hx])) (fun x hx => h2 x (by simp [hx])) ((fmAll_app _ _).mpr ⟨f, fe⟩) fun d hd => by
      rcases List.mem_append.mp hd with hd | hd
      · exact dp d hd
      · exact Nat.le_trans (de d hd) ok2
    refine ⟨gs, fg, ?_, ?_, dg⟩
    · rw [eg, ev]
      rfl
    · rw [wtAll_app] at wg
      have := Nat.mul_le_mul_right (wS s) hzl
      rw [List.map_cons, List.sum_cons, Nat.mul_add]
      omega
/-- a form that has the value of groups with room is small -/
theorem grp_wt {k N : Nat} {ss : List Plc} {p0 : Int} {cs : List Int} {d : PyData} (G : Grp k N ss p0 cs) (hk : ∀ c ∈ cs, (∀ t ∈ turnsOf c, t ≤ 32) ∧ ∀ t ∈ turnsOf (c - 1), t ≤ 32) (fd : Fm d) (ed : val d = gl ss p0 cs) : wt d ≤ 2000 ∧ d.depth ≤ k + 1 := by
  have h0 : ∀ t ∈ turnsOf p0, t ≤ 31 := small_turns (by have := G.n0; omega)
  obtain ⟨es, fe, ee, we, de⟩ := form_rows (k := k) (N := N) ss cs (iDs (turnsOf p0)) (fun s hs => ⟨(G.ok s hs).1, (G.ok s hs).2.1⟩) (fun c hc => ⟨(hk c hc).1, (hk c hc).2, (G.cnt c hc).1, (G.cnt c hc).2⟩) (fmAll_iDs fun t ht => by have := h0 t ht; omega) fun x hx => by
    rw [dep_iDs hx]
    exact Nat.zero_le _
  obtain ⟨lo, hlo, hR⟩ := G.room
  have et : turnsOf (gl ss p0 cs) = rowsFrom (turnsOf p0) ((ss.map GL.pv).zip cs) := lin_turns _ lo p0 hR hlo
  rw [vals_iDs, ← et] at ee
  obtain ⟨x, fx, ex, wx, dx⟩ := row_exG fe (by rw [ee]; exact turnsOf_asc _)
  have : d = x := fm_inj fd fx (by rw [ed, ex, ee, turnsOf_tv])
  subst this
  have hw := G.wt
  rw [wtAll_iDs] at we
  have hdd := depthAll_le.mpr de
  exact ⟨by omega, by omega⟩
end K37
set_option Elab.async false
set_option linter.all false
set_option maxRecDepth 100000
set_option pp.deepTerms false
set_option pp.maxSteps 1500
set_option maxHeartbeats 1000000
/-! sums of the lengths of runs, over forms (laws k37 to k41) -/
namespace K37
open PySem PySem.Spec PyProof.Rows L2 HX TV FM DX FB FC PM FI GL
local macro_rules | `(tactic| walk_at "r") => `(tactic| (repeat (first | refine Exists.intro _ (And.intro rfl ?_) | refine And.intro rfl ?_ | refine Exists.intro _ (Exists.intro _ (And.intro rfl (And.intro rfl ?_))) | refine And.intro (by omega) ?_ | refine And.intro (Or.inl (And.intro (by omega) (by omega))) ?_ | refine And.intro (Or.inr (And.intro (by omega) (by omega))) ?_ | refine And.intro (And.intro (by omega) (by omega)) ?_ | refine And.intro (And.intro (by decide) (And.intro (by decide) (by decide))) ?_ | refine Or.inl (Exists.intro _ (And.intro rfl ?_)) | (dsimp only [gName]; first | with_reducible refine seqC ?_ | with_reducible refine asgC ?_))))
local macro_rules | `(tactic| walk_at "s") => `(tactic| (repeat (first | refine Exists.intro _ (And.intro rfl ?_) | refine And.intro rfl ?_ | refine Exists.intro _ (Exists.intro _ (And.intro rfl (And.intro rfl ?_))) | refine And.intro (by omega) ?_ | refine And.intro (Or.inl (And.intro (by omega) (by omega))) ?_ | refine And.intro (Or.inr (And.intro (by omega) (by omega))) ?_ | refine And.intro (And.intro (by omega) (by omega)) ?_ | refine And.intro (And.intro (by decide) (And.intro (by decide) (by decide))) ?_ | refine Or.inl (Exists.intro _ (And.intro rfl ?_)) | refine Exists.intro _ (Exists.intro _ (And.intro rfl ?_)) | (dsimp only [gName]; first | with_reducible refine seqC ?_ | with_reducible refine asgC ?_))))
section
variable {P : Program} {w : World} {K : PySem.W.Frag} {mg : Str → Option Value} {base : Heap}
/-- a form that may be drawn in: at most 2100 parts -/
def Sm (d : PyData) : Prop := wt d ≤ 2100 ∧ d.depth ≤ 5
theorem fm_zero : Fm (.int 0) := (fm_int 0).mpr (by decide)
theorem odd_dec (i : Nat) : i % 2 = 1 ∨ i % 2 = 0 := by omega
def sp_soG (K : PySem.W.Frag) : Sp := fun vs H Q _ => ∃ (a : Addr) (ws : List V) (ds : List PyData), vs = [.ref a] ∧ H a = some (.lst ws) ∧ DpAll K H ws ds ∧ FmAll ds ∧ (∀ d ∈ ds, Sm d) ∧ ds.length ≤ 1000000 ∧
  (∀ i d, i ≤ ds.length → Fm d → val d = altS ((ds.take i).map val) → Sm d) ∧ ∀ v d H', Fm d → val d = altS (ds.map val) → Dp K H' v d → Same H H' → Q v H'
theorem okG_sum_of_ones (T : Top K mg) : FnOk P w K mg base CX0 (12) T.f_sum_of_ones T.fd_sum_of_ones ["rows"]  (sp_soG K) := by
  have G_total : FnOk P w K mg base CX0 (4 + 6) T.f_total T.fd_total ["x", "y", "carry"]  (sp_tot K 4) := ok_total T 4
  have G_minus : FnOk P w K mg base CX0 (4 + 7) T.f_minus T.fd_minus ["x", "y"]  (sp_min K 4) := ok_minus T 4
  refine T.F_sum_of_ones.ok sc_sum_of_ones (fun vs H Q E h => ?_) (fun cdv A outer s H vs Q E hr h => ?_)
  · obtain ⟨a, ws, ds, rfl, _⟩ := h
    rfl
  · obtain ⟨a, ws, ds, rfl, ha, hD, fA, hS, hl, hP, q⟩ := h
    refine ⟨_, (pss_cons (ps_set (i := 1) sc_sum_of_ones.nd rfl (Or.inl rfl) pe_int)
    (pss_cons (ps_for PassesOwn.never rfl (pi_enum (by rfl) T.m_enumerate (pa_cons (pv 0) pa_nil)) (pg_tup rfl (pgs_cons (pg_name (i := 2) sc_sum_of_ones.nd rfl (Or.inl rfl)) (pgs_cons (pg_name (i := 3) sc_sum_of_ones.nd rfl (Or.inl rfl)) pgs_nil)))
      (pss_one (ps_if (pt_cmpR op_eq (pe_op op_and (pv 2) pe_int) pe_int (nomark _))
        (pss_one (ps_set (i := 1) sc_sum_of_ones.nd rfl (Or.inl rfl) (pe_call G_total (hr.mono (by omega)) (by rfl) T.g_total T.F_total.kp T.b_total .nil pass0 (pa_cons (pv 1) (pa_cons (pv 3) (pa_cons pe_int pa_nil))))))
        (pss_one (ps_set (i := 1) sc_sum_of_ones.nd rfl (Or.inl rfl) (pe_call G_minus (hr.mono (by omega)) (by rfl) T.g_minus T.F_minus.kp T.b_minus .nil pass0 (pa_cons (pv 1) (pa_cons (pv 3) pa_nil))))))))
    (pss_one (ps_ret (pv 1))))), ?_⟩
    have hwl := dpAll_len hD
    walk_at "r"
    refine ⟨a, ws, rfl, .inl (.inl ha), flE (xs := ws) (fun i σ H' => ∃ (v : V) (d : PyData) (z2 z3 : Option V), σ = [some (.ref a), some v, z2, z3] ∧ Dp K H' v d ∧ Fm d ∧ val d = altS ((ds.take i).map val) ∧ Same H H') ⟨.int 0, .int 0, none, none, rfl, .int 0, fm_zero, by rw [val_int]; rfl, Same.refl _⟩ ?_ ?_ ?_⟩
    · rintro i σ H' _ ⟨_, _, _, _, _, _, _, _, sm⟩
      exact .inl (.inl (sm _ _ ha))
    · rintro i x σ H' hx ⟨v, d, z2, z3, rfl, Dv, fd, ed, sm⟩ Tt nT D' B
      obtain ⟨e, he, De⟩ := dpAll_get hD hx
      have hil := (List.getElem?_eq_some_iff.mp he).1
      have hm := List.mem_of_getElem? he
      have fe := (fmAll_mem fA e hm).1
      have hSe := hS e hm
      have hSd := hP i d (by omega) fd ed
      have sT := sm_upd (o := .tup [.int (i : Nat), x]) nT
      have est : altS ((ds.take (i + 1)).map val) = altS ((ds.take i).map val) + (if i % 2 = 1 then val e else -val e) := by
        rw [List.take_add_one, he]
        show altS (List.map val (ds.take i ++ [e])) = _
        rw [List.map_append, List.map_cons, List.map_nil, altS_snoc, List.length_map, List.length_take, Nat.min_eq_left (by omega)]
      have Dv1 := dp_tk (tk_same sT) fd Dv
      have De1 := dp_tk (tk_same (sm.trans sT)) fe De
      obtain ⟨w1, w2⟩ := hSe
      obtain ⟨w3, w4⟩ := hSd
      refine ⟨Tt, _, rfl, .inl (.inl upd_same), rfl, _, _, rfl, _, _, rfl, rfl, ?_⟩
      walk_at "r"
      refine ifE (fun z => ?_) (fun z => ?_)
      · rw [bitAnd_m1] at z
        rw [if_pos (by omega)] at est
        walk_at "r"
        refine ⟨v, x, d, e, 0, rfl, by decide, Dv1, De1, fd, fe, by omega, by omega, by decide, by omega, fun v' r H5 k1 k2 k3 k4 k5 sm5 => ?_⟩
        exact B.nx _ _ ⟨v', r, _, _, rfl, k5, k1, by rw [k2, est, ← ed]; show _ + _ + (0 : Int) = _; omega, (sm.trans sT).trans sm5⟩
      · rw [bitAnd_m1] at z
        rw [if_neg (by omega)] at est
        walk_at "r"
        refine ⟨v, x, d, e, rfl, Dv1, De1, fd, fe, by omega, by omega, by decide, by omega, fun v' r H5 k1 k2 k3 k4 k5 sm5 => ?_⟩
        exact B.nx _ _ ⟨v', r, _, _, rfl, k5, k1, by rw [k2, est, ← ed]; omega, (sm.trans sT).trans sm5⟩
    · rintro σ H' ⟨v, d, z2, z3, rfl, Dv, fd, ed, sm⟩
      walk_at "r"
      rw [hwl, List.take_length] at ed
      exact q v d H' fd ed Dv sm
end
end K37
set_option Elab.async false
set_option linter.all false
set_option maxRecDepth 100000
set_option pp.deepTerms false
set_option pp.maxSteps 1500
set_option maxHeartbeats 1000000
/-! counts of ones below a place, over forms (law k37) -/
namespace K37
open PySem PySem.Spec PyProof.Rows L2 HX TV FM DX FB FC PM FI GL
local macro_rules | `(tactic| walk_at "r") => `(tactic| (repeat (first | refine Exists.intro _ (And.intro rfl ?_) | refine And.intro rfl ?_ | refine Exists.intro _ (Exists.intro _ (And.intro rfl (And.intro rfl ?_))) | refine And.intro (by omega) ?_ | refine And.intro (Or.inl (And.intro (by omega) (by omega))) ?_ | refine And.intro (Or.inr (And.intro (by omega) (by omega))) ?_ | refine And.intro (And.intro (by omega) (by omega)) ?_ | refine And.intro (And.intro (by decide) (And.intro (by decide) (by decide))) ?_ | refine Or.inl (Exists.intro _ (And.intro rfl ?_)) | (dsimp only [gName]; first | with_reducible refine seqC ?_ | with_reducible refine asgC ?_))))
local macro_rules | `(tactic| walk_at "s") => `(tactic| (repeat (first | refine Exists.intro _ (And.intro rfl ?_) | refine And.intro rfl ?_ | refine Exists.intro _ (Exists.intro _ (And.intro rfl (And.intro rfl ?_))) | refine And.intro (by omega) ?_ | refine And.intro (Or.inl (And.intro (by omega) (by omega))) ?_ | refine And.intro (Or.inr (And.intro (by omega) (by omega))) ?_ | refine And.intro (And.intro (by omega) (by omega)) ?_ | refine And.intro (And.intro (by decide) (And.intro (by decide) (by decide))) ?_ | refine Or.inl (Exists.intro _ (And.intro rfl ?_)) | refine Exists.intro _ (Exists.intro _ (And.intro rfl ?_)) | (dsimp only [gName]; first | with_reducible refine seqC ?_ | with_reducible refine asgC ?_))))
section
variable {P : Program} {w : World} {K : PySem.W.Frag} {mg : Str → Option Value} {base : Heap}
def runsI (ts : List Int) (p : Int) : List Int := ts.filter (fun t => decide (t < p)) ++ (if (ts.filter fun t => decide (t < p)).length % 2 = 1 then [p] else [])
noncomputable def tI (n : Int) : List Int := (turnsOf n).map fun t : Nat => (t : Int)
theorem map_val : ∀ {ds : List PyData}, FmAll ds → ds.map val = (vals ds).map fun t : Nat => (t : Int)
  | [], _ => by rw [vals_nil]; rfl
  | d :: r, h => by
    obtain ⟨_, h1, h2⟩ := (fmAll_cons d r).mp h
    rw [vals_cons, List.map_cons, List.map_cons, map_val h2, Int.toNat_of_nonneg h1]
theorem filt_map (p : Int) : ∀ ds : List PyData, (ds.filter fun e => decide (val e < p)).map val = (ds.map val).filter fun t => decide (t < p)
  | [] => rfl
  | d :: r => by
    rw [List.filter_cons, List.map_cons, List.filter_cons]
    by_cases h : val d < p
    · rw [if_pos (by simpa using h), if_pos (by simpa using h), List.map_cons, filt_map p r]
    · rw [if_neg (by simpa using h), if_neg (by simpa using h), filt_map p r]
theorem sg_neg {a b : Int} : sg a b < 0 ↔ a < b := by
  rcases Int.lt_trichotomy a b with z | z | z
  · rw [sg_lt z]
    exact ⟨fun _ => z, fun _ => by decide⟩
  · rw [sg_eq z]
    exact ⟨fun h => absurd h (by decide), fun h => by omega⟩
  · rw [sg_gt z]
    exact ⟨fun h => absurd h (by decide), fun h => by omega⟩
theorem fmAll_of : ∀ {ds : List PyData}, (∀ d ∈ ds, Fm d ∧ 0 ≤ val d) → FmAll ds
  | [], _ => fmAll_nil
  | d :: r, h => (fmAll_cons d r).mpr ⟨(h d (by simp)).1, (h d (by simp)).2, fmAll_of fun x hx => h x (by simp [hx])⟩
def sp_cbG (K : PySem.W.Frag) : Sp := fun vs H Q _ => ∃ (x y : V) (d e : PyData), vs = [x, y] ∧ Dp K H x d ∧ Fm d ∧ wt d ≤ 2001 ∧ d.depth ≤ 6 ∧ Dp K H y e ∧ Fm e ∧ 0 ≤ val e ∧ Sm e ∧
  (∀ i f, i ≤ (runsI (tI (val d)) (val e)).length → Fm f → val f = altS ((runsI (tI (val d)) (val e)).take i) → Sm f) ∧ ∀ v f H', Fm f → val f = altS (runsI (tI (val d)) (val e)) → Dp K H' v f → Same H H' → Q v H'
theorem okG_count_below (T : Top K mg) : FnOk P w K mg base CX0 (13) T.f_count_below T.fd_count_below ["x", "place"]  (sp_cbG K) := by
  have G_turns : FnOk P w K mg base CX0 (2) T.f_turns T.fd_turns ["x"]  (sp_trn K) := ok_turns T
  have G_order : FnOk P w K mg base CX0 (6 + 3) T.f_order T.fd_order ["x", "y"]  (sp_ord K 6) := ok_order T 6
  have G_sum_of_ones : FnOk P w K mg base CX0 (12) T.f_sum_of_ones T.fd_sum_of_ones ["rows"]  (sp_soG K) := okG_sum_of_ones T
  refine T.F_count_below.ok sc_count_below (fun vs H Q E h => ?_) (fun cdv A outer s H vs Q E hr h => ?_)
  · obtain ⟨x, y, d, e, rfl, _⟩ := h
    rfl
  · obtain ⟨x, y, d, e, rfl, hx, fd, hwd, hdd, hy, fe, e0, hSe, hP, q⟩ := h
    refine ⟨_, (pss_cons (ps_setLc (i := 2) (own := [("turn", 3)]) (g := gName 3) (by rfl) sc_count_below.nd rfl rfl (sw_true rfl rfl rfl (by decide +kernel)) (pi_tup (pe_call G_turns (hr.mono (by omega)) (by rfl) T.g_turns T.F_turns.kp T.b_turns .nil pass0 (pa_cons (pv 0) pa_nil))) (blkOk_by (own := [("turn", 3)]) (N := ["x", "place", "rows", "turn"]) (sc := defScope s_count_below) (by decide +kernel)) (fun _ _ _ _ _ => (pg_name (i := 3) sc_count_below.nd rfl (Or.inl rfl))) (fun _ _ _ _ _ => pts_one (pt_cmpR op_lt (pe_call G_order (hr.mono (by omega)) (by rfl) T.g_order T.F_order.kp T.b_order .nil pass0 (pa_cons (pv 3) (pa_cons (pv 1) pa_nil))) pe_int (nomark _))) (fun _ _ _ _ _ => (pv 3)))
    (pss_cons (ps_if (pt_cmpR op_eq (pe_op op_and (pe_callB call_len_seq (by rfl) T.m_len PySem.boot_len (pa_cons (pv 2) pa_nil)) pe_int) pe_int (nomark _))
      (pss_one (ps_expr (pe_bm PySem.F.plainAttrs_list PySem.F.slot_list_append PySem.F.type_list_append mt_append (pv 2) (pa_cons (pv 1) pa_nil))))
      pss_nil)
    (pss_one (ps_ret (pe_call G_sum_of_ones (hr.mono (by omega)) (by rfl) T.g_sum_of_ones T.F_sum_of_ones.kp T.b_sum_of_ones .nil pass0 (pa_cons (pv 2) pa_nil)))))), ?_⟩
    refine ⟨_, rfl, x, d, rfl, hx, fd, fun a us ds H1 fA hA ev hsq hD hdep hwt hh sm1 => ?_⟩
    have htt : turnsOf (val d) = vals ds := turnsOf_is hA ev
    have htI : ds.map val = tI (val d) := by
      rw [map_val fA, tI, htt]
    have hlen : ds.length ≤ 2100 := by
      have := len_wt ds
      omega
    have hsm : ∀ t ∈ ds, Sm t := fun t ht => by
      have h1 := wt_mem ht
      have h2 := depthAll_le.mp (Nat.le_refl _) t ht
      exact ⟨by omega, by omega⟩
    have hul := dpAll_len hD
    dsimp only
    refine ⟨a, rfl, ⟨_, hsq⟩, fun D nD => lc_tup (xs := us) (fun i H' => Same H1 H' ∧ ∃ wj, H' D = some (.lst wj) ∧ DpAll K H' wj ((ds.take i).filter fun t => decide (val t < val e))) ⟨sm_upd nD, [], upd_same, .nil⟩ ?_ ?_ ?_⟩
    · rintro i H' _ ⟨sm, _⟩
      exact HX.Same.tup sm hsq
    · rintro i v H' hv ⟨sm, wj, eD, hj⟩
      obtain ⟨t, ht, Dt⟩ := dpAll_get hD hv
      have hil := (List.getElem?_eq_some_iff.mp ht).1
      have htm := List.mem_of_getElem? ht
      have ft := (fmAll_mem fA t htm).1
      obtain ⟨s1, s2⟩ := hsm t htm
      obtain ⟨s3, s4⟩ := hSe
      refine ⟨rfl, ?_⟩
      refine ⟨_, rfl, _, rfl, v, y, t, e, rfl, dp_tk (tk_same sm) ft Dt, dp_tk (tk_same (sm1.trans sm)) fe hy, ft, fe, by omega, by omega, by decide, fun H2 sm2 => ?_⟩
      walk_at "r"
      rw [filt_snoc _ ht]
      have fj : FmAll ((ds.take i).filter fun t => decide (val t < val e)) := fmAll_of fun x hx => fmAll_mem fA x (List.mem_of_mem_take (List.mem_filter.mp hx).1)
      have hj2 := dpAll_tk (tk_same sm2) fj hj
      have eD2 := sm2 _ _ eD
      have hjl := dpAll_len hj
      have hfl := filt_len (fun t => decide (val t < val e)) ds i
      refine ifD (fun hz => ?_) (fun hz => ?_)
      · have hlt := sg_neg.mp hz
        have tkm : Tk H2 (upd H2 D (.lst (wj ++ [v]))) := tk_mut (by rw [eD2]; trivial)
        refine ⟨_, rfl, wj, eD2, len_lt (by omega), sm_mut (sm.trans sm2) nD, wj ++ [v], upd_same, ?_⟩
        rw [if_pos (decide_eq_true hlt)]
        exact dpAll_app (dpAll_tk tkm fj hj2) (.cons (dp_tk tkm ft (dp_tk (tk_same (sm.trans sm2)) ft Dt)) .nil)
      · have hlt : ¬ val t < val e := fun z => hz (sg_neg.mpr z)
        refine ⟨sm.trans sm2, wj, eD2, ?_⟩
        rw [if_neg (by simpa using hlt), List.append_nil]
        exact hj2
    rintro H2 ⟨sm2, wj, eD, hj⟩
    rw [hul, List.take_length] at hj
    obtain ⟨lw, elw⟩ : ∃ lw, lw = ds.filter fun t => decide (val t < val e) := ⟨_, rfl⟩
    rw [← elw] at hj
    have flw : FmAll lw := by
      rw [elw]
      exact fmAll_of fun t ht => fmAll_mem fA t (List.mem_filter.mp ht).1
    have slw : ∀ t ∈ lw, Sm t := fun t ht => hsm t (by rw [elw] at ht; exact (List.mem_filter.mp ht).1)
    have llw : lw.length ≤ 2100 := by
      have := List.length_filter_le (fun t => decide (val t < val e)) ds
      rw [elw]
      omega
    have vlw : lw.map val = (tI (val d)).filter fun t => decide (t < val e) := by rw [elw, filt_map, htI]
    have wlw := dpAll_len hj
    have s12 := sm1.trans sm2
    dsimp only [gName]
    with_reducible refine cut (fun σ H' => ∃ (z3 : Option V) (ws : List V) (rs : List PyData), σ = [some x, some y, some (.ref D), z3] ∧ H' D = some (.lst ws) ∧ DpAll K H' ws rs ∧ FmAll rs ∧ (∀ t ∈ rs, Sm t) ∧ rs.length ≤ 3000 ∧ rs.map val = runsI (tI (val d)) (val e) ∧ Same H1 H') (fun D0 J0 => ?_) ?_
    · refine ⟨_, rfl, D, _, rfl, .inl (.inl (.inl eD)), ?_⟩
      walk_at "r"
      refine ifE (fun z => ?_) (fun z => ?_)
      · rw [bitAnd_m1] at z
        walk_at "r"
        refine ⟨.inl ⟨rfl, _, .inl (.inl eD)⟩, ?_⟩
        walk_at "r"
        have tkm : Tk H2 (upd H2 D (.lst (wj ++ [y]))) := tk_mut (by rw [eD]; trivial)
        refine ⟨D, _, _, rfl, rfl, eD, len_lt (by omega), J0.nx _ _ ⟨_, wj ++ [y], lw ++ [e], rfl, upd_same, dpAll_app (dpAll_tk tkm flw hj) (.cons (dp_tk tkm fe (dp_tk (tk_same s12) fe hy)) .nil), (fmAll_app _ _).mpr ⟨flw, (fmAll_cons _ _).mpr ⟨fe, e0, fmAll_nil⟩⟩, ?_, by simp; omega, ?_, sm_mut sm2 nD⟩⟩
        · intro t ht
          rcases List.mem_append.mp ht with ht | ht
          · exact slw t ht
          · rw [List.mem_singleton.mp ht]
            exact hSe
        · rw [List.map_append, vlw, runsI, if_pos (by rw [← vlw, List.length_map]; omega)]
          rfl
      · rw [bitAnd_m1] at z
        refine J0.nx _ _ ⟨_, wj, lw, rfl, eD, hj, flw, slw, by omega, ?_, sm2⟩
        rw [vlw, runsI, if_neg (by rw [← vlw, List.length_map]; omega), List.append_nil]
    · rintro σ H3 ⟨z3, ws, rs, rfl, hD3, Ds, fr', sr, lr, er, sm3⟩
      refine ⟨_, rfl, D, ws, rs, rfl, hD3, Ds, fr', sr, by omega, fun i f hi ff ef => ?_, fun v f H4 ff ef Df s4 => ?_⟩
      · refine hP i f (by rw [← er, List.length_map]; exact hi) ff ?_
        rw [ef, List.map_take, er]
      · exact q v f H4 ff (by rw [ef, er]) Df ((sm1.trans sm3).trans s4)
end
end K37
set_option Elab.async false
set_option linter.all false
set_option maxRecDepth 100000
set_option pp.deepTerms false
set_option pp.maxSteps 1500
set_option maxHeartbeats 1000000
/-! the least one from a place on, over forms (law k37) -/
namespace K37
open PySem PySem.Spec PyProof.Rows L2 HX TV FM DX FB FC PM FI GL
local macro_rules | `(tactic| walk_at "r") => `(tactic| (repeat (first | refine Exists.intro _ (And.intro rfl ?_) | refine And.intro rfl ?_ | refine Exists.intro _ (Exists.intro _ (And.intro rfl (And.intro rfl ?_))) | refine And.intro (by omega) ?_ | refine And.intro (Or.inl (And.intro (by omega) (by omega))) ?_ | refine And.intro (Or.inr (And.intro (by omega) (by omega))) ?_ | refine And.intro (And.intro (by omega) (by omega)) ?_ | refine And.intro (And.intro (by decide) (And.intro (by decide) (by decide))) ?_ | refine Or.inl (Exists.intro _ (And.intro rfl ?_)) | (dsimp only [gName]; first | with_reducible refine seqC ?_ | with_reducible refine asgC ?_))))
local macro_rules | `(tactic| walk_at "s") => `(tactic| (repeat (first | refine Exists.intro _ (And.intro rfl ?_) | refine And.intro rfl ?_ | refine Exists.intro _ (Exists.intro _ (And.intro rfl (And.intro rfl ?_))) | refine And.intro (by omega) ?_ | refine And.intro (Or.inl (And.intro (by omega) (by omega))) ?_ | refine And.intro (Or.inr (And.intro (by omega) (by omega))) ?_ | refine And.intro (And.intro (by omega) (by omega)) ?_ | refine And.intro (And.intro (by decide) (And.intro (by decide) (by decide))) ?_ | refine Or.inl (Exists.intro _ (And.intro rfl ?_)) | refine Exists.intro _ (Exists.intro _ (And.intro rfl ?_)) | (dsimp only [gName]; first | with_reducible refine seqC ?_ | with_reducible refine asgC ?_))))
section
variable {P : Program} {w : World} {K : PySem.W.Frag} {mg : Str → Option Value} {base : Heap}
noncomputable def nextI (n p : Int) : Option Int := if tb n p.toNat = true then some p else ((tI n).filter fun t => decide (p < t)).head?
def OptF (K : PySem.W.Frag) (H : Hp) (v : V) : Option Int → Prop
  | none => v = .non
  | some r => ∃ f, Fm f ∧ val f = r ∧ Dp K H v f ∧ Sm f
theorem head_filt {α : Type} {p : α → Bool} : ∀ {L : List α} {i : Nat} {t : α}, L[i]? = some t → p t = true → (∀ u ∈ L.take i, p u = false) → (L.filter p).head? = some t
  | [], _, _, h, _, _ => by simp at h
  | x :: L, 0, t, h, hp, _ => by
    obtain rfl : x = t := by simpa using h
    rw [List.filter_cons, if_pos hp]
    rfl
  | x :: L, i + 1, t, h, hp, hl => by
    have hx := hl x (by simp)
    rw [List.filter_cons, if_neg (by rw [hx]; decide)]
    exact head_filt (i := i) (by simpa using h) hp fun u hu => hl u (by simp [hu])
theorem head_none {α : Type} {p : α → Bool} {L : List α} (h : ∀ u ∈ L, p u = false) : (L.filter p).head? = none := by
  have : L.filter p = [] := List.filter_eq_nil_iff.mpr fun u hu => by rw [h u hu]; decide
  rw [this]
  rfl
theorem filt_map2 (p : Int) : ∀ ds : List PyData, (ds.filter fun e => decide (p < val e)).map val = (ds.map val).filter fun t => decide (p < t)
  | [] => rfl
  | d :: r => by
    rw [List.filter_cons, List.map_cons, List.filter_cons]
    by_cases h : p < val d
    · rw [if_pos (by simpa using h), if_pos (by simpa using h), List.map_cons, filt_map2 p r]
    · rw [if_neg (by simpa using h), if_neg (by simpa using h), filt_map2 p r]
theorem sg_pos {a b : Int} : sg a b > 0 ↔ b < a := by
  rcases Int.lt_trichotomy a b with z | z | z
  · rw [sg_lt z]
    exact ⟨fun h => absurd h (by decide), fun h => by omega⟩
  · rw [sg_eq z]
    exact ⟨fun h => absurd h (by decide), fun h => by omega⟩
  · rw [sg_gt z]
    exact ⟨fun _ => z, fun _ => by decide⟩
def sp_oaG (K : PySem.W.Frag) : Sp := fun vs H Q _ => ∃ (x y : V) (d e : PyData), vs = [x, y] ∧ Dp K H x d ∧ Fm d ∧ wt d ≤ 2001 ∧ d.depth ≤ 6 ∧ Dp K H y e ∧ Fm e ∧ 0 ≤ val e ∧ Sm e ∧ ∀ v H', OptF K H' v (nextI (val d) (val e)) → Same H H' → Q v H'
theorem okG_one_at_or_after (T : Top K mg) : FnOk P w K mg base CX0 (10) T.f_one_at_or_after T.fd_one_at_or_after ["x", "place"]  (sp_oaG K) := by
  have G_bit : FnOk P w K mg base CX0 (5 + 4) T.f_bit T.fd_bit ["x", "place"]  (sp_bit K 5) := ok_bit T 5
  have G_turns : FnOk P w K mg base CX0 (2) T.f_turns T.fd_turns ["x"]  (sp_trn K) := ok_turns T
  have G_order : FnOk P w K mg base CX0 (6 + 3) T.f_order T.fd_order ["x", "y"]  (sp_ord K 6) := ok_order T 6
  refine T.F_one_at_or_after.ok sc_one_at_or_after (fun vs H Q E h => ?_) (fun cdv A outer s H vs Q E hr h => ?_)
  · obtain ⟨x, y, d, e, rfl, _⟩ := h
    rfl
  · obtain ⟨x, y, d, e, rfl, hx, fd, hwd, hdd, hy, fe, e0, hSe, q⟩ := h
    refine ⟨_, (pss_cons (ps_if (pt_cmpR op_eq (pe_call G_bit (hr.mono (by omega)) (by rfl) T.g_bit T.F_bit.kp T.b_bit .nil pass0 (pa_cons (pv 0) (pa_cons (pv 1) pa_nil))) pe_int (nomark _))
      (pss_one (ps_ret (pv 1)))
      pss_nil)
    (pss_cons (ps_for PassesOwn.never rfl (pi_tup (pe_call G_turns (hr.mono (by omega)) (by rfl) T.g_turns T.F_turns.kp T.b_turns .nil pass0 (pa_cons (pv 0) pa_nil))) (pg_name (i := 2) sc_one_at_or_after.nd rfl (Or.inl rfl))
      (pss_one (ps_if (pt_cmpR op_gt (pe_call G_order (hr.mono (by omega)) (by rfl) T.g_order T.F_order.kp T.b_order .nil pass0 (pa_cons (pv 2) (pa_cons (pv 1) pa_nil))) pe_int (nomark _))
        (pss_one (ps_ret (pv 2)))
        pss_nil)))
    (pss_one (ps_ret pe_non)))), ?_⟩
    refine ⟨_, rfl, _, rfl, x, y, d, e, rfl, hx, hy, fd, fe, e0, by omega, hSe.2, by decide, fun H1 sm1 => ?_⟩
    refine ⟨rfl, _, rfl, ?_⟩
    have evl : vl e = (val e).toNat := rfl
    rw [evl]
    cases hbit : tb (val d) (val e).toNat with
    | true =>
      refine iteT ⟨_, rfl, ?_⟩
      refine q y H1 ?_ sm1
      rw [nextI, if_pos hbit]
      exact ⟨e, fe, rfl, dp_tk (tk_same sm1) fe hy, hSe⟩
    | false =>
      have hnx : nextI (val d) (val e) = ((tI (val d)).filter fun t => decide (val e < t)).head? := by rw [nextI, if_neg (by rw [hbit]; decide)]
      refine iteF ?_
      dsimp only [tNext]
      refine ⟨_, rfl, x, d, rfl, dp_tk (tk_same sm1) fd hx, fd, fun a us ds H2 fA hA ev hsq hD hdep hwt hh sm2 => ?_⟩
      have htt : turnsOf (val d) = vals ds := turnsOf_is hA ev
      have htI : ds.map val = tI (val d) := by
        rw [map_val fA, tI, htt]
      have hsm : ∀ t ∈ ds, Sm t := fun t ht => by
        have h1 := wt_mem ht
        have h2 := depthAll_le.mp (Nat.le_refl _) t ht
        exact ⟨by omega, by omega⟩
      have hul := dpAll_len hD
      rw [← htI, ← filt_map2] at hnx
      have sm12 := sm1.trans sm2
      refine ⟨a, rfl, ⟨_, hsq⟩, flT (xs := us) (fun i σ H' => ∃ z, σ = [some x, some y, z] ∧ Same H2 H' ∧ ∀ t ∈ ds.take i, ¬ val e < val t) ⟨none, rfl, Same.refl _, by simp⟩ ?_ ?_ ?_⟩
      · rintro i σ H' _ ⟨z, _, sm, _⟩
        exact HX.Same.tup sm hsq
      · rintro i v σ H' hv ⟨z, rfl, sm, hlow⟩ D' B
        obtain ⟨t, ht, Dt⟩ := dpAll_get hD hv
        have htm := List.mem_of_getElem? ht
        have ft := (fmAll_mem fA t htm).1
        have hSt := hsm t htm
        refine ⟨_, rfl, _, rfl, v, y, t, e, rfl, dp_tk (tk_same sm) ft Dt, dp_tk (tk_same (sm12.trans sm)) fe hy, ft, fe, by have := hSt.2; omega, by have := hSe.2; omega, by decide, fun H3 sm3 => ?_⟩
        refine ⟨_, _, rfl, rfl, _, rfl, ?_⟩
        refine ifD (fun hz => ?_) (fun hz => ?_)
        · have hlt := sg_pos.mp hz
          refine ⟨_, rfl, ?_⟩
          refine B.rt _ _ (q v H3 ?_ ((sm12.trans sm).trans sm3))
          rw [hnx, List.head?_map, head_filt ht (decide_eq_true hlt) fun u hu => decide_eq_false (hlow u hu)]
          exact ⟨t, ft, rfl, dp_tk (tk_same (sm.trans sm3)) ft Dt, hSt⟩
        · have hle : ¬ val e < val t := fun z => hz (sg_pos.mpr z)
          refine B.nx _ _ ⟨_, rfl, sm.trans sm3, fun u hu => ?_⟩
          rw [List.take_add_one, ht] at hu
          rcases List.mem_append.mp hu with hu | hu
          · exact hlow u hu
          · rw [List.mem_singleton.mp hu]
            exact hle
      · rintro σ H' ⟨z, rfl, sm, hlow⟩
        rw [hul, List.take_length] at hlow
        refine q .non H' ?_ (sm12.trans sm)
        rw [hnx, List.head?_map, head_none fun u hu => decide_eq_false (hlow u hu)]
        rfl
end
end K37
set_option Elab.async false
set_option linter.all false
set_option maxRecDepth 100000
set_option pp.deepTerms false
set_option pp.maxSteps 1500
set_option maxHeartbeats 1000000
/-! ones_below, zeros_below, one_from, zero_from over forms (law k37) -/
namespace K37
open PySem PySem.Spec PyProof.Rows L2 HX TV FM DX FB FC PM FI GL
local macro_rules | `(tactic| walk_at "r") => `(tactic| (repeat (first | refine Exists.intro _ (And.intro rfl ?_) | refine And.intro rfl ?_ | refine Exists.intro _ (Exists.intro _ (And.intro rfl (And.intro rfl ?_))) | refine And.intro (by omega) ?_ | refine And.intro (Or.inl (And.intro (by omega) (by omega))) ?_ | refine And.intro (Or.inr (And.intro (by omega) (by omega))) ?_ | refine And.intro (And.intro (by omega) (by omega)) ?_ | refine And.intro (And.intro (by decide) (And.intro (by decide) (by decide))) ?_ | refine Or.inl (Exists.intro _ (And.intro rfl ?_)) | (dsimp only [gName]; first | with_reducible refine seqC ?_ | with_reducible refine asgC ?_))))
local macro_rules | `(tactic| walk_at "s") => `(tactic| (repeat (first | refine Exists.intro _ (And.intro rfl ?_) | refine And.intro rfl ?_ | refine Exists.intro _ (Exists.intro _ (And.intro rfl (And.intro rfl ?_))) | refine And.intro (by omega) ?_ | refine And.intro (Or.inl (And.intro (by omega) (by omega))) ?_ | refine And.intro (Or.inr (And.intro (by omega) (by omega))) ?_ | refine And.intro (And.intro (by omega) (by omega)) ?_ | refine And.intro (And.intro (by decide) (And.intro (by decide) (by decide))) ?_ | refine Or.inl (Exists.intro _ (And.intro rfl ?_)) | refine Exists.intro _ (Exists.intro _ (And.intro rfl ?_)) | (dsimp only [gName]; first | with_reducible refine seqC ?_ | with_reducible refine asgC ?_))))
section
variable {P : Program} {w : World} {K : PySem.W.Frag} {mg : Str → Option Value} {base : Heap}
/-- a form that may be kept -/
def Ke (d : PyData) : Prop := wt d ≤ 2000 ∧ d.depth ≤ 5
theorem Ke.sm {d : PyData} (h : Ke d) : Sm d := ⟨Nat.le_trans h.1 (by decide), h.2⟩
def sp_obG (K : PySem.W.Frag) (C : Addr) (g : Int → Int) : Sp := fun vs H Q _ => ∃ (x y : V) (d e : PyData), vs = [x, y] ∧ Num K C H x d ∧ wt d ≤ 2000 ∧ d.depth ≤ 6 ∧ Num K C H y e ∧ 0 ≤ val e ∧ Ke e ∧
  (∀ i f, i ≤ (runsI (tI (g (val d))) (val e)).length → Fm f → val f = altS ((runsI (tI (g (val d))) (val e)).take i) → Ke f) ∧ ∀ a f H', H a = none → Fm f → val f = altS (runsI (tI (g (val d))) (val e)) → FarAt K C H' a f → Same H H' → Q (.ref a) H'
theorem okG_ones_below (T : Top K mg) : FnOk P w K mg base CX0 (25) T.f_ones_below T.fd_ones_below ["x", "p"]  (sp_obG K T.C_Far fun n => n) := by
  have G_number_form : FnOk P w K mg base CX0 (4) T.f_number_form T.fd_number_form ["value"]  (sp_numf K T.C_Far) := ok_number_form T
  have G_place_form : FnOk P w K mg base CX0 (5) T.f_place_form T.fd_place_form ["value"]  (sp_plcf K T.C_Far) := ok_place_form T
  have G_count_below : FnOk P w K mg base CX0 (13) T.f_count_below T.fd_count_below ["x", "place"]  (sp_cbG K) := okG_count_below T
  have G_kept : FnOk P w K mg base CX0 (0 + 8) T.f_kept T.fd_kept ["x"]  (sp_kept K) := ok_kept T
  have G_Far___init__ : FnOk P w K mg base CX0 22 T.f_Far___init__ T.fd_Far___init__ ["self", "value"] (sp_initF K T.C_Far 5) := ok_Far___init__F T 5
  refine T.F_ones_below.ok sc_ones_below (fun vs H Q E h => ?_) (fun cdv A outer s H vs Q E hr h => ?_)
  · obtain ⟨x, y, d, e, rfl, _⟩ := h
    rfl
  · obtain ⟨x, y, d, e, rfl, hx, hwd, hdd, hy, e0, hKe, hP, q⟩ := h
    refine ⟨_, (pss_cons (ps_set (i := 2) sc_ones_below.nd rfl (Or.inl rfl) (pe_call G_number_form (hr.mono (by omega)) (by rfl) T.g_number_form T.F_number_form.kp T.b_number_form .nil pass0 (pa_cons (pv 0) pa_nil)))
    (pss_one (ps_ret (pe_make T.Mk_Far G_Far___init__ (hr.mono (by omega)) (by rfl) T.g_Far T.b_Far___init__ .nil pass0 (pa_cons (pe_call G_kept (hr.mono (by omega)) (by rfl) T.g_kept T.F_kept.kp T.b_kept .nil pass0 (pa_cons (pe_call G_count_below (hr.mono (by omega)) (by rfl) T.g_count_below T.F_count_below.kp T.b_count_below .nil pass0 (pa_cons (pv 2) (pa_cons (pe_call G_place_form (hr.mono (by omega)) (by rfl) T.g_place_form T.F_place_form.kp T.b_place_form .nil pass0 (pa_cons (pv 1) pa_nil)) pa_nil))) pa_nil)) pa_nil))))), ?_⟩
    refine ⟨_, rfl, x, d, rfl, hx, fun v H1 D1 sm1 => ?_⟩
    dsimp only [gName]
    refine ⟨_, rfl, _, rfl, y, e, rfl, hy.same sm1, e0, fun vp H2 D2 sm2 => ?_⟩
    refine ⟨v, vp, d, e, rfl, dp_tk (tk_same sm2) hx.fm D1, hx.fm, by omega, hdd, D2, hy.fm, e0, hKe.sm, fun i f hi ff ef => (hP i f hi ff ef).sm, fun vf f H3 ff ef Df sm3 => ?_⟩
    have hKf := hP _ f (Nat.le_refl _) ff (by rw [ef, List.take_length])
    have s3 := (sm1.trans sm2).trans sm3
    refine ⟨vf, f, rfl, Df, ff, hKf.1, Nat.le_trans hKf.2 (by decide), fun H4 sm4 => ?_⟩
    exact new_farF (n := 5) (.inr ⟨dp_tk (tk_same sm4) ff Df, ff⟩) hKf.1 hKf.2 (by decide) fun a H' na fa sm => q a f H' (none_back (s3.trans sm4) na) ff ef fa ((s3.trans sm4).trans sm)
theorem okG_zeros_below (T : Top K mg) : FnOk P w K mg base CX0 (25) T.f_zeros_below T.fd_zeros_below ["x", "p"]  (sp_obG K T.C_Far fun n => -n - 1) := by
  have G_number_form : FnOk P w K mg base CX0 (4) T.f_number_form T.fd_number_form ["value"]  (sp_numf K T.C_Far) := ok_number_form T
  have G_place_form : FnOk P w K mg base CX0 (5) T.f_place_form T.fd_place_form ["value"]  (sp_plcf K T.C_Far) := ok_place_form T
  have G_inverted : FnOk P w K mg base CX0 (1) T.f_inverted T.fd_inverted ["x"]  (sp_inv K) := ok_inverted T
  have G_count_below : FnOk P w K mg base CX0 (13) T.f_count_below T.fd_count_below ["x", "place"]  (sp_cbG K) := okG_count_below T
  have G_kept : FnOk P w K mg base CX0 (0 + 8) T.f_kept T.fd_kept ["x"]  (sp_kept K) := ok_kept T
  have G_Far___init__ : FnOk P w K mg base CX0 22 T.f_Far___init__ T.fd_Far___init__ ["self", "value"] (sp_initF K T.C_Far 5) := ok_Far___init__F T 5
  refine T.F_zeros_below.ok sc_zeros_below (fun vs H Q E h => ?_) (fun cdv A outer s H vs Q E hr h => ?_)
  · obtain ⟨x, y, d, e, rfl, _⟩ := h
    rfl
  · obtain ⟨x, y, d, e, rfl, hx, hwd, hdd, hy, e0, hKe, hP, q⟩ := h
    refine ⟨_, (pss_cons (ps_set (i := 2) sc_zeros_below.nd rfl (Or.inl rfl) (pe_call G_number_form (hr.mono (by omega)) (by rfl) T.g_number_form T.F_number_form.kp T.b_number_form .nil pass0 (pa_cons (pv 0) pa_nil)))
    (pss_one (ps_ret (pe_make T.Mk_Far G_Far___init__ (hr.mono (by omega)) (by rfl) T.g_Far T.b_Far___init__ .nil pass0 (pa_cons (pe_call G_kept (hr.mono (by omega)) (by rfl) T.g_kept T.F_kept.kp T.b_kept .nil pass0 (pa_cons (pe_call G_count_below (hr.mono (by omega)) (by rfl) T.g_count_below T.F_count_below.kp T.b_count_below .nil pass0 (pa_cons (pe_call G_inverted (hr.mono (by omega)) (by rfl) T.g_inverted T.F_inverted.kp T.b_inverted .nil pass0 (pa_cons (pv 2) pa_nil)) (pa_cons (pe_call G_place_form (hr.mono (by omega)) (by rfl) T.g_place_form T.F_place_form.kp T.b_place_form .nil pass0 (pa_cons (pv 1) pa_nil)) pa_nil))) pa_nil)) pa_nil))))), ?_⟩
    refine ⟨_, rfl, x, d, rfl, hx, fun v H1 D1 sm1 => ?_⟩
    dsimp only [gName]
    refine ⟨_, rfl, v, d, rfl, D1, hx.fm, by omega, by omega, fun v2 d2 H2 f2 e2 dp2 w2 D2 sm2 => ?_⟩
    refine ⟨_, rfl, y, e, rfl, (hy.same sm1).same sm2, e0, fun vp H3 D3 sm3 => ?_⟩
    dsimp only at hP q
    rw [← e2] at hP q
    refine ⟨v2, vp, d2, e, rfl, dp_tk (tk_same sm3) f2 D2, f2, by omega, by omega, D3, hy.fm, e0, hKe.sm, fun i f hi ff ef => (hP i f hi ff ef).sm, fun vf f H4 ff ef Df sm4 => ?_⟩
    have hKf := hP _ f (Nat.le_refl _) ff (by rw [ef, List.take_length])
    have s3 := ((sm1.trans sm2).trans sm3).trans sm4
    refine ⟨vf, f, rfl, Df, ff, hKf.1, Nat.le_trans hKf.2 (by decide), fun H5 sm5 => ?_⟩
    exact new_farF (n := 5) (.inr ⟨dp_tk (tk_same sm5) ff Df, ff⟩) hKf.1 hKf.2 (by decide) fun a H' na fa sm => q a f H' (none_back (s3.trans sm5) na) ff ef fa ((s3.trans sm5).trans sm)
/-- a Far, or None -/
inductive OptN (K : PySem.W.Frag) (C : Addr) (H H' : Hp) : V → Option Int → Prop
  | non : OptN K C H H' .non none
  | far (a : Addr) (f : PyData) (n : H a = none) (ff : Fm f) (h : FarAt K C H' a f) : OptN K C H H' (.ref a) (some (val f))
theorem OptN.back {C : Addr} {H H0 H' : Hp} {v : V} {o : Option Int} (h : OptN K C H0 H' v o) (s : Same H H0) : OptN K C H H' v o := by
  cases h with
  | non => exact .non
  | far a f n ff h => exact .far a f (none_back s n) ff h
def sp_fnG (K : PySem.W.Frag) (C : Addr) : Sp := fun vs H Q _ => ∃ (v : V) (o : Option Int), vs = [v] ∧ OptF K H v o ∧ (∀ r f, o = some r → Fm f → val f = r → Ke f) ∧ ∀ u H', OptN K C H H' u o → Same H H' → Q u H'
theorem okG_far_or_none (T : Top K mg) : FnOk P w K mg base CX0 (24) T.f_far_or_none T.fd_far_or_none ["form"]  (sp_fnG K T.C_Far) := by
  have G_kept : FnOk P w K mg base CX0 (0 + 8) T.f_kept T.fd_kept ["x"]  (sp_kept K) := ok_kept T
  have G_Far___init__ : FnOk P w K mg base CX0 22 T.f_Far___init__ T.fd_Far___init__ ["self", "value"] (sp_initF K T.C_Far 5) := ok_Far___init__F T 5
  refine T.F_far_or_none.ok sc_far_or_none (fun vs H Q E h => ?_) (fun cdv A outer s H vs Q E hr h => ?_)
  · obtain ⟨v, o, rfl, _⟩ := h
    rfl
  · obtain ⟨v, o, rfl, hO, hP, q⟩ := h
    refine ⟨_, (pss_one (ps_ret (pe_ifExp (pt_cmpR op_isN (pv 0) pe_non (nomark _)) pe_non (pe_make T.Mk_Far G_Far___init__ (hr.mono (by omega)) (by rfl) T.g_Far T.b_Far___init__ .nil pass0 (pa_cons (pe_call G_kept (hr.mono (by omega)) (by rfl) T.g_kept T.F_kept.kp T.b_kept .nil pass0 (pa_cons (pv 0) pa_nil)) pa_nil))))), ?_⟩
    cases o with
    | none =>
      obtain rfl : v = .non := hO
      refine ⟨_, rfl, rfl, _, rfl, iteT ?_⟩
      exact q .non H .non (Same.refl _)
    | some r =>
      obtain ⟨f, ff, rfl, Df, _⟩ := hO
      have hK := hP _ f rfl ff rfl
      have nn : v ≠ .non := fun e => by
        subst e
        cases Df
        simp [Fm] at ff
      refine ⟨_, rfl, rfl, _, rfl, ?_⟩
      rw [decide_eq_false nn]
      refine iteF ?_
      refine ⟨_, rfl, v, f, rfl, Df, ff, hK.1, Nat.le_trans hK.2 (by decide), fun H1 sm1 => ?_⟩
      exact new_farF (n := 5) (.inr ⟨dp_tk (tk_same sm1) ff Df, ff⟩) hK.1 hK.2 (by decide) fun a H2 na fa sm2 => q (.ref a) H2 (.far a f (none_back sm1 na) ff fa) (sm1.trans sm2)
def sp_ofG (K : PySem.W.Frag) (C : Addr) (g : Int → Int) : Sp := fun vs H Q _ => ∃ (x y : V) (d e : PyData), vs = [x, y] ∧ Num K C H x d ∧ wt d ≤ 2000 ∧ d.depth ≤ 6 ∧ Num K C H y e ∧ 0 ≤ val e ∧ Ke e ∧
  (∀ r f, nextI (g (val d)) (val e) = some r → Fm f → val f = r → Ke f) ∧ ∀ u H', OptN K C H H' u (nextI (g (val d)) (val e)) → Same H H' → Q u H'
theorem okG_one_from (T : Top K mg) : FnOk P w K mg base CX0 (26) T.f_one_from T.fd_one_from ["x", "p"]  (sp_ofG K T.C_Far fun n => n) := by
  have G_number_form : FnOk P w K mg base CX0 (4) T.f_number_form T.fd_number_form ["value"]  (sp_numf K T.C_Far) := ok_number_form T
  have G_place_form : FnOk P w K mg base CX0 (5) T.f_place_form T.fd_place_form ["value"]  (sp_plcf K T.C_Far) := ok_place_form T
  have G_one_at_or_after : FnOk P w K mg base CX0 (10) T.f_one_at_or_after T.fd_one_at_or_after ["x", "place"]  (sp_oaG K) := okG_one_at_or_after T
  have G_far_or_none : FnOk P w K mg base CX0 (24) T.f_far_or_none T.fd_far_or_none ["form"]  (sp_fnG K T.C_Far) := okG_far_or_none T
  refine T.F_one_from.ok sc_one_from (fun vs H Q E h => ?_) (fun cdv A outer s H vs Q E hr h => ?_)
  · obtain ⟨x, y, d, e, rfl, _⟩ := h
    rfl
  · obtain ⟨x, y, d, e, rfl, hx, hwd, hdd, hy, e0, hKe, hP, q⟩ := h
    refine ⟨_, (pss_cons (ps_set (i := 2) sc_one_from.nd rfl (Or.inl rfl) (pe_call G_number_form (hr.mono (by omega)) (by rfl) T.g_number_form T.F_number_form.kp T.b_number_form .nil pass0 (pa_cons (pv 0) pa_nil)))
    (pss_one (ps_ret (pe_call G_far_or_none (hr.mono (by omega)) (by rfl) T.g_far_or_none T.F_far_or_none.kp T.b_far_or_none .nil pass0 (pa_cons (pe_call G_one_at_or_after (hr.mono (by omega)) (by rfl) T.g_one_at_or_after T.F_one_at_or_after.kp T.b_one_at_or_after .nil pass0 (pa_cons (pv 2) (pa_cons (pe_call G_place_form (hr.mono (by omega)) (by rfl) T.g_place_form T.F_place_form.kp T.b_place_form .nil pass0 (pa_cons (pv 1) pa_nil)) pa_nil))) pa_nil))))), ?_⟩
    refine ⟨_, rfl, x, d, rfl, hx, fun v H1 D1 sm1 => ?_⟩
    dsimp only [gName]
    refine ⟨_, rfl, _, rfl, y, e, rfl, hy.same sm1, e0, fun vp H2 D2 sm2 => ?_⟩
    dsimp only at hP q
    refine ⟨v, vp, d, e, rfl, dp_tk (tk_same sm2) hx.fm D1, hx.fm, by omega, hdd, D2, hy.fm, e0, hKe.sm, fun vf H4 hO sm4 => ?_⟩
    have s3 := (sm1.trans sm2).trans sm4
    refine ⟨vf, nextI (val d) (val e), rfl, hO, hP, fun u H' hF sm => q u H' (hF.back s3) (s3.trans sm)⟩
theorem okG_zero_from (T : Top K mg) : FnOk P w K mg base CX0 (26) T.f_zero_from T.fd_zero_from ["x", "p"]  (sp_ofG K T.C_Far fun n => -n - 1) := by
  have G_number_form : FnOk P w K mg base CX0 (4) T.f_number_form T.fd_number_form ["value"]  (sp_numf K T.C_Far) := ok_number_form T
  have G_place_form : FnOk P w K mg base CX0 (5) T.f_place_form T.fd_place_form ["value"]  (sp_plcf K T.C_Far) := ok_place_form T
  have G_inverted : FnOk P w K mg base CX0 (1) T.f_inverted T.fd_inverted ["x"]  (sp_inv K) := ok_inverted T
  have G_one_at_or_after : FnOk P w K mg base CX0 (10) T.f_one_at_or_after T.fd_one_at_or_after ["x", "place"]  (sp_oaG K) := okG_one_at_or_after T
  have G_far_or_none : FnOk P w K mg base CX0 (24) T.f_far_or_none T.fd_far_or_none ["form"]  (sp_fnG K T.C_Far) := okG_far_or_none T
  refine T.F_zero_from.ok sc_zero_from (fun vs H Q E h => ?_) (fun cdv A outer s H vs Q E hr h => ?_)
  · obtain ⟨x, y, d, e, rfl, _⟩ := h
    rfl
  · obtain ⟨x, y, d, e, rfl, hx, hwd, hdd, hy, e0, hKe, hP, q⟩ := h
    refine ⟨_, (pss_cons (ps_set (i := 2) sc_zero_from.nd rfl (Or.inl rfl) (pe_call G_number_form (hr.mono (by omega)) (by rfl) T.g_number_form T.F_number_form.kp T.b_number_form .nil pass0 (pa_cons (pv 0) pa_nil)))
    (pss_one (ps_ret (pe_call G_far_or_none (hr.mono (by omega)) (by rfl) T.g_far_or_none T.F_far_or_none.kp T.b_far_or_none .nil pass0 (pa_cons (pe_call G_one_at_or_after (hr.mono (by omega)) (by rfl) T.g_one_at_or_after T.F_one_at_or_after.kp T.b_one_at_or_after .nil pass0 (pa_cons (pe_call G_inverted (hr.mono (by omega)) (by rfl) T.g_inverted T.F_inverted.kp T.b_inverted .nil pass0 (pa_cons (pv 2) pa_nil)) (pa_cons (pe_call G_place_form (hr.mono (by omega)) (by rfl) T.g_place_form T.F_place_form.kp T.b_place_form .nil pass0 (pa_cons (pv 1) pa_nil)) pa_nil))) pa_nil))))), ?_⟩
    refine ⟨_, rfl, x, d, rfl, hx, fun v H1 D1 sm1 => ?_⟩
    dsimp only [gName]
    refine ⟨_, rfl, v, d, rfl, D1, hx.fm, by omega, by omega, fun v2 d2 H2 f2 e2 dp2 w2 D2 sm2 => ?_⟩
    refine ⟨_, rfl, y, e, rfl, (hy.same sm1).same sm2, e0, fun vp H3 D3 sm3 => ?_⟩
    dsimp only at hP q
    rw [← e2] at hP q
    refine ⟨v2, vp, d2, e, rfl, dp_tk (tk_same sm3) f2 D2, f2, by omega, by omega, D3, hy.fm, e0, hKe.sm, fun vf H4 hO sm4 => ?_⟩
    have s3 := ((sm1.trans sm2).trans sm3).trans sm4
    refine ⟨vf, nextI (val d2) (val e), rfl, hO, hP, fun u H' hF sm => q u H' (hF.back s3) (s3.trans sm)⟩
end
end K37
set_option Elab.async false
set_option linter.all false
set_option maxRecDepth 100000
set_option pp.deepTerms false
set_option pp.maxSteps 1500
set_option maxHeartbeats 1000000
/-! the plain law: rows and turns (law k37) -/
namespace K37
open PySem PySem.Spec PyProof.Rows L2 HX TV FM DX FB FC PM FI GL
local macro_rules | `(tactic| walk_at "r") => `(tactic| (repeat (first | refine Exists.intro _ (And.intro rfl ?_) | refine And.intro rfl ?_ | refine Exists.intro _ (Exists.intro _ (And.intro rfl (And.intro rfl ?_))) | refine And.intro (by omega) ?_ | refine And.intro (Or.inl (And.intro (by omega) (by omega))) ?_ | refine And.intro (Or.inr (And.intro (by omega) (by omega))) ?_ | refine And.intro (And.intro (by omega) (by omega)) ?_ | refine And.intro (And.intro (by decide) (And.intro (by decide) (by decide))) ?_ | refine Or.inl (Exists.intro _ (And.intro rfl ?_)) | (dsimp only [gName]; first | with_reducible refine seqC ?_ | with_reducible refine asgC ?_))))
local macro_rules | `(tactic| walk_at "s") => `(tactic| (repeat (first | refine Exists.intro _ (And.intro rfl ?_) | refine And.intro rfl ?_ | refine Exists.intro _ (Exists.intro _ (And.intro rfl (And.intro rfl ?_))) | refine And.intro (by omega) ?_ | refine And.intro (Or.inl (And.intro (by omega) (by omega))) ?_ | refine And.intro (Or.inr (And.intro (by omega) (by omega))) ?_ | refine And.intro (And.intro (by omega) (by omega)) ?_ | refine And.intro (And.intro (by decide) (And.intro (by decide) (by decide))) ?_ | refine Or.inl (Exists.intro _ (And.intro rfl ?_)) | refine Exists.intro _ (Exists.intro _ (And.intro rfl ?_)) | (dsimp only [gName]; first | with_reducible refine seqC ?_ | with_reducible refine asgC ?_))))
/-- the value of a row over the inner places -/
def eV (ms : List Plc) (xs : List Int) : Int := evL (0 :: ms.map GL.pv) xs
theorem gl_row (ms : List Plc) (r0 : Int) (rs : List Int) : gl ms r0 rs = eV ms (r0 :: rs) := by
  unfold gl eV
  rw [lin_add, evL_zip]
  simp [evL]
theorem spots_tI {ms : List Plc} {R : List (List Int)} {n : Int} (S : Spots ms R (turnsOf n)) : tI n = R.map (eV ms) := S.val.symm
theorem filt_row {ms : List Plc} (q : List Int → Bool) (p : Int → Bool) : ∀ (R : List (List Int)), (∀ r ∈ R, q r = p (eV ms r)) → (R.filter q).map (eV ms) = (R.map (eV ms)).filter p
  | [], _ => rfl
  | r :: R, h => by
    have h1 := h r (by simp)
    have ih := filt_row q p R fun x hx => h x (by simp [hx])
    rw [List.filter_cons, List.map_cons, List.filter_cons, ← h1]
    cases q r
    · exact ih
    · show eV ms r :: _ = eV ms r :: _
      rw [ih]
/-- the alternating sum of rows is a row -/
theorem alt_row {ms : List Plc} {B : Nat} : ∀ (R : List (List Int)), (∀ r ∈ R, r.length = ms.length + 1) → (∀ r ∈ R, ∀ x ∈ r, x.natAbs ≤ B) → ∃ z : List Int, z.length = ms.length + 1 ∧ (∀ x ∈ z, x.natAbs ≤ R.length * B) ∧ eV ms z = altS (R.map (eV ms))
  | [], _, _ => ⟨List.replicate (ms.length + 1) 0, by simp, fun x hx => by rw [List.eq_of_mem_replicate hx]; exact Nat.zero_le _, evL_zero _ _⟩
  | r :: R, h, b => by
    obtain ⟨z, hz, bz, ez⟩ := alt_row R (fun x hx => h x (by simp [hx])) fun x hx => b x (by simp [hx])
    have hr := h r (by simp)
    have br := b r (by simp)
    refine ⟨List.zipWith (fun x y => x + (-1) * y) (List.zipWith (fun x y => x + (-1) * y) (List.replicate (ms.length + 1) 0) r) z, ?_, ?_, ?_⟩
    · simp only [List.length_zipWith, List.length_replicate]
      omega
    · have h1 := plus_bound (k := -1) (A := 0) (B := B) (.inr rfl) (xs := List.replicate (ms.length + 1) 0) (ys := r) (fun x hx => by rw [List.eq_of_mem_replicate hx]; decide) br
      have h2 := plus_bound (k := -1) (.inr rfl) h1 bz
      intro x hx
      have := h2 x hx
      rw [List.length_cons, Nat.add_mul]
      omega
    · show evL _ _ = -(eV ms r) - altS (R.map (eV ms))
      rw [← ez, evL_plus (-1) _ _ _ (by simp only [List.length_zipWith, List.length_replicate]; omega), evL_plus (-1) _ _ _ (by rw [List.length_replicate, hr]), evL_zero]
      show 0 + -1 * evL _ r + -1 * evL _ z = -(evL _ r) - evL _ z
      omega
/-- a form with the value of a row may be kept -/
theorem row_ke {ss ms : List Plc} {fs : List Nat} {z : List Int} {f : PyData} (D : Drawn ss ms fs) (hz : z.length = ms.length + 1) (b : ∀ x ∈ z, x.natAbs ≤ 8000) (ff : Fm f) (ef : val f = eV ms z) : Ke f := by
  match z, hz with
  | r0 :: rs, hz =>
    have G := inner_grp D (r0 := r0) (rs := rs) (b r0 (by simp)) (fun c hc => b c (by simp [hc])) (by simpa using hz)
    have h := grp_wt G (fun c hc => by
      have hc' := b c (by simp [hc])
      have b1 : Bw 13 c := by
        unfold Bw
        omega
      have b2 : Bw 13 (c - 1) := by
        unfold Bw
        omega
      exact ⟨fun t ht => Nat.le_trans (b1.turns t ht) (by decide), fun t ht => Nat.le_trans (b2.turns t ht) (by decide)⟩) ff (by rw [ef, gl_row])
    exact ⟨h.1, Nat.le_trans h.2 (by decide)⟩
/-- the rows that runs are made of -/
def runsR (R : List (List Int)) (xs : List Int) : List (List Int) := (R.filter fun r => HT.lexLt r.reverse xs.reverse) ++ (if (R.filter fun r => HT.lexLt r.reverse xs.reverse).length % 2 = 1 then [xs] else [])
theorem runs_row {ms : List Plc} {R : List (List Int)} {xs : List Int} {n : Int} (M : Menu ms) (S : Spots ms R (turnsOf n)) (hx : xs.length = ms.length + 1) (bx : ∀ x ∈ xs, x.natAbs ≤ 90) : runsI (tI n) (eV ms xs) = (runsR R xs).map (eV ms) := by
  have e := filt_row (ms := ms) (fun r => HT.lexLt r.reverse xs.reverse) (fun t => decide (t < eV ms xs)) R fun r hr =>
    row_less M (S.len r hr) hx (fun x h => by have := S.sm r hr x h; omega) fun x h => by have := bx x h; omega
  rw [spots_tI S, runsI, runsR, ← e, List.length_map, List.map_append]
  split <;> rfl
/-- every part of a count may be kept -/
theorem runs_ke {ss ms : List Plc} {fs : List Nat} {R : List (List Int)} {xs : List Int} {n : Int} (D : Drawn ss ms fs) (S : Spots ms R (turnsOf n)) (hx : xs.length = ms.length + 1) (bx : ∀ x ∈ xs, x.natAbs ≤ 90) (hR : R.length ≤ 80) :
    ∀ i f, i ≤ (runsI (tI n) (eV ms xs)).length → Fm f → val f = altS ((runsI (tI n) (eV ms xs)).take i) → Ke f := by
  intro i f _ ff ef
  rw [runs_row D.menu S hx bx, ← List.map_take] at ef
  have hm : ∀ r ∈ (runsR R xs).take i, r.length = ms.length + 1 ∧ ∀ x ∈ r, x.natAbs ≤ 90 := fun r hr => by
    have hr := List.mem_of_mem_take hr
    rcases List.mem_append.mp hr with hr | hr
    · have hr := (List.mem_filter.mp hr).1
      exact ⟨S.len r hr, fun x h => by have := S.sm r hr x h; omega⟩
    · split at hr
      · rw [List.mem_singleton.mp hr]
        exact ⟨hx, bx⟩
      · cases hr
  obtain ⟨z, hz, bz, ez⟩ := alt_row (ms := ms) (B := 90) ((runsR R xs).take i) (fun r hr => (hm r hr).1) fun r hr => (hm r hr).2
  have hl : ((runsR R xs).take i).length ≤ 81 := by
    have h1 := List.length_filter_le (fun r => HT.lexLt r.reverse xs.reverse) R
    rw [List.length_take]
    have h2 : (runsR R xs).length ≤ 81 := by
      unfold runsR
      rw [List.length_append]
      split
      · simp
        omega
      · simp
        omega
    omega
  have hb : ((runsR R xs).take i).length * 90 ≤ 81 * 90 := Nat.mul_le_mul_right _ hl
  exact row_ke D hz (fun x h => by have := bz x h; omega) ff (by rw [ef, ez])
end K37
set_option Elab.async false
set_option linter.all false
set_option maxRecDepth 100000
set_option pp.deepTerms false
set_option pp.maxSteps 1500
set_option maxHeartbeats 1000000
/-! zeros in the place of ones (law k37) -/
namespace K37
open PySem PySem.Spec PyProof.Rows L2 HX TV FM DX FB FC PM FI GL
local macro_rules | `(tactic| walk_at "r") => `(tactic| (repeat (first | refine Exists.intro _ (And.intro rfl ?_) | refine And.intro rfl ?_ | refine Exists.intro _ (Exists.intro _ (And.intro rfl (And.intro rfl ?_))) | refine And.intro (by omega) ?_ | refine And.intro (Or.inl (And.intro (by omega) (by omega))) ?_ | refine And.intro (Or.inr (And.intro (by omega) (by omega))) ?_ | refine And.intro (And.intro (by omega) (by omega)) ?_ | refine And.intro (And.intro (by decide) (And.intro (by decide) (by decide))) ?_ | refine Or.inl (Exists.intro _ (And.intro rfl ?_)) | (dsimp only [gName]; first | with_reducible refine seqC ?_ | with_reducible refine asgC ?_))))
local macro_rules | `(tactic| walk_at "s") => `(tactic| (repeat (first | refine Exists.intro _ (And.intro rfl ?_) | refine And.intro rfl ?_ | refine Exists.intro _ (Exists.intro _ (And.intro rfl (And.intro rfl ?_))) | refine And.intro (by omega) ?_ | refine And.intro (Or.inl (And.intro (by omega) (by omega))) ?_ | refine And.intro (Or.inr (And.intro (by omega) (by omega))) ?_ | refine And.intro (And.intro (by omega) (by omega)) ?_ | refine And.intro (And.intro (by decide) (And.intro (by decide) (by decide))) ?_ | refine Or.inl (Exists.intro _ (And.intro rfl ?_)) | refine Exists.intro _ (Exists.intro _ (And.intro rfl ?_)) | (dsimp only [gName]; first | with_reducible refine seqC ?_ | with_reducible refine asgC ?_))))
theorem inv_turns (n : Int) : turnsOf (-n - 1) = tog (turnsOf n) := by
  refine turnsOf_is (asc_tog (turnsOf_asc n)) ?_
  rw [tv_tog, turnsOf_tv]
  omega
theorem spots_tog {ms : List Plc} {R : List (List Int)} {n : Int} (S : Spots ms R (turnsOf n)) : ∃ R', Spots ms R' (turnsOf (-n - 1)) ∧ R'.length ≤ R.length + 1 := by
  rw [inv_turns]
  obtain ⟨h1, h2, h3⟩ := S
  have add : ∀ ts : List Nat, R.map (evL (0 :: ms.map GL.pv)) = ts.map (fun t => ((t : Nat) : Int)) → Spots ms (List.replicate (ms.length + 1) 0 :: R) (0 :: ts) := fun ts e => by
    refine ⟨?_, fun r hr => ?_, fun r hr x hx => ?_⟩
    · rw [List.map_cons, List.map_cons, e, evL_zero]
      rfl
    · rcases List.mem_cons.mp hr with rfl | hr
      · simp
      · exact h2 r hr
    · rcases List.mem_cons.mp hr with rfl | hr
      · rw [List.eq_of_mem_replicate hx]
        decide
      · exact h3 r hr x hx
  match ht : turnsOf n with
  | [] => exact ⟨_, add [] (by rw [h1, ht]), by simp⟩
  | 0 :: t =>
    rw [ht] at h1
    cases R with
    | nil => simp at h1
    | cons r R =>
      rw [List.map_cons, List.map_cons] at h1
      exact ⟨R, ⟨(List.cons.inj h1).2, fun x hx => h2 x (by simp [hx]), fun x hx => h3 x (by simp [hx])⟩, by simp; omega⟩
  | (u + 1) :: t => exact ⟨_, add ((u + 1) :: t) (by rw [h1, ht]), by simp⟩
theorem filt_none {ts : List Int} (h : ∀ t ∈ ts, 0 ≤ t) : ts.filter (fun t => decide (t < 0)) = [] :=
  List.filter_eq_nil_iff.mpr fun u hu => by
    have := h u hu
    rw [decide_eq_false (by omega)]
    decide
theorem runs_none {ts : List Int} (h : ∀ t ∈ ts, 0 ≤ t) : altS (runsI ts 0) = 0 := by
  unfold runsI
  rw [filt_none h]
  rfl
theorem runs_zero {r : List Int} {p : Int} (h : 0 < p) : altS (runsI (0 :: r) p) + altS (runsI r p) = p := by
  unfold runsI
  rw [List.filter_cons, if_pos (decide_eq_true h)]
  generalize r.filter (fun t => decide (t < p)) = F
  rw [List.length_cons]
  by_cases hF : F.length % 2 = 1
  · rw [if_neg (by omega), if_pos hF, List.append_nil, altS_snoc, if_pos hF]
    show -0 - altS F + _ = p
    omega
  · rw [if_pos (by omega), if_neg hF, List.append_nil, List.cons_append]
    show -0 - altS (F ++ [p]) + _ = p
    rw [altS_snoc, if_neg hF]
    omega
/-- ones and zeros below a place are the places below it -/
theorem runs_inv {n p : Int} (h : 0 ≤ p) : altS (runsI (tI (-n - 1)) p) = p - altS (runsI (tI n) p) := by
  unfold tI
  rw [inv_turns]
  have nn : ∀ ts : List Nat, ∀ t ∈ ts.map (fun t : Nat => (t : Int)), 0 ≤ t := fun ts t ht => by
    obtain ⟨u, _, rfl⟩ := List.mem_map.mp ht
    omega
  by_cases h0 : p = 0
  · subst h0
    rw [runs_none (nn _), runs_none (nn _)]
    omega
  · match turnsOf n with
    | [] =>
      have := runs_zero (r := []) (p := p) (by omega)
      show altS (runsI [0] p) = p - altS (runsI [] p)
      omega
    | 0 :: t =>
      have := runs_zero (r := t.map fun t : Nat => (t : Int)) (p := p) (by omega)
      show altS (runsI (t.map fun t : Nat => (t : Int)) p) = p - altS (runsI (0 :: t.map fun t : Nat => (t : Int)) p)
      omega
    | (u + 1) :: t =>
      have := runs_zero (r := ((u + 1) :: t).map fun t : Nat => (t : Int)) (p := p) (by omega)
      show altS (runsI (0 :: ((u + 1) :: t).map fun t : Nat => (t : Int)) p) = p - altS (runsI (((u + 1) :: t).map fun t : Nat => (t : Int)) p)
      omega
/-- what the law's row of lengths is worth -/
theorem due_val {ms : List Plc} {R : List (List Int)} {xs z : List Int} {n : Int} (M : Menu ms) (S : Spots ms R (turnsOf n)) (hx : xs.length = ms.length + 1) (bx : ∀ x ∈ xs, x.natAbs ≤ 90)
    (ez : eV ms z = altS ((R.filter fun r => HT.lexLt r.reverse xs.reverse).map (eV ms)) + (if (R.filter fun r => HT.lexLt r.reverse xs.reverse).length % 2 = 1 then eV ms xs else 0)) : altS (runsI (tI n) (eV ms xs)) = eV ms z := by
  rw [runs_row M S hx bx, ez]
  unfold runsR
  generalize R.filter (fun r => HT.lexLt r.reverse xs.reverse) = F
  by_cases h : F.length % 2 = 1
  · rw [if_pos h, if_pos h, List.map_append, List.map_cons, List.map_nil, altS_snoc, List.length_map, if_pos h]
  · rw [if_neg h, if_neg h, List.append_nil]
    omega
end K37
set_option Elab.async false
set_option linter.all false
set_option maxRecDepth 100000
set_option pp.deepTerms false
set_option pp.maxSteps 1500
set_option maxHeartbeats 1000000
/-! the next one and the next zero (plain law of k37) -/
namespace K37
open PySem PySem.Spec PyProof.Rows L2 HX TV FM DX FB FC PM FI GL
local macro_rules | `(tactic| walk_at "r") => `(tactic| (repeat (first | refine Exists.intro _ (And.intro rfl ?_) | refine And.intro rfl ?_ | refine Exists.intro _ (Exists.intro _ (And.intro rfl (And.intro rfl ?_))) | refine And.intro (by omega) ?_ | refine And.intro (Or.inl (And.intro (by omega) (by omega))) ?_ | refine And.intro (Or.inr (And.intro (by omega) (by omega))) ?_ | refine And.intro (And.intro (by omega) (by omega)) ?_ | refine And.intro (And.intro (by decide) (And.intro (by decide) (by decide))) ?_ | refine Or.inl (Exists.intro _ (And.intro rfl ?_)) | (dsimp only [gName]; first | with_reducible refine seqC ?_ | with_reducible refine asgC ?_))))
local macro_rules | `(tactic| walk_at "s") => `(tactic| (repeat (first | refine Exists.intro _ (And.intro rfl ?_) | refine And.intro rfl ?_ | refine Exists.intro _ (Exists.intro _ (And.intro rfl (And.intro rfl ?_))) | refine And.intro (by omega) ?_ | refine And.intro (Or.inl (And.intro (by omega) (by omega))) ?_ | refine And.intro (Or.inr (And.intro (by omega) (by omega))) ?_ | refine And.intro (And.intro (by omega) (by omega)) ?_ | refine And.intro (And.intro (by decide) (And.intro (by decide) (by decide))) ?_ | refine Or.inl (Exists.intro _ (And.intro rfl ?_)) | refine Exists.intro _ (Exists.intro _ (And.intro rfl ?_)) | (dsimp only [gName]; first | with_reducible refine seqC ?_ | with_reducible refine asgC ?_))))
theorem cnt_len (ts : List Nat) {p : Int} (hp : 0 ≤ p) : ((ts.map fun t : Nat => (t : Int)).filter fun t => !decide (p < t)).length = TV.cnt ts p.toNat := by
  rw [← List.countP_eq_length_filter, List.countP_map]
  unfold TV.cnt
  refine List.countP_congr fun t _ => ?_
  simp only [Function.comp, Bool.not_eq_true', decide_eq_false_iff_not, decide_eq_true_eq]
  omega
theorem tb_par {n p : Int} (hp : 0 ≤ p) : tb n p.toNat = decide (((tI n).filter fun t => !decide (p < t)).length % 2 = 1) := by
  have h := tb_tv p.toNat (turnsOf_asc n)
  rw [turnsOf_tv] at h
  rw [h, tI, cnt_len _ hp]
section
variable {ss ms : List Plc} {fs : List Nat} {R : List (List Int)} {xs : List Int} {n : Int}
theorem pass_row (M : Menu ms) (S : Spots ms R (turnsOf n)) (hx : xs.length = ms.length + 1) (bx : ∀ x ∈ xs, x.natAbs ≤ 90) :
    ((R.filter fun r => !HT.lexLt xs.reverse r.reverse).length = ((tI n).filter fun t => !decide (eV ms xs < t)).length) ∧ (R.filter fun r => HT.lexLt xs.reverse r.reverse).map (eV ms) = (tI n).filter fun t => decide (eV ms xs < t) := by
  have key : ∀ r ∈ R, HT.lexLt xs.reverse r.reverse = decide (eV ms xs < eV ms r) := fun r hr =>
    row_less M hx (S.len r hr) (fun x h => by have := bx x h; omega) fun x h => by have := S.sm r hr x h; omega
  have e1 := filt_row (ms := ms) (fun r => !HT.lexLt xs.reverse r.reverse) (fun t => !decide (eV ms xs < t)) R fun r hr => by rw [key r hr]
  have e2 := filt_row (ms := ms) (fun r => HT.lexLt xs.reverse r.reverse) (fun t => decide (eV ms xs < t)) R key
  rw [spots_tI S]
  refine ⟨?_, e2⟩
  rw [← e1, List.length_map]
theorem next_one (M : Menu ms) (S : Spots ms R (turnsOf n)) (hx : xs.length = ms.length + 1) (bx : ∀ x ∈ xs, x.natAbs ≤ 90) (h0 : 0 ≤ eV ms xs) : nextI n (eV ms xs) = (nextL R xs 1).map (eV ms) := by
  obtain ⟨e1, e2⟩ := pass_row M S hx bx
  unfold nextI nextL
  rw [tb_par h0, ← e1]
  by_cases h : (R.filter fun r => !HT.lexLt xs.reverse r.reverse).length % 2 = 1
  · rw [if_pos (decide_eq_true h), if_pos (by omega)]
    rfl
  · rw [if_neg (by rw [decide_eq_false h]; decide), if_neg (by omega), ← e2, List.head?_map]
theorem tog_up (n : Int) {p : Int} (h0 : 0 ≤ p) : (tI (-n - 1)).filter (fun t => decide (p < t)) = (tI n).filter fun t => decide (p < t) := by
  have z : ∀ r : List Int, (0 :: r).filter (fun t => decide (p < t)) = r.filter fun t => decide (p < t) := fun r => by
    rw [List.filter_cons, if_neg (by rw [decide_eq_false (by omega)]; decide)]
  unfold tI
  rw [inv_turns]
  match turnsOf n with
  | [] => exact z []
  | 0 :: t => exact (z _).symm
  | (u + 1) :: t => exact z _
theorem next_zero (M : Menu ms) (S : Spots ms R (turnsOf n)) (hx : xs.length = ms.length + 1) (bx : ∀ x ∈ xs, x.natAbs ≤ 90) (h0 : 0 ≤ eV ms xs) : nextI (-n - 1) (eV ms xs) = (nextL R xs 0).map (eV ms) := by
  obtain ⟨e1, e2⟩ := pass_row M S hx bx
  unfold nextI nextL
  rw [tb_not, tb_par h0, ← e1]
  by_cases h : (R.filter fun r => !HT.lexLt xs.reverse r.reverse).length % 2 = 1
  · rw [if_neg (by rw [decide_eq_true h]; decide), if_neg (by omega), tog_up n h0, ← e2, List.head?_map]
  · rw [if_pos (by rw [decide_eq_false h]; rfl), if_pos (by omega)]
    rfl
/-- what is next is a row that may be kept -/
theorem next_ke (D : Drawn ss ms fs) (S : Spots ms R (turnsOf n)) (hx : xs.length = ms.length + 1) (bx : ∀ x ∈ xs, x.natAbs ≤ 90) (wy : Int) : ∀ r f, (nextL R xs wy).map (eV ms) = some r → Fm f → val f = r → Ke f := by
  intro r f e ff ef
  obtain ⟨z, hz, rfl⟩ : ∃ z, nextL R xs wy = some z ∧ eV ms z = r := by
    cases h : nextL R xs wy with
    | none => rw [h] at e; cases e
    | some z => rw [h] at e; exact ⟨z, rfl, Option.some.inj e⟩
  have hm : z.length = ms.length + 1 ∧ ∀ x ∈ z, x.natAbs ≤ 90 := by
    unfold nextL at hz
    split at hz
    · obtain rfl := Option.some.inj hz
      exact ⟨hx, bx⟩
    · have h1 := List.mem_of_mem_head? (by rw [hz]; rfl : z ∈ (R.filter fun r => HT.lexLt xs.reverse r.reverse).head?)
      have h2 := (List.mem_filter.mp h1).1
      exact ⟨S.len z h2, fun x h => by have := S.sm z h2 x h; omega⟩
  exact row_ke D hm.1 (fun x h => Nat.le_trans (hm.2 x h) (by decide)) ff ef
/-- the bit at a place -/
theorem bit_row (M : Menu ms) (S : Spots ms R (turnsOf n)) (hx : xs.length = ms.length + 1) (bx : ∀ x ∈ xs, x.natAbs ≤ 90) (h0 : 0 ≤ eV ms xs) : tb n (eV ms xs).toNat = decide ((R.filter fun r => !HT.lexLt xs.reverse r.reverse).length % 2 = 1) := by
  rw [tb_par h0, (pass_row M S hx bx).1]
end
end K37
set_option Elab.async false
set_option linter.all false
set_option maxRecDepth 100000
set_option pp.deepTerms false
set_option pp.maxSteps 1500
set_option maxHeartbeats 1000000
/-! Fars of groups, a place told, a bit by x[p] (law k37) -/
namespace K37
open PySem PySem.Spec PyProof.Rows L2 HX TV FM DX FB FC PM FI GL
local macro_rules | `(tactic| walk_at "r") => `(tactic| (repeat (first | refine Exists.intro _ (And.intro rfl ?_) | refine And.intro rfl ?_ | refine Exists.intro _ (Exists.intro _ (And.intro rfl (And.intro rfl ?_))) | refine And.intro (by omega) ?_ | refine And.intro (Or.inl (And.intro (by omega) (by omega))) ?_ | refine And.intro (Or.inr (And.intro (by omega) (by omega))) ?_ | refine And.intro (And.intro (by omega) (by omega)) ?_ | refine And.intro (And.intro (by decide) (And.intro (by decide) (by decide))) ?_ | refine Or.inl (Exists.intro _ (And.intro rfl ?_)) | (dsimp only [gName]; first | with_reducible refine seqC ?_ | with_reducible refine asgC ?_))))
local macro_rules | `(tactic| walk_at "s") => `(tactic| (repeat (first | refine Exists.intro _ (And.intro rfl ?_) | refine And.intro rfl ?_ | refine Exists.intro _ (Exists.intro _ (And.intro rfl (And.intro rfl ?_))) | refine And.intro (by omega) ?_ | refine And.intro (Or.inl (And.intro (by omega) (by omega))) ?_ | refine And.intro (Or.inr (And.intro (by omega) (by omega))) ?_ | refine And.intro (And.intro (by omega) (by omega)) ?_ | refine And.intro (And.intro (by decide) (And.intro (by decide) (by decide))) ?_ | refine Or.inl (Exists.intro _ (And.intro rfl ?_)) | refine Exists.intro _ (Exists.intro _ (And.intro rfl ?_)) | (dsimp only [gName]; first | with_reducible refine seqC ?_ | with_reducible refine asgC ?_))))
section
variable {P : Program} {w : World} {K : PySem.W.Frag} {mg : Str → Option Value} {base : Heap}
theorem new_farG {C : Addr} {H : Hp} {x : V} {d : PyData} {m n : Nat} {Q : VK} {E : XK} (hx : Giv K C H m n x d) (fd : Fm d) (hn : n ≤ 5) (q : ∀ a H', H a = none → FarAt K C H' a d → Same H H' → Q (.ref a) H') :
    ∀ a dx, H a = none → H dx = none → dx ≠ a → sp_initG K C m n (.ref a :: ([x] ++ [])) (upd (upd H dx (.own a)) a (.ins C dx [])) (fun v H2 => v = .non ∧ Q (.ref a) H2) E := fun a dx na nd ne => by
  have s2 : Same H (upd (upd H dx (.own a)) a (.ins C dx [])) := fun b o e => by
    rw [upd_ne (ne_of_none e na), upd_ne (ne_of_none e nd)]
    exact e
  exact ⟨a, dx, x, d, rfl, upd_same, hx.same s2, fd, hn, fun v H' h1 D e => ⟨rfl, q a H' na ⟨dx, v, h1, D, fd⟩ fun b o z => e b o (ne_of_none z na) (s2 _ _ z)⟩⟩
theorem init_farG {C : Addr} {H : Hp} {a dx : Addr} {x : V} {d : PyData} {m n : Nat} {E : XK} {G : Hp → Prop} (na : H a = none) (nd : H dx = none) (ne : dx ≠ a) (hx : Giv K C H m n x d) (fd : Fm d) (hn : n ≤ 5) (q : ∀ H', FarAt K C H' a d → Same H H' → G H') :
    sp_initG K C m n [.ref a, x] (upd (upd H dx (.own a)) a (.ins C dx [])) (fun v H2 => v = .non ∧ G H2) E := by
  have s2 : Same H (upd (upd H dx (.own a)) a (.ins C dx [])) := fun b o e => by
    rw [upd_ne (ne_of_none e na), upd_ne (ne_of_none e nd)]
    exact e
  exact ⟨a, dx, x, d, rfl, upd_same, hx.same s2, fd, hn, fun v H' h1 D e => ⟨rfl, q H' ⟨dx, v, h1, D, fd⟩ fun b o z => e b o (ne_of_none z na) (s2 _ _ z)⟩⟩
/-- a list that was written is what Far takes -/
theorem giv_written {C : Addr} {H : Hp} {k : Nat} {l : Addr} {ws : List V} {ds : List PyData} {g : Int} (h : H l = some (.lst ws)) (G : Givs K C H k k ws ds) (fA : FmAll ds) (e : vals ds = turnsOf g) (hw : 1 + wtAll ds ≤ 2000) (hd : ∀ d ∈ ds, d.depth ≤ k) :
    ∃ d, Giv K C H (k + 1) (k + 1) (.ref l) d ∧ Fm d ∧ val d = g ∧ wt d ≤ 2000 ∧ d.depth ≤ k + 1 := by
  have hA : Asc (vals ds) := by rw [e]; exact turnsOf_asc _
  obtain ⟨d, fd, ed, wd, dd⟩ := row_exG fA hA
  have hdd := depthAll_le.mpr hd
  exact ⟨d, .lst h G.1 G.2 fA hA hw hd fd ed, fd, by rw [ed, e, turnsOf_tv], by omega, by omega⟩
/-- the bit at a place, of a form -/
def sp_bitof0 (K : PySem.W.Frag) (n : Nat) : Sp := fun vs H Q _ => ∃ (x y : V) (d e : PyData), vs = [x, y] ∧ Dp K H x d ∧ Dp K H y e ∧ Fm d ∧ Fm e ∧ 0 ≤ val e ∧ d.depth ≤ n + 1 ∧ e.depth ≤ n ∧ n ≤ 60 ∧ ∀ H', Same H H' → Q (.int (PM.bi (tb (val d) (vl e)))) H'
theorem ok_bit_of0 (T : Top K mg) (n : Nat) : FnOk P w K mg base CX0 (n + 5) T.f_bit_of T.fd_bit_of ["x", "p"]  (sp_bitof0 K n) := by
  have G_negative : FnOk P w K mg base CX0 (1) T.f_negative T.fd_negative ["x"]  (sp_neg K) := ok_negative T
  have G_bit : FnOk P w K mg base CX0 (n + 4) T.f_bit T.fd_bit ["x", "place"]  (sp_bit K n) := ok_bit T n
  refine T.F_bit_of.ok sc_bit_of (fun vs H Q E h => ?_) (fun cdv A outer s H vs Q E hr h => ?_)
  · obtain ⟨x, y, d, e, rfl, _⟩ := h
    rfl
  · obtain ⟨x, y, d, e, rfl, hx, hy, fd, fe, h0, hd, he, hn, q⟩ := h
    refine ⟨_, (pss_cons (ps_if (pt_val (pe_call G_negative (hr.mono (by omega)) (by rfl) T.g_negative T.F_negative.kp T.b_negative .nil pass0 (pa_cons (pv 1) pa_nil)) (fun _ => rfl))
      (pss_one ps_never)
      pss_nil)
    (pss_one (ps_ret (pe_call G_bit (hr.mono (by omega)) (by rfl) T.g_bit T.F_bit.kp T.b_bit .nil pass0 (pa_cons (pv 0) (pa_cons (pv 1) pa_nil)))))), ?_⟩
    refine ⟨_, rfl, y, e, rfl, hy, fe, ?_⟩
    rw [decide_eq_false (by omega)]
    refine ⟨_, rfl, iteF ?_⟩
    dsimp only [tNext]
    exact ⟨_, rfl, _, rfl, x, y, d, e, rfl, hx, hy, fd, fe, h0, hd, he, hn, q⟩
/-- x[p] of a Far and a Far -/
def sp_itemG (K : PySem.W.Frag) (C : Addr) : Sp := fun vs H Q _ => ∃ (a : Addr) (y : V) (d e : PyData), vs = [.ref a, y] ∧ FarAt K C H a d ∧ Num K C H y e ∧ 0 ≤ val e ∧ d.depth ≤ 7 ∧ e.depth ≤ 6 ∧ ∀ H', Same H H' → Q (.int (PM.bi (tb (val d) (vl e)))) H'
theorem ok_Far___getitem__0 (T : Top K mg) : FnOk P w K mg base CX0 (12) T.f_Far___getitem__ T.fd_Far___getitem__ ["self", "place"]  (sp_itemG K T.C_Far) := by
  have G_place_form : FnOk P w K mg base CX0 (5) T.f_place_form T.fd_place_form ["value"]  (sp_plcf K T.C_Far) := ok_place_form T
  have G_bit_of : FnOk P w K mg base CX0 (6 + 5) T.f_bit_of T.fd_bit_of ["x", "p"]  (sp_bitof0 K 6) := ok_bit_of0 T 6
  refine T.F_Far___getitem__.ok sc_Far___getitem__ (fun vs H Q E h => ?_) (fun cdv A outer s H vs Q E hr h => ?_)
  · obtain ⟨a, y, d, e, rfl, _⟩ := h
    rfl
  · obtain ⟨a, y, d, e, rfl, hx, hy, h0, hd, he, q⟩ := h
    refine ⟨_, (pss_one (ps_ret (pe_call G_bit_of (hr.mono (by omega)) (by rfl) T.g_bit_of T.F_bit_of.kp T.b_bit_of .nil pass0 (pa_cons (pe_fld (pv 0) rfl) (pa_cons (pe_call G_place_form (hr.mono (by omega)) (by rfl) T.g_place_form T.F_place_form.kp T.b_place_form .nil pass0 (pa_cons (pv 1) pa_nil)) pa_nil))))), ?_⟩
    obtain ⟨dx, vd, h1, h2, h3⟩ := hx
    refine ⟨_, rfl, a, _, dx, _, vd, rfl, h1, T.k_Far, T.n_Far, lk_own vd, ?_⟩
    refine ⟨_, rfl, y, e, rfl, hy, h0, fun v1 H1 D1 s1 => ?_⟩
    exact ⟨vd, v1, d, e, rfl, dp_tk (tk_same s1) h3 h2, D1, h3, hy.fm, h0, hd, he, by decide, fun H2 s2 => q H2 (s1.trans s2)⟩
/-- how many rows there are -/
theorem rows_len : ∀ (L : List (Nat × Int)) (ts : List Nat) (N : Nat), (∀ c ∈ L.map Prod.snd, (turnsOf c).length + 1 ≤ N ∧ (turnsOf (c - 1)).length + 1 ≤ N) → (rowsFrom ts L).length ≤ ts.length + N * L.length
  | [], ts, N, _ => by show ts.length ≤ _; omega
  | (P, c) :: r, ts, N, h => by
    have ih := rows_len r (GL.step ts P c) N fun x hx => h x (by rw [List.map_cons]; exact List.mem_cons_of_mem _ hx)
    have h1 := h c (by simp)
    have h2 : (GL.step ts P c).length ≤ ts.length + N := by
      unfold GL.step
      rw [List.length_append, List.length_map]
      have := (len_tog (turnsOf (c - 1))).1
      split <;> omega
    show (rowsFrom (GL.step ts P c) r).length ≤ _
    rw [List.length_cons, Nat.mul_add]
    omega
theorem grp_len {k N : Nat} {ss : List Plc} {p0 : Int} {cs : List Int} (G : Grp k N ss p0 cs) : (turnsOf (gl ss p0 cs)).length ≤ (turnsOf p0).length + N * ss.length := by
  obtain ⟨lo, hlo, hR⟩ := G.room
  unfold gl
  rw [lin_turns _ lo p0 hR hlo]
  have h := rows_len ((ss.map GL.pv).zip cs) (turnsOf p0) N fun c hc => by
    obtain ⟨p, hp, rfl⟩ := List.mem_map.mp hc
    exact G.cnt _ (List.of_mem_zip hp).2
  have hl : ((ss.map GL.pv).zip cs).length ≤ ss.length := by
    rw [List.length_zip, List.length_map]
    omega
  have := Nat.mul_le_mul_left N hl
  omega
/-- two arguments by name in the other order -/
def swpG {α : Type} : List α → List α
  | [a, b] => [b, a]
  | l => l
theorem swpG_vals {zs : List V} {ws : List Value} (r : Vals zs ws) : Vals (swpG zs) (swpG ws) := by
  cases r with
  | nil => exact .nil
  | cons r1 r =>
    cases r with
    | nil => exact .cons r1 .nil
    | cons r2 r =>
      cases r with
      | nil => exact .cons r2 (.cons r1 .nil)
      | cons r3 r => exact .cons r1 (.cons r2 (.cons r3 r))
theorem OptN.fwd {C : Addr} {H0 H H' : Hp} {v : V} {o : Option Int} (h : OptN K C H0 H v o) (s : Same H H') : OptN K C H0 H' v o := by
  cases h with
  | non => exact .non
  | far a f n ff h => exact .far a f n ff (h.same s)
/-- a place, or None, as it is due -/
def sp_gisat (K : PySem.W.Frag) (C : Addr) : Sp := fun vs H Q _ => ∃ (ai : Addr) (us : List V) (ss ms : List Plc) (fs : List Nat) (u v : V) (H0 : Hp) (z : Option (List Int)), vs = [.ref ai, u, v] ∧ H ai = some (.lst us) ∧ SpVs H us ms ∧ Drawn ss ms fs ∧
  (∀ r, z = some r → r.length = ms.length + 1 ∧ ∀ x ∈ r, x.natAbs ≤ 8000) ∧ OptN K C H0 H u (z.map (eV ms)) ∧ OptRow H v z ∧ ∀ H', Same H H' → Q (.bl true) H'
theorem ok__law_is_at (T : Top K mg) : FnOk P w K mg base CX0 (26) T.f__law_is_at T.fd__law_is_at ["_law_inner_here", "_law_told", "_law_due"]  (sp_gisat K T.C_Far) := by
  have G__law_written : FnOk P w K mg base CX0 (5) T.f__law_written T.fd__law_written ["_law_specs_here", "_law_parts_here"]  (sp_gwrit K T.C_Far 2) := ok__law_written T 2
  have G_Far___init__ : FnOk P w K mg base CX0 24 T.f_Far___init__ T.fd_Far___init__ ["self", "value"] (sp_initG K T.C_Far 3 3) := ok_Far___init__G T 3 3 (by decide)
  have G_Far___eq__ : FnOk P w K mg base CX0 (4) T.f_Far___eq__ T.fd_Far___eq__ ["self", "other"]  (sp_eqF K T.C_Far) := ok_Far___eq__F T
  refine T.F__law_is_at.ok sc__law_is_at (fun vs H Q E h => ?_) (fun cdv A outer s H vs Q E hr h => ?_)
  · obtain ⟨ai, us, ss, ms, fs, u, v, H0, z, rfl, _⟩ := h
    rfl
  · obtain ⟨ai, us, ss, ms, fs, u, v, H0, z, rfl, hai, hus, D, hz, hu, hv, q⟩ := h
    refine ⟨_, (pss_cons (ps_if (PW.pt (pw_or (pt_cmpR op_isN (pv 1) pe_non (nomark _)) (pw_or1 (pt_cmpR op_isN (pv 2) pe_non (nomark _)))))
      (pss_one (ps_ret (pe_and (pe_cmpR op_isN (pv 1) pe_non (nomark _)) (pe_one (pe_cmpR op_isN (pv 2) pe_non (nomark _))))))
      pss_nil)
    (pss_one (ps_ret (pe_and (pe_callB call_isi (by rfl) T.m_isinstance (by decide +kernel) (pa_cons (pv 1) (pa_cons (pe_glob (v := .ref T.C_Far) (by rfl) T.g_Far rfl) pa_nil))) (pe_one (pe_cmpR (op_ownC (fun _ _ => rfl) T.O_Eq G_Far___eq__ (hr.mono (by omega)) T.b_Far___eq__ pass0) (pv 1) (pe_make T.Mk_Far G_Far___init__ (hr.mono (by omega)) (by rfl) T.g_Far T.b_Far___init__ .nil pass0 (pa_cons (pe_call G__law_written (hr.mono (by omega)) (by rfl) T.g__law_written T.F__law_written.kp T.b__law_written .nil pass0 (pa_cons (pv 0) (pa_cons (pv 2) pa_nil))) pa_nil)) (nomark _))))))), ?_⟩
    cases z with
    | none =>
      obtain rfl : v = .non := hv
      generalize hg : Option.map (eV ms) none = g at hu
      cases hu with
      | far => cases hg
      | non =>
      walk_at "r"
      rw [decide_eq_true rfl]
      exact q H (Same.refl _)
    | some r =>
      obtain ⟨c, rfl, hc⟩ := hv
      generalize hg : Option.map (eV ms) (some r) = g at hu
      cases hu with
      | non => cases hg
      | far a f n ff h =>
      obtain ⟨hzl, hzb⟩ := hz r rfl
      have eg : val f = eV ms r := Option.some.inj hg.symm
      walk_at "r"
      refine ⟨_, _, _, _, true, rfl, .own _, ty_far T.I_Far T.k_Far h, T.I_Far.ks, _, rfl, iteT ?_⟩
      match r, hzl with
      | r0 :: rs, hzl =>
      have G := inner_grp D (r0 := r0) (rs := rs) (hzb r0 (by simp)) (fun c hc => hzb c (by simp [hc])) (by simpa using hzl)
      refine ⟨_, rfl, _, rfl, _, rfl, ai, c, us, ms, r0, rs, 15, rfl, hai, hus, hc, G, fun l ws ds H1 hl hG fA ev hw hd sm1 => ?_⟩
      obtain ⟨e, hgv, fe, ee, we, de⟩ := giv_written hl hG fA ev hw hd
      refine fun a2 dx0 na nd ne => init_farG na nd ne hgv fe (by decide) fun H2 fa2 sm2 => ?_
      have sm := sm1.trans sm2
      obtain ⟨dx, fv, f1, f2, f3⟩ := id h
      obtain ⟨dx2, fv2, g1, g2, g3⟩ := id fa2
      have hKf := row_ke D (z := r0 :: rs) hzl hzb ff eg
      refine ⟨a, dx, _, rfl, sm _ _ f1, .inr ⟨a2, dx2, _, rfl, g1⟩, a, .ref a2, f, e, rfl, h.same sm, .inr ⟨a2, rfl, fa2⟩, Nat.le_trans hKf.2 (by decide), by omega, fun H3 sm3 => ?_⟩
      rw [decide_eq_true (by rw [eg, ee, gl_row])]
      exact q H3 (sm.trans sm3)
end
end K37
set_option Elab.async false
set_option linter.all false
set_option maxRecDepth 100000
set_option pp.deepTerms false
set_option pp.maxSteps 1500
set_option maxHeartbeats 2000000
namespace K37
open PySem PySem.Spec PyProof.Rows L2 HX TV FM DX FB FC PM FI GL
local macro_rules | `(tactic| walk_at "r") => `(tactic| (repeat (first | refine Exists.intro _ (And.intro rfl ?_) | refine And.intro rfl ?_ | refine Exists.intro _ (Exists.intro _ (And.intro rfl (And.intro rfl ?_))) | refine And.intro (by omega) ?_ | refine And.intro (Or.inl (And.intro (by omega) (by omega))) ?_ | refine And.intro (Or.inr (And.intro (by omega) (by omega))) ?_ | refine And.intro (And.intro (by omega) (by omega)) ?_ | refine And.intro (And.intro (by decide) (And.intro (by decide) (by decide))) ?_ | refine Or.inl (Exists.intro _ (And.intro rfl ?_)) | (dsimp only [gName]; first | with_reducible refine seqC ?_ | with_reducible refine asgC ?_))))
local macro_rules | `(tactic| walk_at "s") => `(tactic| (repeat (first | refine Exists.intro _ (And.intro rfl ?_) | refine And.intro rfl ?_ | refine Exists.intro _ (Exists.intro _ (And.intro rfl (And.intro rfl ?_))) | refine And.intro (by omega) ?_ | refine And.intro (Or.inl (And.intro (by omega) (by omega))) ?_ | refine And.intro (Or.inr (And.intro (by omega) (by omega))) ?_ | refine And.intro (And.intro (by omega) (by omega)) ?_ | refine And.intro (And.intro (by decide) (And.intro (by decide) (by decide))) ?_ | refine Or.inl (Exists.intro _ (And.intro rfl ?_)) | refine Exists.intro _ (Exists.intro _ (And.intro rfl ?_)) | (dsimp only [gName]; first | with_reducible refine seqC ?_ | with_reducible refine asgC ?_))))
section
variable {P : Program} {w : World} {K : PySem.W.Frag} {mg : Str → Option Value} {base : Heap}
/-- what the law holds from lap to lap -/
structure Kp (K : PySem.W.Frag) (C : Addr) (τ : Pn) (a ls li lr an : Addr) (ns : List Int) (us uis ws : List V) (ms : List Plc) (R : List (List Int)) (d : PyData) (n : Nat) (H : Hp) : Prop where
  pen : Pen H τ n
  sa : SqL K H a (ns.map V.int)
  ls : H ls = some (.lst us)
  li : H li = some (.lst uis)
  iv : SpVs H uis ms
  lr : H lr = some (.lst ws)
  rw : RowsN none H ws R
  an : FarAt K C H an d
section
variable {C : Addr} {τ : Pn} {a ls li lr an : Addr} {ns : List Int} {us uis ws : List V} {ms : List Plc} {R : List (List Int)} {d : PyData} {n m : Nat} {H H' : Hp}
theorem Kp.same (h : Kp K C τ a ls li lr an ns us uis ws ms R d n H) (e : Same H H') : Kp K C τ a ls li lr an ns us uis ws ms R d n H' :=
  ⟨h.pen.up e, e.seq h.sa, e _ _ h.ls, e _ _ h.li, h.iv.same e, e _ _ h.lr, h.rw.same e, h.an.same e⟩
theorem Kp.le (h : Kp K C τ a ls li lr an ns us uis ws ms R d n H) (l : n ≤ m) : Kp K C τ a ls li lr an ns us uis ws ms R d m H :=
  ⟨h.pen.le l, h.sa, h.ls, h.li, h.iv, h.lr, h.rw, h.an⟩
theorem FarAt.butK {C : Addr} {H H' : Hp} {τ : Pn} {n : Nat} {a : Addr} {d : PyData} (h : FarAt K C H a d) (hT : Pen H τ n) (b : But τ.p H H') : FarAt K C H' a d := by
  obtain ⟨dx, v, h1, h2, h3⟩ := h
  exact ⟨dx, v, b a _ (hT.ne h1 (fun kvs z => by cases z)) h1, dp_tk (tk_but b hT.mut) h3 h2, h3⟩
theorem seq_but {K : PySem.W.Frag} {τ : Pn} {a : Addr} {xs : List V} {n : Nat} {H H' : Hp} (hT : Pen H τ n) (b : But τ.p H H') (h : SqL K H a xs) : SqL K H' a xs := by
  rcases h with h1 | h1
  · refine .inl ?_
    rcases h1 with h1 | h1
    · exact .inl (b _ _ (hT.ne h1 fun kvs z => by cases z) h1)
    · obtain ⟨o, h1⟩ := h1
      exact .inr ⟨o, b _ _ (hT.ne h1 fun kvs z => by cases z) h1⟩
  · exact .inr h1
theorem Kp.but (h : Kp K C τ a ls li lr an ns us uis ws ms R d n H) (b : But τ.p H H') (hT : Pen H' τ m) : Kp K C τ a ls li lr an ns us uis ws ms R d m H' := by
  have hl : ∀ c xs, H c = some (.lst xs) → H' c = some (.lst xs) := fun c xs z => b _ _ (h.pen.neL z) z
  refine ⟨hT, ?_, hl _ _ h.ls, hl _ _ h.li, h.iv.keep fun c xs z => b _ _ (h.pen.ne z fun kvs z => by cases z) z, hl _ _ h.lr, h.rw.keep fun c xs _ z => hl _ _ z, h.an.butK h.pen b⟩
  exact seq_but h.pen b h.sa
end
theorem next_in {ms : List Plc} {R : List (List Int)} {xs : List Int} {n : Int} (S : Spots ms R (turnsOf n)) (hx : xs.length = ms.length + 1) (bx : ∀ x ∈ xs, x.natAbs ≤ 90) (wy : Int) : ∀ z, nextL R xs wy = some z → z.length = ms.length + 1 ∧ ∀ x ∈ z, x.natAbs ≤ 8000 := by
  intro z hz
  unfold nextL at hz
  split at hz
  · obtain rfl := Option.some.inj hz
    exact ⟨hx, fun x h => Nat.le_trans (bx x h) (by decide)⟩
  · have h1 := List.mem_of_mem_head? (by rw [hz]; rfl : z ∈ (R.filter fun r => HT.lexLt xs.reverse r.reverse).head?)
    have h2 := (List.mem_filter.mp h1).1
    exact ⟨S.len z h2, fun x h => by have := S.sm z h2 x h; omega⟩
def spLaw (K : PySem.W.Frag) : Sp := fun vs H Q _ => ∃ (a : Addr) (ns : List Int), vs = [.ref a] ∧ SqL K H a (ns.map V.int) ∧ ns.length ≤ 63 ∧ ∀ H', Q (.bl true) H'
theorem ok_law (T : Top K mg) : FnG P w K mg base 30 T.f_law T.fd_law ["_law_script"] (spLaw K) := by
  have G__law_pen : FnOk P w K mg base CX0 (1) T.f__law_pen T.fd__law_pen ["_law_script"]  (sp_pen K) := ok__law_pen T
  have G__law_draw : FnOk P w K mg base CX0 (1) T.f__law_draw T.fd__law_draw ["_law_pen_here", "_law_number"]  sp_pdraw := ok__law_draw T
  have G__law_specs : FnOk P w K mg base CX0 (3) T.f__law_specs T.fd__law_specs ["_law_pen_here", "_law_limit"]  (sp_gspecs K) := ok__law_specs T
  have G__law_parts : FnOk P w K mg base CX0 (3) T.f__law_parts T.fd__law_parts ["_law_pen_here", "_law_specs_here"]  (sp_gparts K) := ok__law_parts T
  have G__law_inner : FnOk P w K mg base CX0 (1) T.f__law_inner T.fd__law_inner ["_law_specs_here"]  (sp_ginner K) := ok__law_inner T
  have G__law_written : FnOk P w K mg base CX0 (6) T.f__law_written T.fd__law_written ["_law_specs_here", "_law_parts_here"]  (fun vs H Q E => sp_gwrit K T.C_Far 3 vs H Q E ∨ sp_gwrit K T.C_Far 2 vs H Q E) := ok_or (ok__law_written T 3) (FnOk.mono (ok__law_written T 2) (by omega))
  have G__law_spots : FnOk P w K mg base CX0 (3) T.f__law_spots T.fd__law_spots ["_law_specs_here", "_law_parts_here"]  (sp_gspots K) := ok__law_spots T
  have G__law_place : FnOk P w K mg base CX0 (3) T.f__law_place T.fd__law_place ["_law_pen_here", "_law_rows", "_law_wide"]  (sp_gplace K) := ok__law_place T
  have G__law_lengths : FnOk P w K mg base CX0 (3) T.f__law_lengths T.fd__law_lengths ["_law_rows", "_law_behind"]  (sp_glens K) := ok__law_lengths T
  have G__law_less : FnOk P w K mg base CX0 (1) T.f__law_less T.fd__law_less ["_law_one", "_law_second"]  (sp_gless K) := ok__law_less T
  have G__law_plus : FnOk P w K mg base CX0 (1) T.f__law_plus T.fd__law_plus ["_law_one", "_law_second", "_law_times"]  (sp_gplus K) := ok__law_plus T
  have G__law_next : FnOk P w K mg base CX0 (2) T.f__law_next T.fd__law_next ["_law_rows", "_law_place_here", "_law_way"]  (sp_gnext K) := ok__law_next T
  have G__law_is_at : FnOk P w K mg base CX0 (26) T.f__law_is_at T.fd__law_is_at ["_law_inner_here", "_law_told", "_law_due"]  (sp_gisat K T.C_Far) := ok__law_is_at T
  have G_ones_below : FnOk P w K mg base CX0 (25) T.f_ones_below T.fd_ones_below ["x", "p"]  (sp_obG K T.C_Far fun n => n) := okG_ones_below T
  have G_zeros_below : FnOk P w K mg base CX0 (25) T.f_zeros_below T.fd_zeros_below ["x", "p"]  (sp_obG K T.C_Far fun n => -n - 1) := okG_zeros_below T
  have G_one_from : FnOk P w K mg base CX0 (26) T.f_one_from T.fd_one_from ["x", "p"]  (sp_ofG K T.C_Far fun n => n) := okG_one_from T
  have G_zero_from : FnOk P w K mg base CX0 (26) T.f_zero_from T.fd_zero_from ["x", "p"]  (sp_ofG K T.C_Far fun n => -n - 1) := okG_zero_from T
  have G_Far___init__ : FnOk P w K mg base CX0 28 T.f_Far___init__ T.fd_Far___init__ ["self", "value"] (fun vs H Q E => sp_initG K T.C_Far 4 4 vs H Q E ∨ sp_initG K T.C_Far 3 3 vs H Q E) := ok_or (ok_Far___init__G T 4 4 (by decide)) (FnOk.mono (ok_Far___init__G T 3 3 (by decide)) (by omega))
  have G_Far___getitem__ : FnOk P w K mg base CX0 (12) T.f_Far___getitem__ T.fd_Far___getitem__ ["self", "place"]  (sp_itemG K T.C_Far) := ok_Far___getitem__0 T
  have kb_zero_from := kb_of T.F_zero_from (ps := ["x", "p"]) (n := 0) (ks := ["p", "x"]) (g := fun _ ws => swpG ws) (gV := fun _ zs => swpG zs) (fun kV doc pm an cdv ct us ws h1 h2 => match us, h1, ws, h2 with | [], _, [_, _], _ => rfl) (fun _ r => swpG_vals r)
  refine funG T.F_law sc_law (fun vs H Q E h => ?_) (fun cdv A outer s H vs Q E hg hr h => ?_)
  · obtain ⟨a, ns, rfl, _⟩ := h
    rfl
  · obtain ⟨a, ns, rfl, hS, hl, q⟩ := h
    refine ⟨_, (pss_cons (ps_set (i := 1) sc_law.nd rfl (Or.inl rfl) (pe_call G__law_pen (hr.mono (by omega)) (by rfl) T.g__law_pen T.F__law_pen.kp T.b__law_pen .nil pass0 (pa_cons (pv 0) pa_nil)))
    (pss_cons (ps_set (i := 2) sc_law.nd rfl (Or.inl rfl) (pe_call G__law_specs (hr.mono (by omega)) (by rfl) T.g__law_specs T.F__law_specs.kp T.b__law_specs .nil pass0 (pa_cons (pv 1) (pa_cons (pe_op op_add pe_int (pe_call G__law_draw (hr.mono (by omega)) (by rfl) T.g__law_draw T.F__law_draw.kp T.b__law_draw .nil pass0 (pa_cons (pv 1) (pa_cons pe_int pa_nil)))) pa_nil))))
    (pss_cons (ps_par (i := 3) (j := 4) rfl sc_law.nd rfl rfl (by decide) rfl rfl (pa_cons (pe_call G__law_parts (hr.mono (by omega)) (by rfl) T.g__law_parts T.F__law_parts.kp T.b__law_parts .nil pass0 (pa_cons (pv 1) (pa_cons (pv 2) pa_nil))) (pa_cons (pe_call G__law_inner (hr.mono (by omega)) (by rfl) T.g__law_inner T.F__law_inner.kp T.b__law_inner .nil pass0 (pa_cons (pv 2) pa_nil)) pa_nil)) rfl)
    (pss_cons (ps_par (i := 5) (j := 6) rfl sc_law.nd rfl rfl (by decide) rfl rfl (pa_cons (pe_make T.Mk_Far G_Far___init__ (hr.mono (by omega)) (by rfl) T.g_Far T.b_Far___init__ .nil pass0 (pa_cons (pe_call G__law_written (hr.mono (by omega)) (by rfl) T.g__law_written T.F__law_written.kp T.b__law_written .nil pass0 (pa_cons (pv 2) (pa_cons (pv 3) pa_nil))) pa_nil)) (pa_cons (pe_call G__law_spots (hr.mono (by omega)) (by rfl) T.g__law_spots T.F__law_spots.kp T.b__law_spots .nil pass0 (pa_cons (pv 2) (pa_cons (pv 3) pa_nil))) pa_nil)) rfl)
    (pss_cons (ps_for PassesOwn.never rfl (pi_range1 (by rfl) T.m_range (pa_cons (pe_op op_add pe_int (pe_callB (call_min2 rfl) (by rfl) T.m_min (by decide +kernel) (pa_cons pe_int (pa_cons (pe_callB call_len_seq (by rfl) T.m_len PySem.boot_len (pa_cons (pv 0) pa_nil)) pa_nil)))) pa_nil)) (pg_name (i := 7) sc_law.nd rfl (Or.inl rfl))
      (pss_cons (ps_set (i := 8) sc_law.nd rfl (Or.inr rfl) (pe_call G__law_place (hr.mono (by omega)) (by rfl) T.g__law_place T.F__law_place.kp T.b__law_place .nil pass0 (pa_cons (pv 1) (pa_cons (pv 6) (pa_cons (pe_callB call_len_seq (by rfl) T.m_len PySem.boot_len (pa_cons (pv 2) pa_nil)) pa_nil)))))
      (pss_cons (ps_set (i := 9) sc_law.nd rfl (Or.inl rfl) (pe_make T.Mk_Far G_Far___init__ (hr.mono (by omega)) (by rfl) T.g_Far T.b_Far___init__ .nil pass0 (pa_cons (pe_call G__law_written (hr.mono (by omega)) (by rfl) T.g__law_written T.F__law_written.kp T.b__law_written .nil pass0 (pa_cons (pv 4) (pa_cons (pv 8) pa_nil))) pa_nil)))
      (pss_cons (ps_set (i := 10) sc_law.nd rfl (Or.inl rfl) (pe_call G__law_lengths (hr.mono (by omega)) (by rfl) T.g__law_lengths T.F__law_lengths.kp T.b__law_lengths .nil pass0 (pa_cons (pe_lc (own := [("_law_one", 11)]) (g := gName 11) (by rfl) sc_law.nd (pi_list (pv 6)) (blkOk_by (own := [("_law_one", 11)]) (N := ["_law_script", "_law_pen_here", "_law_specs_here", "_law_parts_here", "_law_inner_here", "_law_number", "_law_rows", "_law_again", "_law_place_here", "_law_spot", "_law_due", "_law_one", "_law_told"]) (sc := defScope s_law) (by decide +kernel)) (fun _ _ _ _ _ => (pg_name (i := 11) sc_law.nd rfl (Or.inl rfl))) (fun _ _ _ _ _ => pts_one (pt_val (pe_call G__law_less (hr.mono (by omega)) (by rfl) T.g__law_less T.F__law_less.kp T.b__law_less .nil pass0 (pa_cons (pv 11) (pa_cons (pv 8) pa_nil))) (fun _ => rfl))) (fun _ _ _ _ _ => (pv 11))) (pa_cons (pv 8) pa_nil))))
      (pss_cons (ps_set (i := 12) sc_law.nd rfl (Or.inl rfl) (pe_call G_ones_below (hr.mono (by omega)) (by rfl) T.g_ones_below T.F_ones_below.kp T.b_ones_below .nil pass0 (pa_cons (pv 5) (pa_cons (pv 9) pa_nil))))
      (pss_cons (ps_if (pt_not (pt_val (pe_call G__law_is_at (hr.mono (by omega)) (by rfl) T.g__law_is_at T.F__law_is_at.kp T.b__law_is_at .nil pass0 (pa_cons (pv 4) (pa_cons (pv 12) (pa_cons (pv 10) pa_nil)))) (fun _ => rfl)))
        (pss_one (ps_ret pe_bl))
        pss_nil)
      (pss_cons (ps_if (pt_not (pt_val (pe_call G__law_is_at (hr.mono (by omega)) (by rfl) T.g__law_is_at T.F__law_is_at.kp T.b__law_is_at .nil pass0 (pa_cons (pv 4) (pa_cons (pe_call G_zeros_below (hr.mono (by omega)) (by rfl) T.g_zeros_below T.F_zeros_below.kp T.b_zeros_below .nil pass0 (pa_cons (pv 5) (pa_cons (pv 9) pa_nil))) (pa_cons (pe_call G__law_plus (hr.mono (by omega)) (by rfl) T.g__law_plus T.F__law_plus.kp T.b__law_plus .nil pass0 (pa_cons (pv 8) (pa_cons (pv 10) (pa_cons (pe_un un_neg pe_int) pa_nil)))) pa_nil)))) (fun _ => rfl)))
        (pss_one (ps_ret pe_bl))
        pss_nil)
      (pss_cons (ps_if (pt_not (pt_val (pe_call G__law_is_at (hr.mono (by omega)) (by rfl) T.g__law_is_at T.F__law_is_at.kp T.b__law_is_at .nil pass0 (pa_cons (pv 4) (pa_cons (pe_call G_one_from (hr.mono (by omega)) (by rfl) T.g_one_from T.F_one_from.kp T.b_one_from .nil pass0 (pa_cons (pv 5) (pa_cons (pv 9) pa_nil))) (pa_cons (pe_call G__law_next (hr.mono (by omega)) (by rfl) T.g__law_next T.F__law_next.kp T.b__law_next .nil pass0 (pa_cons (pv 6) (pa_cons (pv 8) (pa_cons pe_int pa_nil)))) pa_nil)))) (fun _ => rfl)))
        (pss_one (ps_ret pe_bl))
        pss_nil)
      (pss_cons (ps_if (pt_not (pt_val (pe_call G__law_is_at (hr.mono (by omega)) (by rfl) T.g__law_is_at T.F__law_is_at.kp T.b__law_is_at .nil pass0 (pa_cons (pv 4) (pa_cons (pe_callN0 G_zero_from (hr.mono (by omega)) (by rfl) T.g_zero_from T.F_zero_from.kp kb_zero_from pass0 (pk_cons (pv 9) (pk_cons (pv 5) pk_nil))) (pa_cons (pe_call G__law_next (hr.mono (by omega)) (by rfl) T.g__law_next T.F__law_next.kp T.b__law_next .nil pass0 (pa_cons (pv 6) (pa_cons (pv 8) (pa_cons pe_int pa_nil)))) pa_nil)))) (fun _ => rfl)))
        (pss_one (ps_ret pe_bl))
        pss_nil)
      (pss_one (ps_if (pt_cmpR op_ne (RC.pe_ixOwn T.IT_Far G_Far___getitem__ (hr.mono (by omega)) T.b_Far___getitem__ pass0 (pv 5) (pv 9) (fun _ _ => rfl)) (pe_op op_mod (pe_callTy call_int1 (by rfl) T.m_int (by decide +kernel) (pa_cons (pe_callB call_len_seq (by rfl) T.m_len PySem.boot_len (pa_cons (pe_lc (own := [("_law_one", 11)]) (g := gName 11) (by rfl) sc_law.nd (pi_list (pv 6)) (blkOk_by (own := [("_law_one", 11)]) (N := ["_law_script", "_law_pen_here", "_law_specs_here", "_law_parts_here", "_law_inner_here", "_law_number", "_law_rows", "_law_again", "_law_place_here", "_law_spot", "_law_due", "_law_one", "_law_told"]) (sc := defScope s_law) (by decide +kernel)) (fun _ _ _ _ _ => (pg_name (i := 11) sc_law.nd rfl (Or.inl rfl))) (fun _ _ _ _ _ => pts_one (pt_not (pt_val (pe_call G__law_less (hr.mono (by omega)) (by rfl) T.g__law_less T.F__law_less.kp T.b__law_less .nil pass0 (pa_cons (pv 8) (pa_cons (pv 11) pa_nil))) (fun _ => rfl)))) (fun _ _ _ _ _ => (pv 11))) pa_nil)) pa_nil)) pe_int) (nomark _))
        (pss_one (ps_ret pe_bl))
        pss_nil)))))))))))
    (pss_one (ps_ret pe_bl))))))), ?_⟩
    refine ⟨_, rfl, a, ns, rfl, hS, hl, fun τ H1 sm1 np hT => ?_⟩
    dsimp only [gName]
    refine ⟨_, rfl, _, rfl, τ, _, 5, rfl, by decide, by decide, by omega, hT, fun y H2 y0 y1 t2 b2 => ?_⟩
    refine ⟨3, y, rfl, rfl, ?_⟩
    obtain ⟨m, rfl⟩ : ∃ m : Nat, y = m := ⟨y.toNat, by omega⟩
    refine ⟨τ, 1, 3 + m, congrArg (fun z => [V.ref τ.p, V.int z]) (by omega : (3 : Int) + (m : Nat) = ((3 + m : Nat) : Int)), by omega, by omega, t2, fun ls us ss ms fs H3 D hus nls hls t3 b3 => ?_⟩
    have hsl := hus.len
    have hsm : ss.length = ms.length := by
      rw [D.eq, List.length_zipWith, D.len]
      omega
    have hm4 := D.sz
    dsimp only [gName]
    refine ⟨_, rfl, _, rfl, τ, _, ls, us, rfl, by omega, t3, hls, by omega, fun lp p0 cs H4 h0 hc hcl nlp hlp t4 b4 => ?_⟩
    have hus4 : SpVs H4 us (List.zipWith Plc.far ms fs) := by
      rw [← D.eq]
      exact (hus.keep fun c xs z => b4 _ _ (t3.ne z fun kvs z => by cases z) z)
    have hls4 := b4 _ _ (t3.neL hls) hls
    dsimp only [gName]
    refine ⟨_, rfl, ls, us, ms, fs, rfl, hls4, hus4, D.len, by omega, fun li uis H5 hiv nli hli s5 => ?_⟩
    have G1 := drawn_grp D h0 hc (by omega)
    rw [D.eq] at G1
    refine ⟨_, _, rfl, ?_⟩
    refine ⟨_, rfl, _, rfl, .inl ⟨ls, lp, us, _, p0, cs, 7, rfl, s5 _ _ hls4, hus4.same s5, s5 _ _ hlp, G1, fun l1 ws1 ds1 H6 hl1 hG1 fA1 ev1 hw1 hd1 s6 => ?_⟩⟩
    obtain ⟨d, hgv, fd, ed, wd, dd⟩ := giv_written hl1 hG1 fA1 ev1 hw1 hd1
    refine fun an dx0 na nd ne => .inl (init_farG na nd ne hgv fd (by decide) fun H7 fan s7 => ?_)
    have s57 := s6.trans s7
    have hls7 := s57 _ _ (s5 _ _ hls4)
    refine ⟨_, rfl, _, rfl, ls, lp, us, ms, fs, p0, cs, 3, 7, rfl, hls7, (hus4.same s5).same s57, D.len, fun f hf => by have := D.few f hf; omega, s57 _ _ (s5 _ _ hlp), G1, fun lr ws R H8 hlr hR S nlr s8 => ?_⟩
    have sa4 := seq_but t3 b4 (seq_but t2 b3 (seq_but hT b2 (sm1.seq hS)))
    have s48 := (s5.trans s57).trans s8
    have k8 : Kp K T.C_Far τ a ls li lr an ns us uis ws ms R d 60 H8 := ⟨(t4.up s48).le (by omega), s48.seq sa4, s8 _ _ hls7, (s57.trans s8) _ _ hli, hiv.same (s57.trans s8), hlr, hR, fan.same s8⟩
    have hRl : R.length ≤ 35 := by
      have e1 : R.length = (turnsOf (gl (List.zipWith Plc.far ms fs) p0 cs)).length := by
        have := congrArg List.length S.val
        rw [List.length_map, List.length_map] at this
        exact this
      rw [e1]
      have b6 : Bw 6 p0 := by
        unfold Bw
        omega
      have h1 := grp_len G1
      have h2 := bit_few b6
      have e2 : (List.zipWith Plc.far ms fs).length = ss.length := by rw [← D.eq]
      rw [e2] at h1
      omega
    have hul : us.length = ms.length := by omega
    have S' : Spots ms R (turnsOf (val d)) := by rw [ed]; exact S
    clear S hus hus4 hiv hR hlr hgv hG1 hl1 G1 fA1 ev1 hw1 hd1
    refine ⟨_, _, rfl, ?_⟩
    refine ⟨_, rfl, a, _, rfl, .inl k8.sa, ?_⟩
    rw [List.length_map]
    refine ⟨2, (ns.length : Int), rfl, ?_⟩
    obtain ⟨N, hN, hN6⟩ : ∃ N : Int, N = (if (ns.length : Int) < 2 then (ns.length : Int) else 2) ∧ N ≤ 2 := ⟨_, rfl, by split <;> omega⟩
    rw [← hN]
    walk_at "r"
    refine flR (fun i σ H' => ∃ (z7 z8 z9 z10 z11 z12 : Option V), σ = [some (.ref a), some (.ref τ.p), some (.ref ls), some (.ref lp), some (.ref li), some (.ref an), some (.ref lr), z7, z8, z9, z10, z11, z12] ∧ Kp K T.C_Far τ a ls li lr an ns us uis ws ms R d (60 + 3 * i) H') ⟨none, none, none, none, none, none, rfl, k8⟩ ?_ ?_
    · rintro i σ H2 hi ⟨z7, z8, z9, z10, z11, z12, rfl, k2⟩ D' B
      have hi6 : i < 4 := by omega
      dsimp only [gName]
      refine ⟨_, rfl, _, rfl, _, rfl, ls, us, rfl, .inl (.inl (.inl k2.ls)), τ, 60 + 3 * i, lr, ws, R, ms.length, by rw [hul]; rfl, by omega, k2.pen, k2.lr, k2.rw, S'.len, S'.sm, by omega, by omega, fun lx xs H3 hlx hxl hxb hlex t3 b3 => ?_⟩
      have k3 := k2.but b3 t3
      have h0 : 0 ≤ eV ms xs := by
        have := row_less D.menu hxl (by simp : (List.replicate (ms.length + 1) (0 : Int)).length = ms.length + 1) (fun x h => by have := hxb x h; omega) (fun y hy => by rw [List.eq_of_mem_replicate hy]; decide)
        rw [hlex, evL_zero] at this
        have h2 := of_decide_eq_false this.symm
        show 0 ≤ evL _ xs
        omega
      match xs, hxl with
      | x0 :: rs, hxl =>
      have Gx := inner_grp D (r0 := x0) (rs := rs) (by have := hxb x0 (by simp); omega) (fun c hc => by have := hxb c (by simp [hc]); omega) (by simpa using hxl)
      dsimp only [gName]
      refine ⟨_, rfl, _, rfl, .inr ⟨li, lx, uis, ms, x0, rs, 15, rfl, k3.li, k3.iv, hlx, Gx, fun l1 ws1 ds1 H4 hl1 hG1 fA1 ev1 hw1 hd1 s4 => ?_⟩⟩
      obtain ⟨e, hgv, fe, ee, we, de⟩ := giv_written hl1 hG1 fA1 ev1 hw1 hd1
      refine fun ax dx0 na nd ne => .inr (init_farG na nd ne hgv fe (by decide) fun H5 fax s5 => ?_)
      rw [gl_row] at ee
      have s45 := s4.trans s5
      have k5 := k3.same s45
      have hlx5 := s45 _ _ hlx
      clear hgv hG1 hl1 fA1 ev1 hw1 hd1 Gx
      walk_at "r"
      refine ⟨⟨_, .inl (.inl k5.lr)⟩, fun D1 nD => lc_list (xs := ws) (fun j H' => Same H5 H' ∧ ∃ wj, H' D1 = some (.lst wj) ∧ RowsN (some D1) H' wj ((R.take j).filter fun r => HT.lexLt r.reverse (x0 :: rs).reverse)) ⟨sm_upd nD, [], upd_same, .nil⟩ ?_ ?_ ?_⟩
      · rintro j H' _ ⟨sm, _⟩
        exact .inl (.inl (sm _ _ k5.lr))
      · rintro j x H' hx ⟨sm, wj, eD, hj⟩
        have hjl := (List.getElem?_eq_some_iff.mp hx).1
        have hwl := k5.rw.1
        obtain ⟨r, hr0⟩ : ∃ r, R[j]? = some r := ⟨_, List.getElem?_eq_getElem (by omega)⟩
        obtain ⟨ar, rfl, _, har⟩ := k5.rw.2 j x r hx hr0
        have hrm := List.mem_of_getElem? hr0
        refine ⟨rfl, ?_⟩
        walk_at "r"
        refine ⟨ar, lx, r, x0 :: rs, rfl, sm _ _ har, sm _ _ hlx5, by rw [S'.len r hrm, hxl], fun H2 s2 => ?_⟩
        have smm := sm.trans s2
        have eD2 := s2 _ _ eD
        have hj2 := hj.same s2
        have hj1 := hj.1
        have hfl := filt_len (fun r => HT.lexLt r.reverse (x0 :: rs).reverse) R j
        rw [filt_snoc _ hr0]
        cases hle : HT.lexLt r.reverse (x0 :: rs).reverse
        · refine ⟨_, rfl, iteF ?_⟩
          refine ⟨smm, wj, eD2, ?_⟩
          rw [if_neg (by decide), List.append_nil]
          exact hj2
        · refine ⟨_, rfl, iteT ?_⟩
          refine ⟨_, rfl, ?_⟩
          refine ⟨wj, eD2, len_lt (by omega), sm_mut smm nD, wj ++ [.ref ar], upd_same, ?_⟩
          rw [if_pos rfl]
          refine (hj2.keep fun a' zs ha' z => ?_).app (.one (fun e => ne_of_none har nD (Option.some.inj e)) ?_)
          · rw [upd_ne (by simpa using ha')]
            exact z
          · rw [upd_ne (ne_of_none har nD)]
            exact smm _ _ har
      rintro H6 ⟨s6, w6, eD, h6⟩
      rw [List.take_of_length_le (by have := k5.rw.1; omega)] at h6
      have k6 := k5.same s6
      have hlx6 := s6 _ _ hlx5
      have fl1 := List.length_filter_le (fun r => HT.lexLt r.reverse (x0 :: rs).reverse) R
      have hxb' : ∀ x ∈ x0 :: rs, x.natAbs ≤ 90 := hxb
      refine ⟨_, rfl, D1, lx, w6, _, x0 :: rs, 90, rfl, eD, h6.free, fun r hr => by rw [S'.len r (List.mem_filter.mp hr).1, hxl], fun r hr x hx => by have := S'.sm r (List.mem_filter.mp hr).1 x hx; omega, hxb', hlx6, by rw [hxl]; omega, by omega, fun ld z H7 hld hzl hzb hzv s7 => ?_⟩
      have k7 := k6.same s7
      have hlx7 := s7 _ _ hlx6
      have fax7 := (fax.same s6).same s7
      have hzl' : z.length = ms.length + 1 := by rw [hzl, hxl]
      have hzb' : ∀ x ∈ z, x.natAbs ≤ 3300 := fun x hx => by
        have h1 := hzb x hx
        have h2 : ((R.filter fun r => HT.lexLt r.reverse (x0 :: rs).reverse).length + 1) * 90 ≤ 36 * 90 := Nat.mul_le_mul_right _ (by omega)
        omega
      have hdv := due_val (n := val d) D.menu S' hxl hxb' (z := z) (hzv _)
      have hKe : Ke e := row_ke D hxl (fun x hx => Nat.le_trans (hxb' x hx) (by decide)) fe ee
      clear hzv hzb hzl eD h6
      dsimp only [gName]
      refine ⟨_, rfl, _, rfl, .ref an, .ref ax, d, e, rfl, .inr ⟨an, rfl, k7.an⟩, wd, by omega, .inr ⟨ax, rfl, fax7⟩, by rw [ee]; exact h0, hKe, fun i f hi ff ef => runs_ke D S' hxl hxb' (by omega) i f (by rw [← ee]; exact hi) ff (by rw [← ee]; exact ef), fun a8 f H8 na8 ff ef fa8 s8 => ?_⟩
      have ef' : val f = eV ms z := by
        rw [ef, ee]
        exact hdv
      have k8 := k7.same s8
      dsimp only [gName]
      refine ⟨_, rfl, _, rfl, _, rfl, li, uis, ss, ms, fs, .ref a8, .ref ld, H7, some z, rfl, k8.li, k8.iv, D, fun r hr => by cases hr; exact ⟨hzl', fun x hx => Nat.le_trans (hzb' x hx) (by decide)⟩, by rw [Option.map_some, ← ef']; exact .far a8 f na8 ff fa8, ⟨ld, rfl, s8 _ _ hld⟩, fun H9 s9 => ?_⟩
      refine ⟨_, rfl, iteF ?_⟩
      have k9 := k8.same s9
      have s79 := s8.trans s9
      have hlx9 := s79 _ _ hlx7
      have hld9 := s79 _ _ hld
      have fax9 := fax7.same s79
      obtain ⟨R2, S2, hR2⟩ := spots_tog S'
      refine ⟨_, rfl, _, rfl, _, rfl, .ref an, .ref ax, d, e, rfl, .inr ⟨an, rfl, k9.an⟩, wd, by omega, .inr ⟨ax, rfl, fax9⟩, by rw [ee]; exact h0, hKe, fun i f hi ff ef => runs_ke D S2 hxl hxb' (by omega) i f (by rw [← ee]; exact hi) ff (by rw [← ee]; exact ef), fun a10 f2 H10 na10 ff2 ef2 fa10 s10 => ?_⟩
      have k10 := k9.same s10
      have ef2' : val f2 = eV ms (List.zipWith (fun x y => x + (-1) * y) (x0 :: rs) z) := by
        rw [ef2, ee]
        show altS (runsI (tI (-(val d) - 1)) (eV ms (x0 :: rs))) = _
        rw [runs_inv h0, hdv]
        show _ = evL _ _
        rw [evL_plus (-1) _ _ _ (by rw [hxl, hzl'])]
        show eV ms (x0 :: rs) - eV ms z = eV ms (x0 :: rs) + -1 * eV ms z
        omega
      have hpb := plus_bound (k := -1) (.inr rfl) hxb' hzb'
      refine ⟨_, rfl, _, rfl, 1, rfl, lx, ld, x0 :: rs, z, -1, rfl, s10 _ _ hlx9, s10 _ _ hld9, by rw [hxl, hzl'], by rw [hxl]; omega, by decide, fun lq H11 nlq hlq s11 => ?_⟩
      have k11 := k10.same s11
      refine ⟨li, uis, ss, ms, fs, .ref a10, .ref lq, H9, some _, rfl, k11.li, k11.iv, D, fun r hr => by cases hr; exact ⟨by rw [List.length_zipWith, hxl, hzl']; omega, fun x hx => Nat.le_trans (hpb x hx) (by decide)⟩, by rw [Option.map_some, ← ef2']; exact .far a10 f2 na10 ff2 (fa10.same s11), ⟨lq, rfl, hlq⟩, fun H12 s12 => ?_⟩
      refine ⟨_, rfl, iteF ?_⟩
      have k12 := k11.same s12
      have s912 := (s10.trans s11).trans s12
      have hlx12 := s912 _ _ hlx9
      have fax12 := fax9.same s912
      have n1 := next_one D.menu S' hxl hxb' h0
      have n0 := next_zero D.menu S' hxl hxb' h0
      refine ⟨_, rfl, _, rfl, _, rfl, .ref an, .ref ax, d, e, rfl, .inr ⟨an, rfl, k12.an⟩, wd, by omega, .inr ⟨ax, rfl, fax12⟩, by rw [ee]; exact h0, hKe, fun r f hr ff ef => next_ke D S' hxl hxb' 1 r f (by rw [← n1, ← ee]; exact hr) ff ef, fun u H13 hO s13 => ?_⟩
      have k13 := k12.same s13
      refine ⟨_, rfl, _, rfl, lr, lx, ws, R, x0 :: rs, 1, rfl, k13.lr, k13.rw, s13 _ _ hlx12, fun r hr => by rw [S'.len r hr, hxl], by omega, fun v H14 hv s14 => ?_⟩
      have k14 := k13.same s14
      refine ⟨li, uis, ss, ms, fs, u, v, H12, nextL R (x0 :: rs) 1, rfl, k14.li, k14.iv, D, next_in S' hxl hxb' 1, by rw [← n1, ← ee]; exact hO.fwd s14, hv, fun H15 s15 => ?_⟩
      refine ⟨_, rfl, iteF ?_⟩
      have k15 := k14.same s15
      have s1215 := (s13.trans s14).trans s15
      have hlx15 := s1215 _ _ hlx12
      have fax15 := fax12.same s1215
      refine ⟨_, rfl, _, rfl, _, rfl, rfl, rfl, .ref an, .ref ax, d, e, rfl, .inr ⟨an, rfl, k15.an⟩, wd, by omega, .inr ⟨ax, rfl, fax15⟩, by rw [ee]; exact h0, hKe, fun r f hr ff ef => next_ke D S' hxl hxb' 0 r f (by rw [← n0, ← ee]; exact hr) ff ef, fun u2 H16 hO2 s16 => ?_⟩
      have k16 := k15.same s16
      refine ⟨_, rfl, _, rfl, lr, lx, ws, R, x0 :: rs, 0, rfl, k16.lr, k16.rw, s16 _ _ hlx15, fun r hr => by rw [S'.len r hr, hxl], by omega, fun v2 H17 hv2 s17 => ?_⟩
      have k17 := k16.same s17
      refine ⟨li, uis, ss, ms, fs, u2, v2, H15, nextL R (x0 :: rs) 0, rfl, k17.li, k17.iv, D, next_in S' hxl hxb' 0, by rw [← n0, ← ee]; exact hO2.fwd s17, hv2, fun H18 s18 => ?_⟩
      refine ⟨_, rfl, iteF ?_⟩
      have k18 := k17.same s18
      have s1518 := (s16.trans s17).trans s18
      have hlx18 := s1518 _ _ hlx15
      have fax18 := fax15.same s1518
      obtain ⟨dxn, vn, f1, f2, f3⟩ := id k18.an
      refine ⟨_, rfl, _, rfl, an, dxn, _, rfl, f1, an, .ref ax, d, e, rfl, k18.an, .inr ⟨ax, rfl, fax18⟩, by rw [ee]; exact h0, by omega, by omega, fun H19 s19 => ?_⟩
      have k19 := k18.same s19
      have hlx19 := s19 _ _ hlx18
      refine ⟨_, rfl, _, rfl, ⟨_, .inl (.inl k19.lr)⟩, fun D2 nD => lc_list (xs := ws) (fun j H' => Same H19 H' ∧ ∃ wj, H' D2 = some (.lst wj) ∧ RowsN (some D2) H' wj ((R.take j).filter fun r => !HT.lexLt (x0 :: rs).reverse r.reverse)) ⟨sm_upd nD, [], upd_same, .nil⟩ ?_ ?_ ?_⟩
      · rintro j H' _ ⟨sm, _⟩
        exact .inl (.inl (sm _ _ k19.lr))
      · rintro j x H' hx ⟨sm, wj, eD, hj⟩
        have hjl := (List.getElem?_eq_some_iff.mp hx).1
        have hwl := k19.rw.1
        obtain ⟨r, hr0⟩ : ∃ r, R[j]? = some r := ⟨_, List.getElem?_eq_getElem (by omega)⟩
        obtain ⟨ar, rfl, _, har⟩ := k19.rw.2 j x r hx hr0
        have hrm := List.mem_of_getElem? hr0
        refine ⟨rfl, ?_⟩
        walk_at "r"
        refine ⟨lx, ar, x0 :: rs, r, rfl, sm _ _ hlx19, sm _ _ har, by rw [S'.len r hrm, hxl], fun H2 s2 => ?_⟩
        refine ⟨_, rfl, ?_⟩
        have smm := sm.trans s2
        have eD2 := s2 _ _ eD
        have hj2 := hj.same s2
        have hj1 := hj.1
        have hfl := filt_len (fun r => !HT.lexLt (x0 :: rs).reverse r.reverse) R j
        rw [filt_snoc _ hr0]
        cases hle : HT.lexLt (x0 :: rs).reverse r.reverse
        · refine iteT ?_
          refine ⟨_, rfl, ?_⟩
          refine ⟨wj, eD2, len_lt (by omega), sm_mut smm nD, wj ++ [.ref ar], upd_same, ?_⟩
          rw [if_pos (by first | rfl | (rw [hle]; rfl) | (rw [hle]))]
          refine (hj2.keep fun a' zs ha' z => ?_).app (.one (fun e => ne_of_none har nD (Option.some.inj e)) ?_)
          · rw [upd_ne (by simpa using ha')]
            exact z
          · rw [upd_ne (ne_of_none har nD)]
            exact smm _ _ har
        · refine iteF ?_
          refine ⟨smm, wj, eD2, ?_⟩
          rw [if_neg (by first | decide | simp [hle]), List.append_nil]
          exact hj2
      rintro H20 ⟨s20, w20, eD, h20⟩
      rw [List.take_of_length_le (by have := k19.rw.1; omega)] at h20
      have k20 := k19.same s20
      have hwl := h20.1
      refine ⟨D2, w20, rfl, .inl (.inl (.inl eD)), ?_⟩
      walk_at "r"
      have hb := bit_row (n := val d) D.menu S' hxl hxb' h0
      have key : V.int (PM.bi (tb (val d) (vl e))) = V.int (((w20.length : Nat) : Int) % 2) := by
        rw [show vl e = (eV ms (x0 :: rs)).toNat by rw [← ee]; rfl, hb, hwl]
        congr 1
        unfold PM.bi
        split
        · rename_i h
          have := of_decide_eq_true h
          omega
        · rename_i h
          have : ¬ _ := fun z => h (decide_eq_true z)
          omega
      rw [show (!decide (V.int (PM.bi (tb (val d) (vl e))) = (fun i j : Int => V.int (i % j)) ((w20.length : Nat) : Int) 2)) = false by rw [show decide (V.int (PM.bi (tb (val d) (vl e))) = (fun i j : Int => V.int (i % j)) ((w20.length : Nat) : Int) 2) = true from decide_eq_true key]; rfl]
      refine iteF ?_
      exact B.nx _ _ ⟨_, _, _, _, _, _, rfl, k20.le (by omega)⟩
    · rintro σ H2 ⟨z7, z8, z9, z10, z11, z12, rfl, k2⟩
      walk_at "r"
      exact q _
end
end K37
set_option Elab.async false
set_option linter.all false
set_option maxRecDepth 100000
namespace K37
open PySem PySem.Spec PyProof.Rows L2
theorem run_false (w : World) : HandSHeadRun.RunEq R qv hk ob 12000 names (fw w false) := fun os => HX.run_join (endR (fw w false) os) (lk (fw w false)) sq ob (PySem.W.openGood qv names) (HX.valK fnL erL) (run1_false w os) (run2_false w os) (run3_false w os) (run4_false w os)
theorem run_true (w : World) : HandSHeadRun.RunEq R qv hk ob 12000 names (fw w true) := fun os => HX.run_join (endR (fw w true) os) (lk (fw w true)) sq ob (PySem.W.openGood qv names) (HX.valK fnL erL) (run1_true w os) (run2_true w os) (run3_true w os) (run4_true w os)
theorem run (w : World) : HandSHeadRun.RunEq R qv hk ob 12000 names w := PySem.W.byRow2 "special-get-raises" run_false run_true w
set_option maxHeartbeats 8000000 in
theorem top_ex {K : PySem.W.Frag} {h : Heap} {mg : Str → Option Value} (X : K.In h) (G : h.Ns mainGlobals mg) (c : HX.SaysK faL fnL erL [] exL h K) : ∃ T : Top K mg, (∀ (s : Shared) (v : Value), BindsTo s T.fd_law ⟨[v], []⟩ [("_law_script", v)]) := by
  obtain ⟨x0, y0⟩ := He.ba (show (_ && _) = true from c.more)
  obtain ⟨x1, y1⟩ := He.ba (show (_ && _) = true from y0)
  obtain ⟨x2, y2⟩ := He.ba (show (_ && _) = true from y1)
  obtain ⟨x3, y3⟩ := He.ba (show (_ && _) = true from y2)
  obtain ⟨fd0, D0⟩ := c.d.def_ 0 (d := dd_turns_of_int) rfl
  have F0 : Fun K "turns_of_int" "turns_of_int" s_turns_of_int _ fd0 := He5.fun_of D0
  have b0 := F0.binds (ps := ["number"]) fun _ _ _ _ _ _ us hl => match us, hl with | [_], _ => rfl
  obtain ⟨fd1, D1⟩ := c.d.def_ 1 (d := dd_turns) rfl
  have F1 : Fun K "turns" "turns" s_turns _ fd1 := He5.fun_of D1
  have b1 := F1.binds (ps := ["x"]) fun _ _ _ _ _ _ us hl => match us, hl with | [_], _ => rfl
  obtain ⟨fd2, D2⟩ := c.d.def_ 2 (d := dd_made) rfl
  have F2 : Fun K "made" "made" s_made _ fd2 := He5.fun_of D2
  have b2 := F2.binds (ps := ["found"]) fun _ _ _ _ _ _ us hl => match us, hl with | [_], _ => rfl
  obtain ⟨fd3, D3⟩ := c.d.def_ 3 (d := dd_of_int) rfl
  have F3 : Fun K "of_int" "of_int" s_of_int _ fd3 := He5.fun_of D3
  have b3 := F3.binds (ps := ["number"]) fun _ _ _ _ _ _ us hl => match us, hl with | [_], _ => rfl
  obtain ⟨fd4, D4⟩ := c.d.def_ 4 (d := dd_negative) rfl
  have F4 : Fun K "negative" "negative" s_negative _ fd4 := He5.fun_of D4
  have b4 := F4.binds (ps := ["x"]) fun _ _ _ _ _ _ us hl => match us, hl with | [_], _ => rfl
  obtain ⟨fd5, D5⟩ := c.d.def_ 5 (d := dd_order) rfl
  have F5 : Fun K "order" "order" s_order _ fd5 := He5.fun_of D5
  have b5 := F5.binds (ps := ["x", "y"]) fun _ _ _ _ _ _ us hl => match us, hl with | [_, _], _ => rfl
  obtain ⟨fd6, D6⟩ := c.d.def_ 6 (d := dd_bit) rfl
  have F6 : Fun K "bit" "bit" s_bit _ fd6 := He5.fun_of D6
  have b6 := F6.binds (ps := ["x", "place"]) fun _ _ _ _ _ _ us hl => match us, hl with | [_, _], _ => rfl
  obtain ⟨fd7, D7⟩ := c.d.def_ 7 (d := dd_merged) rfl
  have F7 : Fun K "merged" "merged" s_merged _ fd7 := He5.fun_of D7
  have b7 := F7.binds (ps := ["ours", "theirs"]) fun _ _ _ _ _ _ us hl => match us, hl with | [_, _], _ => rfl
  obtain ⟨fd8, D8⟩ := c.d.def_ 8 (d := dd_combined) rfl
  have F8 : Fun K "combined" "combined" s_combined _ fd8 := He5.fun_of D8
  have b8 := F8.binds (ps := ["x", "y", "table"]) fun _ _ _ _ _ _ us hl => match us, hl with | [_, _, _], _ => rfl
  obtain ⟨fd9, D9⟩ := c.d.def_ 9 (d := dd_toggled) rfl
  have F9 : Fun K "toggled" "toggled" s_toggled _ fd9 := He5.fun_of D9
  have b9 := F9.binds (ps := ["found", "place"]) fun _ _ _ _ _ _ us hl => match us, hl with | [_, _], _ => rfl
  obtain ⟨fd10, D10⟩ := c.d.def_ 10 (d := dd_plus_one) rfl
  have F10 : Fun K "plus_one" "plus_one" s_plus_one _ fd10 := He5.fun_of D10
  have b10 := F10.binds (ps := ["x"]) fun _ _ _ _ _ _ us hl => match us, hl with | [_], _ => rfl
  obtain ⟨fd11, D11⟩ := c.d.def_ 11 (d := dd_inverted) rfl
  have F11 : Fun K "inverted" "inverted" s_inverted _ fd11 := He5.fun_of D11
  have b11 := F11.binds (ps := ["x"]) fun _ _ _ _ _ _ us hl => match us, hl with | [_], _ => rfl
  obtain ⟨fd12, D12⟩ := c.d.def_ 12 (d := dd_negated) rfl
  have F12 : Fun K "negated" "negated" s_negated _ fd12 := He5.fun_of D12
  have b12 := F12.binds (ps := ["x"]) fun _ _ _ _ _ _ us hl => match us, hl with | [_], _ => rfl
  obtain ⟨fd13, D13⟩ := c.d.def_ 13 (d := dd_total) rfl
  have F13 : Fun K "total" "total" s_total _ fd13 := He5.fun_of D13
  have b13 := F13.binds (ps := ["x", "y", "carry"]) fun _ _ _ _ _ _ us hl => match us, hl with | [_, _, _], _ => rfl
  obtain ⟨fd14, D14⟩ := c.d.def_ 14 (d := dd_minus) rfl
  have F14 : Fun K "minus" "minus" s_minus _ fd14 := He5.fun_of D14
  have b14 := F14.binds (ps := ["x", "y"]) fun _ _ _ _ _ _ us hl => match us, hl with | [_, _], _ => rfl
  obtain ⟨fd15, D15⟩ := c.d.def_ 15 (d := dd_power_of_two) rfl
  have F15 : Fun K "power_of_two" "power_of_two" s_power_of_two _ fd15 := He5.fun_of D15
  have b15 := F15.binds (ps := ["place"]) fun _ _ _ _ _ _ us hl => match us, hl with | [_], _ => rfl
  obtain ⟨fd16, D16⟩ := c.d.def_ 16 (d := dd_size) rfl
  have F16 : Fun K "size" "size" s_size _ fd16 := He5.fun_of D16
  have b16 := F16.binds (ps := ["x"]) fun _ _ _ _ _ _ us hl => match us, hl with | [_], _ => rfl
  obtain ⟨fd17, D17⟩ := c.d.def_ 17 (d := dd_height) rfl
  have F17 : Fun K "height" "height" s_height _ fd17 := He5.fun_of D17
  have b17 := F17.binds (ps := ["x"]) fun _ _ _ _ _ _ us hl => match us, hl with | [_], _ => rfl
  obtain ⟨fd18, D18⟩ := c.d.def_ 18 (d := dd_kept) rfl
  have F18 : Fun K "kept" "kept" s_kept _ fd18 := He5.fun_of D18
  have b18 := F18.binds (ps := ["x"]) fun _ _ _ _ _ _ us hl => match us, hl with | [_], _ => rfl
  obtain ⟨fd19, D19⟩ := c.d.def_ 19 (d := dd_order_of) rfl
  have F19 : Fun K "order_of" "order_of" s_order_of _ fd19 := He5.fun_of D19
  have b19 := F19.binds (ps := ["x", "y"]) fun _ _ _ _ _ _ us hl => match us, hl with | [_, _], _ => rfl
  obtain ⟨fd20, D20⟩ := c.d.def_ 20 (d := dd_bit_of) rfl
  have F20 : Fun K "bit_of" "bit_of" s_bit_of _ fd20 := He5.fun_of D20
  have b20 := F20.binds (ps := ["x", "p"]) fun _ _ _ _ _ _ us hl => match us, hl with | [_, _], _ => rfl
  obtain ⟨fd21, D21⟩ := c.d.def_ 21 (d := dd_is_int) rfl
  have F21 : Fun K "is_int" "is_int" s_is_int _ fd21 := He5.fun_of D21
  have b21 := F21.binds (ps := ["value"]) fun _ _ _ _ _ _ us hl => match us, hl with | [_], _ => rfl
  obtain ⟨fd22, D22⟩ := c.d.def_ 22 (d := dd_row_form) rfl
  have F22 : Fun K "row_form" "row_form" s_row_form _ fd22 := He5.fun_of D22
  have b22 := F22.binds (ps := ["members"]) fun _ _ _ _ _ _ us hl => match us, hl with | [_], _ => rfl
  obtain ⟨fd23, D23⟩ := c.d.def_ 23 (d := dd_given_form) rfl
  have F23 : Fun K "given_form" "given_form" s_given_form _ fd23 := He5.fun_of D23
  have b23 := F23.binds (ps := ["value"]) fun _ _ _ _ _ _ us hl => match us, hl with | [_], _ => rfl
  obtain ⟨fd24, D24⟩ := c.d.def_ 24 (d := dd_operand) rfl
  have F24 : Fun K "operand" "operand" s_operand _ fd24 := He5.fun_of D24
  have b24 := F24.binds (ps := ["value"]) fun _ _ _ _ _ _ us hl => match us, hl with | [_], _ => rfl
  obtain ⟨fd25, D25⟩ := c.d.def_ 25 (d := dd_number_form) rfl
  have F25 : Fun K "number_form" "number_form" s_number_form _ fd25 := He5.fun_of D25
  have b25 := F25.binds (ps := ["value"]) fun _ _ _ _ _ _ us hl => match us, hl with | [_], _ => rfl
  obtain ⟨fd26, D26⟩ := c.d.def_ 26 (d := dd_place_form) rfl
  have F26 : Fun K "place_form" "place_form" s_place_form _ fd26 := He5.fun_of D26
  have b26 := F26.binds (ps := ["value"]) fun _ _ _ _ _ _ us hl => match us, hl with | [_], _ => rfl
  obtain ⟨fd27, D27⟩ := c.d.def_ 27 (d := dd_sum_of_ones) rfl
  have F27 : Fun K "sum_of_ones" "sum_of_ones" s_sum_of_ones _ fd27 := He5.fun_of D27
  have b27 := F27.binds (ps := ["rows"]) fun _ _ _ _ _ _ us hl => match us, hl with | [_], _ => rfl
  obtain ⟨fd28, D28⟩ := c.d.def_ 28 (d := dd_count_below) rfl
  have F28 : Fun K "count_below" "count_below" s_count_below _ fd28 := He5.fun_of D28
  have b28 := F28.binds (ps := ["x", "place"]) fun _ _ _ _ _ _ us hl => match us, hl with | [_, _], _ => rfl
  obtain ⟨fd29, D29⟩ := c.d.def_ 29 (d := dd_one_at_or_after) rfl
  have F29 : Fun K "one_at_or_after" "one_at_or_after" s_one_at_or_after _ fd29 := He5.fun_of D29
  have b29 := F29.binds (ps := ["x", "place"]) fun _ _ _ _ _ _ us hl => match us, hl with | [_, _], _ => rfl
  obtain ⟨fd30, D30⟩ := c.d.def_ 30 (d := dd_far_or_none) rfl
  have F30 : Fun K "far_or_none" "far_or_none" s_far_or_none _ fd30 := He5.fun_of D30
  have b30 := F30.binds (ps := ["form"]) fun _ _ _ _ _ _ us hl => match us, hl with | [_], _ => rfl
  obtain ⟨fd31, D31⟩ := c.d.def_ 31 (d := dd_ones_below) rfl
  have F31 : Fun K "ones_below" "ones_below" s_ones_below _ fd31 := He5.fun_of D31
  have b31 := F31.binds (ps := ["x", "p"]) fun _ _ _ _ _ _ us hl => match us, hl with | [_, _], _ => rfl
  obtain ⟨fd32, D32⟩ := c.d.def_ 32 (d := dd_zeros_below) rfl
  have F32 : Fun K "zeros_below" "zeros_below" s_zeros_below _ fd32 := He5.fun_of D32
  have b32 := F32.binds (ps := ["x", "p"]) fun _ _ _ _ _ _ us hl => match us, hl with | [_, _], _ => rfl
  obtain ⟨fd33, D33⟩ := c.d.def_ 33 (d := dd_one_from) rfl
  have F33 : Fun K "one_from" "one_from" s_one_from _ fd33 := He5.fun_of D33
  have b33 := F33.binds (ps := ["x", "p"]) fun _ _ _ _ _ _ us hl => match us, hl with | [_, _], _ => rfl
  obtain ⟨fd34, D34⟩ := c.d.def_ 34 (d := dd_zero_from) rfl
  have F34 : Fun K "zero_from" "zero_from" s_zero_from _ fd34 := He5.fun_of D34
  have b34 := F34.binds (ps := ["x", "p"]) fun _ _ _ _ _ _ us hl => match us, hl with | [_, _], _ => rfl
  obtain ⟨fd35, D35⟩ := c.d.def_ 35 (d := dd__law_pen) rfl
  have F35 : Fun K "_law_pen" "_law_pen" s__law_pen _ fd35 := He5.fun_of D35
  have b35 := F35.binds (ps := ["_law_script"]) fun _ _ _ _ _ _ us hl => match us, hl with | [_], _ => rfl
  obtain ⟨fd36, D36⟩ := c.d.def_ 36 (d := dd__law_draw) rfl
  have F36 : Fun K "_law_draw" "_law_draw" s__law_draw _ fd36 := He5.fun_of D36
  have b36 := F36.binds (ps := ["_law_pen_here", "_law_number"]) fun _ _ _ _ _ _ us hl => match us, hl with | [_, _], _ => rfl
  obtain ⟨fd37, D37⟩ := c.d.def_ 37 (d := dd__law_pick) rfl
  have F37 : Fun K "_law_pick" "_law_pick" s__law_pick _ fd37 := He5.fun_of D37
  have b37 := F37.binds (ps := ["_law_pen_here", "_law_items"]) fun _ _ _ _ _ _ us hl => match us, hl with | [_, _], _ => rfl
  obtain ⟨fd38, D38⟩ := c.d.def_ 38 (d := dd__law_turns) rfl
  have F38 : Fun K "_law_turns" "_law_turns" s__law_turns _ fd38 := He5.fun_of D38
  have b38 := F38.binds (ps := ["_law_number"]) fun _ _ _ _ _ _ us hl => match us, hl with | [_], _ => rfl
  obtain ⟨fd39, D39⟩ := c.d.def_ 39 (d := dd__law_row) rfl
  have F39 : Fun K "_law_row" "_law_row" s__law_row _ fd39 := He5.fun_of D39
  have b39 := F39.binds (ps := ["_law_spec", "_law_more"]) fun _ _ _ _ _ _ us hl => match us, hl with | [_, _], _ => rfl
  obtain ⟨fd40, D40⟩ := c.d.def_ 40 (d := dd__law_written) rfl
  have F40 : Fun K "_law_written" "_law_written" s__law_written _ fd40 := He5.fun_of D40
  have b40 := F40.binds (ps := ["_law_specs_here", "_law_parts_here"]) fun _ _ _ _ _ _ us hl => match us, hl with | [_, _], _ => rfl
  obtain ⟨fd41, D41⟩ := c.d.def_ 41 (d := dd__law_specs) rfl
  have F41 : Fun K "_law_specs" "_law_specs" s__law_specs _ fd41 := He5.fun_of D41
  have b41 := F41.binds (ps := ["_law_pen_here", "_law_limit"]) fun _ _ _ _ _ _ us hl => match us, hl with | [_, _], _ => rfl
  obtain ⟨fd42, D42⟩ := c.d.def_ 42 (d := dd__law_parts) rfl
  have F42 : Fun K "_law_parts" "_law_parts" s__law_parts _ fd42 := He5.fun_of D42
  have b42 := F42.binds (ps := ["_law_pen_here", "_law_specs_here"]) fun _ _ _ _ _ _ us hl => match us, hl with | [_, _], _ => rfl
  obtain ⟨fd43, D43⟩ := c.d.def_ 43 (d := dd__law_spots) rfl
  have F43 : Fun K "_law_spots" "_law_spots" s__law_spots _ fd43 := He5.fun_of D43
  have b43 := F43.binds (ps := ["_law_specs_here", "_law_parts_here"]) fun _ _ _ _ _ _ us hl => match us, hl with | [_, _], _ => rfl
  obtain ⟨fd44, D44⟩ := c.d.def_ 44 (d := dd__law_plus) rfl
  have F44 : Fun K "_law_plus" "_law_plus" s__law_plus _ fd44 := He5.fun_of D44
  have b44 := F44.binds (ps := ["_law_one", "_law_second", "_law_times"]) fun _ _ _ _ _ _ us hl => match us, hl with | [_, _, _], _ => rfl
  obtain ⟨fd45, D45⟩ := c.d.def_ 45 (d := dd__law_less) rfl
  have F45 : Fun K "_law_less" "_law_less" s__law_less _ fd45 := He5.fun_of D45
  have b45 := F45.binds (ps := ["_law_one", "_law_second"]) fun _ _ _ _ _ _ us hl => match us, hl with | [_, _], _ => rfl
  obtain ⟨fd46, D46⟩ := c.d.def_ 46 (d := dd__law_lengths) rfl
  have F46 : Fun K "_law_lengths" "_law_lengths" s__law_lengths _ fd46 := He5.fun_of D46
  have b46 := F46.binds (ps := ["_law_rows", "_law_behind"]) fun _ _ _ _ _ _ us hl => match us, hl with | [_, _], _ => rfl
  obtain ⟨fd47, D47⟩ := c.d.def_ 47 (d := dd__law_inner) rfl
  have F47 : Fun K "_law_inner" "_law_inner" s__law_inner _ fd47 := He5.fun_of D47
  have b47 := F47.binds (ps := ["_law_specs_here"]) fun _ _ _ _ _ _ us hl => match us, hl with | [_], _ => rfl
  obtain ⟨fd48, D48⟩ := c.d.def_ 48 (d := dd__law_place) rfl
  have F48 : Fun K "_law_place" "_law_place" s__law_place _ fd48 := He5.fun_of D48
  have b48 := F48.binds (ps := ["_law_pen_here", "_law_rows", "_law_wide"]) fun _ _ _ _ _ _ us hl => match us, hl with | [_, _, _], _ => rfl
  obtain ⟨fd49, D49⟩ := c.d.def_ 49 (d := dd__law_next) rfl
  have F49 : Fun K "_law_next" "_law_next" s__law_next _ fd49 := He5.fun_of D49
  have b49 := F49.binds (ps := ["_law_rows", "_law_place_here", "_law_way"]) fun _ _ _ _ _ _ us hl => match us, hl with | [_, _, _], _ => rfl
  obtain ⟨fd50, D50⟩ := c.d.def_ 50 (d := dd__law_is_at) rfl
  have F50 : Fun K "_law_is_at" "_law_is_at" s__law_is_at _ fd50 := He5.fun_of D50
  have b50 := F50.binds (ps := ["_law_inner_here", "_law_told", "_law_due"]) fun _ _ _ _ _ _ us hl => match us, hl with | [_, _, _], _ => rfl
  obtain ⟨fd51, D51⟩ := c.d.def_ 51 (d := dd_law) rfl
  have F51 : Fun K "law" "law" s_law _ fd51 := He5.fun_of D51
  have b51 := F51.binds (ps := ["_law_script"]) fun _ _ _ _ _ _ us hl => match us, hl with | [_], _ => rfl
  obtain ⟨fd52, D52⟩ := c.d.def_ 52 (d := dd_Far___init__) rfl
  have F52 : FunD K "__init__" "Far.__init__" (defArgs s_Far___init__) (defBody s_Far___init__) (defScope s_Far___init__) [.int (0)] [] (He.fAd K ("Far", some "__init__")) fd52 := D52
  have b52 := HX.binds_nil (F52.binds1 (ps := ["self", "value"]) 2 1 (by simp) rfl fun _ _ _ _ _ _ _ us its hl hl2 => match us, hl, its, hl2 with | [_, _], _, [_], _ => ⟨_, rfl, rfl⟩)
  obtain ⟨ds52, dv52, bd52⟩ := F52.binds1 (ps := ["self", "value"]) 1 0 (by simp) rfl fun _ _ _ _ _ _ _ us its hl hl2 => match us, hl, its, hl2 with | [_], _, [_], _ => ⟨_, rfl, rfl⟩
  obtain ⟨fd53, D53⟩ := c.d.def_ 53 (d := dd_Far___eq__) rfl
  have F53 : Fun K "__eq__" "Far.__eq__" s_Far___eq__ _ fd53 := He5.fun_of D53
  have b53 := F53.binds (ps := ["self", "other"]) fun _ _ _ _ _ _ us hl => match us, hl with | [_, _], _ => rfl
  obtain ⟨fd54, D54⟩ := c.d.def_ 54 (d := dd_Far___getitem__) rfl
  have F54 : Fun K "__getitem__" "Far.__getitem__" s_Far___getitem__ _ fd54 := He5.fun_of D54
  have b54 := F54.binds (ps := ["self", "place"]) fun _ _ _ _ _ _ us hl => match us, hl with | [_, _], _ => rfl
  obtain ⟨t_LAST_PLAIN_TURN, c_LAST_PLAIN_TURN⟩ := He.int_ok X G (c.d.fact 52 (f := .int "LAST_PLAIN_TURN" (64)) rfl)
  obtain ⟨t_PLAIN_LEAST, c_PLAIN_LEAST⟩ := He.int_ok X G (c.d.fact 53 (f := .int "PLAIN_LEAST" (-18446744073709551616)) rfl)
  obtain ⟨t_PLAIN_MOST, c_PLAIN_MOST⟩ := He.int_ok X G (c.d.fact 54 (f := .int "PLAIN_MOST" (18446744073709551615)) rfl)
  obtain ⟨t_MOST_HEIGHT, c_MOST_HEIGHT⟩ := He.int_ok X G (c.d.fact 55 (f := .int "MOST_HEIGHT" (6)) rfl)
  obtain ⟨t_MOST_SIZE, c_MOST_SIZE⟩ := He.int_ok X G (c.d.fact 56 (f := .int "MOST_SIZE" (2000)) rfl)
  have bl := FunD.bindsA (ps := ["_law_script"]) D51 fun _ _ _ _ _ _ us hl => match us, hl with | [_], _ => rfl
  exact ⟨⟨_, _, F0, He.glo_ok X G (c.d.fact 0 (f := .glo "turns_of_int") rfl), b0, _, _, F1, He.glo_ok X G (c.d.fact 1 (f := .glo "turns_raw") rfl), b1, _, _, F2, He.glo_ok X G (c.d.fact 2 (f := .glo "made") rfl), b2, _, _, F3, He.glo_ok X G (c.d.fact 3 (f := .glo "of_int") rfl), b3, _, _, F4, He.glo_ok X G (c.d.fact 4 (f := .glo "negative") rfl), b4, _, _, F5, He.glo_ok X G (c.d.fact 5 (f := .glo "order") rfl), b5, _, _, F6, He.glo_ok X G (c.d.fact 6 (f := .glo "bit") rfl), b6, _, _, F7, He.glo_ok X G (c.d.fact 7 (f := .glo "merged") rfl), b7, _, _, F8, He.glo_ok X G (c.d.fact 8 (f := .glo "combined") rfl), b8, _, _, F9, He.glo_ok X G (c.d.fact 9 (f := .glo "toggled") rfl), b9, _, _, F10, He.glo_ok X G (c.d.fact 10 (f := .glo "plus_one") rfl), b10, _, _, F11, He.glo_ok X G (c.d.fact 11 (f := .glo "inverted") rfl), b11, _, _, F12, He.glo_ok X G (c.d.fact 12 (f := .glo "negated") rfl), b12, _, _, F13, He.glo_ok X G (c.d.fact 13 (f := .glo "total") rfl), b13, _, _, F14, He.glo_ok X G (c.d.fact 14 (f := .glo "minus") rfl), b14, _, _, F15, He.glo_ok X G (c.d.fact 15 (f := .glo "power_of_two") rfl), b15, _, _, F16, He.glo_ok X G (c.d.fact 16 (f := .glo "size") rfl), b16, _, _, F17, He.glo_ok X G (c.d.fact 17 (f := .glo "height") rfl), b17, _, _, F18, He.glo_ok X G (c.d.fact 18 (f := .glo "kept") rfl), b18, _, _, F19, He.glo_ok X G (c.d.fact 19 (f := .glo "order_of") rfl), b19, _, _, F20, He.glo_ok X G (c.d.fact 20 (f := .glo "bit_of") rfl), b20, _, _, F21, He.glo_ok X G (c.d.fact 21 (f := .glo "is_int") rfl), b21, _, _, F22, He.glo_ok X G (c.d.fact 22 (f := .glo "row_form") rfl), b22, _, _, F23, He.glo_ok X G (c.d.fact 23 (f := .glo "given_form") rfl), b23, _, _, F24, He.glo_ok X G (c.d.fact 24 (f := .glo "operand") rfl), b24, _, _, F25, He.glo_ok X G (c.d.fact 25 (f := .glo "number_form") rfl), b25, _, _, F26, He.glo_ok X G (c.d.fact 26 (f := .glo "place_form") rfl), b26, _, _, F27, He.glo_ok X G (c.d.fact 27 (f := .glo "sum_of_ones") rfl), b27, _, _, F28, He.glo_ok X G (c.d.fact 28 (f := .glo "count_below") rfl), b28, _, _, F29, He.glo_ok X G (c.d.fact 29 (f := .glo "one_at_or_after") rfl), b29, _, _, F30, He.glo_ok X G (c.d.fact 30 (f := .glo "far_or_none") rfl), b30, _, _, F31, He.glo_ok X G (c.d.fact 31 (f := .glo "ones_below") rfl), b31, _, _, F32, He.glo_ok X G (c.d.fact 32 (f := .glo "zeros_below") rfl), b32, _, _, F33, He.glo_ok X G (c.d.fact 33 (f := .glo "one_from") rfl), b33, _, _, F34, He.glo_ok X G (c.d.fact 34 (f := .glo "zero_from") rfl), b34, _, _, F35, He.glo_ok X G (c.d.fact 35 (f := .glo "_law_pen") rfl), b35, _, _, F36, He.glo_ok X G (c.d.fact 36 (f := .glo "_law_draw") rfl), b36, _, _, F37, He.glo_ok X G (c.d.fact 37 (f := .glo "_law_pick") rfl), b37, _, _, F38, He.glo_ok X G (c.d.fact 38 (f := .glo "_law_turns") rfl), b38, _, _, F39, He.glo_ok X G (c.d.fact 39 (f := .glo "_law_row") rfl), b39, _, _, F40, He.glo_ok X G (c.d.fact 40 (f := .glo "_law_written") rfl), b40, _, _, F41, He.glo_ok X G (c.d.fact 41 (f := .glo "_law_specs") rfl), b41, _, _, F42, He.glo_ok X G (c.d.fact 42 (f := .glo "_law_parts") rfl), b42, _, _, F43, He.glo_ok X G (c.d.fact 43 (f := .glo "_law_spots") rfl), b43, _, _, F44, He.glo_ok X G (c.d.fact 44 (f := .glo "_law_plus") rfl), b44, _, _, F45, He.glo_ok X G (c.d.fact 45 (f := .glo "_law_less") rfl), b45, _, _, F46, He.glo_ok X G (c.d.fact 46 (f := .glo "_law_lengths") rfl), b46, _, _, F47, He.glo_ok X G (c.d.fact 47 (f := .glo "_law_inner") rfl), b47, _, _, F48, He.glo_ok X G (c.d.fact 48 (f := .glo "_law_place") rfl), b48, _, _, F49, He.glo_ok X G (c.d.fact 49 (f := .glo "_law_next") rfl), b49, _, _, F50, He.glo_ok X G (c.d.fact 50 (f := .glo "_law_is_at") rfl), b50, _, _, F51, He.glo_ok X G (c.d.fact 51 (f := .glo "law") rfl), b51, _, _, F52, ds52, dv52, bd52, b52, _, _, F53, b53, _, _, F54, b54, t_LAST_PLAIN_TURN, c_LAST_PLAIN_TURN, t_PLAIN_LEAST, c_PLAIN_LEAST, t_PLAIN_MOST, c_PLAIN_MOST, t_MOST_HEIGHT, c_MOST_HEIGHT, t_MOST_SIZE, c_MOST_SIZE, He.ga K "Far", He.glo_ok X G (c.d.fact 57 (f := .glo "Far") rfl), He.cls_ok (c.d.fact 58 (f := .cls "Far") rfl), He.noat_ok (c.d.fact 59 (f := .noat "Far" "own_form") rfl), He.mkr_ok (c.d.fact 60 (f := .mkr "Far") rfl), He.meth_ok (c.d.fact 61 (f := .meth "Far" "__eq__") rfl), He.meth_ok (c.d.fact 62 (f := .meth "Far" "__getitem__") rfl), HX.cmpB_ok x0, HX.neB_ok x1, RC.itB_ok x2, HX.isiB_ok x3, He.free_ok X G (c.d.fact 63 (f := .free "bool") rfl), He.free_ok X G (c.d.fact 64 (f := .free "enumerate") rfl), He.free_ok X G (c.d.fact 65 (f := .free "int") rfl), He.free_ok X G (c.d.fact 66 (f := .free "isinstance") rfl), He.free_ok X G (c.d.fact 67 (f := .free "len") rfl), He.free_ok X G (c.d.fact 68 (f := .free "list") rfl), He.free_ok X G (c.d.fact 69 (f := .free "max") rfl), He.free_ok X G (c.d.fact 70 (f := .free "min") rfl), He.free_ok X G (c.d.fact 71 (f := .free "range") rfl), He.free_ok X G (c.d.fact 72 (f := .free "sum") rfl), He.free_ok X G (c.d.fact 73 (f := .free "tuple") rfl)⟩, fun s v => bl s [v] rfl⟩
end K37
open PySem PySem.W PySem.Calls PyProof.Rows
set_option maxHeartbeats 0 in
theorem PySem.Challenge.cw_farbits_k37_whole_ranks_at_far_places_holds : PySem.Challenge.rw_farbits_k37_whole_ranks_at_far_places.Holds := by
  w_on; o_law
  refine HandSHeadRun.head_any (r := OpenLaw.row PySem.Challenge.rw_farbits_k37_whole_ranks_at_far_places) (q := K37.qv) (H := K37.hk) (ob := K37.ob) (M := 12000) (loose := K37.names) (d := HandSHeadRun.topDef (OpenLaw.row PySem.Challenge.rw_farbits_k37_whole_ranks_at_far_places).prog 136) (kwd := []) K37.ob_eq
    (by kernel_rfl) (fun s => by kernel_rfl) K37.run (by kernel_rfl) (by kernel_rfl) (by kernel_rfl) (by rfl) (by first | assumption | decide +kernel) (by decide +kernel) ⟨rfl, rfl, rfl, rfl, rfl, by decide +kernel⟩ ?hw ?hc
  case hw => w_witness2
  case hc =>
    refine HX.walk_ofGE (l := PySem.Challenge.rw_farbits_k37_whole_ranks_at_far_places) (n := 63) (k := 30) (x := "_law_script") rfl (by decide) (by kernel_rfl) ⟨rfl, by decide, by decide⟩ ?F
    intro w mg fa h Y G hmg0
    obtain ⟨K, KX, c⟩ := Y
    have hmg : mg ("law" : PySem.Str) = some (.ref fa) := by
      have e : (HandSHeadRun.topDef (OpenLaw.row PySem.Challenge.rw_farbits_k37_whole_ranks_at_far_places).prog 136).name = ("law" : PySem.Str) := by kernel_rfl
      rw [← e]
      exact hmg0
    obtain ⟨T, hb⟩ := K37.top_ex KX G c
    have ef : T.f_law = fa := by
      have z := T.g_law.symm.trans hmg
      cases z
      rfl
    subst ef
    exact ⟨K, T.fd_law, K37.spLaw K, KX, hb, fun H a ns hl _ hS => ⟨a, ns, rfl, hS, hl, fun _ => rfl⟩, fun base _ _ => K37.ok_law T ⟩
