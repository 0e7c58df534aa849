import PyProof.Rows.All
import Wide.All
import OpenK.AllK
import Wide.FinOn
import HandS.ForMost
import HandS.WideBits
import HandS.Style
import HandS.IsInst
import HandS.TupAny
import HandS.Defaults
import HandS.Wide
import HandS.Small
import HandS.Flow
import HandS.RaiseMore
import HandS.Nested
import HandS.ExcInit
import KE.KExcSuper
import HandS.ExcIs
import HandS.ExcField
import HandS.Exc
import HandS.TryMany
import HandS.WordsExc
import KE.KOpsOwn
import HandS.SlotsOwn
import HandS.Property
import HandS.Lambda
import HandS.EndTab
import KE.KNest
import KE.KStateDown
import HandS.Head0
import HandS.Head1
import HandS.Head2
import HandS.HeadEnd
import HandS.HeadHook1
import HandS.HeadHook2
import HandS.HeadHook3
import HandS.HeadHook4
import HandS.HeadNt
import KE.GoesMore
import KE.GoesEnum
import KE.KBits
import KE.BitLaws
import PySem.PyData
import PyProof.Claim2
import HandS.Iter
import HandS.CallSlots
import HandS.OwnEq
import PyProof.NeKinds
import HandS.ExcOwn
import HandS.Conv
import PySem.Challenge.RW_farbits_k45_whole_covers_of_written_rang
set_option Elab.async false
set_option linter.all false
set_option maxRecDepth 100000
/-! small helpers over the hand layer, for every law -/
namespace HX
open PySem PySem.Spec PyProof.Rows L2

/-- ends that take P behind, and else what D takes -/
structure Jn (D : Ends) (P : L2.St → Hp → Prop) (D' : Ends) : Prop where
  nx : ∀ σ' H', P σ' H' → D'.nx σ' H'
  ct : ∀ σ' H', D.ct σ' H' → D'.ct σ' H'
  bk : ∀ σ' H', D.bk σ' H' → D'.bk σ' H'
  rt : ∀ v H', D.rt v H' → D'.rt v H'
theorem if_join {c : Prop} [Decidable c] {t u : TS} {D : Ends} {σ : L2.St} {H : Hp} (P : L2.St → Hp → Prop) (hr : ∀ σ' H', P σ' H' → D.nx σ' H')
    (h1 : ∀ D', Jn D P D' → c → t D' σ H) (h2 : ∀ D', Jn D P D' → ¬ c → u D' σ H) : if c then t D σ H else u D σ H := by
  by_cases h : c
  · rw [if_pos h]
    exact h1 _ ⟨hr, fun _ _ h => h, fun _ _ h => h, fun _ _ h => h⟩ h
  · rw [if_neg h]
    exact h2 _ ⟨hr, fun _ _ h => h, fun _ _ h => h, fun _ _ h => h⟩ h
/-- a statement, then the rest: P stands between -/
theorem cut {t u : TS} {D : Ends} {σ : L2.St} {H : Hp} (P : L2.St → Hp → Prop) (h1 : ∀ D', Jn D P D' → t D' σ H) (h2 : ∀ σ' H', P σ' H' → u D σ' H') : tSeq t u D σ H :=
  h1 { D with nx := u D } ⟨h2, fun _ _ h => h, fun _ _ h => h, fun _ _ h => h⟩
theorem ifD {p A B : Prop} [Decidable p] (h1 : p → A) (h2 : ¬ p → B) : if decide p = true then A else B := by
  by_cases h : p
  · rw [if_pos (decide_eq_true h)]
    exact h1 h
  · rw [if_neg (by rw [decide_eq_false h]; exact Bool.false_ne_true)]
    exact h2 h
theorem ifN {p A B : Prop} [Decidable p] (h1 : ¬ p → A) (h2 : p → B) : if (!decide p) = true then A else B := by
  by_cases h : p
  · rw [decide_eq_true h]
    exact iteF (h2 h)
  · rw [decide_eq_false h]
    exact iteT (h1 h)
theorem ifE {a b : Int} {A B : Prop} (h1 : a = b → A) (h2 : a ≠ b → B) : if decide (V.int a = V.int b) = true then A else B :=
  ifD (fun e => h1 (V.int.inj e)) (fun e => h2 fun z => e (congrArg V.int z))
theorem ifNE {a b : Int} {A B : Prop} (h1 : a ≠ b → A) (h2 : a = b → B) : if (!decide (V.int a = V.int b)) = true then A else B :=
  ifN (fun e => h1 fun z => e (congrArg V.int z)) (fun e => h2 (V.int.inj e))
/-- what is shown once and used on several ways -/
theorem keep {Y G : Prop} (hY : Y) (h : Y → G) : G := h hY
/-- a and b: where a is false, and where b is false, the same comes -/
theorem ifAnd {p A X Y : Prop} [Decidable p] (hY : Y) (h : p → Y → A) : if decide p = true then A else (if false = true then X else Y) :=
  ifD (fun hp => h hp hY) (fun _ => iteF hY)
/-- a < b < c as a test: where the first is false, and where the second is -/
theorem ifChain {p A B X : Prop} [Decidable p] (hB : B) (h : p → B → X) : if decide p = true then X else (∃ k, V.bl false = V.bl k ∧ if k = true then A else B) :=
  ifD (fun hp => h hp hB) (fun _ => ⟨false, rfl, iteF hB⟩)
theorem ifOr {p A X Y : Prop} [Decidable p] (hX : X) (h : ¬ p → X → A) : if decide p = true then (if true = true then X else Y) else A :=
  ifD (fun _ => iteT hX) (fun hp => h hp hX)
theorem ifY {c A B : Prop} [Decidable c] (hc : c) (h : A) : if c then A else B := by
  rw [if_pos hc]
  exact h
theorem ifZ {c A B : Prop} [Decidable c] (hc : ¬ c) (h : B) : if c then A else B := by
  rw [if_neg hc]
  exact h
/-- the ends of a loop's body, by what they are known to take -/
structure Bd (D : Ends) (N : L2.St → Hp → Prop) (D' : Ends) : Prop where
  nx : ∀ σ' H', N σ' H' → D'.nx σ' H'
  ct : ∀ σ' H', N σ' H' → D'.ct σ' H'
  bk : ∀ σ' H', D.nx σ' H' → D'.bk σ' H'
  rt : ∀ v H', D.rt v H' → D'.rt v H'
/-- a while's turn: the body for any ends -/
theorem wb {tb : TS} {D : Ends} {m : Nat} {σ : L2.St} {H1 : Hp} {W : Nat → L2.St → Hp → Prop} (h : ∀ D', Bd D (fun σ' H' => ∃ m', m' < m ∧ W m' σ' H') D' → tb D' σ H1) :
    ∃ N : L2.St → Hp → Prop, (∀ σ' H', N σ' H' → ∃ m', m' < m ∧ W m' σ' H') ∧ tb { D with nx := N, ct := N, bk := D.nx } σ H1 :=
  ⟨_, fun _ _ h => h, h _ ⟨fun _ _ h => h, fun _ _ h => h, fun _ _ h => h, fun _ _ h => h⟩⟩
theorem flL {K : PySem.W.Frag} {a : Addr} {xs : List V} {g : TG} {tb : TS} {D : Ends} {σ : L2.St} {H : Hp} (Pv : Nat → L2.St → Hp → Prop) (h0 : Pv 0 σ H) (hl : ∀ i σ H, i ≤ xs.length → Pv i σ H → SqL K H a xs)
    (hs : ∀ i x σ H, xs[i]? = some x → Pv i σ H → ∀ D', Bd D (Pv (i + 1)) D' → g x σ H fun σ2 H2 => tb D' σ2 H2) (hd : ∀ σ H, Pv xs.length σ H → D.nx σ H) :
    ∃ W : Nat → Nat → L2.St → Hp → Prop, (∃ m, W 0 m σ H) ∧ ∀ i m σ H, W i m σ H →
      ((Itl K a).stop i H ∧ D.nx σ H) ∨ ((Itl K a).go i H ∧ ∃ N : L2.St → Hp → Prop, (∀ σ' H', N σ' H' → ∃ m', m' < m ∧ W (i + 1) m' σ' H') ∧ ∀ x H', (Itl K a).yld i H x H' → g x σ H' fun σ2 H2 => tb { D with nx := N, ct := N, bk := D.nx } σ2 H2) :=
  for_list Pv h0 hl (fun i x σ H hx p => hs i x σ H hx p _ ⟨fun _ _ h => h, fun _ _ h => h, fun _ _ h => h, fun _ _ h => h⟩) hd
theorem flT {K : PySem.W.Frag} {a : Addr} {xs : List V} {g : TG} {tb : TS} {D : Ends} {σ : L2.St} {H : Hp} (Pv : Nat → L2.St → Hp → Prop) (h0 : Pv 0 σ H) (hl : ∀ i σ H, i ≤ xs.length → Pv i σ H → SqT K H a xs)
    (hs : ∀ i x σ H, xs[i]? = some x → Pv i σ H → ∀ D', Bd D (Pv (i + 1)) D' → g x σ H fun σ2 H2 => tb D' σ2 H2) (hd : ∀ σ H, Pv xs.length σ H → D.nx σ H) :
    ∃ W : Nat → Nat → L2.St → Hp → Prop, (∃ m, W 0 m σ H) ∧ ∀ i m σ H, W i m σ H →
      ((Itt K a).stop i H ∧ D.nx σ H) ∨ ((Itt K a).go i H ∧ ∃ N : L2.St → Hp → Prop, (∀ σ' H', N σ' H' → ∃ m', m' < m ∧ W (i + 1) m' σ' H') ∧ ∀ x H', (Itt K a).yld i H x H' → g x σ H' fun σ2 H2 => tb { D with nx := N, ct := N, bk := D.nx } σ2 H2) :=
  for_tup Pv h0 hl (fun i x σ H hx p => hs i x σ H hx p _ ⟨fun _ _ h => h, fun _ _ h => h, fun _ _ h => h, fun _ _ h => h⟩) hd
theorem flR {lo : Int} {n : Nat} {g : TG} {tb : TS} {D : Ends} {σ : L2.St} {H : Hp} (Pv : Nat → L2.St → Hp → Prop) (h0 : Pv 0 σ H)
    (hs : ∀ i σ H, i < n → Pv i σ H → ∀ D', Bd D (Pv (i + 1)) D' → g (.int (lo + i)) σ H fun σ2 H2 => tb D' σ2 H2) (hd : ∀ σ H, Pv n σ H → D.nx σ H) :
    ∃ W : Nat → Nat → L2.St → Hp → Prop, (∃ m, W 0 m σ H) ∧ ∀ i m σ H, W i m σ H →
      ((Itr lo n).stop i H ∧ D.nx σ H) ∨ ((Itr lo n).go i H ∧ ∃ N : L2.St → Hp → Prop, (∀ σ' H', N σ' H' → ∃ m', m' < m ∧ W (i + 1) m' σ' H') ∧ ∀ x H', (Itr lo n).yld i H x H' → g x σ H' fun σ2 H2 => tb { D with nx := N, ct := N, bk := D.nx } σ2 H2) :=
  for_range Pv h0 (fun i σ H hx p => hs i σ H hx p _ ⟨fun _ _ h => h, fun _ _ h => h, fun _ _ h => h, fun _ _ h => h⟩) hd
theorem seqC {i : Nat} {v : V} {u : TS} {D : Ends} {σ : L2.St} {H : Hp} (h : u D (σ.set i (some v)) H) : tSeq (tAsg (tC v) (gName i)) u D σ H := h
theorem asgC {i : Nat} {v : V} {D : Ends} {σ : L2.St} {H : Hp} (h : D.nx (σ.set i (some v)) H) : tAsg (tC v) (gName i) D σ H := h
/-- an expression that the proof never comes to -/
def tNevE : TE := fun _ _ _ => False
theorem pe_never {X : Cx} {e : Expr} : PE X e tNevE := ⟨fun _ _ _ _ _ _ h => h.elim⟩
theorem sm_upd {H : Hp} {p : Addr} {o : HO} (h : H p = none) : Same H (upd H p o) := fun b x e => by
  rw [upd_ne (ne_of_none e h)]
  exact e
theorem upd_at {H : Hp} {p : Addr} {o : HO} (_ : H p = none) : upd H p o p = some o := upd_same
theorem sm_mut {H H' : Hp} {p : Addr} {o : HO} (e : Same H H') (h : H p = none) : Same H (upd H' p o) := fun b x z => by
  rw [upd_ne (ne_of_none z h)]
  exact e b x z
theorem new_step {H G : Hp} {p : Addr} {o : HO} (h : H p = none) (e : upd H p o = G) : Same H G ∧ G p = some o := e ▸ ⟨sm_upd h, upd_same⟩
/-- all but p is as it was -/
def But (p : Addr) (H H' : Hp) : Prop := ∀ b o, b ≠ p → H b = some o → H' b = some o
theorem But.refl {p : Addr} (H : Hp) : But p H H := fun _ _ _ h => h
theorem But.trans {p : Addr} {H H1 H2 : Hp} (a : But p H H1) (b : But p H1 H2) : But p H H2 := fun c o h e => b c o h (a c o h e)
theorem But.of {p : Addr} {H H' : Hp} (a : Same H H') : But p H H' := fun b o _ e => a b o e
theorem But.upd {p : Addr} {H H' : Hp} {o : HO} (a : But p H H') : But p H (upd H' p o) := fun b x h e => by
  rw [upd_ne h]
  exact a b x h e
theorem But.new {p q : Addr} {H H' : Hp} {o : HO} (a : But p H H') (h : H' q = none) : But p H (L2.upd H' q o) := a.trans (But.of (sm_upd h))
theorem But.same {p : Addr} {H0 H H' : Hp} (e : Same H0 H) (n : H0 p = none) (a : But p H H') : Same H0 H' := fun b o h => a b o (ne_of_none h n) (e b o h)
/-- a new object, its heap by what is known of it -/
theorem new_by {H : Hp} {o : HO} {Q : Addr → Hp → Prop} (h : ∀ p H', H p = none → Same H H' → H' p = some o → (∀ b, b ≠ p → H' b = H b) → Q p H') : ∀ p, H p = none → Q p (upd H p o) := fun p hp =>
  h p _ hp (sm_upd hp) upd_same fun _ hb => upd_ne hb
theorem Same.tup {K : PySem.W.Frag} {H H' : Hp} {a : Addr} {xs : List V} (e : Same H H') (h : SqT K H a xs) : SqT K H' a xs := by
  rcases h with (h | ⟨o, h⟩) | h
  · exact .inl (.inl (e _ _ h))
  · exact .inl (.inr ⟨o, e _ _ h⟩)
  · exact .inr h
theorem len_le {n : Nat} (h : n ≤ 16000000) : n ≤ sizeLine := Nat.le_trans h (by decide)
theorem len_lt {n : Nat} (h : n < 16000000) : n < sizeLine := Nat.lt_of_lt_of_le h (by decide)
/-- ints that are counted from 0 on -/
def nv (ps : List Nat) : List V := ps.map fun q => .int (q : Nat)
theorem nv_app (ps : List Nat) (q : Nat) : nv (ps ++ [q]) = nv ps ++ [.int (q : Nat)] := by simp [nv]
theorem nv_len (ps : List Nat) : (nv ps).length = ps.length := by simp [nv]
theorem nv_get {ps : List Nat} {i : Nat} {v : V} (h : (nv ps)[i]? = some v) : ∃ q, ps[i]? = some q ∧ v = .int (q : Nat) := by
  unfold nv at h
  rw [List.getElem?_map] at h
  cases e : ps[i]? with
  | none => rw [e] at h; cases h
  | some q => rw [e] at h; exact ⟨q, rfl, (Option.some.inj h).symm⟩
theorem atI_neg1 {xs : List V} {v : V} (h : xs[xs.length - 1]? = some v) : atI xs (-1) = some v := by
  have hne : xs ≠ [] := by
    rintro rfl
    cases h
  have e : xs = xs.dropLast ++ [xs.getLast hne] := (List.dropLast_concat_getLast hne).symm
  have e2 : xs.getLast hne = v := by
    rw [List.getLast_eq_getElem]
    have := List.getElem?_eq_some_iff.mp h
    exact this.2
  rw [e, e2]
  exact atI_last _ _
/-! ### the readings of some calls, by names -/
def rLen (K : PySem.W.Frag) : List V → Hp → VK → Prop := fun xs H Q => ∃ p ys, xs = [.ref p] ∧ (SqL K H p ys ∨ SqT K H p ys) ∧ Q (.int ys.length) H
def rTupOf (K : PySem.W.Frag) : List V → Hp → VK → Prop := fun xs H Q => ∃ p ys, xs = [.ref p] ∧ ((SqL K H p ys ∧ ∀ l, H l = none → Q (.ref l) (upd H l (.tup ys))) ∨ (SqT K H p ys ∧ Q (.ref p) H))
def rLstOf (K : PySem.W.Frag) : List V → Hp → VK → Prop := fun xs H Q => ∃ p ys, xs = [.ref p] ∧ (SqL K H p ys ∨ SqT K H p ys) ∧ ∀ l, H l = none → Q (.ref l) (upd H l (.lst ys))
/-! ### isinstance -/
theorem isi_int {K : PySem.W.Frag} {H : Hp} {i : Int} {n : String} {b : Bool} {Q : VK} (h : kitB "int" n = some b) (q : Q (.bl b) H) : rIsi K [.int i, .ty n] H Q := ⟨_, _, _, _, b, rfl, .ty n, .base (.int i), kit_ty h, q⟩
theorem isi_bl {K : PySem.W.Frag} {H : Hp} {i : Bool} {n : String} {b : Bool} {Q : VK} (h : kitB "bool" n = some b) (q : Q (.bl b) H) : rIsi K [.bl i, .ty n] H Q := ⟨_, _, _, _, b, rfl, .ty n, .base (.bl i), kit_ty h, q⟩
theorem isi_tup {K : PySem.W.Frag} {H : Hp} {a : Addr} {xs : List V} {n : String} {b : Bool} {Q : VK} (e : SqT K H a xs) (h : kitB "tuple" n = some b) (q : Q (.bl b) H) : rIsi K [.ref a, .ty n] H Q := by
  rcases e with (e | ⟨o, e⟩) | ⟨o, its, m, e, c, _⟩
  · exact ⟨_, _, _, _, b, rfl, .ty n, .base (.tup e), kit_ty h, q⟩
  · exact ⟨_, _, _, _, b, rfl, .ty n, .fTuple e, kit_ty h, q⟩
  · exact ⟨_, _, _, _, b, rfl, .ty n, .kTuple e c, kit_ty h, q⟩
theorem isi_lst {K : PySem.W.Frag} {H : Hp} {a : Addr} {xs : List V} {n : String} {b : Bool} {Q : VK} (e : H a = some (.lst xs)) (h : kitB "list" n = some b) (q : Q (.bl b) H) : rIsi K [.ref a, .ty n] H Q := ⟨_, _, _, _, b, rfl, .ty n, .base (.lst e), kit_ty h, q⟩
theorem tyT {K : PySem.W.Frag} {H : Hp} {a : Addr} {xs : List V} (e : SqT K H a xs) : TyX K H (.ref a) (.type "tuple") := by
  rcases e with (e | ⟨o, e⟩) | ⟨o, its, m, e, c, _⟩
  · exact .base (.tup e)
  · exact .fTuple e
  · exact .kTuple e c
theorem tyI {K : PySem.W.Frag} {H : Hp} (i : Int) : TyX K H (.int i) (.type "int") := .base (.int i)
theorem k_ii : kitB "int" "int" = some true := by decide +kernel
theorem k_ib : kitB "int" "bool" = some false := by decide +kernel
theorem k_it : kitB "int" "tuple" = some false := by decide +kernel
theorem k_tt : kitB "tuple" "tuple" = some true := by decide +kernel
theorem k_ti : kitB "tuple" "int" = some false := by decide +kernel
theorem k_tb : kitB "tuple" "bool" = some false := by decide +kernel
/-! ### a dict of three text keys -/
def tri (k1 k2 k3 : Str) (a b c : V) : List (Key × V) := [(.inr k1, a), (.inr k2, b), (.inr k3, c)]
structure Dif (k1 k2 k3 : Str) : Prop where
  n12 : k1 ≠ k2
  n13 : k1 ≠ k3
  n23 : k2 ≠ k3
section
variable {k1 k2 k3 : Str} {a b c v : V} {H : Hp} {p : Addr}
theorem inr_ne {x y : Str} (h : x ≠ y) : ¬ (Sum.inr x : Key) = Sum.inr y := fun e => h (Sum.inr.inj e)
theorem tri_get1 (h : H p = some (.dK (tri k1 k2 k3 a b c))) : DGet H p (.str k1) (some a) := by
  have := DGet.k (k := (.inr k1 : Key)) h
  unfold tri at this
  rw [valV_pos rfl] at this
  exact this
theorem tri_get2 (d : Dif k1 k2 k3) (h : H p = some (.dK (tri k1 k2 k3 a b c))) : DGet H p (.str k2) (some b) := by
  have := DGet.k (k := (.inr k2 : Key)) h
  unfold tri at this
  rw [valV_neg (inr_ne d.n12), valV_pos rfl] at this
  exact this
theorem tri_get3 (d : Dif k1 k2 k3) (h : H p = some (.dK (tri k1 k2 k3 a b c))) : DGet H p (.str k3) (some c) := by
  have := DGet.k (k := (.inr k3 : Key)) h
  unfold tri at this
  rw [valV_neg (inr_ne d.n13), valV_neg (inr_ne d.n23), valV_pos rfl] at this
  exact this
theorem tri_put2 (d : Dif k1 k2 k3) (h : H p = some (.dK (tri k1 k2 k3 a b c))) : DPut H p (.str k2) v (upd H p (.dK (tri k1 k2 k3 a v c))) := by
  have := DPut.k (k := (.inr k2 : Key)) (v := v) h (by show 3 < sizeLine; decide)
  have e : putK (tri k1 k2 k3 a b c) (.inr k2) v = tri k1 k2 k3 a v c := by
    simp [putK, tri, d.n12, d.n23, Ne.symm d.n23]
  rw [e] at this
  exact this
theorem tri_put3 (d : Dif k1 k2 k3) (h : H p = some (.dK (tri k1 k2 k3 a b c))) : DPut H p (.str k3) v (upd H p (.dK (tri k1 k2 k3 a b v))) := by
  have := DPut.k (k := (.inr k3 : Key)) (v := v) h (by show 3 < sizeLine; decide)
  have e : putK (tri k1 k2 k3 a b c) (.inr k3) v = tri k1 k2 k3 a b v := by
    simp [putK, tri, d.n13, d.n23]
  rw [e] at this
  exact this
theorem tri_disp (d : Dif k1 k2 k3) : mergeK [] (tri k1 k2 k3 a b c) = tri k1 k2 k3 a b c := by
  simp [mergeK, putK, tri, d.n12, d.n13, d.n23]
end
/-! ### data -/
theorem dp_ints {K : PySem.W.Frag} {H : Hp} : ∀ ns : List Int, DpAll K H (ns.map V.int) (ns.map PyData.int)
  | [] => .nil
  | n :: r => .cons (.int n) (dp_ints r)
theorem lay_ints : ∀ ns : List Int, PyData.canLayAll0 (ns.map PyData.int) = true
  | [] => rfl
  | n :: r => by
    show (PyData.canLay0 (.int n) && PyData.canLayAll0 (r.map PyData.int)) = true
    rw [lay_ints r]
    rfl
theorem dep_ints : ∀ ns : List Int, PyData.depthAll (ns.map PyData.int) = 0
  | [] => rfl
  | n :: r => by
    show max (PyData.depth (.int n)) (PyData.depthAll (r.map PyData.int)) = 0
    rw [dep_ints r]
    rfl
theorem shaped_ints (ns : List Int) : SeqAt.shaped (.list (ns.map PyData.int)) = true := by
  show (PyData.canLayAll0 (ns.map PyData.int) && decide (PyData.depthAll (ns.map PyData.int) + 1 ≤ 64)) = true
  rw [lay_ints, dep_ints]
  rfl
theorem shaped_intsT (ns : List Int) : SeqAt.shaped (.tuple (ns.map PyData.int)) = true := shaped_ints ns
theorem eqv_nil (ds : List PyData) : PyData.eqv (.list ds) (.list []) = ds.isEmpty := by
  cases ds <;> rfl
/-! ### defs with one default -/
section
variable {P : Program} {w : World} {K : PySem.W.Frag} {mg : Str → Option Value} {base : Heap}
theorem funD_ok0 {x qual : Str} {st : Stmt} {dvs : List V} {kws : List (Str × V)} {f : Addr} {fd : FuncData} {N ps : List Str} {k : Nat} {sp : Sp} (F : FunD K x qual (defArgs st) (defBody st) (defScope st) dvs kws f fd)
    (S : FnScope N ps (defScope st)) (len : ∀ vs H Q E, sp vs H Q E → vs.length = ps.length)
    (hb : ∀ (cdv : Value) (A : Around) (outer : List Env) (s : Shared) (H : Hp) (vs : List V) (Q : VK) (E : XK), Room k (A.deeper (envOfC qual (defScope st) s.heap.objs.size f cdv)) → sp vs H Q E →
      ∃ t, PSs (cxOf CX0 P w K mg base N qual (defScope st) f cdv A outer s H E).nox (defBody st) t ∧ t { nx := fun _ H' => Q .non H', rt := Q } (start N vs) H) : FnOk P w K mg base CX0 (k + 1) f fd ps sp :=
  F.ok S len fun cdv A outer s H vs Q E hr h => by
    obtain ⟨t, h1, h2⟩ := hb cdv A outer s H vs Q E hr h
    exact ⟨t, h1.nox, h2⟩
theorem funD_mk {x qual : Str} {st : Stmt} {dv : V} {u : Value} {f T : Addr} {oc : Value} {od an : Option Addr} {osl : Array (Option Value)} {kV doc pm cdv ct : Value} {oT : Obj} {n : Nat}
    (l : K.lookup f = some ⟨oc, od, .func (PySem.W.fnOf x qual (defArgs st) (defBody st) (defScope st) (.ref T) kV doc pm an cdv ct), osl⟩) (c : PySem.W.codeIn K cdv qual = true) (k : PySem.W.keepIn K (.ref f) = true)
    (lT : K.lookup T = some oT) (hT : oT.data = .seq #[u] n) (r : RelV dv u) :
    FunD K x qual (defArgs st) (defBody st) (defScope st) [dv] [] f (PySem.W.fnOf x qual (defArgs st) (defBody st) (defScope st) (.ref T) kV doc pm an cdv ct) :=
  ⟨⟨oc, od, _, kV, doc, pm, an, cdv, ct, osl, rfl, l, c, .inr ⟨by simp, T, oT, [u], n, rfl, lT, hT, .cons r .nil⟩, .inl rfl⟩, k⟩
theorem binds_nil {fd : FuncData} {ps : List Str} (h : ∃ ds, Vals [] ds ∧ Binds K fd ps ds) : Binds K fd ps [] := by
  obtain ⟨ds, h1, h2⟩ := h
  cases h1
  exact h2
end
/-! ### f(k = v, ..): keywords alone -/
section
variable {X : Cx} {CX : CXT} {k : Nat} {f : Addr} {fd : FuncData} {ps ks : List Str} {sp : Sp} {E : XK} {x : Str} {p pos : Pos} {kws : List Keyword} {tk : TA} {g : List Value → List Value → List Value} {gV : List V → List V → List V}
theorem pe_callN0 (F : FnOk X.prog X.w X.K X.mg X.base CX k f fd ps sp) (hr : Room k X.A) (hg : Gl X x) (hm : X.mg x = some (.ref f)) (hk : PySem.W.keepIn X.K (.ref f) = true) (hb : KBn X.K fd ps 0 ks g gV) (hx : Passes CX X E) (hkw : PK X kws tk)
    (hall : (backToKw pos (keywordEach kws X.env)).all (·.1.isSome) = true := by rfl) (hks : (backToKw pos (keywordEach kws X.env)).filterMap (·.1) = ks := by rfl) (hdb : (x == ("__debug__" : Str)) = false := by decide)
    (hpl : ((backTo pos (starEach [] X.env)).any (·.1) || (backToKw pos (keywordEach kws X.env)).any (·.1.isNone)) = false := by rfl) :
    PE X (.Call (.Name x p) [] kws pos) (tCallN 0 ks.length sp gV E tNil tk) := by
  refine ⟨fun pins s σ H Q I h => ?_⟩
  refine wpAny_Call_Name_kw (ld_glob I hg hm ?_ hdb)
  refine PySem.W.callWith_KW0 (h₀ := X.base) I.ok.mod.kin hk hall ?_ hpl
  refine thn (hkw.run pos pins s σ H _ I h) fun ws s2 ⟨zs, H2, I2, rz, l1, l2, q2⟩ => ⟨I2.kIn, ?_⟩
  rw [hks]
  exact run_fnN (us := []) (vs := []) F hr hb hx I2 .nil rz rfl l2 q2
end
theorem kb_of {K : PySem.W.Frag} {x qual : Str} {st : Stmt} {f : Addr} {fd : FuncData} {ps ks : List Str} {n : Nat} {g : List Value → List Value → List Value} {gV : List V → List V → List V} (F : Fun K x qual st f fd)
    (h : ∀ (kV doc pm : Value) (an : Option Addr) (cdv ct : Value) (us ws : List Value), us.length = n → ws.length = ks.length → bindArgs (PySem.W.fnOf x qual (defArgs st) (defBody st) (defScope st) .none kV doc pm an cdv ct) ⟨us, ks.zip ws⟩ = pure (ps.zip (g us ws)))
    (rel : ∀ {vs : List V} {us : List Value} {zs : List V} {ws : List Value}, Vals vs us → Vals zs ws → Vals (gV vs zs) (g us ws)) : KBn K fd ps n ks g gV := by
  obtain ⟨oc, od, kV, doc, pm, an, cdv, ct, osl, rfl, lk, hcd⟩ := F.ex
  exact ⟨fun s us ws _ h1 h2 => .of_eq (h kV doc pm an cdv ct us ws h1 h2), rel⟩
end HX
set_option Elab.async false
set_option linter.all false
set_option maxRecDepth 100000
/-! defs that ask for a text of nested data (repr): nothing is being shown around them -/
namespace HX
open PySem PySem.Spec PyProof.Rows L2
/-- a def keeps its promise where no repr is under way -/
structure FnG (P : Program) (w : World) (K : PySem.W.Frag) (mg : Str → Option Value) (base : Heap) (k : Nat) (f : Addr) (fd : FuncData) (ps : List Str) (sp : Sp) : Prop where
  ln : ∀ vs H Q E, sp vs H Q E → vs.length = ps.length
  go : ∀ (A : Around) (outer : List Env) (s : Shared) (H : Hp) (args : Args) (us : List Value) (vs : List V) (Q : VK) (E : XK), A.guards = some [] → Room k A → Env0 P w K mg base A outer s H →
    BindsTo s fd args (ps.zip us) → Vals vs us → sp vs H Q E → codeAny (model P w) A (.call (.ref f) args) (CR CX0 outer P w H s Q E) s
theorem FnG.of {P : Program} {w : World} {K : PySem.W.Frag} {mg : Str → Option Value} {base : Heap} {k : Nat} {f : Addr} {fd : FuncData} {ps : List Str} {sp : Sp} (F : FnOk P w K mg base CX0 k f fd ps sp) : FnG P w K mg base k f fd ps sp :=
  ⟨F.len, fun A o s H args us vs Q E _ hr => F.run A o s H args us vs Q E hr⟩
theorem funG {P : Program} {w : World} {K : PySem.W.Frag} {mg : Str → Option Value} {base : Heap} {x qual : Str} {st : Stmt} {f : Addr} {fd : FuncData} {N ps : List Str} {k : Nat} {sp : Sp} (F : Fun K x qual st f fd) (S : FnScope N ps (defScope st))
    (ln : ∀ vs H Q E, sp vs H Q E → vs.length = ps.length)
    (hb : ∀ (cdv : Value) (A : Around) (outer : List Env) (s : Shared) (H : Hp) (vs : List V) (Q : VK) (E : XK), A.guards = some [] → Room k (A.deeper (envOfC qual (defScope st) s.heap.objs.size f cdv)) → sp vs H Q E →
      ∃ t, PSs (cxOf CX0 P w K mg base N qual (defScope st) f cdv A outer s H E).nox (defBody st) t ∧ t { nx := fun _ H' => Q .non H', rt := Q } (start N vs) H) : FnG P w K mg base (k + 1) f fd ps sp := by
  obtain ⟨oc, od, kV, doc, pm, an, cdv, ct, osl, rfl, lk, hcd⟩ := F.ex
  refine ⟨ln, fun A outer s H args us vs Q E hg hr e0 hbd r hsp => ?_⟩
  have hle := ln _ _ _ _ hsp
  have KX : K.In s.heap := e0.mod.kin.keeps (fun b o z => (e0.bs b o z).1)
  have nl : s.heap.NoLimit := e0.mod.nolimit.keeps (fun b o z => (e0.bs b o z).1)
  have hkd : ∀ y ∈ ps.zip us, (defScope st).names.lookup y.1 = some .local ∨ ((defScope st).names.lookup y.1 = some .cell ∧ ((cellsFrom (s.heap.objs.size + 1) (defScope st).names []).lookup y.1).isSome = true) := by
    rintro ⟨n, v⟩ hy
    exact (S.par n (List.of_mem_zip hy).1).elim (fun q => .inl q) (fun q => .inr ⟨q, PySem.W.cellsFrom_some _ _ _ (.inl q)⟩)
  refine codeAny_call_function hr.depth (KX _ _ lk) rfl S.co S.gen rfl (PySem.W.codeRec_of KX hcd) (hbd _ _ _ _ (wpAny_newFunctionEnv_cells S.kind hkd fun env he s1 x => ?_))
  subst he
  refine ⟨nl.keeps x.toInCall.keep, codeAny_func ?_⟩
  obtain ⟨t, ht, hq⟩ := hb cdv A outer s H vs Q E hg (hr.deeper _) hsp
  have I0 : Inv (cxOf CX0 P w K mg base N qual (defScope st) f cdv A outer s H E) [] (start N vs) H s1 := inv_start S hr.hd e0 hle r x
  refine wpAny_mono (ht.nox.run [] s1 (start N vs) H _ I0 hq) (fun fl s' hs => ?_) (fun _ _ z => z)
  match fl, hs with
  | .ret u, ⟨v, σ', H', J, rv, q⟩ => exact ⟨v, H', J.os, J.bare, J.base, J.hok, rv, q⟩
  | .next, ⟨σ', H', J, q⟩ => exact ⟨V.non, H', J.os, J.bare, J.base, J.hok, rfl, q⟩
  | .brk, ⟨_, _, _, q⟩ => exact False.elim q
  | .cont, ⟨_, _, _, q⟩ => exact False.elim q
section
variable {X : Cx} {k : Nat} {f : Addr} {fd : FuncData} {ps : List Str} {sp : Sp} {dvs : List V} {ds : List Value} {E : XK} {x : Str} {p pos : Pos} {e : Expr} {es : List Expr} {t : TA}
theorem pe_callG (F : FnG X.prog X.w X.K X.mg X.base k f fd ps sp) (hgd : X.A.guards = some []) (hr : Room k X.A) (hg : Gl X x) (hm : X.mg x = some (.ref f)) (hk : PySem.W.keepIn X.K (.ref f) = true) (hb : Binds X.K fd ps ds) (hd : Vals dvs ds) (hx : Passes CX0 X E)
    (ha : PA X (e :: es) t) (hdb : (x == ("__debug__" : Str)) = false := by decide) (he : starEach (e :: es) X.env = (false, eval e X.env) :: starEach es X.env := by rfl) (hpl : (backTo pos (starEach es X.env)).any (·.1) = false := by rfl) :
    PE X (.Call (.Name x p) (e :: es) [] pos) (tCall sp dvs E t) := by
  constructor
  intro pins s σ H Q I h
  refine wpAny_Call_Name_kw (ld_glob I hg hm (PySem.W.callWith_K (h₀ := X.base) I.ok.mod.kin hk (thn (ha.run pos pins s σ H _ I h) fun us s1 ⟨vs, H1, I1, r, q⟩ => ⟨I1.kIn, ?_⟩) he hpl) hdb)
  have r2 : Vals (vs ++ dvs) (us ++ ds) := r.append hd
  have hl : (us ++ ds).length = ps.length := by rw [← r2.length]; exact F.ln _ _ _ _ q
  refine wpAny_call (codeAny_mono (F.go X.A X.stack s1 H1 ⟨us, []⟩ (us ++ ds) (vs ++ dvs) Q E hgd hr I1.env0 (hb s1 us I1.kIn hl) r2 q) fun fl s' hq => ?_)
  match fl, hq with
  | .error z, hq => exact hx pins σ H1 s1 z s' I1 hq
  | .ok (.ret u), hq => exact I1.after hq
  | .ok .next, hq => exact False.elim hq
  | .ok .brk, hq => exact False.elim hq
  | .ok .cont, hq => exact False.elim hq
end
/-! ### the law's own call -/
theorem law_callG {P : Program} {w : World} {K : PySem.W.Frag} {mg mb : Str → Option Value} {k : Nat} {fa a : Addr} {fd : FuncData} {x : Str} {sp : Sp} {st : Shared} {vs : List Value} {ns : List Int}
    (KX : K.In st.heap) (hns : st.heap.Ns mainGlobals mg) (hb : st.heap.Ns builtinsNs mb) (hbb : ∀ x : Str, x ≠ "__name__" → mb x = bootBuiltins x) (nl : st.heap.NoLimit) (hg : st.gens = #[])
    (ha : st.heap.get? a = some { cls := .type "list", data := .seq vs.toArray }) (hi : IntsAre vs ns) (hl : ns.length ≤ sizeLine) (hr : Room k callerA)
    (F : ∀ base : Heap, K.In base → base.Ns mainGlobals mg → FnG P w K mg base k fa fd [x] sp) (hbd : ∀ (s : Shared) (u : Value), BindsTo s fd ⟨[u], []⟩ [(x, u)])
    (hsp : ∀ H : Hp, Only H → SqL K H a (ns.map V.int) → sp [.ref a] H (fun v _ => v = .bl true) fun _ _ _ => False) :
    codeAny (model P w) callerA (.call (.ref fa) ⟨[.ref a], []⟩) (fun r s' => r = .ok (.ret (.bool true)) ∧ OldK st.heap s'.heap ∧ s'.os = st.os ∧ AllBare s'.gens) st := by
  have rv := vals_ints hi
  have lv := hi.length
  have main : ∀ H : Hp, Only H → SqL K H a (ns.map V.int) → HOk P w H st.heap → (∀ b, H b ≠ none → b = a) → (H a ≠ none → K.lookup a = none) →
      codeAny (model P w) callerA (.call (.ref fa) ⟨[.ref a], []⟩) (fun r s' => r = .ok (.ret (.bool true)) ∧ OldK st.heap s'.heap ∧ s'.os = st.os ∧ AllBare s'.gens) st := by
    intro H hO hS hok hA hK
    have free : ∀ b, (∀ u, H b = some u → b = a → False) → H b = none := fun b z => by
      match q : H b with
      | none => rfl
      | some u => exact (z u q (hA b (by rw [q]; exact Option.some_ne_none u))).elim
    have nsK : ∀ {b : Addr} {m : Str → Option Value}, st.heap.Ns b m → (hidT st.heap H).Ns b m := fun {b m} ⟨o, es, ep, e, d, r⟩ => ⟨o, es, ep, hidT_get e (free b fun u q z => by
      subst z
      rw [ha] at e
      cases e
      exact nomatch (show Data.seq vs.toArray _ = Data.dict es ep from d)), d, r⟩
    have hKb : K.In (hidT st.heap H) := fun b o e => hidT_get (KX b o e) (free b fun u q z => by
      subst z
      rw [hK (by rw [q]; exact Option.some_ne_none u)] at e
      cases e)
    obtain ⟨mc, c1, c2⟩ := nl
    have e0 : Env0 P w K mg (hidT st.heap H) callerA [] st H := ⟨rfl, ⟨hKb, nsK hns, ⟨mb, nsK hb, hbb⟩, ⟨mc, nsK c1, c2⟩⟩, fun b o e => of_hidT e, Nat.le_of_eq (hidT_size _ _), trivial, (fun b hb => absurd (show b ∈ ([] : List Addr) from hb) List.not_mem_nil), hok, .of_eq hg⟩
    refine codeAny_mono ((F _ hKb (nsK hns)).go callerA [] st H ⟨[.ref a], []⟩ [.ref a] [.ref a] _ _ rfl hr e0 (hbd st (.ref a)) (.cons rfl .nil) (hsp H hO hS)) fun r s' h => ?_
    match r, h with
    | .error e, h => exact (h : False).elim
    | .ok .next, h => exact (h : False).elim
    | .ok .brk, h => exact (h : False).elim
    | .ok .cont, h => exact (h : False).elim
    | .ok (.ret u), ⟨v, H', os, bare, un, hok', r', q⟩ =>
      obtain rfl : v = .bl true := q
      obtain rfl : u = Value.bool true := r'
      refine ⟨rfl, OldK.of_keep fun b o e => ?_, os, bare⟩
      match q : H b with
      | none => exact un.keep b o e q (fun z => absurd (show b ∈ ([] : List Addr) from z) List.not_mem_nil) List.not_mem_nil
      | some u =>
        rcases hO b with z | ⟨ob, ys, z⟩
        · exact nomatch q.symm.trans z
        · have e1 := (hok b _ z).1
          rw [e] at e1
          cases e1
          exact (hok' b _ (un.frzs b _ _ z)).1
  match hk : K.lookup a with
  | some o =>
    have e := KX a o hk
    rw [ha] at e
    cases e
    exact main (fun _ => none) (fun _ => .inl rfl) (.inr ⟨_, vs.toArray, _, hk, rfl, rfl, rfl, by rw [List.size_toArray, lv]; exact hl, by simpa using rv⟩) (fun b u z => nomatch (show (none : Option HO) = some u from z)) (fun b z => absurd rfl z) fun z => absurd rfl z
  | none =>
    refine main (fun b => if b = a then some (.frz { cls := .type "list", data := .seq vs.toArray } (.lst (ns.map V.int))) else none) (fun b => ?_) (.inl (.inr ⟨{ cls := .type "list", data := .seq vs.toArray }, if_pos rfl⟩)) (fun b u z => ?_) (fun b z => ?_) fun _ => hk
    · by_cases hc : b = a
      · exact .inr ⟨_, _, if_pos hc⟩
      · exact .inl (if_neg hc)
    · by_cases hc : b = a
      · cases (if_pos hc).symm.trans z
        subst hc
        exact ⟨ha, by rw [List.length_map]; exact hl, vs, _, rv, ha⟩
      · cases (if_neg hc).symm.trans z
    · by_cases hc : b = a
      · exact hc
      · exact absurd (if_neg hc) z
theorem walk_ofG {l : PySem.W.OpenLaw} {n k : Nat} {q : Program} {loose : List Str} {XP : (Str → Option Value) → Heap → Prop} {YP : World → Heap → Prop} {d : DefRec} {K : Params → PySem.W.Frag} {sp : World → Sp} {x : Str}
    (hn : l.most = some n) (hn2 : n ≤ sizeLine) (hdf : d.params.defaults = []) (hr : Room k callerA) (hY : ∀ (w : World) (h : Heap), YP w h → (K w.params).In h)
    (F : ∀ (w : World) (mg : Str → Option Value) (fa : Addr) (h : Heap), (K w.params).In h → h.Ns mainGlobals mg → mg d.name = some (.ref fa) →
      ∃ fd : FuncData, (∀ (s : Shared) (u : Value), BindsTo s fd ⟨[u], []⟩ [(x, u)]) ∧ ∀ base : Heap, (K w.params).In base → base.Ns mainGlobals mg → FnG l.prog w (K w.params) mg base k fa fd [x] (sp w))
    (hsp : ∀ (w : World) (H : Hp) (a : Addr) (ns : List Int), ns.length ≤ n → Only H → SqL (K w.params) H a (ns.map V.int) → sp w [.ref a] H (fun v _ => v = .bl true) fun _ _ _ => False) :
    PySem.W.WalkO q loose XP YP l.row.toRowW d [] (fun f vs => PySem.call f vs) :=
  Att.attach_call hn hdf fun w s0 s1 mg mb fa o pm cd doc a vs ns G Y ho hd hcd hmg hobj hints hlen hg => by
    obtain ⟨fd, hb, hF⟩ := F w mg fa _ (hY w _ Y) G.T.g hmg
    exact law_callG (hY w _ Y) G.T.g G.T.b G.T.builtins G.T.nolimit hg hobj hints (Nat.le_trans hlen hn2) hr hF hb fun H hO hS => hsp w H a ns hlen hO hS
/-! ### repr of data -/
def rRepr (K : PySem.W.Frag) : List V → Hp → VK → Prop := fun xs H Q => ∃ v d, xs = [v] ∧ Dp K H v d ∧ d.showable = true ∧ d.hasDict = false ∧ d.depth ≤ 60 ∧ d.shown.length ≤ sizeLine ∧ Q (.str d.shown) H
theorem call_repr_data {X : Cx} (hgd : X.A.guards = some []) (hu : X.A.units + 64 < cLine) : CallR X (.builtin "repr") (rRepr X.K) := by
  intro pins s σ H xs us Q I r h
  obtain ⟨v, d, rfl, hd, hs, hn, hdp, hz, q⟩ := h
  obtain ⟨u, rfl, rv⟩ := vals1 r
  obtain ⟨as, rd⟩ := Dp.reads I d v u hd rv
  have ref : ∀ {a : Addr}, u = .ref a → wpAny (model X.prog X.w) X.A (call (.builtin "repr") [u]) (EP X pins σ Q) X.xe s := by
    rintro a rfl
    exact repr_of_reads' rd hs (fun z => absurd (hn.symm.trans z) Bool.false_ne_true) hgd (by omega) (fun _ _ e => e) (fun h' u tk hk => ⟨.str _, H, I.kept hk, ⟨_, rfl⟩, q⟩) hz
  cases rd with
  | none => exact PySem.P.repr_of_none ⟨.str _, H, I.tok _, ⟨_, rfl⟩, q⟩
  | bool b => exact PySem.P.repr_of_bool ⟨.str _, H, I.tok _, ⟨_, rfl⟩, q⟩
  | int i t => exact PySem.P.repr_of_int (by simpa [PyData.showable] using hs) ⟨.str _, H, I.tok _, ⟨_, rfl⟩, q⟩
  | str x t => exact PySem.P.repr_of_str ⟨.str _, H, I.tok _, ⟨_, rfl⟩, q⟩ hz
  | list h1 h2 h3 h4 => exact ref rfl
  | tuple h1 h2 h3 h4 => exact ref rfl
  | dict h1 h2 h3 h4 h5 => exact ref rfl
/-! ### data that can be shown: how long the text is, how deep -/
structure Rp (d : PyData) (n k : Nat) : Prop where
  sh : d.showable = true
  nd : d.hasDict = false
  dp : d.depth ≤ k
  ln : d.shown.length ≤ n
structure RpAll (ds : List PyData) (n k : Nat) : Prop where
  sh : PyData.showableAll ds = true
  nd : PyData.hasDictAll ds = false
  dp : PyData.depthAll ds ≤ k
  ln : piled (PyData.shownAll ds) ≤ n
theorem Rp.mono {d : PyData} {n k n' k' : Nat} (h : Rp d n k) (a : n ≤ n') (b : k ≤ k') : Rp d n' k' := ⟨h.sh, h.nd, Nat.le_trans h.dp b, Nat.le_trans h.ln a⟩
theorem RpAll.mono {d : List PyData} {n k n' k' : Nat} (h : RpAll d n k) (a : n ≤ n') (b : k ≤ k') : RpAll d n' k' := ⟨h.sh, h.nd, Nat.le_trans h.dp b, Nat.le_trans h.ln a⟩
theorem RpAll.nil : RpAll [] 0 0 := ⟨by simp [PyData.showableAll], by simp [PyData.hasDictAll], by simp [PyData.depthAll], by simp [PyData.shownAll, piled]⟩
theorem RpAll.cons {d : PyData} {ds : List PyData} {n m k : Nat} (h : Rp d n k) (hs : RpAll ds m k) : RpAll (d :: ds) (n + 2 + m) k := by
  refine ⟨by simp [PyData.showableAll, h.sh, hs.sh], by simp [PyData.hasDictAll, h.nd, hs.nd], ?_, ?_⟩
  · simp only [PyData.depthAll]
    have := h.dp
    have := hs.dp
    omega
  · simp only [PyData.shownAll, piled_cons]
    have := h.ln
    have := hs.ln
    omega
theorem Rp.tup {ds : List PyData} {n k : Nat} (h : RpAll ds n k) : Rp (.tuple ds) (n + 3) (k + 1) := by
  refine ⟨by simp [PyData.showable, h.sh], by simp [PyData.hasDict, h.nd], by simp only [PyData.depth]; have := h.dp; omega, ?_⟩
  simp only [PyData.shown]
  have hl := h.ln
  generalize PyData.shownAll ds = ts at *
  have hj : (Str.join ", " ts).length ≤ piled ts := by
    by_cases e : ts = []
    · subst e
      decide
    · have := join_length_add ts e
      omega
  unfold tupleText
  rw [strLen_append, strLen_append]
  have h1 : (("(" : Str)).length = 1 := by decide +kernel
  have h2 : ∀ b : Bool, ((if b = true then ",)" else ")" : String) : Str).length ≤ 2 := by decide +kernel
  have := h2 (ts.length == 1)
  omega
theorem Rp.lst {ds : List PyData} {n k : Nat} (h : RpAll ds n k) : Rp (.list ds) (n + 3) (k + 1) := by
  refine ⟨by simp [PyData.showable, h.sh], by simp [PyData.hasDict, h.nd], by simp only [PyData.depth]; have := h.dp; omega, ?_⟩
  simp only [PyData.shown]
  have hl := h.ln
  generalize PyData.shownAll ds = ts at *
  cases ts with
  | nil =>
    rw [listText_nil]
    have : (("[]" : Str)).length = 2 := by decide +kernel
    omega
  | cons t r =>
    have h1 := textFrom_length_pos r 1 (("[" : Str) ++ (if (0 : Nat) > 0 then ", " else "" : String) ++ t) (Nat.succ_pos 0)
    have h2 : (("[" : Str) ++ (if (0 : Nat) > 0 then ", " else "" : String) ++ t).length = 1 + t.length := by
      rw [strLen_append, strLen_append]
      rfl
    have h3 : (listText (t :: r)).length = (textFrom 1 (("[" : Str) ++ (if (0 : Nat) > 0 then ", " else "" : String) ++ t) r).length + 1 := by
      show (textFrom 0 "[" (t :: r) ++ "]").length = _
      rw [strLen_append]
      rfl
    rw [piled_cons] at hl
    omega
theorem Rp.bool (b : Bool) : Rp (.bool b) 5 0 := ⟨by simp [PyData.showable], by simp [PyData.hasDict], by simp [PyData.depth], by cases b <;> decide +kernel⟩
theorem Rp.int {i : Int} (h : i.natAbs < 10 ^ 20) : Rp (.int i) 21 0 := by
  have hz := int_text_length_le10 (k := 20) (by decide) h
  refine ⟨?_, by simp [PyData.hasDict], by simp [PyData.depth], ?_⟩
  · simp only [PyData.showable, decide_eq_true_eq]
    by_cases e : i.natAbs = 0
    · rw [e]
      decide
    · rw [Nat.log2_lt e]
      exact Nat.lt_of_lt_of_le h (Nat.le_trans (by decide : 10 ^ 20 ≤ 2 ^ 70) (Nat.pow_le_pow_right (by decide) (by decide)))
  · simp only [PyData.shown]
    rw [PySem.ofString_length]
    exact hz
theorem Rp.str {x : Str} {n : Nat} (h : (reprText x).length ≤ n) : Rp (.str x) n 0 := ⟨by simp [PyData.showable], by simp [PyData.hasDict], by simp [PyData.depth], by simpa [PyData.shown] using h⟩
/-! ### tuples cut and joined: one way on -/
def rSlB (K : PySem.W.Frag) : V → Option Int → Option Int → Hp → VK → Prop := fun x lo hi H Q => ∃ a xs, x = .ref a ∧ SqT K H a xs ∧ ∀ l H', Same H H' → SqT K H' l (cutV xs lo hi) → Q (.ref l) H'
def rCatB (K : PySem.W.Frag) : R2 := fun x y H Q => ∃ a b xs ys, x = .ref a ∧ y = .ref b ∧ SqT K H a xs ∧ SqT K H b ys ∧ xs.length + ys.length ≤ sizeLine ∧ ∀ l H', Same H H' → SqT K H' l (xs ++ ys) → Q (.ref l) H'
theorem sl_tupB {X : Cx} : SlR X (rSlB X.K) := by
  intro pins s σ H x v vl vu lo hi sl Q I rx hs pl pu h
  obtain ⟨a, xs, rfl, hx, q⟩ := h
  refine sl_tupA pins s σ H _ v vl vu lo hi sl Q I rx hs pl pu ⟨a, xs, rfl, hx, fun hc => q a H (Same.refl _) ?_, fun _ p np => q p _ (sm_upd np) (.inl (.inl upd_same))⟩
  have e : cutV xs lo hi = xs := by
    unfold cutV
    rw [hc.1, hc.2, List.drop_zero, Nat.sub_zero, List.take_length]
  rw [e]
  exact hx
theorem op_catB {X : Cx} : OpR X (binaryOp .Add) (rCatB X.K) := by
  intro pins s σ H x y v u Q I rx ry h
  obtain ⟨a, b, xs, ys, rfl, rfl, ha, hb, hz, q⟩ := h
  refine op_catA pins s σ H _ _ v u Q I rx ry ⟨a, b, xs, ys, rfl, rfl, ha, hb, hz, fun e => q b H (Same.refl _) ?_, fun _ e => q a H (Same.refl _) ?_, fun _ _ p np => q p _ (sm_upd np) (.inl (.inl upd_same))⟩
  · rw [e]
    exact hb
  · rw [e, List.append_nil]
    exact ha
theorem cut_to {xs : List V} {m : Nat} : cutV xs none (some (m : Int)) = xs.take m := by
  unfold cutV
  rw [HT.sIx_nat xs.length xs.length m, HT.sIx_none]
  show List.take (min m xs.length - 0) xs = _
  rw [Nat.sub_zero, List.take_eq_take_iff]
  omega
theorem cut_from {xs : List V} {m : Nat} : cutV xs (some (m : Int)) none = xs.drop m := by
  unfold cutV
  rw [HT.sIx_nat xs.length 0 m, HT.sIx_none]
  by_cases h : m ≤ xs.length
  · rw [Nat.min_eq_left h, List.take_of_length_le (by rw [List.length_drop]; exact Nat.le_refl _)]
  · rw [Nat.min_eq_right (by omega), List.drop_of_length_le (Nat.le_refl _), List.drop_of_length_le (by omega)]
    simp
end HX
set_option Elab.async false
set_option linter.all false
set_option maxRecDepth 100000
/-! the package's error classes: __init__ begins with super().__init__(..) -/
namespace HX
open PySem PySem.Spec PyProof.Rows L2 NdefX
/-- what the written part says of such a class at C and of its __init__ at fI: the cell cc of __class__, the code object at cda -/
structure SupC (P : Program) (K : PySem.W.Frag) (mg : Str → Option Value) (C fI cc : Addr) (F : NF) : Prop where
  oex : OexC K C
  fn : ∃ oc od doc pm ctv osl, K.lookup fI = some ⟨oc, od, .func (F.fd doc pm ctv), osl⟩
  cd : PySem.W.codeIn K (.ref F.c) F.qual = true
  file : ∃ ccl cdd vs ccs file tf, K.lookup F.c = some ⟨ccl, cdd, .fields vs, ccs⟩ ∧ vs[2]? = some (.str file tf) ∧ ((P.main.file : Str) == file) = true
  cl : F.cl = [(("__class__" : Str), cc)]
  cell : ∃ cl cld csl, K.lookup cc = some ⟨cl, cld, .cell (some (.ref C)), csl⟩
  sub : PySem.W.mroIn K C (.ref C) = some true
  ve : PySem.W.subIn K (.ref C) (.type "ValueError") = some true
  any : PySem.W.nsIn K cStatics "thirdparty.any" = some none
  sup : PySem.W.ks_superIn K C C "__init__" = some (some (.builtin "ValueError.__init__"))
  ms : mg "super" = none
  top : (P.main.scope.names.lookup ("super" : Str)).isSome = false
section
variable {P : Program} {w : World} {K : PySem.W.Frag} {mg : Str → Option Value} {base : Heap} {C fI cc : Addr} {F : NF}
theorem fn_super {k : Nat} {N ps : List Str} {sp : Sp} {e : Expr} {es : List Expr} {rest : List Stmt} {p0 p1 p2 p3 p4 : Pos} {ar : Arg} {doc0 pm0 ctv0 : Value} {oc0 : Value} {od0 : Option Addr} {osl0 : Array (Option Value)} (T : SupC P K mg C fI cc F)
    (lk : K.lookup fI = some ⟨oc0, od0, .func (F.fd doc0 pm0 ctv0), osl0⟩) (S : NScope N ps ["__class__"] F.scope)
    (hb : F.body = .Expr (.Call (.Attribute (.Call (.Name "super" p0) [] [] p1) "__init__" p2) (e :: es) [] p3) p4 :: rest) (hp : (F.params.posonlyargs ++ F.params.args).head? = some ar) (har : ps[0]? = some ar.arg)
    (hks : F.scope.names.lookup ("super" : Str) = some .globalImplicit) (len : ∀ vs H Q E, sp vs H Q E → vs.length = ps.length)
    (hbody : ∀ (A : Around) (outer : List Env) (s : Shared) (H : Hp) (vs : List V) (Q : VK) (E : XK), Room k (A.deeper (envF F fI s.heap.objs.size)) → sp vs H Q E →
      ∃ (a : Addr) (ys : List V) (ta : TA) (t : TS), vs = .ref a :: ys ∧ H a = some (exo a C none) ∧ PA (ncx CX0 P w K mg base N F fI A outer s H E) (e :: es) ta ∧ PSs (ncx CX0 P w K mg base N F fI A outer s H E) rest t ∧
        ta (startF N vs [none]) H (fun us H1 => H1 = H ∧ us.length ≤ 1000) ∧ t { nx := fun _ H' => Q .non H', rt := Q } (startF N vs [none]) H)
    {pl : Addr → Sem Bool} (he : ∀ L : Addr, eval (.Call (.Attribute (.Call (.Name "super" p0) [] [] p1) "__init__" p2) (e :: es) [] p3) (envF F fI L) = (do
      let ov ← attributeBase (.Call (.Name "super" p0) [] [] p1) "__init__" (envF F fI L) (eval (.Call (.Name "super" p0) [] [] p1) (envF F fI L))
      standAt p2.atName
      let (f, first) ← holding [ov] (getMethod ov "__init__" (pl L))
      callWith p3 f first (backTo p3 (starEach (e :: es) (envF F fI L))) []))
    (hs : ∀ L : Addr, swapsWith (.Call (.Attribute (.Call (.Name "super" p0) [] [] p1) "__init__" p2) (e :: es) [] p3) none p4.line (envF F fI L) = pure false) (hi : ∀ L : Addr, interactive (envF F fI L) = false)
    (hst : ∀ L : Addr, starEach (e :: es) (envF F fI L) = (false, eval e (envF F fI L)) :: starEach es (envF F fI L)) (hpl : ∀ L : Addr, (backTo p3 (starEach es (envF F fI L))).any (·.1) = false) :
    FnOk P w K mg base CX0 (k + 1) fI (F.fd doc0 pm0 ctv0) ps sp := by
  refine ⟨len, fun A outer s H args us vs Q E hr e0 hbd r hsp => ?_⟩
  have hl := len _ _ _ _ hsp
  have KX : K.In s.heap := e0.mod.kin.keeps (fun b o z => (e0.bs b o z).1)
  have nl : s.heap.NoLimit := e0.mod.nolimit.keeps (fun b o z => (e0.bs b o z).1)
  obtain ⟨cl, cld, csl, hcell⟩ := T.cell
  obtain ⟨ccl, cdd, fvs, ccs, file, tf, hcode, hvs, hfile⟩ := T.file
  have cells : CellsAt F.cl ["__class__"] [none] s.heap H := by
    rw [T.cl]
    refine ⟨rfl, fun y c hy => ?_, fun x y c hx hy => ?_, fun i y hi => ?_⟩
    · have e1 : c = cc := by
        by_cases hyc : y = ("__class__" : Str)
        · subst hyc
          simpa [List.lookup] using hy.symm
        · have : (y == ("__class__" : Str)) = false := by simpa using hyc
          simp [List.lookup, this] at hy
      subst e1
      exact ⟨(e0.bs _ _ (e0.mod.kin _ _ hcell)).2, _, ⟨_, KX _ _ hcell, rfl⟩⟩
    · have key : ∀ {z : Str} {c : Addr}, List.lookup z [(("__class__" : Str), cc)] = some c → z = "__class__" := fun {z c} h => by
        by_cases hz : z = ("__class__" : Str)
        · exact hz
        · have : (z == ("__class__" : Str)) = false := by simpa using hz
          simp [List.lookup, this] at h
      rw [key hx, key hy]
    · have : y = "__class__" ∧ i = 0 := by
        cases i with
        | zero => exact ⟨by simpa using hi.symm, rfl⟩
        | succ i => simp at hi
      obtain ⟨rfl, rfl⟩ := this
      refine ⟨cc, by simp [List.lookup], fun v hv => ?_⟩
      simp at hv
  obtain ⟨a, ys, ta, t, rfl, ea, pa, prest, ha, hq⟩ := hbody A outer s H vs Q E (hr.deeper _) hsp
  refine PySem.ks_codeAny_call_defAt (fd := F.fd doc0 pm0 ctv0) (body := F.body) (binds := ps.zip us) hr.depth (KX _ _ lk) rfl nl (PySem.W.codeRec_of KX T.cd) rfl hbd S.nocell (fun ⟨n, _⟩ hy => S.par n (List.of_mem_zip hy).1) (fun h1 hns kp => ?_) S.co S.gen S.kind
  have I : Inv (ncx CX0 P w K mg base N F fI A outer s H E) [] (startF N (.ref a :: ys) [none]) H { s with heap := h1, toks := s.toks + (ps.zip us).length } := inv_startN S hr.hd e0 hl r cells hns kp
  show PySem.wpAt (model P w) (A.deeper (envF F fI s.heap.objs.size)) (.func F.body (envF F fI s.heap.objs.size)) (execs F.body (envF F fI s.heap.objs.size)) _ _ _
  rw [hb]
  refine PySem.ks_wpAt_execs_cons (PySem.ks_wpAt_Expr_any (PySem.ks_wpAt_MethodCall (PySem.ks_wpAt_super_base hks (S.frk _ (by simp)) (by decide) rfl (kp _ _ (KX _ _ lk)) rfl hp rfl (kp _ _ (KX _ _ hcode)) rfl hvs hfile T.top ?_) (he _)) (hi _) (hs _))
  have K1 : K.In h1 := I.kIn
  have G1 : h1.Ns mainGlobals mg := I.mod.glob.keeps I.bk
  obtain ⟨mb, B1, B2⟩ := I.mod.blt
  refine PySem.W.ks_loadName_global S.kind hks (Calls.loadGlobal_builtin (env := envF F fI s.heap.objs.size) G1 T.ms (B1.keeps I.bk) ((B2 _ (by decide +kernel)).trans (by decide +kernel)) ⟨rfl, ?_⟩)
  refine wpAny_loadName_free S.kind (S.frk _ (by simp)) (by show List.lookup _ F.cl = some cc; rw [T.cl]; rfl) ⟨_, K1 _ _ hcell, rfl⟩ ?_
  obtain ⟨t1, ho⟩ := exo_at I.hok ea
  have hz : us[0]? = some (.ref a) := by
    cases r with
    | cons r1 r2 =>
      cases r1
      rfl
  have ndP : ps.Nodup := by
    have q := S.nd.sublist (List.take_sublist (ps.length + 1) N)
    rw [show N.take (ps.length + 1) = ps ++ [("__class__" : Str)] from S.pre] at q
    exact (List.nodup_append.mp q).1
  refine wpAny_loadName_local S.kind (S.par _ (List.mem_of_getElem? har)) hns (zip_look ndP har hz) ?_
  obtain ⟨nm, q, Nn, bs, bm, sn, sub, ab, col, dd, k0, k1, k2, k3, k5, hC, hbm⟩ := T.oex.cls
  have ia : PySem.W.InstAt h1 a { cls := .ref C, dict := none, data := .fields #[.ref t1, .none, .none, .none, .bool false, .none] } C none := ⟨ho, rfl, rfl, trivial⟩
  refine ks_wpAny_isType_cls (K1 _ _ hC) rfl ⟨rfl, ?_⟩
  refine ks_wpAny_call_super (K1 _ _ hC) rfl ho rfl (fun c z => nomatch z) (PySem.W.looks_mroIn K1 T.sub) (fun h2 eso k2' => ?_)
  have hcl : PySem.W.clsIn K C = some { name := nm, bases := bs, mro := .ref C :: bm, ns := Nn, qualname := q, hasDict := true, slotNames := sn, subclasses := sub, abstract := ab, collection := col, hasDel := false } := by
    unfold PySem.W.clsIn
    rw [hC]
    all_goals rfl
  have K2 : K.In h2 := fun b o z => k2' b o (K1 b o z)
  have ia2 : PySem.W.InstAt h2 a { cls := .ref C, dict := none, data := .fields #[.ref t1, .none, .none, .none, .bool false, .none] } C none := ⟨k2' _ _ ho, rfl, rfl, trivial⟩
  have hsup := T.sup
  unfold PySem.W.ks_superIn at hsup
  rw [hcl] at hsup
  have lt12 : h1.objs.size < h2.objs.size := Heap.lt_size eso
  refine PySem.W.kxs_getMethod PySem.W.kxs_ValueError eso (PySem.W.looks_opaque K2 T.any) (l₀ := .ref C :: bm) ((PySem.W.looks_clsIn K2 hcl).andThen .now) rfl K2 hsup (ia2.type.andThen (PySem.W.looks_subIn K2 T.ve)) (PySem.W.ks_ne K2 ia2 hcl) (by decide) ?_
  have k3' : ∀ b o, h1.get? b = some o → (h2.push (PySem.W.kxs_mw "ValueError.__init__" a)).get? b = some o := fun b o z => Heap.get?_push_of_some _ (k2' b o z)
  have I3 := I.kept (h' := h2.push (PySem.W.kxs_mw "ValueError.__init__" a)) (t' := s.toks + (ps.zip us).length + 1) k3'
  have hu3 : (h2.push (PySem.W.kxs_mw "ValueError.__init__" a)).get? h2.objs.size = some (PySem.W.kxs_mw "ValueError.__init__" a) := Heap.get?_push_size _ rfl
  have I4 : Inv (ncx CX0 P w K mg base N F fI A outer s H E) [(h2.objs.size, PySem.W.kxs_mw "ValueError.__init__" a)] (startF N (.ref a :: ys) [none]) H { s with heap := h2.push (PySem.W.kxs_mw "ValueError.__init__" a), toks := s.toks + (ps.zip us).length + 1 } :=
    I3.pins_of fun p hp' => by
      have e' : p = (h2.objs.size, PySem.W.kxs_mw "ValueError.__init__" a) := by simpa using hp'
      subst e'
      exact ⟨hu3, I.hok.fresh (Nat.le_of_lt lt12), Nat.ne_of_gt (Nat.lt_trans I.lt lt12), I.nofs (Nat.le_of_lt lt12), fun v z => nomatch z⟩
  show wpAny _ _ (callWith p3 (.ref h2.objs.size) [] (backTo p3 (starEach (e :: es) (envF F fI s.heap.objs.size))) []) _ _ _
  have hall : (backTo p3 (starEach (e :: es) (envF F fI s.heap.objs.size))).any (·.1) = false := by
    rw [hst]
    show (false || (backTo p3 (starEach es (envF F fI s.heap.objs.size))).any (·.1)) = false
    rw [hpl]
    rfl
  refine PySem.W.kxs_callWith (i := "ValueError.__init__") (x := a) hall ?_
  have hsp2 : wpAny (model P w) (A.deeper (envF F fI s.heap.objs.size)) (spliced (backTo p3 (starEach (e :: es) (envF F fI s.heap.objs.size)))) (fun vs' s1 => ∃ zs : List V, Inv (ncx CX0 P w K mg base N F fI A outer s H E) [(h2.objs.size, PySem.W.kxs_mw "ValueError.__init__" a)] (startF N (.ref a :: ys) [none]) H s1 ∧ Vals zs vs' ∧ zs.length ≤ 1000)
      (ncx CX0 P w K mg base N F fI A outer s H E).xe { s with heap := h2.push (PySem.W.kxs_mw "ValueError.__init__" a), toks := s.toks + (ps.zip us).length + 1 } :=
    thn (pa.run p3 _ _ _ H _ I4 ha) fun us' s1 ⟨zs, H1, J, rz, eH, hz'⟩ => by
      subst eH
      exact ⟨zs, J, rz, hz'⟩
  rw [hst] at hsp2 ⊢
  refine Calls.evalArgs_plain (wpAny_mono hsp2 (fun us' s1 h => ?_) fun _ _ z => z)
  obtain ⟨zs, J, rz, hz'⟩ := h
  have hu5 := (J.pin (h2.objs.size, PySem.W.kxs_mw "ValueError.__init__" a) (by simp)).1
  refine ⟨hu5, ?_⟩
  obtain ⟨t5, ho5⟩ := exo_at J.hok ea
  have K5 : K.In s1.heap := J.kIn
  have hlz : us'.length ≤ sizeLine := by
    rw [← rz.length, sizeLine_eq]
    omega
  -- behind super().__init__(..) the rest is as it was
  have fin : ∀ s6, Inv (ncx CX0 P w K mg base N F fI A outer s H E) [(h2.objs.size, PySem.W.kxs_mw "ValueError.__init__" a)] (startF N (.ref a :: ys) [none]) H s6 →
      wpAny (model P w) (A.deeper (envF F fI s.heap.objs.size)) (execs rest (envF F fI s.heap.objs.size)) (fun f s' => CR CX0 outer P w H s Q E (.ok (.ret (match f with | .ret v => v | _ => .none))) s') (ncx CX0 P w K mg base N F fI A outer s H E).xe s6 := fun s6 J6 => by
    refine wpAny_mono (prest.run _ s6 _ H _ J6 hq) (fun fl s' hs' => ?_) (fun _ _ z => z)
    match fl, hs' with
    | .ret u, ⟨v, σ', H', J, rv, q'⟩ => exact ⟨v, H', J.os, J.bare, J.base, J.hok, rv, q'⟩
    | .next, ⟨σ', H', J, q'⟩ => exact ⟨V.non, H', J.os, J.bare, J.base, J.hok, rfl, q'⟩
    | .brk, ⟨_, _, _, q'⟩ => exact False.elim q'
    | .cont, ⟨_, _, _, q'⟩ => exact False.elim q'
  have fin2 : ∀ h', (∀ b o, b ≠ a → s1.heap.get? b = some o → h'.get? b = some o) → h'.get? a = some ({ cls := .ref C, dict := none, data := .fields #[.ref s1.heap.objs.size, .none, .none, .none, .bool false, .none] } : Obj) →
      Inv (ncx CX0 P w K mg base N F fI A outer s H E) [(h2.objs.size, PySem.W.kxs_mw "ValueError.__init__" a)] (startF N (.ref a :: ys) [none]) H { s1 with heap := h' } := fun h' kk hx => by
    have J7 := J.write (t' := s1.toks) (x := a) (e := a) (o := exo a C none) (by rw [ea]; exact True.intro) (.inl rfl) kk ⟨_, hx⟩ (exo_ok hx)
    have eu : upd H a (exo a C none) = H := by
      funext b
      by_cases hb' : b = a
      · rw [hb', upd_same, ea]
      · rw [upd_ne hb']
    rw [eu] at J7
    exact J7
  obtain ⟨hh, g, d, tk, os⟩ := s1
  show wpAny _ _ (call (.ref h2.objs.size) us') _ _ _
  refine wpAny_call (codeAny_of_tree ?_)
  show wpAny _ (A.deeper (envF F fI s.heap.objs.size)).in1 (callAny (.ref h2.objs.size) ⟨us', []⟩) _ _ _
  simp only [callAny]
  refine wpAny_bind (wpAny_load hu5 ?_)
  simp only [PySem.W.kxs_mw, show (Value.type "method-wrapper" == Value.type "method" || Value.type "method-wrapper" == Value.type "builtin_function_or_method" || Value.type "method-wrapper" == Value.type "method-wrapper") = true by decide, if_true]
  refine PySem.W.KFB.if_so (by decide) ?_
  refine wpAny_bind (PySem.W.check_bound_init PySem.F.excBase_ValueError.toExcCallFacts (K5 _ _ hC) ho5 rfl ?_)
  refine wpAny_bind (wpAny_pure (wpAny_pure ?_))
  refine ⟨plainId_quiet PySem.F.excBase_ValueError.init.plain _, codeAny_builtin PySem.F.excBase_ValueError.initEntry ?_⟩
  refine PySem.W.exc_init_tree (cls := .ref C) (t0 := t5) (dv := none) (c2 := .none) (c3 := .none) (b4 := .bool false) ho5 hlz (fun h' kk hx _ => ?_)
  exact PySem.wpAt_of_wpAny (fin _ (fin2 h' kk hx))
end
end HX
set_option Elab.async false
set_option linter.all false
set_option maxRecDepth 100000
/-! errors with fields: isinstance(e, C) in an except suite; __init__ of one and of two fields; raise -/
namespace HX
open PySem PySem.Spec PySem.Calls PyProof.Rows L2 NdefX
section
open PySem.W
variable {prog : Program} {w : World} {A : Around} {E : Value → Shared → Prop} {s : Shared} {K : Frag} {x D : Addr} {ox : Obj} {od : Option Obj}
theorem findObj_any {C : Addr} {name : Str} {a g : Value} (hc : (clsIn K C).isSome = true) (ha : findIn K (.ref C) name = some (some a)) (hg : specialIn K a "__get__" = some (some g)) (ht : takesIn K a = some true) : findObj K C od name = some (.bind g a) := by
  obtain ⟨cd, hcd⟩ := Option.isSome_iff_exists.mp hc
  unfold findObj
  rw [hcd, Option.bind_some, ha, Option.bind_some]
  simp [hg, ht]
theorem kin_classF {Q : Option Value → Shared → Prop} (C : ExcC K D) (X : K.In s.heap) (I : InstAt s.heap x ox D od) (h : Q (some (.ref D)) { s with toks := s.toks + 1 }) : wpAny (model prog w) A (getAttr? (.ref x) "__class__") Q E s := by
  have hf : findObj K D od "__class__" = some (.bind (.builtin "getset_descriptor.__get__") (.builtin "object.__class__")) := findObj_any (by obtain ⟨cd, hc, _⟩ := any_some C.hd; rw [hc]; rfl) C.ha C.hn C.ht
  obtain ⟨hp, g, d, t, os⟩ := s
  have L0 := I.type (M := model prog w)
  have L3 := looks_find (M := model prog w) X I hf
  have sub : Looks (model prog w) hp (isInstance (.ref x) (.type "BaseException")) true := L0.andThen (looks_subIn X C.hs)
  have hx2 : (Value.builtin "BaseException.__getattribute__" == Value.builtin "object.__getattribute__") = false := by decide +kernel
  unfold getAttr? getAttrBy? getAttrBy
  refine wpAny_bind (wpAny_mkText (wpAny_bind (wpAny_attempt (wpAny_holding (wpAny_bind (L0.at (wpAny_bind ((looks_findIn (M := model prog w) X C.hg).at ?_))))))))
  show wpAny _ _ (if (onTheHeap (Value.ref D) && Value.builtin "BaseException.__getattribute__" == Value.builtin "object.__getattribute__") = true then _ else _) _ _ _
  rw [show (onTheHeap (Value.ref D) && Value.builtin "BaseException.__getattribute__" == Value.builtin "object.__getattribute__") = false by rw [hx2]; rfl, if_neg Bool.false_ne_true]
  unfold getAttrByItsOwn hookBefore
  refine wpAny_bind ?_
  rw [if_pos (show onTheHeap (Value.ref D) = true from rfl)]
  refine (looks_findIn (M := model prog w) X C.hk).at (wpAny_bind (wpAny_attempt (wpAny_holding ?_)))
  unfold callGetattribute
  rw [show (false && onTheHeap (Value.builtin "BaseException.__getattribute__")) = false from rfl, if_neg Bool.false_ne_true]
  unfold boundAndCalled
  rw [PySem.F.excAttr_ValueError.ga.bind (.ref x)]
  refine wpAny_bind (wpAny_pure ?_)
  show wpAny _ _ (call (.builtin "BaseException.__getattribute__") [.ref x, .str "__class__" t]) _ _ _
  refine wpAny_call (codeAny_call_builtin PySem.F.excAttr_ValueError.ga.plain PySem.F.entry_bexc_ga (@check_slot (model prog w) _ _ ⟨hp, g, d, t + 1, os⟩ "BaseException.__getattribute__" "BaseException" "__getattribute__" (.ref x) [.str "__class__" t] [] _ (by decide +kernel) (by decide +kernel) sub (PySem.F.args_bexc_ga (.ref x) (.str "__class__" t)) ?_))
  unfold Builtin.«object.__getattribute__»
  refine wpAny_bind (wpAny_of_eq (a := ((Value.ref x : Value), [Value.str "__class__" t])) (by first | rfl | (simp only [slotArgs]; rfl)) ?_)
  refine wpAny_bind (wpAny_pure (wpAny_bind (L0.at (wpAny_bind (L3.at ?_)))))
  show wpAny _ _ (holding [Value.builtin "object.__class__"] (call (.builtin "getset_descriptor.__get__") [.builtin "object.__class__", .ref x, .ref D]) >>= ret) _ _ _
  refine wpAny_bind (wpAny_holding (wpAny_call (class_get (s := ⟨hp, g, d, t + 1, os⟩) (ox := ox) (od := od) X I C.hm (wpAny_pure ?_))))
  show wpAny _ _ (handedOut (.ref D)) _ _ _
  rw [handedOut_of (v := .ref D) rfl]
  first
    | exact wpAny_pure (wpAny_pure h)
    | exact wpAny_pure h
    | exact wpAny_pure (wpAny_bind (wpAny_pure (wpAny_pure h)))
theorem kitx_excF (C : ExcC K D) : KitX K (.ref x) (.ref D) (fun h => ∃ od, InstAt h x ox D od) where
  ty := fun _ _ _ ⟨_, I⟩ => I.type
  it := fun _ _ X _ => by
    obtain ⟨cdD, hcD, _⟩ := any_some C.hd
    unfold clsIn at hcD
    split at hcD
    · rename_i c' d' cd' sl' ho
      exact fun A' Q' E' s' k q => by
        unfold isType loadHead
        exact wpAny_bind (wpAny_loadPart (k _ _ (X _ _ ho)) (wpAny_pure q))
    · cases hcD
  ne := fun h tp dd its n sl X htp => Bool.eq_false_iff.mpr fun q => by
    obtain ⟨cdD, hcD, _⟩ := any_some C.hd
    have e : D = tp := Value.ref.inj (beq_iff_eq.mp q)
    subst e
    unfold clsIn at hcD
    split at hcD
    · rename_i c' d' cd' sl' ho
      cases (X _ _ ho).symm.trans htp
    · cases hcD
  ca := fun X ⟨_, I⟩ k => kin_classF C X I k
end
/-- isinstance(e, c), e the error with fields that the suite holds -/
def rIsF (K : PySem.W.Frag) (a : Addr) (cls : Value) (d : Option Addr) : List V → Hp → VK → Prop := fun xs H Q => ∃ (D dd : Addr) (c : V) (cv : Value) (b : Bool) (fs : List (Str × V)), cls = .ref D ∧ d = some dd ∧ ExcC K D ∧ xs = [.ref a, c] ∧ (∀ u, L2.RelV c u → u = cv) ∧ PySem.W.kitOne K (.ref D) cv = some b ∧ H dd = some (.xd fs) ∧ Q (.bl b) H
theorem call_isF {X : Cx} {a : Addr} {cls : Value} {d : Option Addr} {oe : Obj} {pn : List (Addr × Obj)} (hz : Zc cls d oe) (hf : ∃ vs, oe.data = .fields vs) : CallR (X.suite a ((a, oe) :: pn)) (.builtin "isinstance") (rIsF X.K a cls d) := by
  intro pins s σ H xs us Q I r h
  obtain ⟨D, dd, c, cv, b, fs, rfl, rfl, C, rfl, hcv, e, ed, q⟩ := h
  obtain ⟨u1, u2, rfl, rx, rt⟩ := vals2 r
  cases rx
  have ec := hcv _ rt
  subst ec
  obtain ⟨hget, _⟩ := I.pin (a, oe) (List.mem_append.mpr (.inl List.mem_cons_self))
  obtain ⟨vs, hv⟩ := hf
  have hx : ObjOk X.prog X.w H s.heap dd (.xd fs) := I.hok dd _ ed
  obtain ⟨mA, hns, _⟩ := hx
  obtain ⟨oD, es, ep, hoD, _⟩ := hns
  have J : ∃ od, PySem.W.InstAt s.heap a oe D od := by
    obtain ⟨oc, odd, oda, osl⟩ := oe
    obtain ⟨h1, h2⟩ := hz
    dsimp only at h1 h2 hv
    subst h1 h2 hv
    exact ⟨some oD, hget, rfl, rfl, hoD⟩
  exact PySem.W.kia_one (kitx_excF C) I.kIn J e (fun z => nomatch z) fun tk => ⟨.bl b, H, I.kept (t' := tk) fun _ _ z => z, rfl, q⟩
/-- what the written part says of an error class at C under the name x, of its __init__ at fI -/
structure Err (K : PySem.W.Frag) (mg : Str → Option Value) (x : Str) (fields : List Str) (C fI cc : Addr) (F : NF) : Prop where
  g : mg x = some (.ref C)
  oex : OexC K C
  iC : PySem.W.findIn K (.ref C) "__init__" = some (some (.ref fI))
  tI : PySem.W.typeIn K (.ref fI) = some (.type "function")
  noF : ∀ f ∈ fields, PySem.W.findIn K (.ref C) f = some none
  fn : ∃ oc od doc pm ctv osl, K.lookup fI = some ⟨oc, od, .func (F.fd doc pm ctv), osl⟩
  cd : PySem.W.codeIn K (.ref F.c) F.qual = true
  file : ∃ ccl cdd vs ccs tf, K.lookup F.c = some ⟨ccl, cdd, .fields vs, ccs⟩ ∧ vs[2]? = some (.str "/claim/cut.py" tf)
  cl : F.cl = [(("__class__" : Str), cc)]
  cell : ∃ cl cld csl, K.lookup cc = some ⟨cl, cld, .cell (some (.ref C)), csl⟩
  sub : PySem.W.mroIn K C (.ref C) = some true
  ve : PySem.W.subIn K (.ref C) (.type "ValueError") = some true
  any : PySem.W.nsIn K cStatics "thirdparty.any" = some none
  sup : PySem.W.ks_superIn K C C "__init__" = some (some (.builtin "ValueError.__init__"))
  ms : mg "super" = none
  xf : XfC K C
  ex : ExcC K C
  te : PySem.W.exmOne K (.ref C) (.ref C) = some true
  kv : PySem.W.kitOne K (.ref C) (.type "ValueError") = some true
/-- what the program must say, so that super() finds its frame -/
structure PF (P : Program) : Prop where
  file : ((P.main.file : Str) == "/claim/cut.py") = true
  top : (P.main.scope.names.lookup ("super" : Str)).isSome = false
theorem Err.sup' {P : Program} {K : PySem.W.Frag} {mg : Str → Option Value} {x : Str} {fs : List Str} {C fI cc : Addr} {F : NF} (T : Err K mg x fs C fI cc F) (hP : PF P) : SupC P K mg C fI cc F := by
  obtain ⟨ccl, cdd, vs, ccs, tf, h1, h2⟩ := T.file
  exact ⟨T.oex, T.fn, T.cd, ⟨ccl, cdd, vs, ccs, _, tf, h1, h2, hP.file⟩, T.cl, T.cell, T.sub, T.ve, T.any, T.sup, T.ms, hP.top⟩
/-- __init__ of one field, of two fields -/
def spE1 (C : Addr) (f : Str) : Sp := fun vs H Q _ => ∃ (a : Addr) (y : V), vs = [.ref a, y] ∧ H a = some (exo a C none) ∧ ∀ dx, H dx = none → dx ≠ a → Q .non (upd (upd H dx (exd dx [(f, y)])) a (exo a C (some dx)))
def spE2 (C : Addr) (f g : Str) : Sp := fun vs H Q _ => ∃ (a : Addr) (y z : V), vs = [.ref a, y, z] ∧ H a = some (exo a C none) ∧ ∀ dx, H dx = none → dx ≠ a → Q .non (upd (upd (upd H dx (exd dx [(f, y)])) a (exo a C (some dx))) dx (exd dx [(g, z), (f, y)]))
theorem made_eq {H1 H2 : Hp} {a d : Addr} {o : HO} (ha : H1 a = none) (h : ∀ b, b ≠ a → b ≠ d → H2 b = H1 b) (hne : d ≠ a) : upd (del H2 a) d o = upd H1 d o := by
  funext b
  by_cases hd : b = d
  · rw [hd, upd_same, upd_same]
  · rw [upd_ne hd, upd_ne hd]
    by_cases hb : b = a
    · rw [hb, del_same, ha]
    · rw [del_ne hb, h b hb hd]
theorem raise1 {C : Addr} {f : Str} {H1 : Hp} {y : V} {Q : XK} (h : ∀ d, H1 d = none → Q (.ref C) (some d) (upd H1 d (.xd [(f, y)]))) :
    [y].length ≤ 1000 ∧ ∀ a, H1 a = none → spE1 C f (.ref a :: ([y] ++ [])) (upd H1 a (exo a C none))
      (fun v H2 => v = .non ∧ ∃ (d : Addr) (fs : List (Str × V)), H2 a = some (exo a C (some d)) ∧ H2 d = some (exd d fs) ∧ H1 d = none ∧ Q (.ref C) (some d) (upd (del H2 a) d (.xd fs))) (fun _ _ _ => False) := by
  refine ⟨by show 1 ≤ 1000; decide, fun a na => ⟨a, y, rfl, upd_same, fun dx ndx ne => ?_⟩⟩
  rw [upd_ne ne] at ndx
  refine ⟨rfl, dx, _, upd_same, (upd_ne ne).trans upd_same, ndx, ?_⟩
  rw [made_eq na (fun b hb hd => by rw [upd_ne hb, upd_ne hd, upd_ne hb]) ne]
  exact h dx ndx
theorem raise2 {C : Addr} {f g : Str} {H1 : Hp} {y z : V} {Q : XK} (h : ∀ d, H1 d = none → Q (.ref C) (some d) (upd H1 d (.xd [(g, z), (f, y)]))) :
    [y, z].length ≤ 1000 ∧ ∀ a, H1 a = none → spE2 C f g (.ref a :: ([y, z] ++ [])) (upd H1 a (exo a C none))
      (fun v H2 => v = .non ∧ ∃ (d : Addr) (fs : List (Str × V)), H2 a = some (exo a C (some d)) ∧ H2 d = some (exd d fs) ∧ H1 d = none ∧ Q (.ref C) (some d) (upd (del H2 a) d (.xd fs))) (fun _ _ _ => False) := by
  refine ⟨by show 2 ≤ 1000; decide, fun a na => ⟨a, y, z, rfl, upd_same, fun dx ndx ne => ?_⟩⟩
  rw [upd_ne ne] at ndx
  refine ⟨rfl, dx, _, (upd_ne (Ne.symm ne)).trans upd_same, upd_same, ndx, ?_⟩
  rw [made_eq na (fun b hb hd => by rw [upd_ne hd, upd_ne hb, upd_ne hd, upd_ne hb]) ne]
  exact h dx ndx
theorem pass00 {X : Cx} {E : XK} : Passes CX0 X E := fun _ _ _ _ _ _ _ h => h.elim
end HX
set_option Elab.async false
set_option linter.all false
set_option maxRecDepth 100000
/-! own classes whose instances have operators: x op y, op x, comparisons -/
namespace HX
open PySem PySem.Spec PyProof.Rows L2
/-- an operator of the class at C, its def at g -/
structure OpOwn (K : PySem.W.Frag) (C : Addr) (op : Operator) (g : Addr) : Prop where
  sf : PySem.W.selfFirst K C = true
  hs : PySem.W.findIn K (.ref C) (PySem.dunder op.info.2) = some (some (.ref g))
  hf : PySem.W.isFn K (.ref g) = true
  hr : ∃ rc, PySem.W.findIn K (.ref C) (dunderR op.info.2) = some rc ∧ (rc = none ∨ ∃ g : Addr, rc = some (.ref g))
  h1 : ∃ fo, PySem.W.findIn K (.type "int") (PySem.dunder op.info.2) = some fo
  h2 : ∃ ro, PySem.W.findIn K (.type "int") (dunderR op.info.2) = some ro
  hsub : PySem.W.subIn K (.type "int") (.ref C) = some false
/-- a comparison of the class at C, its def at g -/
structure CmpOwn (K : PySem.W.Frag) (C : Addr) (op : CmpOp) (g : Addr) : Prop where
  hs : PySem.W.findIn K (.ref C) (cmpInfo op).2.1 = some (some (.ref g))
  hf : PySem.W.isFn K (.ref g) = true
  nI : PySem.W.notFirst K C (.type "int") = true
  nC : PySem.W.notFirst K C (.ref C) = true
/-- an int, or an instance of the class at C -/
def Opd (C : Addr) (y : V) (H : Hp) : Prop := (∃ i, y = .int i) ∨ ∃ b dy gs, y = .ref b ∧ H b = some (.ins C dy gs)
/-- x op y by the def of x -/
def rOwnB (C : Addr) (sp : Sp) (E : XK) : R2 := fun x y H Q => ∃ a dx fs, x = .ref a ∧ H a = some (.ins C dx fs) ∧ Opd C y H ∧ sp [x, y] H Q E
section
variable {X : Cx} {CX : CXT} {E : XK} {C g : Addr} {k : Nat} {fd : FuncData} {ps : List Str} {sp : Sp}
theorem run_own {pins : List (Addr × Obj)} {σ : L2.St} {H : Hp} {s : Shared} {Q : VK} {us : List Value} {vs : List V} (F : FnOk X.prog X.w X.K X.mg X.base CX k g fd ps sp) (hr : Room k X.A) (hb : L2.Binds X.K fd ps []) (hx : Passes CX X E) (I : Inv X pins σ H s) (r : Vals vs us) (h : sp vs H Q E) :
    wpAny (model X.prog X.w) X.A (call (.ref g) us) (PySem.W.CmpBack (EP X pins σ Q)) X.xe s :=
  wpAny_mono (run_fn F hr hb .nil hx I r (by rw [List.append_nil]; exact h)) (fun w s' z => by
    obtain ⟨z', H', I', rz, qz⟩ := z
    exact SlX.cmpback rz ⟨z', H', I', rz, qz⟩) fun _ _ x => x
theorem op_ownB {op : Operator} (O : OpOwn X.K C op g) (F : FnOk X.prog X.w X.K X.mg X.base CX k g fd ps sp) (hr : Room k X.A) (hb : L2.Binds X.K fd ps []) (hx : Passes CX X E) : OpR X (binaryOp op) (rOwnB C sp E) := by
  intro pins s σ H x y v u Q I rx ry h
  obtain ⟨a, dx, fs, rfl, ha, hy, q⟩ := h
  cases (show v = Value.ref a from rx)
  obtain ⟨mA, OM, _⟩ := ins_get I.hok ha
  obtain ⟨od, J, _⟩ := OM.look
  obtain ⟨m, hF⟩ := I.fr
  rcases hy with ⟨i, rfl⟩ | ⟨b, dy, gs, rfl, hb'⟩
  · obtain ⟨t, e⟩ := (show ∃ t, u = Value.int i t from ry)
    subst e
    obtain ⟨rc, hr1, hr2⟩ := O.hr
    obtain ⟨fo, h1⟩ := O.h1
    obtain ⟨ro, h2⟩ := O.h2
    exact PySem.W.ksp_binT (T := "int") hF I.ok.mod.kin J rfl O.sf O.hs O.hf hr1 hr2 h1 h2 O.hsub (run_own (us := [.ref a, .int i t]) (vs := [.ref a, .int i]) F hr hb hx I (.cons rfl (.cons ⟨t, rfl⟩ .nil)) q)
  · cases (show u = Value.ref b from ry)
    obtain ⟨mB, OB, _⟩ := ins_get I.hok hb'
    obtain ⟨od', J', _⟩ := OB.look
    exact PySem.W.binop_K hF I.ok.mod.kin J J'.type O.sf O.hs O.hf (run_own (us := [.ref a, .ref b]) (vs := [.ref a, .ref b]) F hr hb hx I (.cons rfl (.cons rfl .nil)) q)
theorem op_ownC {op : CmpOp} (hop : ∀ a b, compareOp op a b = richCompare op a b) (O : CmpOwn X.K C op g) (F : FnOk X.prog X.w X.K X.mg X.base CX k g fd ps sp) (hr : Room k X.A) (hb : L2.Binds X.K fd ps []) (hx : Passes CX X E) : OpR X (compareOp op) (rOwnB C sp E) := by
  intro pins s σ H x y v u Q I rx ry h
  obtain ⟨a, dx, fs, rfl, ha, hy, q⟩ := h
  cases (show v = Value.ref a from rx)
  obtain ⟨mA, OM, _⟩ := ins_get I.hok ha
  obtain ⟨od, J, _⟩ := OM.look
  obtain ⟨m, hF⟩ := I.fr
  rw [hop]
  rcases hy with ⟨i, rfl⟩ | ⟨b, dy, gs, rfl, hb'⟩
  · obtain ⟨t, e⟩ := (show ∃ t, u = Value.int i t from ry)
    subst e
    exact PySem.W.cmp_K (op := op) (tb := .type "int") hr.units0 hF I.ok.mod.kin J (PySem.W.Looks.of_pure rfl) O.nI O.hs O.hf (run_own (us := [.ref a, .int i t]) (vs := [.ref a, .int i]) F hr hb hx I (.cons rfl (.cons ⟨t, rfl⟩ .nil)) q)
  · cases (show u = Value.ref b from ry)
    obtain ⟨mB, OB, _⟩ := ins_get I.hok hb'
    obtain ⟨od', J', _⟩ := OB.look
    exact PySem.W.cmp_K (op := op) (tb := .ref C) hr.units0 hF I.ok.mod.kin J J'.type O.nC O.hs O.hf (run_own (us := [.ref a, .ref b]) (vs := [.ref a, .ref b]) F hr hb hx I (.cons rfl (.cons rfl .nil)) q)
/-- x != y by the == of x -/
def rOwnN (C : Addr) (sp : Sp) (E : XK) : R2 := fun x y H Q => ∃ a dx fs, x = .ref a ∧ H a = some (.ins C dx fs) ∧ Opd C y H ∧ sp [x, y] H (fun v H' => ∃ b, v = .bl b ∧ Q (.bl (!b)) H') E
/-- what != of an own class without __ne__ asks of the class -/
structure NeOwn (K : PySem.W.Frag) (C : Addr) : Prop where
  ne : PySem.W.findIn K (.ref C) "__ne__" = some (some (.builtin "object.__ne__"))
  ob : PySem.W.subIn K (.ref C) (.type "object") = some true
set_option maxHeartbeats 4000000 in
theorem ne_own {pins : List (Addr × Obj)} {σ : L2.St} {H : Hp} {s : Shared} {a : Addr} {ox : Obj} {od : Option Obj} {b tb : Value} {y : V} {Q : VK} (N : NeOwn X.K C) (O : CmpOwn X.K C .Eq g) (F : FnR X.prog X.w X.K X.mg X.base CX k g sp) (hr : Room (k + 1) X.A) (hx : Passes CX X E)
    (I : Inv X pins σ H s) (J : PySem.W.InstAt s.heap a ox C od) (hb : PySem.W.Looks (model X.prog X.w) s.heap (typeOf b) tb) (hn : PySem.W.notFirst X.K C tb = true) (rb : RelV y b) (q : sp [.ref a, y] H (fun v H' => ∃ b, v = .bl b ∧ Q (.bl (!b)) H') E) :
    wpAny (model X.prog X.w) X.A (richCompare .NotEq (.ref a) b) (EP X pins σ Q) X.xe s := by
  have XK := I.kIn
  have hi : PySem.W.Looks (model X.prog X.w) s.heap (isInstance (.ref a) (.type "object")) true := J.type.andThen (PySem.W.looks_subIn XK N.ob)
  have hr1 : Room k X.A.in1 := Room.in1 hr
  have hu1 := hr1.units0
  have eqc : wpAny (model X.prog X.w) X.A.in1 (call (.ref g) [.ref a, b]) (fun v s' => ∃ r, v = .bool r ∧ EP X pins σ Q (.bool (!r)) s') X.xe s := by
    refine wpAny_mono (wpAny_call (SlX.run_at (us := [.ref a, b]) (ws := [.ref a, y]) F hr1 I.env0.in1 hx I (.cons rfl (.cons rb .nil)) q)) (fun w s' z => ?_) fun _ _ x => x
    obtain ⟨z', H', I', rz, b', rfl, qz⟩ := z
    exact ⟨b', rz, .bl (!b'), H', I', rfl, qz⟩
  have body : wpAny (model X.prog X.w) X.A.in1 (Builtin.«object.__ne__» ⟨[.ref a, b], []⟩) (fun fin s' => ∃ r, fin = .done (.ret (.bool r)) ∧ EP X pins σ Q (.bool r) s') X.xe s := by
    unfold Builtin.«object.__ne__»
    obtain ⟨hp, gg, d, tk, os⟩ := s
    repeat (first
      | with_reducible refine wpAny_cRoomFor hu1 ?_
      | (refine wpAny_bind (m := callSpecialIfBound? (.ref a) (Str.ofString "__eq__") [b])
          (PySem.W.ifBound_K XK J O.hs O.hf (wpAny_mono eqc (fun r s' hr => by
            obtain ⟨b, rfl, hq⟩ := hr
            repeat (first | exact ⟨_, rfl, hq⟩ | exact wpAny_pure ⟨_, rfl, hq⟩ | exact wpAny_truthy_bool ⟨_, rfl, hq⟩ | (refine wpAny_bind (m := truthy (.bool _)) (wpAny_truthy_bool ?_)) | wp_step)) fun _ _ e => e)))
      | wp_step)
  have one : wpAny (model X.prog X.w) X.A (tryCompare (.ref a) (cmpInfo .NotEq).2.1 b) (fun r s' => ∃ v, r = some v ∧ EP X pins σ Q v s') X.xe s := by
    unfold tryCompare
    refine wpAny_bind ?_
    simp only [callSpecialIfBound?, bindSpecialIfBound?]
    refine wpAny_holding (wpAny_bind (wpAny_bind (wpAny_bind (J.type.here ((PySem.W.looks_findIn XK (show PySem.W.findIn X.K (.ref C) (cmpInfo .NotEq).2.1 = _ from N.ne)).here ?_)))))
    simp only [PySem.F.cmp_object.ne.bind]
    refine wpAny_bind (wpAny_askSetting (wpAny_ite ?_))
    have cl : wpAny (model X.prog X.w) X.A (call (.builtin "object.__ne__") [.ref a, b]) (fun v s' => ∃ r, v = .bool r ∧ EP X pins σ Q (.bool r) s') X.xe s := by
      refine wpAny_call (codeAny_call_builtin PySem.F.cmp_object.ne.plain PySem.F.cmpEntry_ne (PySem.W.check_slot PySem.F.cmpKind_ne PySem.F.cmpSplit_ne hi (PySem.F.cmpArgs_ne _ _) (wpAny_mono body (fun fin s' z => ?_) fun _ _ z => z)))
      obtain ⟨r, rfl, z⟩ := z
      exact ⟨r, rfl, z⟩
    have fin : wpAny (model X.prog X.w) X.A (call (.builtin "object.__ne__") ([.ref a] ++ [b]) >>= fun v => pure (some v)) (fun r s' => wpAny (model X.prog X.w) X.A (match r with | some .notImplemented | none => pure none | some v => pure (some v)) (fun r s' => ∃ v, r = some v ∧ EP X pins σ Q v s') X.xe s') X.xe s :=
      wpAny_bind (wpAny_mono cl (fun v s' z => by
        obtain ⟨r, rfl, z⟩ := z
        exact wpAny_pure (wpAny_pure ⟨_, rfl, z⟩)) fun _ _ z => z)
    split
    · exact wpAny_bind (wpAny_pure (wpAny_pure (by exact fin)))
    · exact wpAny_tryCatch (wpAny_bind (wpAny_pure (wpAny_pure (by exact fin))))
  unfold richCompare
  simp only [oneThing_ref]
  refine wpAny_holding (wpAny_bind (wpAny_cRoomFor hr.units0 ?_))
  refine wpAny_bind (J.type.here (wpAny_bind (hb.here ?_)))
  split
  · rename_i q'
    have e : PySem.W.subIn X.K tb (.ref C) = some false := by
      rcases Bool.or_eq_true_iff.mp hn with e | e
      · rw [beq_iff_eq.mp e] at q'; simp at q'
      · exact beq_iff_eq.mp e
    refine wpAny_bind ((PySem.W.looks_subIn XK e).here ?_)
    simp only [Bool.false_eq_true, if_false]
    refine wpAny_bind (wpAny_mono one (fun r s' z => ?_) fun _ _ e => e)
    obtain ⟨v, rfl, hq⟩ := z
    exact wpAny_pure hq
  · refine wpAny_bind (wpAny_pure ?_)
    simp only [Bool.false_eq_true, if_false]
    refine wpAny_bind (wpAny_mono one (fun r s' z => ?_) fun _ _ e => e)
    obtain ⟨v, rfl, hq⟩ := z
    exact wpAny_pure hq
theorem op_ownN (N : NeOwn X.K C) (O : CmpOwn X.K C .Eq g) (F : FnOk X.prog X.w X.K X.mg X.base CX k g fd ps sp) (hr : Room (k + 1) X.A) (hb : L2.Binds X.K fd ps []) (hx : Passes CX X E) : OpR X (compareOp .NotEq) (rOwnN C sp E) := by
  intro pins s σ H x y v u Q I rx ry h
  obtain ⟨a, dx, fs, rfl, ha, hy, q⟩ := h
  cases (show v = Value.ref a from rx)
  obtain ⟨mA, OM, _⟩ := ins_get I.hok ha
  obtain ⟨od, J, _⟩ := OM.look
  have F' := F.raw hb .nil
  have q' : (fun vs H Q E => sp (vs ++ []) H Q E) [.ref a, y] H (fun v H' => ∃ b, v = .bl b ∧ Q (.bl (!b)) H') E := q
  show wpAny _ _ (richCompare .NotEq (.ref a) u) _ _ _
  rcases hy with ⟨i, rfl⟩ | ⟨b, dy, gs, rfl, hb'⟩
  · obtain ⟨t, e⟩ := (show ∃ t, u = Value.int i t from ry)
    subst e
    exact ne_own (y := .int i) (b := .int i t) N O F' hr hx I J (PySem.W.Looks.of_pure rfl) O.nI ⟨t, rfl⟩ q'
  · cases (show u = Value.ref b from ry)
    obtain ⟨mB, OB, _⟩ := ins_get I.hok hb'
    obtain ⟨od', J', _⟩ := OB.look
    exact ne_own (y := .ref b) (b := .ref b) N O F' hr hx I J J'.type O.nC rfl q'
end
/-- what isinstance asks of the class at C, and whose instances are instances of what -/
structure IsiOwn (K : PySem.W.Frag) (C : Addr) : Prop where
  ca : PySem.W.findIn K (.ref C) "__class__" = some (some (.builtin "object.__class__"))
  cn : PySem.W.specialIn K (.builtin "object.__class__") "__get__" = some (some (.builtin "getset_descriptor.__get__"))
  ct : PySem.W.takesIn K (.builtin "object.__class__") = some true
  cm : PySem.W.mroIn K C (.type "object") = some true
  ks : PySem.W.kitOne K (.ref C) (.ref C) = some true
  ki : PySem.W.kitOne K (.ref C) (.type "int") = some false
  kt : PySem.W.kitOne K (.ref C) (.type "tuple") = some false
  kb : PySem.W.kitOne K (.ref C) (.type "bool") = some false
  ik : PySem.W.kitOne K (.type "int") (.ref C) = some false
  bk : PySem.W.kitOne K (.type "bool") (.ref C) = some false
  nk : PySem.W.kitOne K (.type "NoneType") (.ref C) = some false
  sk : PySem.W.kitOne K (.type "str") (.ref C) = some false
  tk : PySem.W.kitOne K (.type "tuple") (.ref C) = some false
  lk : PySem.W.kitOne K (.type "list") (.ref C) = some false
  dk : PySem.W.kitOne K (.type "dict") (.ref C) = some false
end HX
set_option Elab.async false
set_option linter.all false
set_option maxRecDepth 100000
namespace K45
open PySem PySem.Spec PyProof.Rows L2
def topS (i : Nat) : Stmt := PySem.Challenge.pw_farbits_k45_whole_covers_of_written_rang.main.body.getD i (.Pass ⟨0, 0, 0, 0⟩)
abbrev s_turns_of_int : Stmt := topS 28
theorem sc_turns_of_int : FnScope ["number", "marks", "found", "lowest"] ["number"] (defScope s_turns_of_int) := ⟨rfl, rfl, rfl, by decide +kernel, rfl, by decide +kernel, by decide +kernel⟩
abbrev s_turns : Stmt := topS 29
theorem sc_turns : FnScope ["x"] ["x"] (defScope s_turns) := ⟨rfl, rfl, rfl, by decide +kernel, rfl, by decide +kernel, by decide +kernel⟩
abbrev s_made : Stmt := topS 31
theorem sc_made : FnScope ["found", "last", "number", "at", "place"] ["found"] (defScope s_made) := ⟨rfl, rfl, rfl, by decide +kernel, rfl, by decide +kernel, by decide +kernel⟩
abbrev s_of_int : Stmt := topS 32
theorem sc_of_int : FnScope ["number"] ["number"] (defScope s_of_int) := ⟨rfl, rfl, rfl, by decide +kernel, rfl, by decide +kernel, by decide +kernel⟩
abbrev s_negative : Stmt := topS 33
theorem sc_negative : FnScope ["x"] ["x"] (defScope s_negative) := ⟨rfl, rfl, rfl, by decide +kernel, rfl, by decide +kernel, by decide +kernel⟩
abbrev s_order : Stmt := topS 34
theorem sc_order : FnScope ["x", "y", "ours", "theirs", "common", "most", "side"] ["x", "y"] (defScope s_order) := ⟨rfl, rfl, rfl, by decide +kernel, rfl, by decide +kernel, by decide +kernel⟩
abbrev s_bit : Stmt := topS 35
theorem sc_bit : FnScope ["x", "place", "passed", "turn"] ["x", "place"] (defScope s_bit) := ⟨rfl, rfl, rfl, by decide +kernel, rfl, by decide +kernel, by decide +kernel⟩
abbrev s_merged : Stmt := topS 36
theorem sc_merged : FnScope ["ours", "theirs", "rows", "i", "j", "side"] ["ours", "theirs"] (defScope s_merged) := ⟨rfl, rfl, rfl, by decide +kernel, rfl, by decide +kernel, by decide +kernel⟩
abbrev s_combined : Stmt := topS 37
theorem sc_combined : FnScope ["x", "y", "table", "found", "ours", "theirs", "before", "place", "mine", "other", "here"] ["x", "y", "table"] (defScope s_combined) := ⟨rfl, rfl, rfl, by decide +kernel, rfl, by decide +kernel, by decide +kernel⟩
abbrev s_toggled : Stmt := topS 38
theorem sc_toggled : FnScope ["found", "place", "at"] ["found", "place"] (defScope s_toggled) := ⟨rfl, rfl, rfl, by decide +kernel, rfl, by decide +kernel, by decide +kernel⟩
abbrev s_plus_one : Stmt := topS 39
theorem sc_plus_one : FnScope ["x"] ["x"] (defScope s_plus_one) := ⟨rfl, rfl, rfl, by decide +kernel, rfl, by decide +kernel, by decide +kernel⟩
abbrev s_inverted : Stmt := topS 40
theorem sc_inverted : FnScope ["x"] ["x"] (defScope s_inverted) := ⟨rfl, rfl, rfl, by decide +kernel, rfl, by decide +kernel, by decide +kernel⟩
abbrev s_total : Stmt := topS 42
theorem sc_total : FnScope ["x", "y", "carry", "rows", "found", "ours", "theirs", "before", "at", "place", "mine", "other", "here", "rest", "following"] ["x", "y", "carry"] (defScope s_total) := ⟨rfl, rfl, rfl, by decide +kernel, rfl, by decide +kernel, by decide +kernel⟩
abbrev s_minus : Stmt := topS 43
theorem sc_minus : FnScope ["x", "y"] ["x", "y"] (defScope s_minus) := ⟨rfl, rfl, rfl, by decide +kernel, rfl, by decide +kernel, by decide +kernel⟩
abbrev s_shifted : Stmt := topS 44
theorem sc_shifted : FnScope ["x", "amount", "turn"] ["x", "amount"] (defScope s_shifted) := ⟨rfl, rfl, rfl, by decide +kernel, rfl, by decide +kernel, by decide +kernel⟩
abbrev s_dropped : Stmt := topS 45
theorem sc_dropped : FnScope ["x", "amount", "every", "kept_turns", "turn", "found"] ["x", "amount"] (defScope s_dropped) := ⟨rfl, rfl, rfl, by decide +kernel, rfl, by decide +kernel, by decide +kernel⟩
abbrev s_power_of_two : Stmt := topS 47
theorem sc_power_of_two : FnScope ["place"] ["place"] (defScope s_power_of_two) := ⟨rfl, rfl, rfl, by decide +kernel, rfl, by decide +kernel, by decide +kernel⟩
abbrev s_run_of : Stmt := topS 49
theorem sc_run_of : FnScope ["start", "stop"] ["start", "stop"] (defScope s_run_of) := ⟨rfl, rfl, rfl, by decide +kernel, rfl, by decide +kernel, by decide +kernel⟩
abbrev s_last_turn : Stmt := topS 51
theorem sc_last_turn : FnScope ["x", "found"] ["x"] (defScope s_last_turn) := ⟨rfl, rfl, rfl, by decide +kernel, rfl, by decide +kernel, by decide +kernel⟩
abbrev s_size : Stmt := topS 52
theorem sc_size : FnScope ["x", "turn"] ["x"] (defScope s_size) := ⟨rfl, rfl, rfl, by decide +kernel, rfl, by decide +kernel, by decide +kernel⟩
abbrev s_height : Stmt := topS 53
theorem sc_height : FnScope ["x", "greatest", "turn"] ["x"] (defScope s_height) := ⟨rfl, rfl, rfl, by decide +kernel, rfl, by decide +kernel, by decide +kernel⟩
abbrev s_kept : Stmt := topS 54
theorem sc_kept : FnScope ["x", "parts", "levels"] ["x"] (defScope s_kept) := ⟨rfl, rfl, rfl, by decide +kernel, rfl, by decide +kernel, by decide +kernel⟩
abbrev s_order_of : Stmt := topS 58
theorem sc_order_of : FnScope ["x", "y"] ["x", "y"] (defScope s_order_of) := ⟨rfl, rfl, rfl, by decide +kernel, rfl, by decide +kernel, by decide +kernel⟩
abbrev s_is_int : Stmt := topS 103
theorem sc_is_int : FnScope ["value"] ["value"] (defScope s_is_int) := ⟨rfl, rfl, rfl, by decide +kernel, rfl, by decide +kernel, by decide +kernel⟩
abbrev s_row_form : Stmt := topS 104
theorem sc_row_form : FnScope ["members", "found", "at", "member", "form"] ["members"] (defScope s_row_form) := ⟨rfl, rfl, rfl, by decide +kernel, rfl, by decide +kernel, by decide +kernel⟩
abbrev s_given_form : Stmt := topS 105
theorem sc_given_form : FnScope ["value"] ["value"] (defScope s_given_form) := ⟨rfl, rfl, rfl, by decide +kernel, rfl, by decide +kernel, by decide +kernel⟩
abbrev s_operand : Stmt := topS 106
theorem sc_operand : FnScope ["value"] ["value"] (defScope s_operand) := ⟨rfl, rfl, rfl, by decide +kernel, rfl, by decide +kernel, by decide +kernel⟩
abbrev s_number_form : Stmt := topS 107
theorem sc_number_form : FnScope ["value", "found"] ["value"] (defScope s_number_form) := ⟨rfl, rfl, rfl, by decide +kernel, rfl, by decide +kernel, by decide +kernel⟩
abbrev s_place_form : Stmt := topS 108
theorem sc_place_form : FnScope ["value", "found"] ["value"] (defScope s_place_form) := ⟨rfl, rfl, rfl, by decide +kernel, rfl, by decide +kernel, by decide +kernel⟩
abbrev s_range_forms : Stmt := topS 109
theorem sc_range_forms : FnScope ["start", "stop", "begin", "end"] ["start", "stop"] (defScope s_range_forms) := ⟨rfl, rfl, rfl, by decide +kernel, rfl, by decide +kernel, by decide +kernel⟩
abbrev s_sum_of_ones : Stmt := topS 113
theorem sc_sum_of_ones : FnScope ["rows", "found", "at", "turn"] ["rows"] (defScope s_sum_of_ones) := ⟨rfl, rfl, rfl, by decide +kernel, rfl, by decide +kernel, by decide +kernel⟩
abbrev s_ranked : Stmt := topS 114
theorem sc_ranked : FnScope ["x", "rank", "left", "rows", "at", "many"] ["x", "rank"] (defScope s_ranked) := ⟨rfl, rfl, rfl, by decide +kernel, rfl, by decide +kernel, by decide +kernel⟩
abbrev s_less : Stmt := topS 116
theorem sc_less : FnScope ["x", "y"] ["x", "y"] (defScope s_less) := ⟨rfl, rfl, rfl, by decide +kernel, rfl, by decide +kernel, by decide +kernel⟩
abbrev s_low_part : Stmt := topS 117
theorem sc_low_part : FnScope ["x", "place"] ["x", "place"] (defScope s_low_part) := ⟨rfl, rfl, rfl, by decide +kernel, rfl, by decide +kernel, by decide +kernel⟩
abbrev s_high_part : Stmt := topS 118
theorem sc_high_part : FnScope ["x", "place"] ["x", "place"] (defScope s_high_part) := ⟨rfl, rfl, rfl, by decide +kernel, rfl, by decide +kernel, by decide +kernel⟩
abbrev s_ones_of : Stmt := topS 119
theorem sc_ones_of : FnScope ["x"] ["x"] (defScope s_ones_of) := ⟨rfl, rfl, rfl, by decide +kernel, rfl, by decide +kernel, by decide +kernel⟩
abbrev s_top_place : Stmt := topS 120
theorem sc_top_place : FnScope ["x"] ["x"] (defScope s_top_place) := ⟨rfl, rfl, rfl, by decide +kernel, rfl, by decide +kernel, by decide +kernel⟩
abbrev s_block_stop : Stmt := topS 121
theorem sc_block_stop : FnScope ["first", "level"] ["first", "level"] (defScope s_block_stop) := ⟨rfl, rfl, rfl, by decide +kernel, rfl, by decide +kernel, by decide +kernel⟩
abbrev s_parted : Stmt := topS 122
theorem sc_parted : FnScope ["start", "stop", "middle"] ["start", "stop"] (defScope s_parted) := ⟨rfl, rfl, rfl, by decide +kernel, rfl, by decide +kernel, by decide +kernel⟩
abbrev s_left_first : Stmt := topS 123
theorem sc_left_first : FnScope ["start", "left", "level"] ["start", "left", "level"] (defScope s_left_first) := ⟨rfl, rfl, rfl, by decide +kernel, rfl, by decide +kernel, by decide +kernel⟩
abbrev s_right_first : Stmt := topS 124
theorem sc_right_first : FnScope ["middle", "right", "level"] ["middle", "right", "level"] (defScope s_right_first) := ⟨rfl, rfl, rfl, by decide +kernel, rfl, by decide +kernel, by decide +kernel⟩
abbrev s_cover_size : Stmt := topS 125
theorem sc_cover_size : FnScope ["start", "stop", "middle", "left", "right"] ["start", "stop"] (defScope s_cover_size) := ⟨rfl, rfl, rfl, by decide +kernel, rfl, by decide +kernel, by decide +kernel⟩
abbrev s_cover_member : Stmt := topS 126
theorem sc_cover_member : FnScope ["start", "stop", "rank", "middle", "left", "right", "many", "level", "behind"] ["start", "stop", "rank"] (defScope s_cover_member) := ⟨rfl, rfl, rfl, by decide +kernel, rfl, by decide +kernel, by decide +kernel⟩
abbrev s_block_around : Stmt := topS 127
theorem sc_block_around : FnScope ["start", "stop", "place", "level", "lower"] ["start", "stop", "place"] (defScope s_block_around) := ⟨rfl, rfl, rfl, by decide +kernel, rfl, by decide +kernel, by decide +kernel⟩
abbrev s_far_of : Stmt := topS 129
theorem sc_far_of : FnScope ["form"] ["form"] (defScope s_far_of) := ⟨rfl, rfl, rfl, by decide +kernel, rfl, by decide +kernel, by decide +kernel⟩
abbrev s_as_range : Stmt := topS 130
theorem sc_as_range : FnScope ["first", "level"] ["first", "level"] (defScope s_as_range) := ⟨rfl, rfl, rfl, by decide +kernel, rfl, by decide +kernel, by decide +kernel⟩
abbrev s_cover_count : Stmt := topS 131
theorem sc_cover_count : FnScope ["start", "stop", "low", "high"] ["start", "stop"] (defScope s_cover_count) := ⟨rfl, rfl, rfl, by decide +kernel, rfl, by decide +kernel, by decide +kernel⟩
abbrev s_cover_block : Stmt := topS 132
theorem sc_cover_block : FnScope ["start", "stop", "k", "low", "high", "rank", "block"] ["start", "stop", "k"] (defScope s_cover_block) := ⟨rfl, rfl, rfl, by decide +kernel, rfl, by decide +kernel, by decide +kernel⟩
abbrev s_cover_at : Stmt := topS 133
theorem sc_cover_at : FnScope ["start", "stop", "address", "low", "high", "place", "first", "level", "middle", "left", "right", "rank"] ["start", "stop", "address"] (defScope s_cover_at) := ⟨rfl, rfl, rfl, by decide +kernel, rfl, by decide +kernel, by decide +kernel⟩
abbrev s_cover_level : Stmt := topS 134
theorem sc_cover_level : FnScope ["start", "stop", "order", "low", "high", "level", "middle", "left", "right", "found"] ["start", "stop", "order"] (defScope s_cover_level) := ⟨rfl, rfl, rfl, by decide +kernel, rfl, by decide +kernel, by decide +kernel⟩
abbrev s__law_pen : Stmt := topS 136
theorem sc__law_pen : FnScope ["_law_script"] ["_law_script"] (defScope s__law_pen) := ⟨rfl, rfl, rfl, by decide +kernel, rfl, by decide +kernel, by decide +kernel⟩
abbrev s__law_draw : Stmt := topS 137
theorem sc__law_draw : FnScope ["_law_pen_here", "_law_span", "_law_digit", "_law_spot", "_law_cell", "_law_first", "_law_mixed"] ["_law_pen_here", "_law_span"] (defScope s__law_draw) := ⟨rfl, rfl, rfl, by decide +kernel, rfl, by decide +kernel, by decide +kernel⟩
abbrev s__law_great : Stmt := topS 138
theorem sc__law_great : FnScope ["_law_pen_here", "_law_figures", "_law_value", "_law_k"] ["_law_pen_here", "_law_figures"] (defScope s__law_great) := ⟨rfl, rfl, rfl, by decide +kernel, rfl, by decide +kernel, by decide +kernel⟩
abbrev s__law_given : Stmt := topS 139
theorem sc__law_given : FnScope ["_law_pen_here", "_law_value"] ["_law_pen_here", "_law_value"] (defScope s__law_given) := ⟨rfl, rfl, rfl, by decide +kernel, rfl, by decide +kernel, by decide +kernel⟩
abbrev s__law_is_block : Stmt := topS 140
theorem sc__law_is_block : FnScope ["_law_found", "_law_due"] ["_law_found", "_law_due"] (defScope s__law_is_block) := ⟨rfl, rfl, rfl, by decide +kernel, rfl, by decide +kernel, by decide +kernel⟩
abbrev s__law_places : Stmt := topS 141
theorem sc__law_places : FnScope ["_law_pen_here", "_law_many", "_law_limit", "_law_found", "_law_at", "_law_k", "_law_lot"] ["_law_pen_here", "_law_many", "_law_limit"] (defScope s__law_places) := ⟨rfl, rfl, rfl, by decide +kernel, rfl, by decide +kernel, by decide +kernel⟩
abbrev s__law_integer : Stmt := topS 142
theorem sc__law_integer : FnScope ["_law_spots", "_law_value", "_law_at"] ["_law_spots"] (defScope s__law_integer) := ⟨rfl, rfl, rfl, by decide +kernel, rfl, by decide +kernel, by decide +kernel⟩
abbrev s__law_cover : Stmt := topS 143
theorem sc__law_cover : FnScope ["_law_begin", "_law_finish", "_law_found", "_law_at", "_law_cells"] ["_law_begin", "_law_finish"] (defScope s__law_cover) := ⟨rfl, rfl, rfl, by decide +kernel, rfl, by decide +kernel, by decide +kernel⟩
abbrev s__law_range : Stmt := topS 144
theorem sc__law_range : FnScope ["_law_pen_here", "_law_limit", "_law_begin", "_law_other"] ["_law_pen_here"] (defScope s__law_range) := ⟨rfl, rfl, rfl, by decide +kernel, rfl, by decide +kernel, by decide +kernel⟩
abbrev s__law_is_told : Stmt := topS 145
theorem sc__law_is_told : FnScope ["_law_pen_here", "_law_begin", "_law_finish", "_law_due", "_law_k", "_law_address", "_law_found"] ["_law_pen_here", "_law_begin", "_law_finish", "_law_due", "_law_k"] (defScope s__law_is_told) := ⟨rfl, rfl, rfl, by decide +kernel, rfl, by decide +kernel, by decide +kernel⟩
abbrev s_law : Stmt := topS 146
theorem sc_law : FnScope ["_law_script", "_law_pen_here", "_law_lap", "_law_begin", "_law_finish", "_law_due", "_law_picks", "_law_again", "_law_k", "_law_cells", "_law_found", "_law_alike", "_law_pair"] ["_law_script"] (defScope s_law) := ⟨rfl, rfl, rfl, by decide +kernel, rfl, by decide +kernel, by decide +kernel⟩
abbrev s_Far___init__ : Stmt := inClass (topS 111) 0
theorem sc_Far___init__ : FnScope ["self", "value"] ["self", "value"] (defScope s_Far___init__) := ⟨rfl, rfl, rfl, by decide +kernel, rfl, by decide +kernel, by decide +kernel⟩
abbrev s_Far___eq__ : Stmt := inClass (topS 111) 35
theorem sc_Far___eq__ : FnScope ["self", "other", "given"] ["self", "other"] (defScope s_Far___eq__) := ⟨rfl, rfl, rfl, by decide +kernel, rfl, by decide +kernel, by decide +kernel⟩
set_option maxHeartbeats 8000000 in
structure Top (K : PySem.W.Frag) (mg : Str → Option Value) where
  f_turns_of_int : Addr
  fd_turns_of_int : FuncData
  F_turns_of_int : Fun K "turns_of_int" "turns_of_int" s_turns_of_int f_turns_of_int fd_turns_of_int
  g_turns_of_int : mg "turns_of_int" = some (.ref f_turns_of_int)
  b_turns_of_int : Binds K fd_turns_of_int ["number"] []
  f_turns : Addr
  fd_turns : FuncData
  F_turns : Fun K "turns" "turns" s_turns f_turns fd_turns
  g_turns : mg "turns_raw" = some (.ref f_turns)
  b_turns : Binds K fd_turns ["x"] []
  f_made : Addr
  fd_made : FuncData
  F_made : Fun K "made" "made" s_made f_made fd_made
  g_made : mg "made" = some (.ref f_made)
  b_made : Binds K fd_made ["found"] []
  f_of_int : Addr
  fd_of_int : FuncData
  F_of_int : Fun K "of_int" "of_int" s_of_int f_of_int fd_of_int
  g_of_int : mg "of_int" = some (.ref f_of_int)
  b_of_int : Binds K fd_of_int ["number"] []
  f_negative : Addr
  fd_negative : FuncData
  F_negative : Fun K "negative" "negative" s_negative f_negative fd_negative
  g_negative : mg "negative" = some (.ref f_negative)
  b_negative : Binds K fd_negative ["x"] []
  f_order : Addr
  fd_order : FuncData
  F_order : Fun K "order" "order" s_order f_order fd_order
  g_order : mg "order" = some (.ref f_order)
  b_order : Binds K fd_order ["x", "y"] []
  f_bit : Addr
  fd_bit : FuncData
  F_bit : Fun K "bit" "bit" s_bit f_bit fd_bit
  g_bit : mg "bit" = some (.ref f_bit)
  b_bit : Binds K fd_bit ["x", "place"] []
  f_merged : Addr
  fd_merged : FuncData
  F_merged : Fun K "merged" "merged" s_merged f_merged fd_merged
  g_merged : mg "merged" = some (.ref f_merged)
  b_merged : Binds K fd_merged ["ours", "theirs"] []
  f_combined : Addr
  fd_combined : FuncData
  F_combined : Fun K "combined" "combined" s_combined f_combined fd_combined
  g_combined : mg "combined" = some (.ref f_combined)
  b_combined : Binds K fd_combined ["x", "y", "table"] []
  f_toggled : Addr
  fd_toggled : FuncData
  F_toggled : Fun K "toggled" "toggled" s_toggled f_toggled fd_toggled
  g_toggled : mg "toggled" = some (.ref f_toggled)
  b_toggled : Binds K fd_toggled ["found", "place"] []
  f_plus_one : Addr
  fd_plus_one : FuncData
  F_plus_one : Fun K "plus_one" "plus_one" s_plus_one f_plus_one fd_plus_one
  g_plus_one : mg "plus_one" = some (.ref f_plus_one)
  b_plus_one : Binds K fd_plus_one ["x"] []
  f_inverted : Addr
  fd_inverted : FuncData
  F_inverted : Fun K "inverted" "inverted" s_inverted f_inverted fd_inverted
  g_inverted : mg "inverted" = some (.ref f_inverted)
  b_inverted : Binds K fd_inverted ["x"] []
  f_total : Addr
  fd_total : FuncData
  F_total : Fun K "total" "total" s_total f_total fd_total
  g_total : mg "total" = some (.ref f_total)
  b_total : Binds K fd_total ["x", "y", "carry"] []
  f_minus : Addr
  fd_minus : FuncData
  F_minus : Fun K "minus" "minus" s_minus f_minus fd_minus
  g_minus : mg "minus" = some (.ref f_minus)
  b_minus : Binds K fd_minus ["x", "y"] []
  f_shifted : Addr
  fd_shifted : FuncData
  F_shifted : Fun K "shifted" "shifted" s_shifted f_shifted fd_shifted
  g_shifted : mg "shifted" = some (.ref f_shifted)
  b_shifted : Binds K fd_shifted ["x", "amount"] []
  f_dropped : Addr
  fd_dropped : FuncData
  F_dropped : Fun K "dropped" "dropped" s_dropped f_dropped fd_dropped
  g_dropped : mg "dropped" = some (.ref f_dropped)
  b_dropped : Binds K fd_dropped ["x", "amount"] []
  f_power_of_two : Addr
  fd_power_of_two : FuncData
  F_power_of_two : Fun K "power_of_two" "power_of_two" s_power_of_two f_power_of_two fd_power_of_two
  g_power_of_two : mg "power_of_two" = some (.ref f_power_of_two)
  b_power_of_two : Binds K fd_power_of_two ["place"] []
  f_run_of : Addr
  fd_run_of : FuncData
  F_run_of : Fun K "run_of" "run_of" s_run_of f_run_of fd_run_of
  g_run_of : mg "run_of" = some (.ref f_run_of)
  b_run_of : Binds K fd_run_of ["start", "stop"] []
  f_last_turn : Addr
  fd_last_turn : FuncData
  F_last_turn : Fun K "last_turn" "last_turn" s_last_turn f_last_turn fd_last_turn
  g_last_turn : mg "last_turn" = some (.ref f_last_turn)
  b_last_turn : Binds K fd_last_turn ["x"] []
  f_size : Addr
  fd_size : FuncData
  F_size : Fun K "size" "size" s_size f_size fd_size
  g_size : mg "size" = some (.ref f_size)
  b_size : Binds K fd_size ["x"] []
  f_height : Addr
  fd_height : FuncData
  F_height : Fun K "height" "height" s_height f_height fd_height
  g_height : mg "height" = some (.ref f_height)
  b_height : Binds K fd_height ["x"] []
  f_kept : Addr
  fd_kept : FuncData
  F_kept : Fun K "kept" "kept" s_kept f_kept fd_kept
  g_kept : mg "kept" = some (.ref f_kept)
  b_kept : Binds K fd_kept ["x"] []
  f_order_of : Addr
  fd_order_of : FuncData
  F_order_of : Fun K "order_of" "order_of" s_order_of f_order_of fd_order_of
  g_order_of : mg "order_of" = some (.ref f_order_of)
  b_order_of : Binds K fd_order_of ["x", "y"] []
  f_is_int : Addr
  fd_is_int : FuncData
  F_is_int : Fun K "is_int" "is_int" s_is_int f_is_int fd_is_int
  g_is_int : mg "is_int" = some (.ref f_is_int)
  b_is_int : Binds K fd_is_int ["value"] []
  f_row_form : Addr
  fd_row_form : FuncData
  F_row_form : Fun K "row_form" "row_form" s_row_form f_row_form fd_row_form
  g_row_form : mg "row_form" = some (.ref f_row_form)
  b_row_form : Binds K fd_row_form ["members"] []
  f_given_form : Addr
  fd_given_form : FuncData
  F_given_form : Fun K "given_form" "given_form" s_given_form f_given_form fd_given_form
  g_given_form : mg "given_form" = some (.ref f_given_form)
  b_given_form : Binds K fd_given_form ["value"] []
  f_operand : Addr
  fd_operand : FuncData
  F_operand : Fun K "operand" "operand" s_operand f_operand fd_operand
  g_operand : mg "operand" = some (.ref f_operand)
  b_operand : Binds K fd_operand ["value"] []
  f_number_form : Addr
  fd_number_form : FuncData
  F_number_form : Fun K "number_form" "number_form" s_number_form f_number_form fd_number_form
  g_number_form : mg "number_form" = some (.ref f_number_form)
  b_number_form : Binds K fd_number_form ["value"] []
  f_place_form : Addr
  fd_place_form : FuncData
  F_place_form : Fun K "place_form" "place_form" s_place_form f_place_form fd_place_form
  g_place_form : mg "place_form" = some (.ref f_place_form)
  b_place_form : Binds K fd_place_form ["value"] []
  f_range_forms : Addr
  fd_range_forms : FuncData
  F_range_forms : Fun K "range_forms" "range_forms" s_range_forms f_range_forms fd_range_forms
  g_range_forms : mg "range_forms" = some (.ref f_range_forms)
  b_range_forms : Binds K fd_range_forms ["start", "stop"] []
  f_sum_of_ones : Addr
  fd_sum_of_ones : FuncData
  F_sum_of_ones : Fun K "sum_of_ones" "sum_of_ones" s_sum_of_ones f_sum_of_ones fd_sum_of_ones
  g_sum_of_ones : mg "sum_of_ones" = some (.ref f_sum_of_ones)
  b_sum_of_ones : Binds K fd_sum_of_ones ["rows"] []
  f_ranked : Addr
  fd_ranked : FuncData
  F_ranked : Fun K "ranked" "ranked" s_ranked f_ranked fd_ranked
  g_ranked : mg "ranked" = some (.ref f_ranked)
  b_ranked : Binds K fd_ranked ["x", "rank"] []
  f_less : Addr
  fd_less : FuncData
  F_less : Fun K "less" "less" s_less f_less fd_less
  g_less : mg "less" = some (.ref f_less)
  b_less : Binds K fd_less ["x", "y"] []
  f_low_part : Addr
  fd_low_part : FuncData
  F_low_part : Fun K "low_part" "low_part" s_low_part f_low_part fd_low_part
  g_low_part : mg "low_part" = some (.ref f_low_part)
  b_low_part : Binds K fd_low_part ["x", "place"] []
  f_high_part : Addr
  fd_high_part : FuncData
  F_high_part : Fun K "high_part" "high_part" s_high_part f_high_part fd_high_part
  g_high_part : mg "high_part" = some (.ref f_high_part)
  b_high_part : Binds K fd_high_part ["x", "place"] []
  f_ones_of : Addr
  fd_ones_of : FuncData
  F_ones_of : Fun K "ones_of" "ones_of" s_ones_of f_ones_of fd_ones_of
  g_ones_of : mg "ones_of" = some (.ref f_ones_of)
  b_ones_of : Binds K fd_ones_of ["x"] []
  f_top_place : Addr
  fd_top_place : FuncData
  F_top_place : Fun K "top_place" "top_place" s_top_place f_top_place fd_top_place
  g_top_place : mg "top_place" = some (.ref f_top_place)
  b_top_place : Binds K fd_top_place ["x"] []
  f_block_stop : Addr
  fd_block_stop : FuncData
  F_block_stop : Fun K "block_stop" "block_stop" s_block_stop f_block_stop fd_block_stop
  g_block_stop : mg "block_stop" = some (.ref f_block_stop)
  b_block_stop : Binds K fd_block_stop ["first", "level"] []
  f_parted : Addr
  fd_parted : FuncData
  F_parted : Fun K "parted" "parted" s_parted f_parted fd_parted
  g_parted : mg "parted" = some (.ref f_parted)
  b_parted : Binds K fd_parted ["start", "stop"] []
  f_left_first : Addr
  fd_left_first : FuncData
  F_left_first : Fun K "left_first" "left_first" s_left_first f_left_first fd_left_first
  g_left_first : mg "left_first" = some (.ref f_left_first)
  b_left_first : Binds K fd_left_first ["start", "left", "level"] []
  f_right_first : Addr
  fd_right_first : FuncData
  F_right_first : Fun K "right_first" "right_first" s_right_first f_right_first fd_right_first
  g_right_first : mg "right_first" = some (.ref f_right_first)
  b_right_first : Binds K fd_right_first ["middle", "right", "level"] []
  f_cover_size : Addr
  fd_cover_size : FuncData
  F_cover_size : Fun K "cover_size" "cover_size" s_cover_size f_cover_size fd_cover_size
  g_cover_size : mg "cover_size" = some (.ref f_cover_size)
  b_cover_size : Binds K fd_cover_size ["start", "stop"] []
  f_cover_member : Addr
  fd_cover_member : FuncData
  F_cover_member : Fun K "cover_member" "cover_member" s_cover_member f_cover_member fd_cover_member
  g_cover_member : mg "cover_member" = some (.ref f_cover_member)
  b_cover_member : Binds K fd_cover_member ["start", "stop", "rank"] []
  f_block_around : Addr
  fd_block_around : FuncData
  F_block_around : Fun K "block_around" "block_around" s_block_around f_block_around fd_block_around
  g_block_around : mg "block_around" = some (.ref f_block_around)
  b_block_around : Binds K fd_block_around ["start", "stop", "place"] []
  f_far_of : Addr
  fd_far_of : FuncData
  F_far_of : Fun K "far_of" "far_of" s_far_of f_far_of fd_far_of
  g_far_of : mg "far_of" = some (.ref f_far_of)
  b_far_of : Binds K fd_far_of ["form"] []
  f_as_range : Addr
  fd_as_range : FuncData
  F_as_range : Fun K "as_range" "as_range" s_as_range f_as_range fd_as_range
  g_as_range : mg "as_range" = some (.ref f_as_range)
  b_as_range : Binds K fd_as_range ["first", "level"] []
  f_cover_count : Addr
  fd_cover_count : FuncData
  F_cover_count : Fun K "cover_count" "cover_count" s_cover_count f_cover_count fd_cover_count
  g_cover_count : mg "cover_count" = some (.ref f_cover_count)
  b_cover_count : Binds K fd_cover_count ["start", "stop"] []
  f_cover_block : Addr
  fd_cover_block : FuncData
  F_cover_block : Fun K "cover_block" "cover_block" s_cover_block f_cover_block fd_cover_block
  g_cover_block : mg "cover_block" = some (.ref f_cover_block)
  b_cover_block : Binds K fd_cover_block ["start", "stop", "k"] []
  f_cover_at : Addr
  fd_cover_at : FuncData
  F_cover_at : Fun K "cover_at" "cover_at" s_cover_at f_cover_at fd_cover_at
  g_cover_at : mg "cover_at" = some (.ref f_cover_at)
  b_cover_at : Binds K fd_cover_at ["start", "stop", "address"] []
  f_cover_level : Addr
  fd_cover_level : FuncData
  F_cover_level : Fun K "cover_level" "cover_level" s_cover_level f_cover_level fd_cover_level
  g_cover_level : mg "cover_level" = some (.ref f_cover_level)
  b_cover_level : Binds K fd_cover_level ["start", "stop", "order"] []
  f__law_pen : Addr
  fd__law_pen : FuncData
  F__law_pen : Fun K "_law_pen" "_law_pen" s__law_pen f__law_pen fd__law_pen
  g__law_pen : mg "_law_pen" = some (.ref f__law_pen)
  b__law_pen : Binds K fd__law_pen ["_law_script"] []
  f__law_draw : Addr
  fd__law_draw : FuncData
  F__law_draw : Fun K "_law_draw" "_law_draw" s__law_draw f__law_draw fd__law_draw
  g__law_draw : mg "_law_draw" = some (.ref f__law_draw)
  b__law_draw : Binds K fd__law_draw ["_law_pen_here", "_law_span"] []
  f__law_great : Addr
  fd__law_great : FuncData
  F__law_great : Fun K "_law_great" "_law_great" s__law_great f__law_great fd__law_great
  g__law_great : mg "_law_great" = some (.ref f__law_great)
  b__law_great : Binds K fd__law_great ["_law_pen_here", "_law_figures"] []
  f__law_given : Addr
  fd__law_given : FuncData
  F__law_given : Fun K "_law_given" "_law_given" s__law_given f__law_given fd__law_given
  g__law_given : mg "_law_given" = some (.ref f__law_given)
  b__law_given : Binds K fd__law_given ["_law_pen_here", "_law_value"] []
  f__law_is_block : Addr
  fd__law_is_block : FuncData
  F__law_is_block : Fun K "_law_is_block" "_law_is_block" s__law_is_block f__law_is_block fd__law_is_block
  g__law_is_block : mg "_law_is_block" = some (.ref f__law_is_block)
  b__law_is_block : Binds K fd__law_is_block ["_law_found", "_law_due"] []
  f__law_places : Addr
  fd__law_places : FuncData
  F__law_places : Fun K "_law_places" "_law_places" s__law_places f__law_places fd__law_places
  g__law_places : mg "_law_places" = some (.ref f__law_places)
  b__law_places : Binds K fd__law_places ["_law_pen_here", "_law_many", "_law_limit"] []
  f__law_integer : Addr
  fd__law_integer : FuncData
  F__law_integer : Fun K "_law_integer" "_law_integer" s__law_integer f__law_integer fd__law_integer
  g__law_integer : mg "_law_integer" = some (.ref f__law_integer)
  b__law_integer : Binds K fd__law_integer ["_law_spots"] []
  f__law_cover : Addr
  fd__law_cover : FuncData
  F__law_cover : Fun K "_law_cover" "_law_cover" s__law_cover f__law_cover fd__law_cover
  g__law_cover : mg "_law_cover" = some (.ref f__law_cover)
  b__law_cover : Binds K fd__law_cover ["_law_begin", "_law_finish"] []
  f__law_range : Addr
  fd__law_range : FuncData
  F__law_range : Fun K "_law_range" "_law_range" s__law_range f__law_range fd__law_range
  g__law_range : mg "_law_range" = some (.ref f__law_range)
  b__law_range : Binds K fd__law_range ["_law_pen_here"] []
  f__law_is_told : Addr
  fd__law_is_told : FuncData
  F__law_is_told : Fun K "_law_is_told" "_law_is_told" s__law_is_told f__law_is_told fd__law_is_told
  g__law_is_told : mg "_law_is_told" = some (.ref f__law_is_told)
  b__law_is_told : Binds K fd__law_is_told ["_law_pen_here", "_law_begin", "_law_finish", "_law_due", "_law_k"] []
  f_law : Addr
  fd_law : FuncData
  F_law : Fun K "law" "law" s_law f_law fd_law
  g_law : mg "law" = some (.ref f_law)
  b_law : Binds K fd_law ["_law_script"] []
  f_Far___init__ : Addr
  fd_Far___init__ : FuncData
  F_Far___init__ : FunD K "__init__" "Far.__init__" (defArgs s_Far___init__) (defBody s_Far___init__) (defScope s_Far___init__) [.int (0)] [] f_Far___init__ fd_Far___init__
  ds_Far___init__ : List Value
  dv_Far___init__ : Vals [.int (0)] ds_Far___init__
  bd_Far___init__ : Binds K fd_Far___init__ ["self", "value"] ds_Far___init__
  b_Far___init__ : Binds K fd_Far___init__ ["self", "value"] []
  f_Far___eq__ : Addr
  fd_Far___eq__ : FuncData
  F_Far___eq__ : Fun K "__eq__" "Far.__eq__" s_Far___eq__ f_Far___eq__ fd_Far___eq__
  b_Far___eq__ : Binds K fd_Far___eq__ ["self", "other"] []
  t_LAST_PLAIN_TURN : Tok
  c_LAST_PLAIN_TURN : mg "LAST_PLAIN_TURN" = some (.int (64) t_LAST_PLAIN_TURN)
  t_PLAIN_LEAST : Tok
  c_PLAIN_LEAST : mg "PLAIN_LEAST" = some (.int (-18446744073709551616) t_PLAIN_LEAST)
  t_PLAIN_MOST : Tok
  c_PLAIN_MOST : mg "PLAIN_MOST" = some (.int (18446744073709551615) t_PLAIN_MOST)
  t_MOST_HEIGHT : Tok
  c_MOST_HEIGHT : mg "MOST_HEIGHT" = some (.int (6) t_MOST_HEIGHT)
  t_MOST_SIZE : Tok
  c_MOST_SIZE : mg "MOST_SIZE" = some (.int (2000) t_MOST_SIZE)
  a_AND : Addr
  c_AND : mg "AND" = some (.ref a_AND)
  q_AND : ∀ H : Hp, SqT K H a_AND [.int (0), .int (0), .int (0), .int (1)]
  a_XOR : Addr
  c_XOR : mg "XOR" = some (.ref a_XOR)
  q_XOR : ∀ H : Hp, SqT K H a_XOR [.int (0), .int (1), .int (1), .int (0)]
  C_Far : Addr
  g_Far : mg "Far" = some (.ref C_Far)
  k_Far : Cls K C_Far
  n_Far : NoAttr K C_Far "own_form"
  Mk_Far : Mk K C_Far f_Far___init__
  M_Far___eq__ : Meth K C_Far "__eq__" f_Far___eq__
  O_Eq : HX.CmpOwn K C_Far .Eq f_Far___eq__
  N_ne : HX.NeOwn K C_Far
  I_Far : HX.IsiOwn K C_Far
  m_bool : mg "bool" = none
  m_enumerate : mg "enumerate" = none
  m_int : mg "int" = none
  m_isinstance : mg "isinstance" = none
  m_len : mg "len" = none
  m_list : mg "list" = none
  m_max : mg "max" = none
  m_min : mg "min" = none
  m_range : mg "range" = none
  m_sum : mg "sum" = none
  m_tuple : mg "tuple" = none
end K45
set_option Elab.async false
set_option linter.all false
set_option maxRecDepth 100000
/-! the law's own call: tables of code objects (lambdas in its body), and nothing is being shown around it -/
namespace HX
open PySem PySem.Spec PyProof.Rows L2
def empT : Obj := { cls := .none, data := .fields #[] }
theorem law_callTG {P : Program} {w : World} {K : PySem.W.Frag} {mg mb : Str → Option Value} {k : Nat} {fa a : Addr} {cs : List (Addr × Addr)} {fd : FuncData} {x : Str} {sp : Sp} {st : Shared} {vs : List Value} {ns : List Int}
    (KX : K.In st.heap) (hns : st.heap.Ns mainGlobals mg) (hb : st.heap.Ns builtinsNs mb) (hbb : ∀ x : Str, x ≠ "__name__" → mb x = bootBuiltins x) (nl : st.heap.NoLimit) (hg : st.gens = #[])
    (hT : ∀ p ∈ cs, st.heap.get? p.2 = some empT) (nT : ∀ p ∈ cs, K.lookup p.2 = none) (C : ∀ p ∈ cs, PySem.W.CodeHd st.heap p.1 p.2)
    (hbm : ∃ (bm : Addr) (ob : Obj), mg "__builtins__" = some (.ref bm) ∧ bm ≠ builtinsNs ∧ st.heap.get? bm = some ob ∧ ob.cls = .type "module" ∧ ob.dict = some builtinsNs ∧ ob.data = .plain)
    (ha : st.heap.get? a = some { cls := .type "list", data := .seq vs.toArray }) (hi : IntsAre vs ns) (hl : ns.length ≤ sizeLine) (hr : Room k callerA)
    (F : ∀ base : Heap, K.In base → base.Ns mainGlobals mg → (∀ p ∈ cs, LamX.TabB base mg p.1 p.2) → FnG P w K mg base k fa fd [x] sp) (hbd : ∀ (s : Shared) (u : Value), BindsTo s fd ⟨[u], []⟩ [(x, u)])
    (hsp : ∀ H : Hp, (∀ p ∈ cs, H p.2 = some (.tbl #[])) → SqL K H a (ns.map V.int) → sp [.ref a] H (fun v _ => v = .bl true) fun _ _ _ => False) :
    codeAny (model P w) callerA (.call (.ref fa) ⟨[.ref a], []⟩) (fun r s' => r = .ok (.ret (.bool true)) ∧ OldK st.heap s'.heap ∧ s'.os = st.os ∧ AllBare s'.gens) st := by
  have rv := vals_ints hi
  have lv := hi.length
  let Tb : Addr → Prop := fun b => ∃ p ∈ cs, p.2 = b
  have tbE : ∀ {b : Addr}, Tb b → st.heap.get? b = some empT := fun {b} ⟨p, hp, e⟩ => e ▸ hT p hp
  have aT : ¬ Tb a := fun z => by
    have := (tbE z).symm.trans ha
    exact nomatch congrArg Obj.data (Option.some.inj this)
  have main : ∀ H : Hp, (∀ b, Tb b → H b = some (.tbl #[])) → (∀ b, H b = none ∨ Tb b ∨ (b = a ∧ ∃ ob ys, H b = some (.frz ob (.lst ys)))) → SqL K H a (ns.map V.int) → HOk P w H st.heap → (H a ≠ none → K.lookup a = none) →
      codeAny (model P w) callerA (.call (.ref fa) ⟨[.ref a], []⟩) (fun r s' => r = .ok (.ret (.bool true)) ∧ OldK st.heap s'.heap ∧ s'.os = st.os ∧ AllBare s'.gens) st := by
    intro H hH hO hS hok hK
    -- what is neither a list nor an empty row of fields is not followed
    have free : ∀ {b : Addr} {o : Obj}, st.heap.get? b = some o → o.data ≠ (Data.seq vs.toArray : Data) → o.data ≠ .fields #[] → H b = none := fun {b o} e h1 h2 => by
      rcases hO b with z | z | ⟨z, _⟩
      · exact z
      · rw [tbE z] at e
        cases e
        exact absurd rfl h2
      · rw [z, ha] at e
        cases e
        exact absurd rfl h1
    have nsK : ∀ {b : Addr} {m : Str → Option Value}, st.heap.Ns b m → (hidT st.heap H).Ns b m := fun {b m} ⟨o, es, ep, e, d, r⟩ =>
      ⟨o, es, ep, hidT_get e (free e (fun z => nomatch d.symm.trans z) (fun z => nomatch d.symm.trans z)), d, r⟩
    have hKb : K.In (hidT st.heap H) := fun b o e => hidT_get (KX b o e) (by
      rcases hO b with z | ⟨p, hp, z⟩ | ⟨z, ob, ys, z2⟩
      · exact z
      · rw [← z, nT p hp] at e
        cases e
      · subst z
        rw [hK (by rw [z2]; exact Option.some_ne_none _)] at e
        cases e)
    obtain ⟨mc, c1, c2⟩ := nl
    have TB : ∀ p ∈ cs, LamX.TabB (hidT st.heap H) mg p.1 p.2 := fun p hp => by
      refine ⟨?_, ?_, fun z => ?_⟩
      · obtain ⟨o, us, file, tf, flags, tg, inF, text, tt, e1, r1, r2, r3, rest⟩ := C p hp
        refine ⟨o, us, file, tf, flags, tg, inF, text, tt, hidT_get e1 (free e1 (fun z => nomatch r2.symm.trans z) fun z => ?_), r1, r2, r3, rest⟩
        have := Data.fields.inj (r2.symm.trans z)
        rw [this] at r3
        simp at r3
      · obtain ⟨bm, ob, b1, b2, b3, b4, b5, b6⟩ := hbm
        refine ⟨bm, ob, b1, b2, fun q => ?_, fun q => ?_, hidT_get b3 (free b3 (fun z => nomatch b6.symm.trans z) (fun z => nomatch b6.symm.trans z)), b4, b5, b6⟩
        · obtain ⟨o, es, ep, e, hd, _⟩ := hns
          rw [q, e] at b3
          cases b3
          exact nomatch hd.symm.trans b6
        · rw [q, hT p hp] at b3
          cases b3
          cases b6
      · obtain ⟨o, es, ep, e, hd, _⟩ := hns
        rw [z, hT p hp] at e
        cases e
        cases hd
    have e0 : Env0 P w K mg (hidT st.heap H) callerA [] st H := ⟨rfl, ⟨hKb, nsK hns, ⟨mb, nsK hb, hbb⟩, ⟨mc, nsK c1, c2⟩⟩, fun b o e => of_hidT e, Nat.le_of_eq (hidT_size _ _), trivial, (fun b hb => absurd (show b ∈ ([] : List Addr) from hb) List.not_mem_nil), hok, .of_eq hg⟩
    refine codeAny_mono ((F _ hKb (nsK hns) TB).go callerA [] st H ⟨[.ref a], []⟩ [.ref a] [.ref a] _ _ rfl hr e0 (hbd st (.ref a)) (.cons rfl .nil) (hsp H (fun p hp => hH p.2 ⟨p, hp, rfl⟩) hS)) fun r s' h => ?_
    match r, h with
    | .error e, h => exact (h : False).elim
    | .ok .next, h => exact (h : False).elim
    | .ok .brk, h => exact (h : False).elim
    | .ok .cont, h => exact (h : False).elim
    | .ok (.ret u), ⟨v, H', os, bare, un, hok', r', q⟩ =>
      obtain rfl : v = .bl true := q
      obtain rfl : u = Value.bool true := r'
      have keep : ∀ b o, ¬ Tb b → st.heap.get? b = some o → s'.heap.get? b = some o := fun b o nb e => by
        rcases hO b with z | z | ⟨_, ob, ys, z⟩
        · exact un.keep b o e z (fun y => absurd (show b ∈ ([] : List Addr) from y) List.not_mem_nil) List.not_mem_nil
        · exact absurd z nb
        · have e1 := (hok b _ z).1
          rw [e] at e1
          cases e1
          exact (hok' b _ (un.frzs b _ _ z)).1
      have grown : ∀ b, Tb b → ∃ more : Array Value, s'.heap.get? b = some { cls := .none, data := .fields more } := fun b hb => by
        obtain ⟨more, z⟩ := un.tbls b #[] (hH b hb)
        exact ⟨_, hok' b _ z⟩
      refine ⟨rfl, ⟨fun b o e => ?_, fun b o e => ?_⟩, os, bare⟩
      · by_cases hb : Tb b
        · obtain ⟨more, hm⟩ := grown b hb
          obtain ⟨p, hp, ep⟩ := hb
          subst ep
          rw [hT p hp] at e
          cases e
          exact .inr (.inl ⟨((C p hp).tab (hT p hp)).isCodeTable, rfl, #[], more, rfl, by rw [Array.empty_append]; exact hm⟩)
        · exact .inl (keep b o hb e)
      · by_cases hb : Tb b
        · obtain ⟨more, hm⟩ := grown b hb
          exact ⟨_, hm⟩
        · exact ⟨o, keep b o hb e⟩
  have dec : ∀ b, Decidable (Tb b) := fun b => Classical.propDecidable _
  match hk : K.lookup a with
  | some o =>
    have e := KX a o hk
    rw [ha] at e
    cases e
    refine main (fun b => @ite _ (Tb b) (dec b) (some (.tbl #[])) none) (fun b hb => if_pos hb) (fun b => ?_) (.inr ⟨_, vs.toArray, _, hk, rfl, rfl, rfl, by rw [List.size_toArray, lv]; exact hl, by simpa using rv⟩) (fun b u z => ?_) fun z => absurd (if_neg aT) z
    · by_cases hb : Tb b
      · exact .inr (.inl hb)
      · exact .inl (if_neg hb)
    · by_cases hb : Tb b
      · cases (if_pos hb).symm.trans z
        exact tbE hb
      · cases (if_neg hb).symm.trans z
  | none =>
    refine main (fun b => if b = a then some (.frz { cls := .type "list", data := .seq vs.toArray } (.lst (ns.map V.int))) else @ite _ (Tb b) (dec b) (some (.tbl #[])) none) (fun b hb => ?_) (fun b => ?_) (.inl (.inr ⟨{ cls := .type "list", data := .seq vs.toArray }, if_pos rfl⟩)) (fun b u z => ?_) fun _ => hk
    · exact (if_neg (show ¬ b = a from fun e => aT (e ▸ hb))).trans (if_pos hb)
    · by_cases hc : b = a
      · exact .inr (.inr ⟨hc, _, _, if_pos hc⟩)
      · by_cases hb : Tb b
        · exact .inr (.inl hb)
        · exact .inl ((if_neg hc).trans (if_neg hb))
    · by_cases hc : b = a
      · cases (if_pos hc).symm.trans z
        subst hc
        exact ⟨ha, by rw [List.length_map]; exact hl, vs, _, rv, ha⟩
      · have z1 := (if_neg hc).symm.trans z
        by_cases hb : Tb b
        · cases (if_pos hb).symm.trans z1
          exact tbE hb
        · cases (if_neg hb).symm.trans z1
/-- what is known of the law's promise at the head's heap -/
structure LawG (l : PySem.W.OpenLaw) (w : World) (K : PySem.W.Frag) (k n : Nat) (x : Str) (mg : Str → Option Value) (fa : Addr) (h : Heap) (fd : FuncData) (cs : List (Addr × Addr)) (sp : Sp) : Prop where
  tab : ∀ p ∈ cs, h.get? p.2 = some empT
  out : ∀ p ∈ cs, K.lookup p.2 = none
  hd : ∀ p ∈ cs, PySem.W.CodeHd h p.1 p.2
  bnd : ∀ (s : Shared) (u : Value), BindsTo s fd ⟨[u], []⟩ [(x, u)]
  say : ∀ (H : Hp) (a : Addr) (ns : List Int), ns.length ≤ n → (∀ p ∈ cs, H p.2 = some (.tbl #[])) → SqL K H a (ns.map V.int) → sp [.ref a] H (fun v _ => v = .bl true) fun _ _ _ => False
  fn : ∀ base : Heap, K.In base → base.Ns mainGlobals mg → (∀ p ∈ cs, LamX.TabB base mg p.1 p.2) → FnG l.prog w K mg base k fa fd [x] sp
theorem walk_ofTG {l : PySem.W.OpenLaw} {n k : Nat} {q : Program} {loose : List Str} {XP : (Str → Option Value) → Heap → Prop} {YP : World → Heap → Prop} {d : DefRec} {K : Params → PySem.W.Frag} {x : Str}
    (hn : l.most = some n) (hn2 : n ≤ sizeLine) (hdf : d.params.defaults = []) (hr : Room k callerA) (hY : ∀ (w : World) (h : Heap), YP w h → (K w.params).In h)
    (F : ∀ (w : World) (mg : Str → Option Value) (fa : Addr) (h : Heap), YP w h → (K w.params).In h → h.Ns mainGlobals mg → mg d.name = some (.ref fa) →
      (∀ (y : Str) (c P : Addr), ((recsOf q).any fun e => e.name == y) = true → PySem.W.tabIn (K w.params) y = some (c, P) → PySem.W.CodeHd h c P ∧ h.get? P = some empT) → ∃ fd cs sp, LawG l w (K w.params) k n x mg fa h fd cs sp) :
    PySem.W.WalkO q loose XP YP l.row.toRowW d [] (fun f vs => PySem.call f vs) :=
  Att.attach_call hn hdf fun w s0 s1 mg mb fa o pm cd doc a vs ns G Y ho hd hcd hmg hobj hints hlen hg => by
    obtain ⟨fd, cs, sp, L⟩ := F w mg fa _ Y (hY w _ Y) G.T.g hmg fun y c P hy ht => by
      obtain ⟨e, he⟩ : ∃ e, (recsOf q).find? (fun e => e.name == y) = some e := by
        rw [← Option.isSome_iff_exists, List.find?_isSome]
        simpa [List.any_eq_true] using hy
      exact PySem.W.tab_of G.T (hY w _ Y) he ht
    exact law_callTG (hY w _ Y) G.T.g G.T.b G.T.builtins G.T.nolimit hg L.tab L.out L.hd G.T.bmain hobj hints (Nat.le_trans hlen hn2) hr L.fn L.bnd fun H hH hS => L.say H a ns hlen hH hS
end HX
set_option Elab.async false
set_option linter.all false
set_option maxRecDepth 100000
/-! heads of large programs: the facts read off an explicit list of addresses; the run's equation by parts -/
namespace HX
open PySem PySem.Spec PyProof.Rows L2
/-! ### error classes with fields -/
def iniA (K : PySem.W.Frag) (x : Str) : Addr := He.ma K (He.ga K x) "__init__"
abbrev IniV : Type := Option (Str × Str × Arguments × FuncBody × Scope × Addr × List Str × Addr)
def iniObs (K : PySem.W.Frag) (x : Str) : IniV := match K.lookup (iniA K x) with
  | some ⟨_, _, .func fd, _⟩ => some (fd.name, fd.qualname, fd.params, fd.body, fd.scope, fd.globals, fd.closure.map (·.1), fd.builtins)
  | _ => none
/-- an error class of the text -/
structure ErD where
  x : Str
  qual : Str
  fields : List Str
  params : Arguments
  body : List Stmt
  scope : Scope
def ErD.val (d : ErD) : IniV := some ("__init__", d.qual, d.params, .stmts d.body, d.scope, mainGlobals, ["__class__"], builtinsNs)
def iniCell (K : PySem.W.Frag) (x : Str) : Addr := match K.lookup (iniA K x) with
  | some ⟨_, _, .func fd, _⟩ => (match fd.closure with
    | [(_, c)] => c
    | _ => 0)
  | _ => 0
def iniCode (K : PySem.W.Frag) (x : Str) : Addr := match K.lookup (iniA K x) with
  | some ⟨_, _, .func fd, _⟩ => (match fd.code with
    | .ref c => c
    | _ => 0)
  | _ => 0
def ErD.nf (K : PySem.W.Frag) (d : ErD) : NdefX.NF := ⟨"__init__", d.qual, d.params, d.body, d.scope, [(("__class__" : Str), iniCell K d.x)], iniCode K d.x⟩
def vNone : Value → Bool
  | .none => true
  | _ => false
theorem vNone_ok {v : Value} (h : vNone v = true) : v = .none := by
  cases v <;> first | rfl | cases h
def vRef : Value → Bool
  | .ref _ => true
  | _ => false
theorem vRef_ok {v : Value} (h : vRef v = true) : ∃ c, v = .ref c := by
  cases v <;> first | exact ⟨_, rfl⟩ | cases h
def iniRest (K : PySem.W.Frag) (x : Str) : Bool := match K.lookup (iniA K x) with
  | some ⟨_, _, .func fd, _⟩ => vNone fd.defaults && (vNone fd.kwdefaults && (fd.annotations.isNone && vRef fd.code))
  | _ => false
theorem ini_ok {K : PySem.W.Frag} {d : ErD} (e : iniObs K d.x = d.val) (h : iniRest K d.x = true) : ∃ oc od doc pm ctv osl, K.lookup (iniA K d.x) = some ⟨oc, od, .func ((d.nf K).fd doc pm ctv), osl⟩ := by
  unfold iniObs at e
  unfold iniRest at h
  unfold ErD.nf iniCell iniCode
  cases q : K.lookup (iniA K d.x) with
  | none =>
    rw [q] at h
    cases h
  | some o =>
    obtain ⟨oc, od, dt, osl⟩ := o
    rw [q] at h e
    cases dt with
    | func fd =>
      obtain ⟨n1, n2, n3, n4, n5, n6, n7, n8, n9, n10, n11, n12, n13, n14, n15⟩ := fd
      have e2 : (some (n1, n2, n3, n4, n5, n6, n7.map (·.1), n15) : IniV) = (some (("__init__" : Str), d.qual, d.params, FuncBody.stmts d.body, d.scope, mainGlobals, [("__class__" : Str)], builtinsNs) : IniV) := e
      simp only [Option.some.injEq, Prod.mk.injEq] at e2
      obtain ⟨h1, h2, h3, h4, h5, h6, h7, h8⟩ := e2
      subst h1 h2 h3 h4 h5 h6 h8
      obtain ⟨k1, h'⟩ := He.ba (show (vNone n8 && (vNone n9 && (n12.isNone && vRef n13))) = true from h)
      obtain ⟨k2, h'⟩ := He.ba h'
      obtain ⟨k3, k4⟩ := He.ba h'
      obtain rfl := vNone_ok k1
      obtain rfl := vNone_ok k2
      obtain ⟨c, rfl⟩ := vRef_ok k4
      cases n12 with
      | some _ => cases k3
      | none =>
        match n7, h7 with
        | [(y, cc)], h7 =>
          have ey : y = ("__class__" : Str) := by
            have : [y] = [("__class__" : Str)] := h7
            exact List.head_eq_of_cons_eq this
          subst ey
          exact ⟨oc, od, n10, n11, n14, osl, rfl⟩
    | _ => cases h
def oexB (K : PySem.W.Frag) (C : Addr) : Bool := (match K.lookup C with
  | some ⟨.type t, _, .cls cd, sl⟩ => (match cd.mro, sl.toList with
    | .ref C' :: bm, [_, _, _, _, some (.builtin n), _] => decide (t = "type") && (decide (C' = C) && (decide (n = "ValueError.__new__") && (!cd.hasDel && (cd.hasDict && PySem.HandSPX.refsVE bm))))
    | _, _ => false)
  | _ => false) && (He.eqO (PySem.W.findIn K (.ref C) "__setattr__") (some (some (.builtin "object.__setattr__"))) && (decide (PySem.W.subIn K (.ref C) (.type "BaseException") = some true) && (decide (PySem.W.typeIn K (.ref C) = some (.type "type")) && PySem.W.keepIn K (.ref C))))
theorem oexB_ok {K : PySem.W.Frag} {C : Addr} (h : oexB K C = true) : OexC K C := by
  obtain ⟨h1, h⟩ := He.ba h
  obtain ⟨h2, h⟩ := He.ba h
  obtain ⟨h3, h⟩ := He.ba h
  obtain ⟨h4, h5⟩ := He.ba h
  refine ⟨?_, He.eqO_ok h2, of_decide_eq_true h3, of_decide_eq_true h4, h5⟩
  clear h2 h3 h4 h5 h
  split at h1
  · rename_i t dd cd sl ho
    split at h1
    · rename_i C' bm k0 k1 k2 k3 n k5 hm hs
      obtain ⟨q1, h1⟩ := He.ba h1
      obtain ⟨q2, h1⟩ := He.ba h1
      obtain ⟨q3, h1⟩ := He.ba h1
      obtain ⟨q4, h1⟩ := He.ba h1
      obtain ⟨q5, q6⟩ := He.ba h1
      have e1 := of_decide_eq_true q1
      have e2 := of_decide_eq_true q2
      have e3 := of_decide_eq_true q3
      obtain ⟨nm, bs, mro, ns, qn, hd, sn, sub, ab, col, del⟩ := cd
      dsimp only at hm q4 q5
      have e4 : del = false := by simpa using q4
      subst e1 e2 e3 e4 hm q5
      have hsl : sl = #[k0, k1, k2, k3, some (.builtin "ValueError.__new__"), k5] := by
        obtain ⟨l⟩ := sl
        simp only at hs
        rw [hs]
      subst hsl
      exact ⟨nm, qn, ns, bs, bm, sn, sub, ab, col, dd, k0, k1, k2, k3, k5, ho, q6⟩
    · cases h1
  · cases h1
def fileB (K : PySem.W.Frag) (c : Addr) : Bool := match K.lookup c with
  | some ⟨_, _, .fields vs, _⟩ => (match (vs : Array Value)[2]? with
    | some (Value.str z _) => decide (z = ("/claim/cut.py" : Str))
    | _ => false)
  | _ => false
theorem fileB_ok {K : PySem.W.Frag} {c : Addr} (h : fileB K c = true) : ∃ (ccl : Value) (cdd : Option Addr) (vs : Array Value) (ccs : Array (Option Value)) (tf : Tok), K.lookup c = some ⟨ccl, cdd, .fields vs, ccs⟩ ∧ vs[2]? = some (.str "/claim/cut.py" tf) := by
  unfold fileB at h
  split at h
  · rename_i ccl cdd vs ccs e
    split at h
    · rename_i z tf e2
      have := of_decide_eq_true h
      subst this
      exact ⟨_, _, _, _, _, e, e2⟩
    · cases h
  · cases h
def cellB (K : PySem.W.Frag) (c C : Addr) : Bool := match K.lookup c with
  | some ⟨_, _, .cell (some (.ref D)), _⟩ => decide (D = C)
  | _ => false
theorem cellB_ok {K : PySem.W.Frag} {c C : Addr} (h : cellB K c C = true) : ∃ cl cld csl, K.lookup c = some ⟨cl, cld, .cell (some (.ref C)), csl⟩ := by
  unfold cellB at h
  split at h
  · rename_i cl cld D csl e
    have := of_decide_eq_true h
    subst this
    exact ⟨_, _, _, e⟩
  · cases h
def ErD.ok1 (K : PySem.W.Frag) (d : ErD) : Bool := oexB K (He.ga K d.x) && (He.eqO (PySem.W.findIn K (.ref (He.ga K d.x)) "__init__") (some (some (.ref (iniA K d.x)))) && (decide (PySem.W.typeIn K (.ref (iniA K d.x)) = some (.type "function")) &&
  ((d.fields.all fun f => He.eqO (PySem.W.findIn K (.ref (He.ga K d.x)) f) (some none)) && (iniRest K d.x && (PySem.W.codeIn K (.ref (iniCode K d.x)) d.qual && (fileB K (iniCode K d.x) && (cellB K (iniCell K d.x) (He.ga K d.x) && He.eqO (PySem.W.nsIn K mainGlobals d.x) (some (some (.ref (He.ga K d.x)))))))))))
def ErD.ok2 (K : PySem.W.Frag) (d : ErD) : Bool := decide (PySem.W.mroIn K (He.ga K d.x) (.ref (He.ga K d.x)) = some true) && (decide (PySem.W.subIn K (.ref (He.ga K d.x)) (.type "ValueError") = some true) && (He.eqO (PySem.W.ks_superIn K (He.ga K d.x) (He.ga K d.x) "__init__") (some (some (.builtin "ValueError.__init__"))) &&
  (He.eqO (PySem.W.findIn K (.ref (He.ga K d.x)) "__getattribute__") (some (some (.builtin "BaseException.__getattribute__"))) && (He.eqO (PySem.W.findIn K (.ref (He.ga K d.x)) "__getattr__") (some none) && (PySem.W.hasDictIn K (He.ga K d.x) &&
  (He.eqO (PySem.W.findIn K (.ref (He.ga K d.x)) "__class__") (some (some (.builtin "object.__class__"))) && (decide (PySem.W.mroIn K (He.ga K d.x) (.type "object") = some true) && (decide (PySem.W.exmOne K (.ref (He.ga K d.x)) (.ref (He.ga K d.x)) = some true) && decide (PySem.W.kitOne K (.ref (He.ga K d.x)) (.type "ValueError") = some true)))))))))
/-- what all error classes lean on -/
def erAll (K : PySem.W.Frag) : Bool := He.eqO (PySem.W.nsIn K cStatics "thirdparty.any") (some none) && (He.eqO (PySem.W.nsIn K mainGlobals "super") (some none) && (He.eqO (PySem.W.specialIn K (.builtin "object.__class__") "__get__") (some (some (.builtin "getset_descriptor.__get__"))) && decide (PySem.W.takesIn K (.builtin "object.__class__") = some true)))
theorem err_ok {K : PySem.W.Frag} {h : Heap} {mg : Str → Option Value} {d : ErD} (X : K.In h) (G : h.Ns mainGlobals mg) (a : erAll K = true) (e : iniObs K d.x = d.val) (k1 : d.ok1 K = true) (k2 : d.ok2 K = true) :
    Err K mg d.x d.fields (He.ga K d.x) (iniA K d.x) (iniCell K d.x) (d.nf K) := by
  obtain ⟨a1, a⟩ := He.ba a
  obtain ⟨a2, a⟩ := He.ba a
  obtain ⟨a3, a4⟩ := He.ba a
  obtain ⟨b1, k1⟩ := He.ba k1
  obtain ⟨b2, k1⟩ := He.ba k1
  obtain ⟨b3, k1⟩ := He.ba k1
  obtain ⟨b4, k1⟩ := He.ba k1
  obtain ⟨b5, k1⟩ := He.ba k1
  obtain ⟨b6, k1⟩ := He.ba k1
  obtain ⟨b7, k1⟩ := He.ba k1
  obtain ⟨b8, b9⟩ := He.ba k1
  obtain ⟨c1, k2⟩ := He.ba k2
  obtain ⟨c2, k2⟩ := He.ba k2
  obtain ⟨c3, k2⟩ := He.ba k2
  obtain ⟨c4, k2⟩ := He.ba k2
  obtain ⟨c5, k2⟩ := He.ba k2
  obtain ⟨c6, k2⟩ := He.ba k2
  obtain ⟨c7, k2⟩ := He.ba k2
  obtain ⟨c8, k2⟩ := He.ba k2
  obtain ⟨c9, c10⟩ := He.ba k2
  have O := oexB_ok b1
  exact {
    g := PySem.W.mg_of X G (He.eqO_ok b9)
    oex := O
    iC := He.eqO_ok b2
    tI := of_decide_eq_true b3
    noF := fun f hf => He.eqO_ok (List.all_eq_true.mp b4 f hf)
    fn := ini_ok e b5
    cd := b6
    file := fileB_ok b7
    cl := rfl
    cell := cellB_ok b8
    sub := of_decide_eq_true c1
    ve := of_decide_eq_true c2
    any := He.eqO_ok a1
    sup := He.eqO_ok c3
    ms := PySem.W.mg_none_of X G (He.eqO_ok a2)
    xf := ⟨He.eqO_ok c4, He.eqO_ok c5, O.exC, c6⟩
    ex := ⟨He.eqO_ok c4, He.eqO_ok c5, O.exC, c6, He.eqO_ok c7, He.eqO_ok a3, of_decide_eq_true a4, of_decide_eq_true c8⟩
    te := of_decide_eq_true c9
    kv := of_decide_eq_true c10 }
/-! ### the Hook -/
abbrev AlK : Type := He.AlD × List IniV × Bool
def obsK (as : List Addr) (fa : List He.Fa) (fn : List He.DefD) (er : List ErD) (tf : List He.Defn) (ex : PySem.W.Frag → Bool) (g : Addr → Option Obj) : AlK :=
  (He.obsD fa fn (He.frT g as), er.map fun d => iniObs (He.frT g as) d.x, (er.all fun d => d.ok1 (He.frT g as) && d.ok2 (He.frT g as)) && (ex (He.frT g as) && He.tabsB g tf (He.frT g as)))
def valK (fn : List He.DefD) (er : List ErD) : AlK := (He.valD fn, er.map ErD.val, true)
structure SaysK (fa : List He.Fa) (fn : List He.DefD) (er : List ErD) (tf : List He.Defn) (ex : PySem.W.Frag → Bool) (h : Heap) (K : PySem.W.Frag) : Prop where
  d : He.SaysD fa fn K
  e : er.map (fun d => iniObs K d.x) = er.map ErD.val
  eok : ∀ d ∈ er, d.ok1 K = true ∧ d.ok2 K = true
  more : ex K = true
  tab : ∀ p ∈ tf, PySem.W.codeHdIn K (He.cT K p).1 (He.cT K p).2 = true ∧ K.lookup (He.cT K p).2 = none ∧ h.get? (He.cT K p).2 = some { cls := .none, data := .fields #[] }
theorem saysK_of {as : List Addr} {fa : List He.Fa} {fn : List He.DefD} {er : List ErD} {tf : List He.Defn} {ex : PySem.W.Frag → Bool} {h : Heap} (z : obsK as fa fn er tf ex h.get? = valK fn er) : SaysK fa fn er tf ex h (He.frT h.get? as) := by
  have z1 : He.obsD fa fn (He.frT h.get? as) = He.valD fn := congrArg (fun u : AlK => u.1) z
  have z2 : er.map (fun d => iniObs (He.frT h.get? as) d.x) = er.map ErD.val := congrArg (fun u : AlK => u.2.1) z
  have z3 : ((er.all fun d => d.ok1 (He.frT h.get? as) && d.ok2 (He.frT h.get? as)) && (ex (He.frT h.get? as) && He.tabsB h.get? tf (He.frT h.get? as))) = true := congrArg (fun u : AlK => u.2.2) z
  obtain ⟨y1, z3⟩ := He.ba z3
  obtain ⟨y2, y3⟩ := He.ba z3
  refine ⟨z1, z2, fun d hd => He.ba (List.all_eq_true.mp y1 d hd), y2, fun p hp => ?_⟩
  obtain ⟨t1, t2⟩ := He.ba (List.all_eq_true.mp y3 p hp)
  revert t2
  generalize hq : h.get? (He.cT (He.frT h.get? as) p).2 = o
  intro t2
  match o, hq, t2 with
  | some o, hq, t2 => exact ⟨t1, He.frT_none hq t2, by rw [He.emptyTab_eq t2]⟩
def hookK (as : List Addr) (fa : List He.Fa) (fn : List He.DefD) (er : List ErD) (tf : List He.Defn) (ex : PySem.W.Frag → Bool) : PySem.W.Hook where
  α := AlK
  obs := fun s => obsK as fa fn er tf ex s.heap.get?
  val := fun _ => valK fn er
  says := fun _ h => ∃ K : PySem.W.Frag, K.In h ∧ SaysK fa fn er tf ex h K
  of := fun _ _ e => ⟨_, He.frT_in, saysK_of e⟩
  keeps := fun _ _ _ ⟨K, hK, c⟩ k => ⟨K, PySem.W.Frag.In.keeps hK k, c.d, c.e, c.eok, c.more, fun p hp => ⟨(c.tab p hp).1, (c.tab p hp).2.1, k _ _ (c.tab p hp).2.2⟩⟩
theorem obsK_eq {as : List Addr} {fa : List He.Fa} {fn : List He.DefD} {er : List ErD} {tf : List He.Defn} {ex : PySem.W.Frag → Bool} {g : Addr → Option Obj} {s : Shared} (h : ∀ a, g a = s.heap.get? a) : obsK as fa fn er tf ex g = (hookK as fa fn er tf ex).obs s := by
  have e : g = s.heap.get? := funext h
  rw [e] <;> rfl
theorem SaysK.ini {fa : List He.Fa} {fn : List He.DefD} {er : List ErD} {tf : List He.Defn} {ex : PySem.W.Frag → Bool} {h : Heap} {K : PySem.W.Frag} (c : SaysK fa fn er tf ex h K) (i : Nat) {d : ErD} (hd : er[i]? = some d) : iniObs K d.x = d.val := by
  have e2 : (er.map fun d => iniObs K d.x)[i]? = (er.map ErD.val)[i]? := by rw [c.e]
  rw [List.getElem?_map, List.getElem?_map, hd] at e2
  exact Option.some.inj e2
/-! ### the run by parts -/
theorem run_join {σ γ β1 β2 β3 β4 β5 β6 β7 β8 β9 : Type} (o : Option σ) (l : σ → Bool) (sq : σ → β1 × β2 × β3 × β4 × β5 × β6 × β7 × β8 × β9) (ob : σ → γ) (good : β1 × β2 × β3 × β4 × β5 × β6 × β7 × β8 × β9) (v : γ)
    (h1 : o.map (fun s => (l s, (sq s).1, (sq s).2.1, (sq s).2.2.2.1)) = some (true, good.1, good.2.1, good.2.2.2.1))
    (h2 : o.map (fun s => ((sq s).2.2.1, (sq s).2.2.2.2.1, (sq s).2.2.2.2.2.1)) = some (good.2.2.1, good.2.2.2.2.1, good.2.2.2.2.2.1))
    (h3 : o.map (fun s => ((sq s).2.2.2.2.2.2.1, (sq s).2.2.2.2.2.2.2.1, (sq s).2.2.2.2.2.2.2.2)) = some (good.2.2.2.2.2.2.1, good.2.2.2.2.2.2.2.1, good.2.2.2.2.2.2.2.2))
    (h4 : o.map ob = some v) : o.map (fun s => (l s, sq s, ob s)) = some (true, good, v) := by
  cases o with
  | none => cases h4
  | some s =>
    have e1 := Option.some.inj h1
    have e2 := Option.some.inj h2
    have e3 := Option.some.inj h3
    have e4 : ob s = v := Option.some.inj h4
    simp only [Prod.mk.injEq] at e1 e2 e3
    obtain ⟨a1, a2, a3, a4⟩ := e1
    obtain ⟨b1, b2, b3⟩ := e2
    obtain ⟨c1, c2, c3⟩ := e3
    show some (l s, sq s, ob s) = some (true, good, v)
    rw [a1, e4]
    congr 2
    exact Prod.ext (Prod.ext a2 (Prod.ext a3 (Prod.ext b1 (Prod.ext a4 (Prod.ext b2 (Prod.ext b3 (Prod.ext c1 (Prod.ext c2 c3)))))))) rfl
/-! ### the end -/
theorem walk_ofGE {l : PySem.W.OpenLaw} {n k : Nat} {q : Program} {loose : List Str} {XP : (Str → Option Value) → Heap → Prop} {YP : World → Heap → Prop} {d : DefRec} {x : Str}
    (hn : l.most = some n) (hn2 : n ≤ sizeLine) (hdf : d.params.defaults = []) (hr : Room k callerA)
    (F : ∀ (w : World) (mg : Str → Option Value) (fa : Addr) (h : Heap), YP w h → h.Ns mainGlobals mg → mg d.name = some (.ref fa) →
      ∃ (K : PySem.W.Frag) (fd : FuncData) (sp : Sp), K.In h ∧ (∀ (s : Shared) (u : Value), BindsTo s fd ⟨[u], []⟩ [(x, u)]) ∧
        (∀ (H : Hp) (a : Addr) (ns : List Int), ns.length ≤ n → Only H → SqL K H a (ns.map V.int) → sp [.ref a] H (fun v _ => v = .bl true) fun _ _ _ => False) ∧
        ∀ base : Heap, K.In base → base.Ns mainGlobals mg → FnG l.prog w K mg base k fa fd [x] sp) :
    PySem.W.WalkO q loose XP YP l.row.toRowW d [] (fun f vs => PySem.call f vs) :=
  Att.attach_call hn hdf fun w s0 s1 mg mb fa o pm cd doc a vs ns G Y ho hd hcd hmg hobj hints hlen hg => by
    obtain ⟨K, fd, sp, KX, hb, hsp, hF⟩ := F w mg fa _ Y G.T.g hmg
    exact law_callG KX G.T.g G.T.b G.T.builtins G.T.nolimit hg hobj hints (Nat.le_trans hlen hn2) hr hF hb fun H hO hS => hsp H a ns hlen hO hS
/-! ### facts of an own class, by truth values -/
def cmpB (K : PySem.W.Frag) (C : Addr) (op : CmpOp) (g : Addr) : Bool := He.eqO (PySem.W.findIn K (.ref C) (cmpInfo op).2.1) (some (some (.ref g))) && (PySem.W.isFn K (.ref g) && (PySem.W.notFirst K C (.type "int") && PySem.W.notFirst K C (.ref C)))
theorem cmpB_ok {K : PySem.W.Frag} {C g : Addr} {op : CmpOp} (h : cmpB K C op g = true) : CmpOwn K C op g := by
  obtain ⟨h1, h⟩ := He.ba h
  obtain ⟨h2, h⟩ := He.ba h
  obtain ⟨h3, h4⟩ := He.ba h
  exact ⟨He.eqO_ok h1, h2, h3, h4⟩
def neB (K : PySem.W.Frag) (C : Addr) : Bool := He.eqO (PySem.W.findIn K (.ref C) "__ne__") (some (some (.builtin "object.__ne__"))) && decide (PySem.W.subIn K (.ref C) (.type "object") = some true)
theorem neB_ok {K : PySem.W.Frag} {C : Addr} (h : neB K C = true) : NeOwn K C := by
  obtain ⟨h1, h2⟩ := He.ba h
  exact ⟨He.eqO_ok h1, of_decide_eq_true h2⟩
def isiB (K : PySem.W.Frag) (C : Addr) : Bool := He.eqO (PySem.W.findIn K (.ref C) "__class__") (some (some (.builtin "object.__class__"))) && (He.eqO (PySem.W.specialIn K (.builtin "object.__class__") "__get__") (some (some (.builtin "getset_descriptor.__get__"))) &&
  (decide (PySem.W.takesIn K (.builtin "object.__class__") = some true) && (decide (PySem.W.mroIn K C (.type "object") = some true) && (decide (PySem.W.kitOne K (.ref C) (.ref C) = some true) && (decide (PySem.W.kitOne K (.ref C) (.type "int") = some false) &&
  (decide (PySem.W.kitOne K (.ref C) (.type "tuple") = some false) && (decide (PySem.W.kitOne K (.ref C) (.type "bool") = some false) && (decide (PySem.W.kitOne K (.type "int") (.ref C) = some false) && (decide (PySem.W.kitOne K (.type "bool") (.ref C) = some false) &&
  (decide (PySem.W.kitOne K (.type "NoneType") (.ref C) = some false) && (decide (PySem.W.kitOne K (.type "str") (.ref C) = some false) && (decide (PySem.W.kitOne K (.type "tuple") (.ref C) = some false) && (decide (PySem.W.kitOne K (.type "list") (.ref C) = some false) &&
  decide (PySem.W.kitOne K (.type "dict") (.ref C) = some false))))))))))))))
theorem isiB_ok {K : PySem.W.Frag} {C : Addr} (h : isiB K C = true) : IsiOwn K C := by
  obtain ⟨h1, h⟩ := He.ba h
  obtain ⟨h2, h⟩ := He.ba h
  obtain ⟨h3, h⟩ := He.ba h
  obtain ⟨h4, h⟩ := He.ba h
  obtain ⟨h5, h⟩ := He.ba h
  obtain ⟨h6, h⟩ := He.ba h
  obtain ⟨h7, h⟩ := He.ba h
  obtain ⟨h8, h⟩ := He.ba h
  obtain ⟨h9, h⟩ := He.ba h
  obtain ⟨h10, h⟩ := He.ba h
  obtain ⟨h11, h⟩ := He.ba h
  obtain ⟨h12, h⟩ := He.ba h
  obtain ⟨h13, h⟩ := He.ba h
  obtain ⟨h14, h15⟩ := He.ba h
  exact ⟨He.eqO_ok h1, He.eqO_ok h2, of_decide_eq_true h3, of_decide_eq_true h4, of_decide_eq_true h5, of_decide_eq_true h6, of_decide_eq_true h7, of_decide_eq_true h8, of_decide_eq_true h9, of_decide_eq_true h10, of_decide_eq_true h11, of_decide_eq_true h12, of_decide_eq_true h13, of_decide_eq_true h14, of_decide_eq_true h15⟩
end HX
set_option Elab.async false
set_option linter.all false
set_option maxRecDepth 100000
namespace K45
open PySem PySem.Spec PyProof.Rows L2
def dd_turns_of_int : He.DefD := ⟨("turns_of_int", none), "turns_of_int", "turns_of_int", defArgs s_turns_of_int, defBody s_turns_of_int, defScope s_turns_of_int, [], []⟩
def dd_turns : He.DefD := ⟨("turns_raw", none), "turns", "turns", defArgs s_turns, defBody s_turns, defScope s_turns, [], []⟩
def dd_made : He.DefD := ⟨("made", none), "made", "made", defArgs s_made, defBody s_made, defScope s_made, [], []⟩
def dd_of_int : He.DefD := ⟨("of_int", none), "of_int", "of_int", defArgs s_of_int, defBody s_of_int, defScope s_of_int, [], []⟩
def dd_negative : He.DefD := ⟨("negative", none), "negative", "negative", defArgs s_negative, defBody s_negative, defScope s_negative, [], []⟩
def dd_order : He.DefD := ⟨("order", none), "order", "order", defArgs s_order, defBody s_order, defScope s_order, [], []⟩
def dd_bit : He.DefD := ⟨("bit", none), "bit", "bit", defArgs s_bit, defBody s_bit, defScope s_bit, [], []⟩
def dd_merged : He.DefD := ⟨("merged", none), "merged", "merged", defArgs s_merged, defBody s_merged, defScope s_merged, [], []⟩
def dd_combined : He.DefD := ⟨("combined", none), "combined", "combined", defArgs s_combined, defBody s_combined, defScope s_combined, [], []⟩
def dd_toggled : He.DefD := ⟨("toggled", none), "toggled", "toggled", defArgs s_toggled, defBody s_toggled, defScope s_toggled, [], []⟩
def dd_plus_one : He.DefD := ⟨("plus_one", none), "plus_one", "plus_one", defArgs s_plus_one, defBody s_plus_one, defScope s_plus_one, [], []⟩
def dd_inverted : He.DefD := ⟨("inverted", none), "inverted", "inverted", defArgs s_inverted, defBody s_inverted, defScope s_inverted, [], []⟩
def dd_total : He.DefD := ⟨("total", none), "total", "total", defArgs s_total, defBody s_total, defScope s_total, [], []⟩
def dd_minus : He.DefD := ⟨("minus", none), "minus", "minus", defArgs s_minus, defBody s_minus, defScope s_minus, [], []⟩
def dd_shifted : He.DefD := ⟨("shifted", none), "shifted", "shifted", defArgs s_shifted, defBody s_shifted, defScope s_shifted, [], []⟩
def dd_dropped : He.DefD := ⟨("dropped", none), "dropped", "dropped", defArgs s_dropped, defBody s_dropped, defScope s_dropped, [], []⟩
def dd_power_of_two : He.DefD := ⟨("power_of_two", none), "power_of_two", "power_of_two", defArgs s_power_of_two, defBody s_power_of_two, defScope s_power_of_two, [], []⟩
def dd_run_of : He.DefD := ⟨("run_of", none), "run_of", "run_of", defArgs s_run_of, defBody s_run_of, defScope s_run_of, [], []⟩
def dd_last_turn : He.DefD := ⟨("last_turn", none), "last_turn", "last_turn", defArgs s_last_turn, defBody s_last_turn, defScope s_last_turn, [], []⟩
def dd_size : He.DefD := ⟨("size", none), "size", "size", defArgs s_size, defBody s_size, defScope s_size, [], []⟩
def dd_height : He.DefD := ⟨("height", none), "height", "height", defArgs s_height, defBody s_height, defScope s_height, [], []⟩
def dd_kept : He.DefD := ⟨("kept", none), "kept", "kept", defArgs s_kept, defBody s_kept, defScope s_kept, [], []⟩
def dd_order_of : He.DefD := ⟨("order_of", none), "order_of", "order_of", defArgs s_order_of, defBody s_order_of, defScope s_order_of, [], []⟩
def dd_is_int : He.DefD := ⟨("is_int", none), "is_int", "is_int", defArgs s_is_int, defBody s_is_int, defScope s_is_int, [], []⟩
def dd_row_form : He.DefD := ⟨("row_form", none), "row_form", "row_form", defArgs s_row_form, defBody s_row_form, defScope s_row_form, [], []⟩
def dd_given_form : He.DefD := ⟨("given_form", none), "given_form", "given_form", defArgs s_given_form, defBody s_given_form, defScope s_given_form, [], []⟩
def dd_operand : He.DefD := ⟨("operand", none), "operand", "operand", defArgs s_operand, defBody s_operand, defScope s_operand, [], []⟩
def dd_number_form : He.DefD := ⟨("number_form", none), "number_form", "number_form", defArgs s_number_form, defBody s_number_form, defScope s_number_form, [], []⟩
def dd_place_form : He.DefD := ⟨("place_form", none), "place_form", "place_form", defArgs s_place_form, defBody s_place_form, defScope s_place_form, [], []⟩
def dd_range_forms : He.DefD := ⟨("range_forms", none), "range_forms", "range_forms", defArgs s_range_forms, defBody s_range_forms, defScope s_range_forms, [], []⟩
def dd_sum_of_ones : He.DefD := ⟨("sum_of_ones", none), "sum_of_ones", "sum_of_ones", defArgs s_sum_of_ones, defBody s_sum_of_ones, defScope s_sum_of_ones, [], []⟩
def dd_ranked : He.DefD := ⟨("ranked", none), "ranked", "ranked", defArgs s_ranked, defBody s_ranked, defScope s_ranked, [], []⟩
def dd_less : He.DefD := ⟨("less", none), "less", "less", defArgs s_less, defBody s_less, defScope s_less, [], []⟩
def dd_low_part : He.DefD := ⟨("low_part", none), "low_part", "low_part", defArgs s_low_part, defBody s_low_part, defScope s_low_part, [], []⟩
def dd_high_part : He.DefD := ⟨("high_part", none), "high_part", "high_part", defArgs s_high_part, defBody s_high_part, defScope s_high_part, [], []⟩
def dd_ones_of : He.DefD := ⟨("ones_of", none), "ones_of", "ones_of", defArgs s_ones_of, defBody s_ones_of, defScope s_ones_of, [], []⟩
def dd_top_place : He.DefD := ⟨("top_place", none), "top_place", "top_place", defArgs s_top_place, defBody s_top_place, defScope s_top_place, [], []⟩
def dd_block_stop : He.DefD := ⟨("block_stop", none), "block_stop", "block_stop", defArgs s_block_stop, defBody s_block_stop, defScope s_block_stop, [], []⟩
def dd_parted : He.DefD := ⟨("parted", none), "parted", "parted", defArgs s_parted, defBody s_parted, defScope s_parted, [], []⟩
def dd_left_first : He.DefD := ⟨("left_first", none), "left_first", "left_first", defArgs s_left_first, defBody s_left_first, defScope s_left_first, [], []⟩
def dd_right_first : He.DefD := ⟨("right_first", none), "right_first", "right_first", defArgs s_right_first, defBody s_right_first, defScope s_right_first, [], []⟩
def dd_cover_size : He.DefD := ⟨("cover_size", none), "cover_size", "cover_size", defArgs s_cover_size, defBody s_cover_size, defScope s_cover_size, [], []⟩
def dd_cover_member : He.DefD := ⟨("cover_member", none), "cover_member", "cover_member", defArgs s_cover_member, defBody s_cover_member, defScope s_cover_member, [], []⟩
def dd_block_around : He.DefD := ⟨("block_around", none), "block_around", "block_around", defArgs s_block_around, defBody s_block_around, defScope s_block_around, [], []⟩
def dd_far_of : He.DefD := ⟨("far_of", none), "far_of", "far_of", defArgs s_far_of, defBody s_far_of, defScope s_far_of, [], []⟩
def dd_as_range : He.DefD := ⟨("as_range", none), "as_range", "as_range", defArgs s_as_range, defBody s_as_range, defScope s_as_range, [], []⟩
def dd_cover_count : He.DefD := ⟨("cover_count", none), "cover_count", "cover_count", defArgs s_cover_count, defBody s_cover_count, defScope s_cover_count, [], []⟩
def dd_cover_block : He.DefD := ⟨("cover_block", none), "cover_block", "cover_block", defArgs s_cover_block, defBody s_cover_block, defScope s_cover_block, [], []⟩
def dd_cover_at : He.DefD := ⟨("cover_at", none), "cover_at", "cover_at", defArgs s_cover_at, defBody s_cover_at, defScope s_cover_at, [], []⟩
def dd_cover_level : He.DefD := ⟨("cover_level", none), "cover_level", "cover_level", defArgs s_cover_level, defBody s_cover_level, defScope s_cover_level, [], []⟩
def dd__law_pen : He.DefD := ⟨("_law_pen", none), "_law_pen", "_law_pen", defArgs s__law_pen, defBody s__law_pen, defScope s__law_pen, [], []⟩
def dd__law_draw : He.DefD := ⟨("_law_draw", none), "_law_draw", "_law_draw", defArgs s__law_draw, defBody s__law_draw, defScope s__law_draw, [], []⟩
def dd__law_great : He.DefD := ⟨("_law_great", none), "_law_great", "_law_great", defArgs s__law_great, defBody s__law_great, defScope s__law_great, [], []⟩
def dd__law_given : He.DefD := ⟨("_law_given", none), "_law_given", "_law_given", defArgs s__law_given, defBody s__law_given, defScope s__law_given, [], []⟩
def dd__law_is_block : He.DefD := ⟨("_law_is_block", none), "_law_is_block", "_law_is_block", defArgs s__law_is_block, defBody s__law_is_block, defScope s__law_is_block, [], []⟩
def dd__law_places : He.DefD := ⟨("_law_places", none), "_law_places", "_law_places", defArgs s__law_places, defBody s__law_places, defScope s__law_places, [], []⟩
def dd__law_integer : He.DefD := ⟨("_law_integer", none), "_law_integer", "_law_integer", defArgs s__law_integer, defBody s__law_integer, defScope s__law_integer, [], []⟩
def dd__law_cover : He.DefD := ⟨("_law_cover", none), "_law_cover", "_law_cover", defArgs s__law_cover, defBody s__law_cover, defScope s__law_cover, [], []⟩
def dd__law_range : He.DefD := ⟨("_law_range", none), "_law_range", "_law_range", defArgs s__law_range, defBody s__law_range, defScope s__law_range, [], []⟩
def dd__law_is_told : He.DefD := ⟨("_law_is_told", none), "_law_is_told", "_law_is_told", defArgs s__law_is_told, defBody s__law_is_told, defScope s__law_is_told, [], []⟩
def dd_law : He.DefD := ⟨("law", none), "law", "law", defArgs s_law, defBody s_law, defScope s_law, [], []⟩
def dd_Far___init__ : He.DefD := ⟨("Far", some "__init__"), "__init__", "Far.__init__", defArgs s_Far___init__, defBody s_Far___init__, defScope s_Far___init__, [.int (0)], []⟩
def dd_Far___eq__ : He.DefD := ⟨("Far", some "__eq__"), "__eq__", "Far.__eq__", defArgs s_Far___eq__, defBody s_Far___eq__, defScope s_Far___eq__, [], []⟩
def fnL : List He.DefD := [dd_turns_of_int, dd_turns, dd_made, dd_of_int, dd_negative, dd_order, dd_bit, dd_merged, dd_combined, dd_toggled, dd_plus_one, dd_inverted, dd_total, dd_minus, dd_shifted, dd_dropped, dd_power_of_two, dd_run_of, dd_last_turn, dd_size, dd_height, dd_kept, dd_order_of, dd_is_int, dd_row_form, dd_given_form, dd_operand, dd_number_form, dd_place_form, dd_range_forms, dd_sum_of_ones, dd_ranked, dd_less, dd_low_part, dd_high_part, dd_ones_of, dd_top_place, dd_block_stop, dd_parted, dd_left_first, dd_right_first, dd_cover_size, dd_cover_member, dd_block_around, dd_far_of, dd_as_range, dd_cover_count, dd_cover_block, dd_cover_at, dd_cover_level, dd__law_pen, dd__law_draw, dd__law_great, dd__law_given, dd__law_is_block, dd__law_places, dd__law_integer, dd__law_cover, dd__law_range, dd__law_is_told, dd_law, dd_Far___init__, dd_Far___eq__]
def fa0 : List He.Fa := [.glo "turns_of_int", .glo "turns_raw", .glo "made", .glo "of_int", .glo "negative", .glo "order", .glo "bit", .glo "merged", .glo "combined", .glo "toggled", .glo "plus_one", .glo "inverted", .glo "total", .glo "minus", .glo "shifted", .glo "dropped", .glo "power_of_two", .glo "run_of", .glo "last_turn", .glo "size", .glo "height", .glo "kept", .glo "order_of", .glo "is_int", .glo "row_form", .glo "given_form", .glo "operand", .glo "number_form", .glo "place_form", .glo "range_forms", .glo "sum_of_ones", .glo "ranked", .glo "less", .glo "low_part", .glo "high_part", .glo "ones_of", .glo "top_place", .glo "block_stop", .glo "parted", .glo "left_first"]
def fa1 : List He.Fa := [.glo "right_first", .glo "cover_size", .glo "cover_member", .glo "block_around", .glo "far_of", .glo "as_range", .glo "cover_count", .glo "cover_block", .glo "cover_at", .glo "cover_level", .glo "_law_pen", .glo "_law_draw", .glo "_law_great", .glo "_law_given", .glo "_law_is_block", .glo "_law_places", .glo "_law_integer", .glo "_law_cover", .glo "_law_range", .glo "_law_is_told", .glo "law", .int "LAST_PLAIN_TURN" (64), .int "PLAIN_LEAST" (-18446744073709551616), .int "PLAIN_MOST" (18446744073709551615), .int "MOST_HEIGHT" (6), .int "MOST_SIZE" (2000), .glo "AND", .glo "XOR", .glo "Far", .cls "Far", .noat "Far" "own_form", .mkr "Far", .meth "Far" "__eq__", .free "bool", .free "enumerate", .free "int", .free "isinstance", .free "len", .free "list", .free "max"]
def fa2 : List He.Fa := [.free "min", .free "range", .free "sum", .free "tuple"]
def faL : List He.Fa := fa0 ++ (fa1 ++ (fa2))
def erL : List HX.ErD := []
def exL (K : PySem.W.Frag) : Bool := He.tupB K "AND" [.int (0), .int (0), .int (0), .int (1)] && (He.tupB K "XOR" [.int (0), .int (1), .int (1), .int (0)] && (HX.cmpB K (He.ga K "Far") .Eq (He.fAd K ("Far", some "__eq__")) && (HX.neB K (He.ga K "Far") && (HX.isiB K (He.ga K "Far") && (true)))))
def names0 : List PySem.Str := ["_wall", "__name__", "FarError", "NotANumber", "NoPlace", "InvalidRange", "InvalidTurns", "TooLarge", "TooManyTerms", "InvalidPower", "NegativeShift", "NotPower", "BadText", "UnknownName", "NoBlock", "PLAIN_LEAST"]
def names1 : List PySem.Str := ["PLAIN_MOST", "LAST_PLAIN_TURN", "MOST_SIZE", "MOST_HEIGHT", "MOST_TERMS", "MOST_POWER", "MOST_DIGITS", "MOST_NESTED", "AND", "OR", "XOR", "turns_of_int", "turns", "turns_raw", "made", "of_int"]
def names2 : List PySem.Str := ["negative", "order", "bit", "merged", "combined", "toggled", "plus_one", "inverted", "negated", "total", "minus", "shifted", "dropped", "product", "power_of_two", "exponent_of"]
def names3 : List PySem.Str := ["run_of", "first_turn", "last_turn", "size", "height", "kept", "size_of", "height_of", "order_of", "bit_of", "negate", "add", "subtract", "bit_not", "bit_and", "bit_or"]
def names4 : List PySem.Str := ["bit_xor", "shift_left", "shift_right", "multiply", "is_exponent", "power", "power_products", "divide", "LETTERS", "RESERVED", "LONGEST_NAME", "is_name", "DIGITS", "COMPARISONS", "SIGNS", "LEVELS"]
def names5 : List PySem.Str := ["BINARY", "AHEAD", "run_stop", "sign_at", "token_at", "tokens_of", "Reader", "code_of", "ahead", "between", "evaluated", "value_of", "exponent", "run_text", "parts_of", "write_form"]
def names6 : List PySem.Str := ["is_int", "row_form", "given_form", "operand", "number_form", "place_form", "range_forms", "read_values", "Far", "sum_of_ones", "ranked", "less", "low_part", "high_part", "ones_of", "top_place"]
def names7 : List PySem.Str := ["block_stop", "parted", "left_first", "right_first", "cover_size", "cover_member", "block_around", "far_of", "as_range", "cover_count", "cover_block", "cover_at", "cover_level", "_law_pen", "_law_draw", "_law_great"]
def names8 : List PySem.Str := ["_law_given", "_law_is_block", "_law_places", "_law_integer", "_law_cover", "_law_range", "_law_is_told"]
def names : List PySem.Str := names0 ++ (names1 ++ (names2 ++ (names3 ++ (names4 ++ (names5 ++ (names6 ++ (names7 ++ (names8))))))))
def adr0 : List Addr := [3, 1174, 1173, 296, 303, 310, 317, 324, 331, 338, 345, 352, 359, 366, 373, 387]
def adr1 : List Addr := [394, 399, 404, 418, 432, 446, 451, 458, 465, 486, 794, 801, 808, 815, 822, 829]
def adr2 : List Addr := [836, 1185, 1192, 1199, 1206, 1213, 1220, 1227, 1234, 1241, 1248, 1255, 1262, 1269, 1276, 1283]
def adr3 : List Addr := [1290, 1297, 1304, 1311, 1318, 1325, 1332, 1339, 1346, 1353, 1360, 1367, 1374, 1381, 1388, 1393]
def adr4 : List Addr := [287, 289, 856, 1115, 295, 302, 309, 316, 323, 330, 337, 344, 351, 358, 365, 372]
def adr5 : List Addr := [386, 393, 398, 403, 417, 431, 445, 450, 457, 464, 485, 793, 800, 807, 814, 821]
def adr6 : List Addr := [828, 835, 1184, 1191, 1198, 1205, 1212, 1219, 1226, 1233, 1240, 1247, 1254, 1261, 1268, 1275]
def adr7 : List Addr := [1282, 1289, 1296, 1303, 1310, 1317, 1324, 1331, 1338, 1345, 1352, 1359, 1366, 1373, 1380, 1387]
def adr8 : List Addr := [1392, 855, 849, 1114, 290, 291, 292, 293, 294, 297, 298, 299, 300, 301, 304, 305]
def adr9 : List Addr := [306, 307, 308, 311, 312, 313, 314, 315, 318, 319, 320, 321, 322, 325, 326, 327]
def adr10 : List Addr := [328, 329, 332, 333, 334, 335, 336, 339, 340, 341, 342, 343, 346, 347, 348, 349]
def adr11 : List Addr := [350, 353, 354, 355, 356, 357, 360, 361, 362, 363, 364, 367, 368, 369, 370, 371]
def adr12 : List Addr := [381, 382, 383, 384, 385, 388, 389, 390, 391, 392, 395, 396, 397, 400, 401, 402]
def adr13 : List Addr := [412, 413, 414, 415, 416, 426, 427, 428, 429, 430, 440, 441, 442, 443, 444, 447]
def adr14 : List Addr := [448, 449, 452, 453, 454, 455, 456, 459, 460, 461, 462, 463, 480, 481, 482, 483]
def adr15 : List Addr := [484, 788, 789, 790, 791, 792, 795, 796, 797, 798, 799, 802, 803, 804, 805, 806]
def adr16 : List Addr := [809, 810, 811, 812, 813, 816, 817, 818, 819, 820, 823, 824, 825, 826, 827, 830]
def adr17 : List Addr := [831, 832, 833, 834, 1179, 1180, 1181, 1182, 1183, 1186, 1187, 1188, 1189, 1190, 1193, 1194]
def adr18 : List Addr := [1195, 1196, 1197, 1200, 1201, 1202, 1203, 1204, 1207, 1208, 1209, 1210, 1211, 1214, 1215, 1216]
def adr19 : List Addr := [1217, 1218, 1221, 1222, 1223, 1224, 1225, 1228, 1229, 1230, 1231, 1232, 1235, 1236, 1237, 1238]
def adr20 : List Addr := [1239, 1242, 1243, 1244, 1245, 1246, 1249, 1250, 1251, 1252, 1253, 1256, 1257, 1258, 1259, 1260]
def adr21 : List Addr := [1263, 1264, 1265, 1266, 1267, 1270, 1271, 1272, 1273, 1274, 1277, 1278, 1279, 1280, 1281, 1284]
def adr22 : List Addr := [1285, 1286, 1287, 1288, 1291, 1292, 1293, 1294, 1295, 1298, 1299, 1300, 1301, 1302, 1305, 1306]
def adr23 : List Addr := [1307, 1308, 1309, 1312, 1313, 1314, 1315, 1316, 1319, 1320, 1321, 1322, 1323, 1326, 1327, 1328]
def adr24 : List Addr := [1329, 1330, 1333, 1334, 1335, 1336, 1337, 1340, 1341, 1342, 1343, 1344, 1347, 1348, 1349, 1350]
def adr25 : List Addr := [1351, 1354, 1355, 1356, 1357, 1358, 1361, 1362, 1363, 1364, 1365, 1368, 1369, 1370, 1371, 1372]
def adr26 : List Addr := [1375, 1376, 1377, 1378, 1379, 1382, 1383, 1384, 1385, 1386, 1389, 1390, 1391, 850, 851, 852]
def adr27 : List Addr := [853, 854, 1109, 1110, 1111, 1112, 1113, 2]
def adrs : List Addr := adr0 ++ (adr1 ++ (adr2 ++ (adr3 ++ (adr4 ++ (adr5 ++ (adr6 ++ (adr7 ++ (adr8 ++ (adr9 ++ (adr10 ++ (adr11 ++ (adr12 ++ (adr13 ++ (adr14 ++ (adr15 ++ (adr16 ++ (adr17 ++ (adr18 ++ (adr19 ++ (adr20 ++ (adr21 ++ (adr22 ++ (adr23 ++ (adr24 ++ (adr25 ++ (adr26 ++ (adr27)))))))))))))))))))))))))))
abbrev R : PySem.W.OpenRow := PySem.W.OpenLaw.row PySem.Challenge.rw_farbits_k45_whole_covers_of_written_rang
abbrev qv : Program := PySem.W.view R.prog [146]
abbrev hk : PySem.W.Hook := HX.hookK adrs faL fnL erL [] exL
def ob (s : PySem.W.SharedT) : HX.AlK := HX.obsK adrs faL fnL erL [] exL (HandSHeadRun.getT s)
theorem ob_eq (s : PySem.W.SharedT) : ob s = hk.obs s.abs := HX.obsK_eq (HandSHeadRun.getT_eq s)
abbrev fw (w : World) (b : Bool) : World := w.withFollow "special-get-raises" b
noncomputable abbrev endR (w : World) (os : OsState) : Option PySem.W.SharedT := HandSHeadRun.endF (HandSHeadRun.stepQ (HandSHeadRun.denQ HandSHeadRun.tabQ) R.prog w) 12000 R.prog w os
noncomputable abbrev lk (w : World) (s : PySem.W.SharedT) : Bool := HandSHeadRun.looksF R.prog (PySem.W.boot_heap w.params) s.abs
noncomputable abbrev sq (s : PySem.W.SharedT) := HandSHeadRun.seenQ qv names (importedModules R.prog.main.body) (fun s => PySem.W.xlAt qv [] s && PySem.W.recOk R.toRowW.records s) s.abs
end K45
set_option Elab.async false
set_option linter.all false
set_option maxRecDepth 100000
namespace K45
open PySem PySem.Spec PyProof.Rows L2
set_option maxHeartbeats 0 in
theorem run1_false (w : World) (os : OsState) : (endR (fw w false) os).map (fun s => (lk (fw w false) s, (sq s).1, (sq s).2.1, (sq s).2.2.2.1)) = some (true, (PySem.W.openGood qv names).1, (PySem.W.openGood qv names).2.1, (PySem.W.openGood qv names).2.2.2.1) := by kernel_rfl
set_option maxHeartbeats 0 in
theorem run1_true (w : World) (os : OsState) : (endR (fw w true) os).map (fun s => (lk (fw w true) s, (sq s).1, (sq s).2.1, (sq s).2.2.2.1)) = some (true, (PySem.W.openGood qv names).1, (PySem.W.openGood qv names).2.1, (PySem.W.openGood qv names).2.2.2.1) := by kernel_rfl
end K45
set_option Elab.async false
set_option linter.all false
set_option maxRecDepth 100000
namespace K45
open PySem PySem.Spec PyProof.Rows L2
set_option maxHeartbeats 0 in
theorem run2_false (w : World) (os : OsState) : (endR (fw w false) os).map (fun s => ((sq s).2.2.1, (sq s).2.2.2.2.1, (sq s).2.2.2.2.2.1)) = some ((PySem.W.openGood qv names).2.2.1, (PySem.W.openGood qv names).2.2.2.2.1, (PySem.W.openGood qv names).2.2.2.2.2.1) := by kernel_rfl
set_option maxHeartbeats 0 in
theorem run2_true (w : World) (os : OsState) : (endR (fw w true) os).map (fun s => ((sq s).2.2.1, (sq s).2.2.2.2.1, (sq s).2.2.2.2.2.1)) = some ((PySem.W.openGood qv names).2.2.1, (PySem.W.openGood qv names).2.2.2.2.1, (PySem.W.openGood qv names).2.2.2.2.2.1) := by kernel_rfl
end K45
set_option Elab.async false
set_option linter.all false
set_option maxRecDepth 100000
namespace K45
open PySem PySem.Spec PyProof.Rows L2
set_option maxHeartbeats 0 in
theorem run3_false (w : World) (os : OsState) : (endR (fw w false) os).map (fun s => ((sq s).2.2.2.2.2.2.1, (sq s).2.2.2.2.2.2.2.1, (sq s).2.2.2.2.2.2.2.2)) = some ((PySem.W.openGood qv names).2.2.2.2.2.2.1, (PySem.W.openGood qv names).2.2.2.2.2.2.2.1, (PySem.W.openGood qv names).2.2.2.2.2.2.2.2) := by kernel_rfl
set_option maxHeartbeats 0 in
theorem run3_true (w : World) (os : OsState) : (endR (fw w true) os).map (fun s => ((sq s).2.2.2.2.2.2.1, (sq s).2.2.2.2.2.2.2.1, (sq s).2.2.2.2.2.2.2.2)) = some ((PySem.W.openGood qv names).2.2.2.2.2.2.1, (PySem.W.openGood qv names).2.2.2.2.2.2.2.1, (PySem.W.openGood qv names).2.2.2.2.2.2.2.2) := by kernel_rfl
end K45
set_option Elab.async false
set_option linter.all false
set_option maxRecDepth 100000
namespace K45
open PySem PySem.Spec PyProof.Rows L2
set_option maxHeartbeats 0 in
theorem run4_false (w : World) (os : OsState) : (endR (fw w false) os).map (fun s => ob s) = some (HX.valK fnL erL) := by kernel_rfl
set_option maxHeartbeats 0 in
theorem run4_true (w : World) (os : OsState) : (endR (fw w true) os).map (fun s => ob s) = some (HX.valK fnL erL) := by kernel_rfl
end K45
set_option Elab.async false
set_option linter.all false
set_option maxRecDepth 100000
/-! for i, x in enumerate(a tuple) -/
namespace HX
open PySem PySem.Spec PyProof.Rows L2
set_option maxHeartbeats 1000000 in
theorem meets_enumT (l : Addr) (items : Array Value) :
    Meets (Builtin.«enumerate.__new__» ⟨[.type "enumerate", .ref l], []⟩) (fun _ R s => s.heap.IsTuple l items ∧
      R (.ok (.ret (.ref (s.heap.push { cls := .type "tuple_iterator", data := .fields #[.ref l, .int 0 0] }).objs.size)))
        { s with heap := (s.heap.push { cls := .type "tuple_iterator", data := .fields #[.ref l, .int 0 0] }).push { cls := .type "enumerate", data := .fields #[.none, .bool false, .ref s.heap.objs.size, rawInt 0, .none, .none] } }) :=
  .of_wp fun prog w A R s h => by
    obtain ⟨hp, g, d, tk, os⟩ := s
    obtain ⟨hT, h⟩ := h
    have hsub := sub_enumerate
    have q1 : ∀ {A' : Around} {E : Value → Shared → Prop} {Q : Value → Shared → Prop}, Q (.ref hp.objs.size) ⟨hp.push { cls := .type "tuple_iterator", data := .fields #[.ref l, .int 0 0] }, g, d, tk, os⟩ → wpAny (model prog w) A' (pyIter (.ref l)) Q E ⟨hp, g, d, tk, os⟩ :=
      fun q => wpAny_pyIter_tuple (s := ⟨hp, g, d, tk, os⟩) hT q
    wp_walk using q1
    refine wpAny_stack_any fun st => wpAny_pure ?_
    split
    · rename_i c _ _ _ _ _
      by_cases hc : (c == Value.type "enumerate") = true
      all_goals (wp_walk using q1; exact ⟨_, rfl, h⟩)
    · wp_walk using q1
      exact ⟨_, rfl, h⟩
theorem call_enumT {prog : Program} {w : World} {A : Around} {E : Value → Shared → Prop} {s : Shared} {l : Addr} {items : Array Value} {Q : Value → Shared → Prop} (hT : s.heap.IsTuple l items)
    (h : ∀ h', IsEnum h' (s.heap.objs.size + 1) s.heap.objs.size 0 .none → h'.IsTupleIter s.heap.objs.size l 0 → h'.objs.size = s.heap.objs.size + 2 → (∀ b o, s.heap.get? b = some o → h'.get? b = some o) →
      Q (.ref (s.heap.objs.size + 1)) { s with heap := h' }) : wpAny (model prog w) A (call (.type "enumerate") [.ref l]) Q E s := by
  refine callType_new F.called_enumerate (by decide) (F.typeCall_enumerate_1 _) (F.newCall_enumerate_1 _) (fun obj => F.args_object_init_2 obj _) F.entry_enumerate_new (meets_enumT l items) ⟨hT, ?_⟩
  have hz : (s.heap.push { cls := .type "tuple_iterator", data := .fields #[.ref l, .int 0 0] }).objs.size = s.heap.objs.size + 1 := Heap.size_push ..
  show _ ∧ _
  rw [hz]
  have he : IsEnum ((s.heap.push { cls := .type "tuple_iterator", data := .fields #[.ref l, .int 0 0] }).push { cls := .type "enumerate", data := .fields #[.none, .bool false, .ref s.heap.objs.size, rawInt 0, .none, .none] }) (s.heap.objs.size + 1) s.heap.objs.size 0 .none := by
    have q := Heap.get?_push_size (s.heap.push { cls := .type "tuple_iterator", data := .fields #[.ref l, .int 0 0] }) (o := { cls := .type "enumerate", data := .fields #[.none, .bool false, .ref s.heap.objs.size, rawInt 0, .none, .none] }) rfl
    rw [hz] at q
    exact q
  exact ⟨⟨_, he, rfl⟩, h _ he ⟨_, Heap.get?_push_of_some _ (Heap.get?_push_size _ rfl), rfl, rfl⟩ (by rw [Heap.size_push, hz]) fun b o x => Heap.get?_push_of_some _ (Heap.get?_push_of_some _ x)⟩
/-- the tuple at a, each item in a new pair -/
def IteT (K : PySem.W.Frag) (a : Addr) : It :=
  ⟨fun i H => ∃ (xs : List V) (x : V), SqT K H a xs ∧ xs[i]? = some x, fun i H v H' => ∃ T x, v = .ref T ∧ H T = none ∧ H' = upd H T (.tup [.int (i : Nat), x]) ∧ ∀ xs, SqT K H a xs → xs[i]? = some x, fun i H => ∃ xs : List V, SqT K H a xs ∧ xs.length ≤ i⟩
theorem turn_enumT {P : Program} {w : World} {K : PySem.W.Frag} {elts : List Expr} {kk : Nat} {tpos : Pos} (a e it : Addr) :
    Turn P w K (.Tuple elts kk tpos) (IteT K a) [e, it] e (fun i h => (∃ old, IsEnum h e it ((i : Nat) : Int) old) ∧ h.IsTupleIter it a i ∧ e ≠ it) where
  mem := by simp
  obj := fun i h st b hb => by
    obtain ⟨⟨old, he⟩, ⟨o, ho, hc, hd⟩, _⟩ := st
    rcases (show b = e ∨ b = it by simpa using hb) with z | z
    · subst z
      exact ⟨_, he, fun v q => nomatch q⟩
    · subst z
      exact ⟨o, ho, fun v q => nomatch hd.symm.trans q⟩
  keep := fun i h h' st k => let ⟨⟨old, he⟩, hi, hne⟩ := st; ⟨⟨old, k e (by simp) _ he⟩, hi.at (fun o q => k it (by simp) o q), hne⟩
  item := by
    intro X hP hw hK hc i pins s σ H E I hf st hg
    subst hP hw hK
    obtain ⟨⟨old, he⟩, hit, hne⟩ := st
    obtain ⟨xs, x, hq, hx⟩ := hg
    obtain ⟨its, rv, p, hz⟩ := I.tuple hq
    obtain ⟨u, hu, ru⟩ := rv.get hx
    have p' : s.heap.IsTuple a its.toArray := p
    have hel : e < s.heap.objs.size := Heap.lt_size he
    have hil : it < s.heap.objs.size := by
      obtain ⟨_, q, _⟩ := hit
      exact Heap.lt_size q
    have hai : a ≠ it := fun z => by
      obtain ⟨o1, g1, c1, _⟩ := hit
      obtain ⟨o2, g2, c2, _⟩ := p'
      rw [z, g1] at g2
      cases g2
      exact nomatch (show ("tuple_iterator" : String) = "tuple" from Value.type.inj (c1.symm.trans c2))
    have hae : e ≠ a := fun z => by
      obtain ⟨o2, g2, c2, _⟩ := p'
      rw [← z] at g2
      have he' : s.heap.get? e = some _ := he
      rw [he'] at g2
      cases g2
      exact nomatch (show ("enumerate" : String) = "tuple" from Value.type.inj c2)
    have hii : i < its.length := (List.getElem?_eq_some_iff.mp hu).1
    refine wpAny_pyNext_enum_itemD (Draws.tuple (A := X.A.in1) (I.ok.hd hc) it a hai its.toArray) he ⟨hit, p'⟩ (by simpa using hii) hne (by simp [hne, hae]) fun y h' tk hPy ho hit' hT hsz hk => ?_
    have hyu : y = u := by
      have q : its.toArray[i]? = some y := hPy
      have q2 : its[i]? = some y := by simpa using q
      rw [hu] at q2
      exact (Option.some.inj q2).symm
    subst hyu
    refine ⟨_, rfl, wpAny_letOwnedTupleGo_enum (s := { s with heap := h', toks := tk + 1 }) ho fun h'' he' sb => ?_⟩
    have hT2 : h''.get? s.heap.objs.size = some { cls := .type "tuple", data := .seq #[.int i tk, y] } := (sb.2 _ (Nat.ne_of_gt hel)).trans hT
    have new : ObjOk X.prog X.w (upd H s.heap.objs.size (.tup [.int (i : Nat), x])) h'' s.heap.objs.size (.tup [.int (i : Nat), x]) :=
      ⟨by show 2 ≤ sizeLine; decide, [.int i tk, y], .cons ⟨_, rfl⟩ (.cons ru .nil), ⟨_, hT2, rfl, _, rfl⟩⟩
    have I1 : Inv X pins σ (upd H s.heap.objs.size (.tup [.int (i : Nat), x])) { s with heap := h'', toks := tk + 1 } :=
      I.turnedNew (ch := [e, it]) (fun b ob hb q => (sb.2 b (fun z => hb (by simp [z]))).trans (hk b ob (fun z => hb (by simp [z])) (fun z => hb (by simp [z])) q)) hf (Nat.le_refl _) new
    refine ⟨.ref s.heap.objs.size, _, I1, rfl, ⟨_, x, rfl, I.hok.fresh (Nat.le_refl _), rfl, fun ys hy => by rw [I.tuple_inj hy hq]; exact hx⟩, ⟨⟨y, ?_⟩, hit'.1.at (fun o q => (sb.2 it (Ne.symm hne)).trans q), hne⟩, fun b hb => ?_⟩
    · rw [show ((i + 1 : Nat) : Int) = (i : Int) + 1 by omega]
      exact he'
    · have hb' : b < s.heap.objs.size := (show b = e ∨ b = it by simpa using hb).elim (fun z => z ▸ hel) (fun z => z ▸ hil)
      rw [upd_ne (Nat.ne_of_lt hb')]
      exact (hf b hb).1
  done := by
    intro X hP hw hK hc i pins s σ H E I hf st hg
    subst hP hw hK
    obtain ⟨⟨old, he⟩, hit, hne⟩ := st
    obtain ⟨xs, hq, hx⟩ := hg
    obtain ⟨its, rv, p, hz⟩ := I.tuple hq
    have p' : s.heap.IsTuple a its.toArray := p
    obtain ⟨f0, f1, f2, f3, f4, f5⟩ := hf it (by simp)
    have hl := rv.length
    have hT : s.TypeIs (.ref e) "enumerate" := ⟨_, he, rfl⟩
    unfold pyNext
    refine wpAny_bind (wpAny_attempt (wpAny_callSpecial?_slot (name := Str.ofString "__next__") hT F.slot_enumerate_next (wpAny_call_entry F.slot_enumerate_next hT F.entry_enumerate_next ?_ (F.args_enumerate_next_1 _))))
    show wpAny _ _ (field (.ref e) 2 >>= _) _ _ _
    refine wpAny_bind (wpAny_field he rfl (x := .ref it) rfl ?_)
    refine wpAny_bind (wpAny_nextOf_tuple_end (A := X.A.in1) (I.ok.hd hc) hit p' (by simp; omega) fun h' z he' hz' => ?_)
    obtain ⟨o, ho, hc'⟩ := hz'
    refine wpAny_bind (wpAny_isInstance (T := "StopIteration") (b := true) ⟨o, ho, hc'⟩ isSubtype_stop ?_)
    exact wpAny_pure ⟨rfl, I.turned (t' := s.toks) (fun b o hb q => he' b o hb q) f0 f1 f3 f4 f5⟩
  self := fun A i s Q E st h => let ⟨⟨_, he⟩, _⟩ := st; wpAny_pyIter_enum he h
def iEnumT (K : PySem.W.Frag) (ta : TA) : TI := fun σ H R => ta σ H fun vs H1 => ∃ a xs, vs = [.ref a] ∧ SqT K H1 a xs ∧ R (IteT K a) H1
theorem pi_enumT {X : Cx} {e : Expr} {ta : TA} {p pos tpos : Pos} {elts : List Expr} {kk : Nat} (hg : Gl X "enumerate") (hm : X.mg "enumerate" = none) (ha : PA X [e] ta) (hs : starEach [e] X.env = [(false, eval e X.env)] := by rfl) :
    PI X (.Tuple elts kk tpos) (.Call (.Name "enumerate" p) [e] [] pos) (iEnumT X.K ta) := by
  constructor
  intro pins s σ H R I h
  refine Call_ (ld_blt I hg hm boot_enumerate (PyProof.Rows.callWith_type1 (thn (ha.run pos pins s σ H _ I h) fun us s1 ⟨vs, H1, I1, r1, q1⟩ => ?_) hs rfl))
  obtain ⟨a, xs, rfl, hq, q⟩ := q1
  obtain ⟨u, rfl, ru⟩ := vals1 r1
  cases ru
  obtain ⟨its, rv, p', hz⟩ := I1.tuple hq
  refine call_enumT (show s1.heap.IsTuple a its.toArray from p') fun h' he hit hsz hk => wpAny_pyIter_enum he ?_
  have I2 : Inv X pins σ H1 { s1 with heap := h' } := I1.kept (t' := s1.toks) hk
  refine ⟨s1.heap.objs.size + 1, [s1.heap.objs.size + 1, s1.heap.objs.size], _, _, H1, rfl, I2, turn_enumT a (s1.heap.objs.size + 1) s1.heap.objs.size, ⟨⟨.none, he⟩, hit, Nat.succ_ne_self _⟩, fun b hb => ?_, q⟩
  have hle : s1.heap.objs.size ≤ b := (show b = s1.heap.objs.size + 1 ∨ b = s1.heap.objs.size by simpa using hb).elim (fun z => z ▸ Nat.le_add_right _ _) (fun z => Nat.le_of_eq z.symm)
  exact I1.fpOk hle (I1.hok.fresh hle)
/-- the loops: the pair is taken apart -/
theorem flE {K : PySem.W.Frag} {a : Addr} {xs : List V} {g : TG} {tb : TS} {D : Ends} {σ : L2.St} {H : Hp} (Pv : Nat → L2.St → Hp → Prop) (h0 : Pv 0 σ H) (hl : ∀ i σ H, i ≤ xs.length → Pv i σ H → SqL K H a xs)
    (hs : ∀ i x σ H, xs[i]? = some x → Pv i σ H → ∀ T, H T = none → ∀ D', Bd D (Pv (i + 1)) D' → g (.ref T) σ (upd H T (.tup [.int (i : Nat), x])) fun σ2 H2 => tb D' σ2 H2) (hd : ∀ σ H, Pv xs.length σ H → D.nx σ H) :
    ∃ W : Nat → Nat → L2.St → Hp → Prop, (∃ m, W 0 m σ H) ∧ ∀ i m σ H, W i m σ H →
      ((Ite K a).stop i H ∧ D.nx σ H) ∨ ((Ite K a).go i H ∧ ∃ N : L2.St → Hp → Prop, (∀ σ' H', N σ' H' → ∃ m', m' < m ∧ W (i + 1) m' σ' H') ∧ ∀ x H', (Ite K a).yld i H x H' → g x σ H' fun σ2 H2 => tb { D with nx := N, ct := N, bk := D.nx } σ2 H2) := by
  refine ⟨fun i m σ H => i + m = xs.length ∧ Pv i σ H, ⟨xs.length, by omega, h0⟩, ?_⟩
  rintro i m σ H ⟨he, hp⟩
  have hq := hl i σ H (by omega) hp
  cases m with
  | zero => exact .inl ⟨⟨xs, hq, by omega⟩, hd σ H ((show i = xs.length by omega) ▸ hp)⟩
  | succ m =>
    have hi : i < xs.length := by omega
    refine .inr ⟨⟨xs, xs[i], hq, by simp [hi]⟩, fun σ' H' => Pv (i + 1) σ' H', fun σ' H' h => ⟨m, Nat.lt_succ_self m, by omega, h⟩, ?_⟩
    rintro v H' ⟨T, x, rfl, nT, rfl, hx⟩
    exact hs i x σ H (hx xs hq) hp T nT _ ⟨fun _ _ h => h, fun _ _ h => h, fun _ _ h => h, fun _ _ h => h⟩
theorem flET {K : PySem.W.Frag} {a : Addr} {xs : List V} {g : TG} {tb : TS} {D : Ends} {σ : L2.St} {H : Hp} (Pv : Nat → L2.St → Hp → Prop) (h0 : Pv 0 σ H) (hl : ∀ i σ H, i ≤ xs.length → Pv i σ H → SqT K H a xs)
    (hs : ∀ i x σ H, xs[i]? = some x → Pv i σ H → ∀ T, H T = none → ∀ D', Bd D (Pv (i + 1)) D' → g (.ref T) σ (upd H T (.tup [.int (i : Nat), x])) fun σ2 H2 => tb D' σ2 H2) (hd : ∀ σ H, Pv xs.length σ H → D.nx σ H) :
    ∃ W : Nat → Nat → L2.St → Hp → Prop, (∃ m, W 0 m σ H) ∧ ∀ i m σ H, W i m σ H →
      ((IteT K a).stop i H ∧ D.nx σ H) ∨ ((IteT K a).go i H ∧ ∃ N : L2.St → Hp → Prop, (∀ σ' H', N σ' H' → ∃ m', m' < m ∧ W (i + 1) m' σ' H') ∧ ∀ x H', (IteT K a).yld i H x H' → g x σ H' fun σ2 H2 => tb { D with nx := N, ct := N, bk := D.nx } σ2 H2) := by
  refine ⟨fun i m σ H => i + m = xs.length ∧ Pv i σ H, ⟨xs.length, by omega, h0⟩, ?_⟩
  rintro i m σ H ⟨he, hp⟩
  have hq := hl i σ H (by omega) hp
  cases m with
  | zero => exact .inl ⟨⟨xs, hq, by omega⟩, hd σ H ((show i = xs.length by omega) ▸ hp)⟩
  | succ m =>
    have hi : i < xs.length := by omega
    refine .inr ⟨⟨xs, xs[i], hq, by simp [hi]⟩, fun σ' H' => Pv (i + 1) σ' H', fun σ' H' h => ⟨m, Nat.lt_succ_self m, by omega, h⟩, ?_⟩
    rintro v H' ⟨T, x, rfl, nT, rfl, hx⟩
    exact hs i x σ H (hx xs hq) hp T nT _ ⟨fun _ _ h => h, fun _ _ h => h, fun _ _ h => h, fun _ _ h => h⟩
end HX
set_option linter.all false
/-! turns and values: integers by the places where their bits change (plain mathematics) -/
namespace TV
/-- the value of ascending turns, the first with sign s -/
def tvs : Int → List Nat → Int
  | _, [] => 0
  | s, t :: r => s * 2 ^ t + tvs (-s) r
def tv (ts : List Nat) : Int := tvs (-1) ts
def Asc : List Nat → Prop
  | [] => True
  | [_] => True
  | a :: b :: r => a < b ∧ Asc (b :: r)
theorem Asc.tail {a : Nat} {r : List Nat} (h : Asc (a :: r)) : Asc r := by
  cases r with
  | nil => trivial
  | cons b r => exact h.2
theorem Asc.lt {a : Nat} : ∀ {r : List Nat}, Asc (a :: r) → ∀ b ∈ r, a < b
  | [], _, b, hb => by simp at hb
  | c :: r, h, b, hb => by
    rcases List.mem_cons.mp hb with rfl | hb
    · exact h.1
    · exact Nat.lt_trans h.1 (Asc.lt h.2 b hb)
theorem asc_cons {a : Nat} {r : List Nat} (h : ∀ b ∈ r, a < b) (hr : Asc r) : Asc (a :: r) := by
  cases r with
  | nil => trivial
  | cons b r => exact ⟨h b (by simp), hr⟩
theorem asc_pairwise : ∀ {l : List Nat}, Asc l ↔ l.Pairwise (· < ·)
  | [] => by simp [Asc]
  | a :: r => by
    rw [List.pairwise_cons]
    constructor
    · intro h
      exact ⟨fun b hb => Asc.lt h b hb, asc_pairwise.mp h.tail⟩
    · rintro ⟨h1, h2⟩
      exact asc_cons h1 (asc_pairwise.mpr h2)
theorem tvs_neg (s : Int) : ∀ ts, tvs (-s) ts = -tvs s ts
  | [] => by simp [tvs]
  | t :: r => by
    have := tvs_neg (-s) r
    simp only [tvs, Int.neg_neg] at *
    rw [Int.neg_mul]
    omega
theorem tv_cons (t : Nat) (r : List Nat) : tv (t :: r) = -(2 ^ t) - tv r := by
  show (-1 : Int) * 2 ^ t + tvs (- -1) r = -(2 ^ t) - tvs (-1) r
  rw [tvs_neg (-1) r]
  omega
theorem tv_nil : tv [] = 0 := rfl
/-- the bit of n at p -/
def tb (n : Int) (p : Nat) : Bool := decide (n / 2 ^ p % 2 = 1)
theorem tb_zero (n : Int) : tb n 0 = decide (n % 2 = 1) := by simp [tb]
theorem tb_succ (n : Int) (p : Nat) : tb n (p + 1) = tb (n / 2) p := by
  unfold tb
  rw [Int.pow_succ, Int.mul_comm, ← Int.ediv_ediv_of_nonneg (by decide)]
/-- how many turns are at most p -/
def cnt (ts : List Nat) (p : Nat) : Nat := ts.countP fun t => decide (t ≤ p)
theorem cnt_nil (p : Nat) : cnt [] p = 0 := rfl
theorem cnt_cons (t : Nat) (r : List Nat) (p : Nat) : cnt (t :: r) p = cnt r p + if t ≤ p then 1 else 0 := by
  unfold cnt
  rw [List.countP_cons]
  simp
theorem cnt_zero {ts : List Nat} {p : Nat} (h : ∀ t ∈ ts, p < t) : cnt ts p = 0 := by
  unfold cnt
  rw [List.countP_eq_zero]
  intro t ht
  have := h t ht
  simp
  omega
/-- halving: the value of shifted turns -/
theorem tv_map_succ : ∀ ts : List Nat, tv (ts.map (· + 1)) = 2 * tv ts
  | [] => rfl
  | t :: r => by
    rw [List.map_cons, tv_cons, tv_cons, tv_map_succ r, Int.pow_succ]
    omega
theorem pred_map {ts : List Nat} (h : ∀ t ∈ ts, 0 < t) : (ts.map (· - 1)).map (· + 1) = ts := by
  rw [List.map_map]
  conv => rhs; rw [← List.map_id ts]
  apply List.map_congr_left
  intro t ht
  have := h t ht
  show t - 1 + 1 = t
  omega
theorem asc_pred : ∀ {ts : List Nat}, Asc ts → (∀ t ∈ ts, 0 < t) → Asc (ts.map (· - 1))
  | [], _, _ => trivial
  | [_], _, _ => trivial
  | a :: b :: r, h, h0 => by
    have ha := h0 a (by simp)
    refine ⟨by have := h.1; show a - 1 < b - 1; omega, asc_pred h.2 fun t ht => h0 t (by simp [ht])⟩
theorem cnt_succ {ts : List Nat} (h : ∀ t ∈ ts, 0 < t) (p : Nat) : cnt ts (p + 1) = cnt (ts.map (· - 1)) p := by
  unfold cnt
  rw [List.countP_map]
  apply List.countP_congr
  intro t ht
  have := h t ht
  simp

/-- the bits of a row of turns: how many are passed, odd or even -/
theorem tb_tv : ∀ (p : Nat) {ts : List Nat}, Asc ts → tb (tv ts) p = decide (cnt ts p % 2 = 1)
  | 0, [], _ => by decide
  | 0, t :: r, h => by
    have hr : ∀ b ∈ r, 0 < b := fun b hb => by have := Asc.lt h b hb; omega
    have e : tv r = 2 * tv (r.map (· - 1)) := by
      rw [← tv_map_succ, pred_map hr]
    rw [tb_zero, tv_cons, cnt_cons, cnt_zero hr, e]
    cases t with
    | zero => simp
    | succ t =>
      rw [Int.pow_succ]
      simp

  | p + 1, [], _ => by
    rw [tb_succ]
    exact tb_tv p (ts := []) trivial
  | p + 1, t :: r, h => by
    have hr : ∀ b ∈ r, 0 < b := fun b hb => by have := Asc.lt h b hb; omega
    have er : tv r = 2 * tv (r.map (· - 1)) := by
      rw [← tv_map_succ, pred_map hr]
    rw [tb_succ]
    cases t with
    | succ t =>
      have h0 : ∀ b ∈ (t + 1) :: r, 0 < b := fun b hb => by
        rcases List.mem_cons.mp hb with rfl | hb
        · omega
        · exact hr b hb
      have e : tv ((t + 1) :: r) = 2 * tv (((t + 1) :: r).map (· - 1)) := by
        rw [← tv_map_succ, pred_map h0]
      rw [e, Int.mul_ediv_cancel_left _ (by decide), tb_tv p (asc_pred h h0), cnt_succ h0]
    | zero =>
      -- n = -1 - 2 m = 2 (-m - 1) + 1
      rw [tv_cons, er]
      have e2 : (-(2 ^ 0) - 2 * tv (r.map (· - 1)) : Int) / 2 = -tv (r.map (· - 1)) - 1 := by
        rw [Int.pow_zero]
        omega
      rw [e2, cnt_cons, if_pos (Nat.zero_le _)]
      have hA : Asc (r.map (· - 1)) := asc_pred h.tail hr
      have ih := tb_tv p hA
      -- the bits of -m - 1 are those of m turned
      have e3 : tb (-tv (r.map (· - 1)) - 1) p = !tb (tv (r.map (· - 1))) p := by
        unfold tb
        generalize tv (r.map (· - 1)) = m
        have hp : (0 : Int) < 2 ^ p := Int.pow_pos (by decide)
        have e4 : (-m - 1) / 2 ^ p = -(m / 2 ^ p) - 1 := by
          have h1 := Int.emod_nonneg m (Int.ne_of_gt hp)
          have h2 := Int.emod_lt_of_pos m hp
          have h3 := Int.mul_ediv_add_emod m (2 ^ p)
          rw [show -m - 1 = (2 ^ p - 1 - m % 2 ^ p) + 2 ^ p * (-(m / 2 ^ p) - 1) by
            rw [Int.mul_sub, Int.mul_neg]
            omega]
          rw [Int.add_mul_ediv_left _ _ (Int.ne_of_gt hp), Int.ediv_eq_zero_of_lt (by omega) (by omega), Int.zero_add]
        rw [e4]
        generalize m / 2 ^ p = q
        rcases Int.emod_two_eq q with e | e
        · simp [e]; omega
        · simp [e]; omega
      rw [e3, ih, cnt_succ hr]
      rcases Nat.mod_two_eq_zero_or_one (cnt (r.map (· - 1)) p) with e | e
      · simp [e]; omega
      · simp [e]; omega
/-- integers with the same bits are equal -/
theorem tb_ext {n m : Int} (h : ∀ p, tb n p = tb m p) : n = m := by
  have key : ∀ (k : Nat) (n m : Int), (∀ p, tb n p = tb m p) → (n - m) % 2 ^ k = 0 := by
    intro k
    induction k with
    | zero => intro n m _; simp
    | succ k ih =>
      intro n m h
      have h0 := h 0
      rw [tb_zero, tb_zero] at h0
      have h1 := ih (n / 2) (m / 2) fun p => by
        have := h (p + 1)
        rwa [tb_succ, tb_succ] at this
      have hm : n % 2 = m % 2 := by
        have e1 := Int.emod_two_eq n
        have e2 := Int.emod_two_eq m
        rcases e1 with e1 | e1 <;> rcases e2 with e2 | e2 <;> simp [e1, e2] at h0 ⊢
      obtain ⟨c, hc⟩ := Int.dvd_of_emod_eq_zero h1
      have : n - m = 2 ^ (k + 1) * c := by
        have e1 : n - m = 2 * (n / 2 - m / 2) := by omega
        rw [e1, hc, Int.pow_succ]
        rw [← Int.mul_assoc, Int.mul_comm 2]
      rw [this, Int.mul_emod_right]
  apply Classical.byContradiction
  intro hne
  have hd := key (n - m).natAbs n m h
  have hlt : (n - m).natAbs < 2 ^ (n - m).natAbs := Nat.lt_two_pow_self
  obtain ⟨c, hc⟩ := Int.dvd_of_emod_eq_zero hd
  have h1 : (n - m).natAbs = 2 ^ (n - m).natAbs * c.natAbs := by
    conv => lhs; rw [hc]
    rw [Int.natAbs_mul, Int.natAbs_pow]
    rfl
  have h2 : c.natAbs ≠ 0 := by
    intro e
    rw [e] at h1
    omega
  have h3 : 2 ^ (n - m).natAbs * 1 ≤ 2 ^ (n - m).natAbs * c.natAbs := Nat.mul_le_mul_left _ (by omega)
  omega
theorem mem_cnt {ts : List Nat} (h : Asc ts) (p : Nat) : p ∈ ts ↔ cnt ts p ≠ (if p = 0 then 0 else cnt ts (p - 1)) := by
  induction ts with
  | nil => simp [cnt]
  | cons t r ih =>
    have ih := ih h.tail
    rw [List.mem_cons, cnt_cons, cnt_cons]
    have hlt := fun b hb => Asc.lt h b hb
    by_cases e : p = t
    · subst e
      have hz : cnt r p = 0 := cnt_zero hlt
      by_cases p0 : p = 0
      · simp [p0] at *

      · have hz2 : cnt r (p - 1) = 0 := cnt_zero fun b hb => by have := hlt b hb; omega
        simp [p0, hz, hz2]
        omega
    · by_cases p0 : p = 0
      · subst p0
        have hz : cnt r 0 = 0 := cnt_zero fun b hb => by have := hlt b hb; omega
        simp at *
        constructor
        · rintro (z | z)
          · omega
          · have := hlt 0 z; omega
        · intro z
          omega
      · simp only [p0, if_false] at *
        rw [ih]
        simp only [e, false_or]
        by_cases c : t ≤ p
        · have c2 : t ≤ p - 1 := by omega
          simp [c, c2]
        · have c2 : ¬ t ≤ p - 1 := by omega
          simp [c, c2]
theorem cnt_mono (ts : List Nat) (p : Nat) : Asc ts → cnt ts p ≤ cnt ts (p + 1) ∧ cnt ts (p + 1) ≤ cnt ts p + 1 := by
  intro h
  induction ts with
  | nil => simp [cnt]
  | cons t r ih =>
    have ih := ih h.tail
    have hlt := fun b hb => Asc.lt h b hb
    rw [cnt_cons, cnt_cons]
    by_cases c : t ≤ p
    · have : t ≤ p + 1 := by omega
      simp [c, this]
      omega
    · by_cases c2 : t ≤ p + 1
      · have e : t = p + 1 := by omega
        have hz : cnt r (p + 1) = 0 := cnt_zero fun b hb => by have := hlt b hb; omega
        have hz2 : cnt r p = 0 := cnt_zero fun b hb => by have := hlt b hb; omega
        simp [c, c2, hz, hz2]
      · simp [c, c2]
        omega
/-- p is a turn exactly if the bit there differs from the one before -/
theorem mem_tb {ts : List Nat} (h : Asc ts) (p : Nat) : p ∈ ts ↔ tb (tv ts) p ≠ (if p = 0 then false else tb (tv ts) (p - 1)) := by
  rw [mem_cnt h, tb_tv p h]
  by_cases p0 : p = 0
  · subst p0
    have : cnt ts 0 ≤ 1 := by
      cases ts with
      | nil => simp [cnt]
      | cons t r =>
        rw [cnt_cons, cnt_zero fun b hb => by have := Asc.lt h b hb; omega]
        split <;> omega
    simp
    omega
  · obtain ⟨q, rfl⟩ : ∃ q, p = q + 1 := ⟨p - 1, by omega⟩
    simp only [Nat.add_sub_cancel, Nat.add_one_ne_zero, if_false]
    rw [tb_tv q h]
    have := cnt_mono ts q h
    have h2 := Nat.mod_two_eq_zero_or_one (cnt ts q)
    have h3 := Nat.mod_two_eq_zero_or_one (cnt ts (q + 1))
    rcases h2 with e2 | e2 <;> rcases h3 with e3 | e3 <;> simp [e2, e3] <;> omega
theorem asc_ext : ∀ {ts us : List Nat}, Asc ts → Asc us → (∀ p, p ∈ ts ↔ p ∈ us) → ts = us
  | [], [], _, _, _ => rfl
  | [], u :: _, _, _, h => absurd ((h u).mpr (by simp)) (by simp)
  | t :: _, [], _, _, h => absurd ((h t).mp (by simp)) (by simp)
  | t :: r, u :: q, h1, h2, h => by
    have e : t = u := by
      have a := (h t).mp (by simp)
      have b := (h u).mpr (by simp)
      rcases List.mem_cons.mp a with a | a
      · exact a
      · rcases List.mem_cons.mp b with b | b
        · exact b.symm
        · have := Asc.lt h2 t a
          have := Asc.lt h1 u b
          omega
    subst e
    congr 1
    refine asc_ext h1.tail h2.tail fun p => ?_
    constructor
    · intro hp
      have := Asc.lt h1 p hp
      rcases List.mem_cons.mp ((h p).mp (by simp [hp])) with z | z
      · omega
      · exact z
    · intro hp
      have := Asc.lt h2 p hp
      rcases List.mem_cons.mp ((h p).mpr (by simp [hp])) with z | z
      · omega
      · exact z
/-- one integer, one row of turns -/
theorem tv_inj {ts us : List Nat} (h1 : Asc ts) (h2 : Asc us) (h : tv ts = tv us) : ts = us :=
  asc_ext h1 h2 fun p => by rw [mem_tb h1, mem_tb h2, h]
/-! ### every integer has its turns -/
theorem asc_succ : ∀ {ts : List Nat}, Asc ts → Asc (ts.map (· + 1))
  | [], _ => trivial
  | [_], _ => trivial
  | a :: b :: r, h => ⟨by have := h.1; show a + 1 < b + 1; omega, asc_succ h.2⟩
theorem turns_ex : ∀ n : Int, ∃ ts, Asc ts ∧ tv ts = n := by
  have key : ∀ (k : Nat) (n : Int), 2 * n.natAbs + (if 0 < n then 1 else 0) ≤ k → ∃ ts, Asc ts ∧ tv ts = n := by
    intro k
    induction k with
    | zero =>
      intro n h
      have : n = 0 := by omega
      subst this
      exact ⟨[], trivial, rfl⟩
    | succ k ih =>
      intro n h
      by_cases h0 : n = 0
      · subst h0
        exact ⟨[], trivial, rfl⟩
      rcases Int.emod_two_eq n with e | e
      · obtain ⟨ts, h1, h2⟩ := ih (n / 2) (by split at h <;> split <;> omega)
        exact ⟨ts.map (· + 1), asc_succ h1, by rw [tv_map_succ, h2]; omega⟩
      · obtain ⟨ts, h1, h2⟩ := ih (-(n / 2) - 1) (by split at h <;> split <;> omega)
        refine ⟨0 :: ts.map (· + 1), asc_cons (fun b hb => ?_) (asc_succ h1), ?_⟩
        · obtain ⟨c, _, rfl⟩ := List.mem_map.mp hb
          omega
        · rw [tv_cons, tv_map_succ, h2, Int.pow_zero]
          omega
  intro n
  exact key _ n (Nat.le_refl _)
/-! ### the marks: a one at each turn -/
open PySem PyProof.Rows PySem.W in
theorem tb_and (x y : Int) : ∀ p, tb (Builtin.bitAnd x y) p = (tb x p && tb y p) := by
  intro p
  induction p generalizing x y with
  | zero =>
    rw [tb_zero, tb_zero, tb_zero, kbt_halves x y]
    have h1 := Int.emod_two_eq x
    have h2 := Int.emod_two_eq y
    rcases h1 with h1 | h1 <;> rcases h2 with h2 | h2 <;> simp [h1, h2] <;> omega
  | succ p ih =>
    rw [tb_succ, tb_succ, tb_succ, ← ih]
    congr 1
    rw [kbt_halves x y]
    split <;> omega
open PySem PyProof.Rows PySem.W in
theorem tb_xor (x y : Int) : ∀ p, tb (Builtin.bitXor x y) p = (tb x p ^^ tb y p) := by
  intro p
  induction p generalizing x y with
  | zero =>
    rw [tb_zero, tb_zero, tb_zero, bitXor_and x y]
    have h1 := Int.emod_two_eq x
    have h2 := Int.emod_two_eq y
    rcases h1 with h1 | h1 <;> rcases h2 with h2 | h2 <;> simp [h1, h2] <;> omega
  | succ p ih =>
    rw [tb_succ, tb_succ, tb_succ, ← ih]
    congr 1
    rw [bitXor_and, bitXor_and, kbt_halves x y]
    have h1 := Int.emod_two_eq x
    have h2 := Int.emod_two_eq y
    rcases h1 with h1 | h1 <;> rcases h2 with h2 | h2 <;> simp [h1, h2] <;> omega
/-- the sum of the powers of two at the turns -/
def psum : List Nat → Int
  | [] => 0
  | t :: r => 2 ^ t + psum r
theorem psum_map_succ : ∀ ts : List Nat, psum (ts.map (· + 1)) = 2 * psum ts
  | [] => rfl
  | t :: r => by
    rw [List.map_cons, psum, psum, psum_map_succ r, Int.pow_succ]
    omega
theorem psum_nonneg : ∀ ts : List Nat, 0 ≤ psum ts
  | [] => Int.le_refl _
  | t :: r => by
    have := psum_nonneg r
    have : (0 : Int) < 2 ^ t := Int.pow_pos (by decide)
    show 0 ≤ 2 ^ t + psum r
    omega
theorem psum_low {t : Nat} : ∀ {r : List Nat}, (∀ b ∈ r, t < b) → ∃ c, psum r = 2 ^ (t + 1) * c
  | [], _ => ⟨0, by simp [psum]⟩
  | b :: r, h => by
    obtain ⟨c, e⟩ := psum_low (r := r) fun x hx => h x (by simp [hx])
    have hb := h b (by simp)
    refine ⟨2 ^ (b - (t + 1)) + c, ?_⟩
    rw [psum, e, Int.mul_add, ← Int.pow_add]
    congr 3
    omega
theorem psum_cons {t : Nat} {r : List Nat} (h : Asc (t :: r)) : ∃ c, psum (t :: r) = 2 ^ t * (2 * c + 1) := by
  obtain ⟨c, e⟩ := psum_low fun b hb => Asc.lt h b hb
  refine ⟨c, ?_⟩
  rw [psum, e, Int.pow_succ, Int.mul_add, Int.mul_one, ← Int.mul_assoc]
  omega
theorem tb_psum : ∀ (p : Nat) {ts : List Nat}, Asc ts → tb (psum ts) p = decide (p ∈ ts)
  | p, [], _ => by simp [psum, tb]
  | 0, t :: r, h => by
    have hr : ∀ b ∈ r, 0 < b := fun b hb => by have := Asc.lt h b hb; omega
    have e : psum r = 2 * psum (r.map (· - 1)) := by rw [← psum_map_succ, pred_map hr]
    have hn : 0 ∉ r := fun z => by have := hr 0 z; omega
    rw [tb_zero, psum, e]
    cases t with
    | zero => simp
    | succ t =>
      rw [Int.pow_succ]
      simp [hn]

  | p + 1, t :: r, h => by
    have hr : ∀ b ∈ r, 0 < b := fun b hb => by have := Asc.lt h b hb; omega
    have er : psum r = 2 * psum (r.map (· - 1)) := by rw [← psum_map_succ, pred_map hr]
    have hA := asc_pred h.tail hr
    have hm : ∀ {l : List Nat}, (∀ b ∈ l, 0 < b) → (p ∈ l.map (· - 1) ↔ p + 1 ∈ l) := fun {l} hl => by
      rw [List.mem_map]
      constructor
      · rintro ⟨a, ha, e⟩
        have := hl a ha
        have : a = p + 1 := by omega
        exact this ▸ ha
      · intro hp
        exact ⟨p + 1, hp, by omega⟩
    rw [tb_succ, psum]
    cases t with
    | zero =>
      rw [er, show ((2 : Int) ^ 0 + 2 * psum (r.map (· - 1))) / 2 = psum (r.map (· - 1)) by rw [Int.pow_zero]; omega, tb_psum p hA]
      simp [hm hr]
    | succ t =>
      have h0 : ∀ b ∈ (t + 1) :: r, 0 < b := fun b hb => by
        rcases List.mem_cons.mp hb with rfl | hb
        · omega
        · exact hr b hb
      have e : (2 : Int) ^ (t + 1) + psum r = 2 * psum (((t + 1) :: r).map (· - 1)) := by
        show psum ((t + 1) :: r) = _
        rw [← psum_map_succ, pred_map h0]
      rw [e, Int.mul_ediv_cancel_left _ (by decide), tb_psum p (asc_pred h h0)]
      exact decide_eq_decide.mpr (hm h0)
theorem tb_dbl (n : Int) (p : Nat) : tb (n * 2) p = if p = 0 then false else tb n (p - 1) := by
  cases p with
  | zero => simp [tb_zero]
  | succ p => rw [tb_succ, Int.mul_ediv_cancel _ (by decide)]; simp
open PySem PyProof.Rows PySem.W in
theorem marks {ts : List Nat} (h : Asc ts) : Builtin.bitXor (tv ts) (tv ts * 2) = psum ts := by
  apply tb_ext
  intro p
  rw [tb_xor, tb_dbl, tb_psum p h]
  have := mem_tb h p
  by_cases hp : p ∈ ts
  · rw [decide_eq_true hp]
    have := this.mp hp
    revert this
    cases tb (tv ts) p <;> cases (if p = 0 then false else tb (tv ts) (p - 1)) <;> simp
  · rw [decide_eq_false hp]
    have h2 : ¬ _ := fun z => hp (this.mpr z)
    revert h2
    cases tb (tv ts) p <;> cases (if p = 0 then false else tb (tv ts) (p - 1)) <;> simp
open PySem PyProof.Rows PySem.W in
/-- one step of reading the marks -/
theorem low_mark {t : Nat} {r : List Nat} (h : Asc (t :: r)) : Builtin.bitAnd (psum (t :: r)) (-psum (t :: r)) = 2 ^ t := by
  obtain ⟨c, e⟩ := psum_cons h
  rw [e]
  exact kbt_low t c
open PySem PyProof.Rows PySem.W in
theorem off_mark {t : Nat} {r : List Nat} (h : Asc (t :: r)) : Builtin.bitXor (psum (t :: r)) (2 ^ t) = psum r := by
  obtain ⟨c, e⟩ := psum_cons h
  have hp : (0 : Int) < 2 ^ t := Int.pow_pos (by decide)
  rw [bitXor_and, kbt_bit]
  have e2 : psum (t :: r) / 2 ^ t % 2 = 1 := by
    rw [e, Int.mul_ediv_cancel_left _ (Int.ne_of_gt hp)]
    omega
  rw [e2, psum]
  omega
theorem psum_pos {t : Nat} {r : List Nat} : 0 < psum (t :: r) := by
  have := psum_nonneg r
  have : (0 : Int) < 2 ^ t := Int.pow_pos (by decide)
  show 0 < 2 ^ t + psum r
  omega
/-! ### the sign of a row of turns -/
theorem tv_bound : ∀ {ts : List Nat} {k : Nat}, Asc ts → (∀ t ∈ ts, t < k) → -(2 ^ k) < tv ts ∧ tv ts < 2 ^ k
  | [], k, _, _ => by
    have : (0 : Int) < 2 ^ k := Int.pow_pos (by decide)
    rw [tv_nil]
    omega
  | [t], k, h, hb => by
    have h1 := hb t (by simp)
    have h2 : (2 : Int) ^ t < 2 ^ k := Int.pow_lt_pow_of_lt (by decide) h1
    have h3 : (0 : Int) < 2 ^ t := Int.pow_pos (by decide)
    rw [tv_cons, tv_nil]
    omega
  | t :: u :: r, k, h, hb => by
    -- the rest is between -2^k and 2^k, and has a low part
    have ih := tv_bound h.tail (fun x hx => hb x (by simp [hx]))
    have h1 := hb t (by simp)
    have h3 : (0 : Int) < 2 ^ t := Int.pow_pos (by decide)
    -- tv (u :: r) is a multiple of 2 ^ (t + 1)
    have hm : ∀ {l : List Nat}, (∀ b ∈ l, t < b) → ∃ c, tv l = 2 ^ (t + 1) * c := by
      intro l
      induction l with
      | nil => intro _; exact ⟨0, by simp [tv_nil]⟩
      | cons b l ihl =>
        intro hl
        obtain ⟨c, e⟩ := ihl fun x hx => hl x (by simp [hx])
        have hbt := hl b (by simp)
        refine ⟨-(2 ^ (b - (t + 1))) - c, ?_⟩
        rw [tv_cons, e, Int.mul_sub, Int.mul_neg, ← Int.pow_add]
        congr 3
        omega
    obtain ⟨c, e⟩ := hm fun b hb => Asc.lt h b hb
    have e2 : (2 : Int) ^ k = 2 ^ (t + 1) * 2 ^ (k - (t + 1)) := by
      rw [← Int.pow_add]
      congr 1
      omega
    rw [tv_cons]
    have h4 : (2 : Int) ^ (t + 1) = 2 * 2 ^ t := by rw [Int.pow_succ]; omega
    rw [e, e2] at ih
    have hq : (0 : Int) < 2 ^ (t + 1) := Int.pow_pos (by decide)
    have a1 : -(2 ^ (k - (t + 1))) < c := by
      have := ih.1
      rw [← Int.mul_neg] at this
      exact Int.lt_of_mul_lt_mul_left this (Int.le_of_lt hq)
    have a2 : c < 2 ^ (k - (t + 1)) := Int.lt_of_mul_lt_mul_left ih.2 (Int.le_of_lt hq)
    rw [e, e2]
    generalize hz : (2 : Int) ^ (k - (t + 1)) = z at *
    generalize hy : (2 : Int) ^ (t + 1) = y at *
    have b1 : y * (c + 1) ≤ y * z := Int.mul_le_mul_of_nonneg_left (by omega) (by omega)
    have b2 : y * (-z + 1) ≤ y * c := Int.mul_le_mul_of_nonneg_left (by omega) (by omega)
    rw [Int.mul_add, Int.mul_one] at b1 b2
    rw [Int.mul_neg] at b2
    omega
/-- the sign of a row: odd rows are below 0 -/
theorem tv_sign : ∀ {ts : List Nat} {t : Nat}, Asc (ts ++ [t]) → (tv (ts ++ [t]) < 0 ↔ ts.length % 2 = 0) ∧ tv (ts ++ [t]) ≠ 0 := by
  intro ts t h
  have hlow : ∀ x ∈ ts, x < t := by
    have := asc_pairwise.mp h
    rw [List.pairwise_append] at this
    exact fun x hx => this.2.2 x hx t (by simp)
  have hA : Asc ts := by
    have := asc_pairwise.mp h
    rw [List.pairwise_append] at this
    exact asc_pairwise.mpr this.1
  have hb := tv_bound hA hlow
  have e : tv (ts ++ [t]) = tv ts + (if ts.length % 2 = 0 then -(2 ^ t) else 2 ^ t) := by
    clear hb hA hlow h
    induction ts with
    | nil => simp [tv_cons, tv_nil]
    | cons a r ih =>
      rw [List.cons_append, tv_cons, tv_cons, ih, List.length_cons]
      split <;> split <;> omega
  rw [e]
  split <;> constructor <;> omega
end TV
set_option linter.all false
/-! forms as data: their values; forms of one value are one form -/
namespace FM
open PySem TV
/-! ### ranges -/
theorem tb_shift (n : Int) (k p : Nat) : tb (n / 2 ^ k) p = tb n (k + p) := by
  unfold tb
  rw [Int.pow_add, Int.ediv_ediv_of_nonneg (Int.le_of_lt (Int.pow_pos (by decide)))]
theorem tb_top (p : Nat) : tb 0 p = false := by simp [tb]
theorem tb_neg1 : ∀ p : Nat, tb (-1) p = true
  | 0 => by decide
  | p + 1 => by
    rw [tb_succ]
    exact tb_neg1 p
theorem cnt_all {ts : List Nat} {p : Nat} (h : ∀ t ∈ ts, t ≤ p) : cnt ts p = ts.length := by
  unfold cnt
  rw [List.countP_eq_length]
  intro t ht
  simp
  exact h t ht
/-- all turns at most k: exactly the integers of k bits and a sign -/
theorem tv_range {ts : List Nat} {k : Nat} (h : Asc ts) : (∀ t ∈ ts, t ≤ k) ↔ -(2 ^ k) ≤ tv ts ∧ tv ts < 2 ^ k := by
  have hp : (0 : Int) < 2 ^ k := Int.pow_pos (by decide)
  have iff1 : (-(2 ^ k) ≤ tv ts ∧ tv ts < 2 ^ k) ↔ (tv ts / 2 ^ k = 0 ∨ tv ts / 2 ^ k = -1) := by
    have h1 := Int.emod_nonneg (tv ts) (Int.ne_of_gt hp)
    have h2 := Int.emod_lt_of_pos (tv ts) hp
    have h3 := Int.mul_ediv_add_emod (tv ts) (2 ^ k)
    generalize tv ts / 2 ^ k = q at *
    generalize tv ts % 2 ^ k = r at *
    generalize (2 : Int) ^ k = z at *
    constructor
    · rintro ⟨a, b⟩
      have c1 : q < 1 := by
        apply Int.lt_of_mul_lt_mul_left (a := z) _ (by omega)
        omega
      have c2 : -2 < q := by
        apply Int.lt_of_mul_lt_mul_left (a := z) _ (by omega)
        omega
      omega
    · rintro (e | e)
      · subst e; omega
      · subst e; omega
  rw [iff1]
  constructor
  · intro ha
    have hc : ∀ p, tb (tv ts / 2 ^ k) p = decide (ts.length % 2 = 1) := fun p => by
      rw [tb_shift, tb_tv _ h, cnt_all fun t ht => by have := ha t ht; omega]
    by_cases e : ts.length % 2 = 1
    · right
      apply tb_ext
      intro p
      rw [hc, tb_neg1, decide_eq_true e]
    · left
      apply tb_ext
      intro p
      rw [hc, tb_top, decide_eq_false e]
  · intro hq t ht
    apply Nat.le_of_not_lt
    intro hlt
    have := (mem_tb h t).mp ht
    apply this
    rw [if_neg (by omega)]
    have hc : ∀ p q, k ≤ p → k ≤ q → tb (tv ts) p = tb (tv ts) q := fun p q hp hq' => by
      have e1 : tb (tv ts) p = tb (tv ts / 2 ^ k) (p - k) := by rw [tb_shift]; congr 1; omega
      have e2 : tb (tv ts) q = tb (tv ts / 2 ^ k) (q - k) := by rw [tb_shift]; congr 1; omega
      rw [e1, e2]
      rcases hq with e | e <;> rw [e]
      · rw [tb_top, tb_top]
      · rw [tb_neg1, tb_neg1]
    exact hc _ _ (by omega) (by omega)
theorem asc_len {k : Nat} : ∀ {ts : List Nat} {a : Nat}, Asc ts → (∀ t ∈ ts, a ≤ t ∧ t ≤ k) → ts.length ≤ k + 1 - a
  | [], a, _, _ => Nat.zero_le _
  | t :: r, a, h, hb => by
    have h1 := hb t (by simp)
    have := asc_len (a := t + 1) h.tail fun x hx => ⟨Asc.lt h x hx, (hb x (by simp [hx])).2⟩
    rw [List.length_cons]
    omega
/-! ### forms -/
mutual
def val : PyData → Int
  | .int i => i
  | .tuple ds => tv (vals ds)
  | _ => 0
def vals : List PyData → List Nat
  | [] => []
  | d :: r => (val d).toNat :: vals r
end
mutual
def Fm : PyData → Prop
  | .int i => -(2 ^ 64) ≤ i ∧ i < 2 ^ 64
  | .tuple ds => FmAll ds ∧ Asc (vals ds) ∧ ∃ t ∈ vals ds, 64 < t
  | _ => False
def FmAll : List PyData → Prop
  | [] => True
  | d :: r => Fm d ∧ 0 ≤ val d ∧ FmAll r
end
theorem val_int (i : Int) : val (.int i) = i := by simp [val]
theorem val_tuple (ds : List PyData) : val (.tuple ds) = tv (vals ds) := by simp [val]
theorem vals_nil : vals [] = [] := by simp [vals]
theorem vals_cons (d : PyData) (r : List PyData) : vals (d :: r) = (val d).toNat :: vals r := by simp [vals]
theorem fm_int (i : Int) : Fm (.int i) ↔ -(2 ^ 64) ≤ i ∧ i < 2 ^ 64 := by simp [Fm]
theorem fm_tuple (ds : List PyData) : Fm (.tuple ds) ↔ FmAll ds ∧ Asc (vals ds) ∧ ∃ t ∈ vals ds, 64 < t := by simp [Fm]
theorem fmAll_nil : FmAll [] := by simp [FmAll]
theorem fmAll_cons (d : PyData) (r : List PyData) : FmAll (d :: r) ↔ Fm d ∧ 0 ≤ val d ∧ FmAll r := by simp [FmAll]
theorem vals_len : ∀ ds : List PyData, (vals ds).length = ds.length
  | [] => by simp [vals]
  | d :: r => by rw [vals_cons, List.length_cons, vals_len r, List.length_cons]
theorem vals_app : ∀ ds es : List PyData, vals (ds ++ es) = vals ds ++ vals es
  | [], es => by simp [vals]
  | d :: r, es => by rw [List.cons_append, vals_cons, vals_cons, vals_app r es, List.cons_append]
theorem fmAll_app : ∀ ds es : List PyData, FmAll (ds ++ es) ↔ FmAll ds ∧ FmAll es
  | [], es => by simp [FmAll]
  | d :: r, es => by
    rw [List.cons_append, fmAll_cons, fmAll_cons, fmAll_app r es]
    exact ⟨fun ⟨a, b, c, e⟩ => ⟨⟨a, b, c⟩, e⟩, fun ⟨⟨a, b, c⟩, e⟩ => ⟨a, b, c, e⟩⟩
theorem fmAll_mem : ∀ {ds : List PyData}, FmAll ds → ∀ d ∈ ds, Fm d ∧ 0 ≤ val d
  | [], _, d, hd => by simp at hd
  | e :: r, h, d, hd => by
    rw [fmAll_cons] at h
    rcases List.mem_cons.mp hd with rfl | hd
    · exact ⟨h.1, h.2.1⟩
    · exact fmAll_mem h.2.2 d hd
theorem mem_vals : ∀ {ds : List PyData} {t : Nat}, t ∈ vals ds ↔ ∃ d ∈ ds, (val d).toNat = t
  | [], t => by simp [vals]
  | e :: r, t => by
    rw [vals_cons, List.mem_cons, mem_vals (ds := r)]
    constructor
    · rintro (h | ⟨d, h1, h2⟩)
      · exact ⟨e, by simp, h.symm⟩
      · exact ⟨d, by simp [h1], h2⟩
    · rintro ⟨d, h1, h2⟩
      rcases List.mem_cons.mp h1 with rfl | h1
      · exact .inl h2.symm
      · exact .inr ⟨d, h1, h2⟩
/-- a tuple form is no plain integer -/
theorem tuple_far {ds : List PyData} (h : Fm (.tuple ds)) : ¬ (-(2 ^ 64) ≤ val (.tuple ds) ∧ val (.tuple ds) < 2 ^ 64) := by
  rw [fm_tuple] at h
  rw [val_tuple, ← tv_range h.2.1]
  intro hc
  obtain ⟨t, ht, h64⟩ := h.2.2
  have := hc t ht
  omega
mutual
theorem fm_inj : ∀ {d e : PyData}, Fm d → Fm e → val d = val e → d = e
  | .int i, .int j, _, _, h => by
    rw [val_int, val_int] at h
    rw [h]
  | .int i, .tuple es, hd, he, h => by
    rw [fm_int] at hd
    rw [val_int] at h
    exact absurd (h ▸ hd) (tuple_far he)
  | .tuple ds, .int j, hd, he, h => by
    rw [fm_int] at he
    rw [val_int] at h
    exact absurd (h ▸ he) (tuple_far hd)
  | .tuple ds, .tuple es, hd, he, h => by
    have hd' := (fm_tuple ds).mp hd
    have he' := (fm_tuple es).mp he
    rw [val_tuple, val_tuple] at h
    rw [fmAll_inj hd'.1 he'.1 (tv_inj hd'.2.1 he'.2.1 h)]
  | .none, _, hd, _, _ => by simp [Fm] at hd
  | .bool _, _, hd, _, _ => by simp [Fm] at hd
  | .str _, _, hd, _, _ => by simp [Fm] at hd
  | .list _, _, hd, _, _ => by simp [Fm] at hd
  | .dict _, _, hd, _, _ => by simp [Fm] at hd
  | .int _, .none, _, he, _ => by simp [Fm] at he
  | .int _, .bool _, _, he, _ => by simp [Fm] at he
  | .int _, .str _, _, he, _ => by simp [Fm] at he
  | .int _, .list _, _, he, _ => by simp [Fm] at he
  | .int _, .dict _, _, he, _ => by simp [Fm] at he
  | .tuple _, .none, _, he, _ => by simp [Fm] at he
  | .tuple _, .bool _, _, he, _ => by simp [Fm] at he
  | .tuple _, .str _, _, he, _ => by simp [Fm] at he
  | .tuple _, .list _, _, he, _ => by simp [Fm] at he
  | .tuple _, .dict _, _, he, _ => by simp [Fm] at he
theorem fmAll_inj : ∀ {ds es : List PyData}, FmAll ds → FmAll es → vals ds = vals es → ds = es
  | [], [], _, _, _ => rfl
  | [], e :: r, _, _, h => by
    rw [vals_nil, vals_cons] at h
    cases h
  | d :: r, [], _, _, h => by
    rw [vals_nil, vals_cons] at h
    cases h
  | d :: r, e :: q, hd, he, h => by
    rw [vals_cons, vals_cons] at h
    injection h with h1 h2
    rw [fmAll_cons] at hd he
    have h0 := hd.2.1
    have h0' := he.2.1
    rw [fm_inj hd.1 he.1 (by omega), fmAll_inj hd.2.2 he.2.2 h2]
end
/-! ### sizes -/
mutual
def wt : PyData → Nat
  | .tuple ds => 1 + wtAll ds
  | _ => 1
def wtAll : List PyData → Nat
  | [] => 0
  | d :: r => wt d + wtAll r
end
theorem wt_int (i : Int) : wt (.int i) = 1 := by simp [wt]
theorem wt_tuple (ds : List PyData) : wt (.tuple ds) = 1 + wtAll ds := by simp [wt]
theorem wtAll_nil : wtAll [] = 0 := by simp [wtAll]
theorem wtAll_cons (d : PyData) (r : List PyData) : wtAll (d :: r) = wt d + wtAll r := by simp [wtAll]
theorem wtAll_app : ∀ ds es : List PyData, wtAll (ds ++ es) = wtAll ds + wtAll es
  | [], es => by simp [wtAll]
  | d :: r, es => by rw [List.cons_append, wtAll_cons, wtAll_cons, wtAll_app r es, Nat.add_assoc]
/-- small turns as data -/
def iD (ts : List Nat) : List PyData := ts.map fun t => .int (t : Nat)
theorem vals_iD : ∀ ts : List Nat, vals (iD ts) = ts
  | [] => by simp [iD, vals]
  | t :: r => by
    show vals (.int (t : Nat) :: iD r) = _
    rw [vals_cons, vals_iD r, val_int]
    rfl
theorem fmAll_iD : ∀ {ts : List Nat}, (∀ t ∈ ts, t < 2 ^ 64) → FmAll (iD ts)
  | [], _ => by simp [iD, FmAll]
  | t :: r, h => by
    show FmAll (.int (t : Nat) :: iD r)
    rw [fmAll_cons, val_int, fm_int]
    have := h t (by simp)
    exact ⟨by omega, by omega, fmAll_iD fun x hx => h x (by simp [hx])⟩
theorem wtAll_iD : ∀ ts : List Nat, wtAll (iD ts) = ts.length
  | [] => by simp [iD, wtAll]
  | t :: r => by
    show wtAll (.int (t : Nat) :: iD r) = _
    rw [wtAll_cons, wtAll_iD r, wt_int, List.length_cons]
    omega
/-- no other value has this form: the plain forms, the forms of few turns -/
theorem fm_small {ts : List Nat} (h : Asc ts) (hb : ∀ t ∈ ts, t < 2 ^ 64) (h64 : ∃ t ∈ ts, 64 < t) : Fm (.tuple (iD ts)) ∧ val (.tuple (iD ts)) = tv ts := by
  rw [fm_tuple, val_tuple, vals_iD]
  exact ⟨⟨fmAll_iD hb, h, h64⟩, rfl⟩
end FM
set_option Elab.async false
set_option linter.all false
set_option maxRecDepth 100000
/-! data in the heap: forms stay where nothing but lists, dicts and objects change -/
namespace DX
open PySem PySem.Spec PyProof.Rows L2 HX TV FM
/-- what can't be written stays -/
def Tk (H H' : Hp) : Prop := ∀ a o, H a = some o → ¬ Mut (some o) → (∀ ps, o ≠ .tbl ps) → H' a = some o
theorem Tk.refl (H : Hp) : Tk H H := fun _ _ h _ _ => h
theorem Tk.trans {H H1 H2 : Hp} (a : Tk H H1) (b : Tk H1 H2) : Tk H H2 := fun x o h m n => b x o (a x o h m n) m n
theorem tk_same {H H' : Hp} (a : Same H H') : Tk H H' := fun x o h _ _ => a x o h
theorem tk_but {p : Addr} {H H' : Hp} (a : But p H H') (m : Mut (H p)) : Tk H H' := fun x o h n _ => a x o (fun e => by
  subst e
  rw [h] at m
  exact n m) h
theorem tk_mut {p : Addr} {H : Hp} {o : HO} (m : Mut (H p)) : Tk H (upd H p o) := fun x u h n _ => by
  rw [upd_ne (fun e => by
    subst e
    rw [h] at m
    exact n m)]
  exact h
theorem tk_tup {K : PySem.W.Frag} {H H' : Hp} {a : Addr} {xs : List V} (e : Tk H H') (h : SqT K H a xs) : SqT K H' a xs := by
  rcases h with (h | ⟨o, h⟩) | h
  · exact .inl (.inl (e _ _ h (fun z => z) fun ps z => nomatch z))
  · exact .inl (.inr ⟨o, e _ _ h (fun z => z) fun ps z => nomatch z⟩)
  · exact .inr h
mutual
theorem dp_tk {K : PySem.W.Frag} {H H' : Hp} (e : Tk H H') : ∀ {d : PyData} {v : V}, Fm d → Dp K H v d → Dp K H' v d
  | .int i, _, _, h => by
    cases h
    exact .int i
  | .tuple ds, _, f, h => by
    rw [fm_tuple] at f
    cases h with
    | tup h1 h2 => exact .tup (tk_tup e h1) (dpAll_tk e f.1 h2)
  | .none, _, f, _ => by simp [Fm] at f
  | .bool _, _, f, _ => by simp [Fm] at f
  | .str _, _, f, _ => by simp [Fm] at f
  | .list _, _, f, _ => by simp [Fm] at f
  | .dict _, _, f, _ => by simp [Fm] at f
theorem dpAll_tk {K : PySem.W.Frag} {H H' : Hp} (e : Tk H H') : ∀ {ds : List PyData} {vs : List V}, FmAll ds → DpAll K H vs ds → DpAll K H' vs ds
  | [], _, _, h => by
    cases h
    exact .nil
  | d :: r, _, f, h => by
    rw [fmAll_cons] at f
    cases h with
    | cons h1 h2 => exact .cons (dp_tk e f.1 h1) (dpAll_tk e f.2.2 h2)
end
theorem dpAll_len {K : PySem.W.Frag} {H : Hp} : ∀ {ds : List PyData} {vs : List V}, DpAll K H vs ds → vs.length = ds.length
  | [], _, h => by
    cases h
    rfl
  | d :: r, _, h => by
    cases h with
    | cons h1 h2 => rw [List.length_cons, dpAll_len h2, List.length_cons]
theorem dpAll_app {K : PySem.W.Frag} {H : Hp} : ∀ {ds es : List PyData} {vs us : List V}, DpAll K H vs ds → DpAll K H us es → DpAll K H (vs ++ us) (ds ++ es)
  | [], _, _, _, h, h' => by
    cases h
    exact h'
  | d :: r, _, _, _, h, h' => by
    cases h with
    | cons h1 h2 => exact .cons h1 (dpAll_app h2 h')
theorem dpAll_get {K : PySem.W.Frag} {H : Hp} : ∀ {ds : List PyData} {vs : List V} {i : Nat} {v : V}, DpAll K H vs ds → vs[i]? = some v → ∃ d, ds[i]? = some d ∧ Dp K H v d
  | [], _, i, v, h, e => by
    cases h
    simp at e
  | d :: r, _, i, v, h, e => by
    cases h with
    | cons h1 h2 =>
      cases i with
      | zero =>
        simp at e
        subst e
        exact ⟨d, rfl, h1⟩
      | succ i =>
        obtain ⟨d', h3, h4⟩ := dpAll_get (i := i) (v := v) h2 (by simpa using e)
        exact ⟨d', by simpa using h3, h4⟩
theorem dp_nv {K : PySem.W.Frag} {H : Hp} : ∀ ts : List Nat, DpAll K H (nv ts) (iD ts)
  | [] => .nil
  | t :: r => .cons (.int _) (dp_nv r)
/-! data that can be laid and compared: forms -/
mutual
theorem fm_lay : ∀ {d : PyData}, Fm d → PyData.canLay0 d = true
  | .int i, _ => by simp [PyData.canLay0]
  | .tuple ds, f => by
    rw [fm_tuple] at f
    simp only [PyData.canLay0]
    exact fmAll_lay f.1
  | .none, f => by simp [Fm] at f
  | .bool _, f => by simp [Fm] at f
  | .str _, f => by simp [Fm] at f
  | .list _, f => by simp [Fm] at f
  | .dict _, f => by simp [Fm] at f
theorem fmAll_lay : ∀ {ds : List PyData}, FmAll ds → PyData.canLayAll0 ds = true
  | [], _ => by simp [PyData.canLayAll0]
  | d :: r, f => by
    rw [fmAll_cons] at f
    simp only [PyData.canLayAll0, fm_lay f.1, fmAll_lay f.2.2, Bool.and_self]
end
theorem shaped_fm {d : PyData} (h : Fm d) (hd : d.depth ≤ 64) : SeqAt.shaped d = true := by
  unfold SeqAt.shaped
  rw [fm_lay h, decide_eq_true hd]
  rfl
theorem shaped_fms {ds : List PyData} (h : FmAll ds) (hd : PyData.depthAll ds ≤ 60) : SeqAt.shaped (.list ds) = true := by
  show (PyData.canLayAll0 ds && decide (PyData.depthAll ds + 1 ≤ 64)) = true
  rw [fmAll_lay h, decide_eq_true (by omega)]
  rfl
theorem depth_int (i : Int) : PyData.depth (.int i) = 0 := by simp [PyData.depth]
theorem depth_tuple (ds : List PyData) : PyData.depth (.tuple ds) = PyData.depthAll ds + 1 := by simp [PyData.depth]
theorem depthAll_nil : PyData.depthAll [] = 0 := by simp [PyData.depthAll]
theorem depthAll_cons (d : PyData) (r : List PyData) : PyData.depthAll (d :: r) = max d.depth (PyData.depthAll r) := by simp [PyData.depthAll]
theorem depthAll_le : ∀ {ds : List PyData} {k : Nat}, PyData.depthAll ds ≤ k ↔ ∀ d ∈ ds, d.depth ≤ k
  | [], k => by simp [PyData.depthAll]
  | d :: r, k => by
    rw [depthAll_cons]
    constructor
    · intro h e he
      rcases List.mem_cons.mp he with rfl | he
      · omega
      · exact depthAll_le.mp (by omega) e he
    · intro h
      have h1 := h d (by simp)
      have h2 := depthAll_le (ds := r) (k := k) |>.mpr fun e he => h e (by simp [he])
      omega
theorem depthAll_iD (ts : List Nat) : PyData.depthAll (iD ts) = 0 := by
  have : PyData.depthAll (iD ts) ≤ 0 := depthAll_le.mpr fun d hd => by
    obtain ⟨t, _, rfl⟩ := List.mem_map.mp hd
    rw [depth_int]
    exact Nat.le_refl _
  omega
theorem shaped_iD (ts : List Nat) : SeqAt.shaped (.list (iD ts)) = true := by
  have : iD ts = (ts.map fun t => ((t : Nat) : Int)).map PyData.int := by
    unfold iD
    rw [List.map_map]
    rfl
  rw [this]
  exact shaped_ints _
end DX
set_option Elab.async false
set_option linter.all false
set_option maxRecDepth 100000
/-! fields and codes: the law's own far places (plain mathematics) -/
namespace FB
open PySem TV FM DX
theorem even_pos {ts : List Nat} (h : Asc ts) (hn : ts ≠ []) (he : ts.length % 2 = 0) : 0 < tv ts := by
  obtain ⟨a, r, e⟩ : ∃ a r, ts = r ++ [a] := ⟨ts.getLast hn, ts.dropLast, (List.dropLast_concat_getLast hn).symm⟩
  subst e
  have := tv_sign h
  simp at he
  have h1 : ¬ tv (r ++ [a]) < 0 := fun z => by
    have := this.1.mp z
    omega
  have := this.2
  omega
theorem big_of {ts : List Nat} {t k : Nat} (h : Asc ts) (h0 : 0 ≤ tv ts) (ht : t ∈ ts) (hk : k < t) : 2 ^ k ≤ tv ts := by
  apply Int.le_of_not_gt
  intro hc
  have hp : (0 : Int) < 2 ^ k := Int.pow_pos (by decide)
  have := (tv_range h).mpr ⟨by omega, hc⟩ t ht
  omega
theorem pow_big {n : Nat} (h : 10 ≤ n) : n + 500 ≤ 2 ^ n := by
  induction n with
  | zero => omega
  | succ n ih =>
    by_cases e : n = 9
    · subst e
      decide
    · have := ih (by omega)
      rw [Nat.pow_succ]
      omega
/-- the four fields: a small place and far ones with many zero bits at the low end, ascending with room between them -/
structure Fields (fs : List PyData) : Prop where
  ex : ∃ (f1 : Nat) (es2 es3 : List PyData), fs = [.int 0, .int (f1 : Nat), .tuple es2, .tuple es3] ∧ 130 ≤ f1 ∧ f1 < 2 ^ 64 ∧ Fm (.tuple es2) ∧ Fm (.tuple es3) ∧ (∀ t ∈ vals es2, 150 ≤ t) ∧ (∀ t ∈ vals es3, 150 ≤ t) ∧
    (2 : Int) ^ 140 ≤ val (.tuple es2) ∧ val (.tuple es2) + 400 ≤ val (.tuple es3) ∧ PyData.depthAll es2 ≤ 0 ∧ PyData.depthAll es3 ≤ 2 ∧ es2.length ≤ 100 ∧ es3.length ≤ 100 ∧ wtAll es2 ≤ 14 ∧ wtAll es3 ≤ 14
/-- a second field: turns from 200 on -/
structure Sec (ts : List Nat) : Prop where
  asc : Asc ts
  ne : ts ≠ []
  even : ts.length % 2 = 0
  low : ∀ t ∈ ts, 200 ≤ t
  top : ∀ t ∈ ts, t < 2 ^ 64
  len : ts.length ≤ 4
theorem Sec.fm {ts : List Nat} (h : Sec ts) : Fm (.tuple (iD ts)) ∧ val (.tuple (iD ts)) = tv ts ∧ (2 : Int) ^ 140 ≤ tv ts := by
  obtain ⟨a, ha⟩ := List.exists_mem_of_ne_nil ts h.ne
  obtain ⟨f, e⟩ := fm_small h.asc h.top ⟨a, ha, by have := h.low a ha; omega⟩
  exact ⟨f, e, big_of h.asc (Int.le_of_lt (even_pos h.asc h.ne h.even)) ha (by have := h.low a ha; omega)⟩
theorem tv2 (a b : Nat) : tv [a, b] = 2 ^ b - 2 ^ a := by
  rw [tv_cons, tv_cons, tv_nil]
  omega
/-- the third field, in its three makes: some turn of it is the second field -/
theorem fields_of {f1 : Nat} {ts : List Nat} {es : List PyData} (h1 : 130 ≤ f1) (h2 : f1 < 2 ^ 64) (S : Sec ts) (hF : FmAll es) (hA : Asc (vals es)) (he : es.length % 2 = 0) (hl : ∀ t ∈ vals es, 150 ≤ t) (hm : .tuple (iD ts) ∈ es)
    (hd : PyData.depthAll es ≤ 2) (hlen : es.length ≤ 100) (hw : wtAll es ≤ 14) : Fields [.int 0, .int (f1 : Nat), .tuple (iD ts), .tuple es] := by
  obtain ⟨f, e, hb⟩ := S.fm
  have hmem : (val (.tuple (iD ts))).toNat ∈ vals es := mem_vals.mpr ⟨_, hm, rfl⟩
  have hne : vals es ≠ [] := List.ne_nil_of_mem hmem
  have hev : (vals es).length % 2 = 0 := by rw [vals_len]; exact he
  have hpos := even_pos hA hne hev
  have h140 : (2 : Nat) ^ 140 ≤ (val (.tuple (iD ts))).toNat := by
    rw [e]
    have : ((2 ^ 140 : Nat) : Int) = (2 : Int) ^ 140 := by simp
    omega
  have h64 : ∃ t ∈ vals es, 64 < t := ⟨_, hmem, Nat.lt_of_lt_of_le (by decide) h140⟩
  refine ⟨f1, iD ts, es, rfl, h1, h2, f, (fm_tuple _).mpr ⟨hF, hA, h64⟩, fun t ht => ?_, hl, e ▸ hb, ?_, by rw [depthAll_iD]; exact Nat.le_refl _, hd, by have := S.len; simp [iD]; omega, hlen, by rw [wtAll_iD]; have := S.len; omega, hw⟩
  · rw [vals_iD] at ht
    have := S.low t ht
    omega
  · rw [val_tuple es]
    have hb2 := big_of hA (Int.le_of_lt hpos) hmem (k := (val (.tuple (iD ts))).toNat - 1) (by omega)
    have hp := pow_big (n := (val (.tuple (iD ts))).toNat - 1) (by omega)
    have hc : (((2 : Nat) ^ ((val (.tuple (iD ts))).toNat - 1) : Nat) : Int) = (2 : Int) ^ ((val (.tuple (iD ts))).toNat - 1) := by simp
    generalize (2 : Int) ^ ((val (.tuple (iD ts))).toNat - 1) = z at *
    generalize (2 : Nat) ^ ((val (.tuple (iD ts))).toNat - 1) = y at *
    have e0 : 0 ≤ val (.tuple (iD ts)) := by omega
    omega
/-- what a third field must be -/
structure Third (ts : List Nat) (es : List PyData) : Prop where
  fm : FmAll es
  asc : Asc (vals es)
  even : es.length % 2 = 0
  low : ∀ t ∈ vals es, 150 ≤ t
  mem : .tuple (iD ts) ∈ es
  dep : PyData.depthAll es ≤ 2
  len : es.length ≤ 100
  wt : wtAll es ≤ 14
theorem Third.fields {f1 : Nat} {ts : List Nat} {es : List PyData} (h : Third ts es) (h1 : 130 ≤ f1) (h2 : f1 < 2 ^ 64) (S : Sec ts) : Fields [.int 0, .int (f1 : Nat), .tuple (iD ts), .tuple es] :=
  fields_of h1 h2 S h.fm h.asc h.even h.low h.mem h.dep h.len h.wt
theorem Sec.big {ts : List Nat} (S : Sec ts) : 2 ^ 140 ≤ (tv ts).toNat := by
  have h := S.fm.2.2
  have : ((2 ^ 140 : Nat) : Int) = (2 : Int) ^ 140 := by simp
  omega
theorem thirdA {ts : List Nat} {g : Nat} (S : Sec ts) (h1 : 150 ≤ g) (h2 : g < 400) : Third ts [.int (g : Nat), .tuple (iD ts)] := by
  obtain ⟨f, e, hb⟩ := S.fm
  have hB := S.big
  have hv : vals [.int (g : Nat), .tuple (iD ts)] = [g, (tv ts).toNat] := by
    rw [vals_cons, vals_cons, vals_nil, val_int, e]
    rfl
  have h140 : (400 : Nat) < 2 ^ 140 := by decide
  refine ⟨?_, ?_, by simp, ?_, by simp, ?_, by simp, by simp only [wtAll_cons, wtAll_nil, wt_int, wt_tuple, wtAll_iD, List.length_cons]; have := S.len; omega⟩
  · rw [fmAll_cons, fmAll_cons, fm_int, val_int]
    exact ⟨by omega, by omega, f, by omega, fmAll_nil⟩
  · rw [hv]
    exact ⟨by omega, trivial⟩
  · rw [hv]
    intro t ht
    simp at ht
    omega
  · rw [depthAll_cons, depthAll_cons, depthAll_nil, depth_int, depth_tuple, depthAll_iD]
    decide
theorem thirdB {ts : List Nat} {x : Nat} (S : Sec ts) (h2 : x < 64) : Third ts [.tuple (iD ts), .tuple (iD (x :: 64 :: ts))] := by
  obtain ⟨f, e, hb⟩ := S.fm
  have hB := S.big
  have h140 : (2 : Nat) ^ 65 < 2 ^ 140 := by decide
  have hA : Asc (x :: 64 :: ts) := asc_cons (fun b hb => by
    rcases List.mem_cons.mp hb with rfl | hb
    · exact h2
    · have := S.low b hb; omega) (asc_cons (fun b hb => by have := S.low b hb; omega) S.asc)
  have ht : ∀ t ∈ x :: 64 :: ts, t < 2 ^ 64 := fun t ht => by
    rcases List.mem_cons.mp ht with rfl | ht
    · omega
    · rcases List.mem_cons.mp ht with rfl | ht
      · omega
      · exact S.top t ht
  obtain ⟨a, ha⟩ := List.exists_mem_of_ne_nil ts S.ne
  obtain ⟨f2, e2⟩ := fm_small hA ht ⟨a, by simp [ha], by have := S.low a ha; omega⟩
  have e3 : tv (x :: 64 :: ts) = 2 ^ 64 - 2 ^ x + tv ts := by
    rw [tv_cons, tv_cons]
    omega
  have hx : (2 : Int) ^ x < 2 ^ 64 := Int.pow_lt_pow_of_lt (by decide) h2
  have hv : vals [.tuple (iD ts), .tuple (iD (x :: 64 :: ts))] = [(tv ts).toNat, (2 ^ 64 - 2 ^ x + tv ts).toNat] := by
    rw [vals_cons, vals_cons, vals_nil, e, e2, e3]
  refine ⟨?_, ?_, by simp, ?_, by simp, ?_, by simp, by simp only [wtAll_cons, wtAll_nil, wt_int, wt_tuple, wtAll_iD, List.length_cons]; have := S.len; omega⟩
  · rw [fmAll_cons, fmAll_cons]
    exact ⟨f, by omega, f2, by omega, fmAll_nil⟩
  · rw [hv]
    exact ⟨by omega, trivial⟩
  · rw [hv]
    intro t ht
    simp at ht
    omega
  · rw [depthAll_cons, depthAll_cons, depthAll_nil, depth_tuple, depth_tuple, depthAll_iD, depthAll_iD]
    decide
theorem thirdC {ts : List Nat} {g : Nat} (S : Sec ts) (h1 : 150 ≤ g) (h2 : g < 400) : Third ts [.int (g : Nat), .int ((g + 1 : Nat) : Int), .tuple (iD ts), .tuple [.int (g : Nat), .tuple (iD ts)]] := by
  obtain ⟨f, e, hb⟩ := S.fm
  have hB := S.big
  have h140 : (2 : Nat) ^ 65 < 2 ^ 140 := by decide
  have TA := thirdA S h1 h2
  have hva : vals [.int (g : Nat), .tuple (iD ts)] = [g, (tv ts).toNat] := by
    rw [vals_cons, vals_cons, vals_nil, val_int, e]
    rfl
  have hpos := even_pos TA.asc (by rw [hva]; simp) (by rw [hva]; simp)
  have hbig := big_of TA.asc (Int.le_of_lt hpos) (t := (tv ts).toNat) (k := (tv ts).toNat - 1) (by rw [hva]; simp) (by omega)
  have hp := pow_big (n := (tv ts).toNat - 1) (by omega)
  have hc : (((2 : Nat) ^ ((tv ts).toNat - 1) : Nat) : Int) = (2 : Int) ^ ((tv ts).toNat - 1) := by simp
  have fA : Fm (.tuple [.int (g : Nat), .tuple (iD ts)]) := (fm_tuple _).mpr ⟨TA.fm, TA.asc, (tv ts).toNat, by rw [hva]; simp, by omega⟩
  rw [← val_tuple] at hbig hpos
  have hv : vals [.int (g : Nat), .int ((g + 1 : Nat) : Int), .tuple (iD ts), .tuple [.int (g : Nat), .tuple (iD ts)]] = [g, g + 1, (tv ts).toNat, (val (.tuple [.int (g : Nat), .tuple (iD ts)])).toNat] := by
    rw [vals_cons, vals_cons, vals_cons, vals_cons, vals_nil, val_int, val_int, e]
    rfl
  generalize hW : val (.tuple [.int (g : Nat), .tuple (iD ts)]) = W at *
  generalize (2 : Int) ^ ((tv ts).toNat - 1) = z at *
  generalize (2 : Nat) ^ ((tv ts).toNat - 1) = y at *
  refine ⟨?_, ?_, by simp, ?_, by simp, ?_, by simp, by simp only [wtAll_cons, wtAll_nil, wt_int, wt_tuple, wtAll_iD, List.length_cons]; have := S.len; omega⟩
  · rw [fmAll_cons, fmAll_cons, fmAll_cons, fmAll_cons, fm_int, fm_int, val_int, val_int, hW]
    exact ⟨by omega, by omega, by omega, by omega, f, by omega, fA, by omega, fmAll_nil⟩
  · rw [hv]
    exact ⟨by omega, by omega, by omega, trivial⟩
  · rw [hv]
    intro t ht
    simp at ht
    omega
  · have h5 : PyData.depthAll [.int (g : Nat), .tuple (iD ts)] = 1 := by
      rw [depthAll_cons, depthAll_cons, depthAll_nil, depth_int, depth_tuple, depthAll_iD]
      decide
    rw [depthAll_cons, depthAll_cons, depthAll_cons, depthAll_cons, depthAll_nil, depth_int, depth_int, depth_tuple, depth_tuple, depthAll_iD, h5]
    decide
end FB
set_option Elab.async false
set_option linter.all false
set_option maxRecDepth 100000
/-! order of turns; codes and the far numbers they stand for (plain mathematics) -/
namespace FC
open PySem TV FM DX FB
theorem tv_snoc (r : List Nat) (a : Nat) : tv (r ++ [a]) = tv r + (if r.length % 2 = 0 then -(2 ^ a) else 2 ^ a) := by
  induction r with
  | nil => simp [tv_cons, tv_nil]
  | cons x r ih =>
    rw [List.cons_append, tv_cons, tv_cons, ih, List.length_cons]
    split <;> split <;> omega
theorem tv_append (r s : List Nat) : tv (r ++ s) = tv r + (if r.length % 2 = 0 then tv s else -tv s) := by
  induction r with
  | nil => simp [tv_nil]
  | cons x r ih =>
    rw [List.cons_append, tv_cons, tv_cons, ih, List.length_cons]
    split <;> split <;> omega
theorem asc_snoc {r : List Nat} {a : Nat} : Asc (r ++ [a]) ↔ Asc r ∧ ∀ x ∈ r, x < a := by
  rw [asc_pairwise, asc_pairwise, List.pairwise_append]
  constructor
  · rintro ⟨h1, _, h3⟩
    exact ⟨h1, fun x hx => h3 x hx a (by simp)⟩
  · rintro ⟨h1, h2⟩
    exact ⟨h1, by simp, fun x hx y hy => by simp at hy; subst hy; exact h2 x hx⟩
/-- the order of two rows of turns, from the top -/
def lessD : List Nat → List Nat → Bool
  | [], [] => false
  | [], _ :: s => decide (s.length % 2 = 1)
  | _ :: r, [] => decide (r.length % 2 = 0)
  | a :: r, b :: s =>
    if r.length % 2 ≠ s.length % 2 then decide (r.length % 2 = 0)
    else if a = b then lessD r s
    else if a < b then decide (s.length % 2 = 1)
    else decide (r.length % 2 = 0)
theorem snoc_cases (l : List Nat) : l = [] ∨ ∃ r a, l = r ++ [a] := by
  by_cases h : l = []
  · exact .inl h
  · exact .inr ⟨l.dropLast, l.getLast h, (List.dropLast_concat_getLast h).symm⟩
theorem top_out {r : List Nat} {a k : Nat} (h : Asc (r ++ [a])) (hk : k < a) : (r.length % 2 = 1 → 2 ^ k ≤ tv (r ++ [a])) ∧ (r.length % 2 = 0 → tv (r ++ [a]) < -(2 ^ k)) := by
  have hs := tv_sign h
  have hp : (0 : Int) < 2 ^ k := Int.pow_pos (by decide)
  have hr := (tv_range (k := k) h)
  have hno : ¬ (-(2 ^ k) ≤ tv (r ++ [a]) ∧ tv (r ++ [a]) < 2 ^ k) := fun z => by
    have := hr.mpr z a (by simp)
    omega
  constructor
  · intro hl
    have h1 : ¬ tv (r ++ [a]) < 0 := fun z => by
      have := hs.1.mp z
      omega
    omega
  · intro hl
    have h1 := hs.1.mpr hl
    omega
theorem less_iff : ∀ (n : Nat) (ts us : List Nat), ts.length ≤ n → Asc ts → Asc us → (lessD ts.reverse us.reverse = true ↔ tv ts < tv us) := by
  intro n
  induction n with
  | zero =>
    intro ts us hn hA hB
    have : ts = [] := List.length_eq_zero_iff.mp (by omega)
    subst this
    rcases snoc_cases us with rfl | ⟨s, b, rfl⟩
    · simp [lessD]
    · have hs := tv_sign hB
      rw [List.reverse_append]
      show decide (s.reverse.length % 2 = 1) = true ↔ tv [] < _
      rw [decide_eq_true_iff, List.length_reverse, tv_nil]
      constructor
      · intro h
        have : ¬ tv (s ++ [b]) < 0 := fun z => by have := hs.1.mp z; omega
        have := hs.2
        omega
      · intro h
        have : ¬ s.length % 2 = 0 := fun z => by have := hs.1.mpr z; omega
        omega
  | succ n ih =>
    intro ts us hn hA hB
    rcases snoc_cases ts with rfl | ⟨r, a, rfl⟩
    · exact ih [] us (Nat.zero_le _) hA hB
    rcases snoc_cases us with rfl | ⟨s, b, rfl⟩
    · have hs := tv_sign hA
      rw [List.reverse_append]
      show decide (r.reverse.length % 2 = 0) = true ↔ _ < tv []
      rw [decide_eq_true_iff, List.length_reverse, tv_nil]
      exact hs.1.symm
    · have hsA := tv_sign hA
      have hsB := tv_sign hB
      obtain ⟨hr, hra⟩ := asc_snoc.mp hA
      obtain ⟨hs, hsb⟩ := asc_snoc.mp hB
      rw [List.reverse_append, List.reverse_append]
      show (if r.reverse.length % 2 ≠ s.reverse.length % 2 then decide (r.reverse.length % 2 = 0) else if a = b then lessD r.reverse s.reverse else if a < b then decide (s.reverse.length % 2 = 1) else decide (r.reverse.length % 2 = 0)) = true ↔ _
      rw [List.length_reverse, List.length_reverse]
      by_cases hpar : r.length % 2 ≠ s.length % 2
      · rw [if_pos hpar, decide_eq_true_iff]
        constructor
        · intro h
          have h1 := hsA.1.mpr h
          have h2 : ¬ tv (s ++ [b]) < 0 := fun z => by have := hsB.1.mp z; omega
          omega
        · intro h
          apply Classical.byContradiction
          intro hc
          have h1 : ¬ tv (r ++ [a]) < 0 := fun z => hc (hsA.1.mp z)
          have h2 := hsB.1.mpr (by omega)
          omega
      · rw [if_neg hpar]
        have hpar' : r.length % 2 = s.length % 2 := by omega
        by_cases e : a = b
        · subst e
          rw [if_pos rfl, ih r s (by simp at hn; omega) hr hs, tv_snoc, tv_snoc, hpar']
          split <;> omega
        · rw [if_neg e]
          by_cases hlt : a < b
          · rw [if_pos hlt, decide_eq_true_iff]
            have hin : ∀ t ∈ r ++ [a], t ≤ b - 1 := fun t ht => by
              rcases List.mem_append.mp ht with ht | ht
              · have := hra t ht; omega
              · simp at ht; omega
            have hrg := (tv_range hA).mp hin
            have ho := top_out hB (k := b - 1) (by omega)
            constructor
            · intro h
              have := ho.1 h
              omega
            · intro h
              apply Classical.byContradiction
              intro hc
              have := ho.2 (by omega)
              omega
          · rw [if_neg hlt, decide_eq_true_iff]
            have hin : ∀ t ∈ s ++ [b], t ≤ a - 1 := fun t ht => by
              rcases List.mem_append.mp ht with ht | ht
              · have := hsb t ht; omega
              · simp at ht; omega
            have hrg := (tv_range hB).mp hin
            have ho := top_out hA (k := a - 1) (by omega)
            constructor
            · intro h
              have := ho.2 h
              omega
            · intro h
              apply Classical.byContradiction
              intro hc
              have := ho.1 (by omega)
              omega
theorem less_map {f : Nat → Nat} : ∀ (r s : List Nat), (∀ x ∈ r, ∀ y ∈ s, (x < y → f x < f y) ∧ (y < x → f y < f x)) → lessD (r.map f) (s.map f) = lessD r s
  | [], [], _ => rfl
  | [], b :: s, _ => by simp [lessD]
  | a :: r, [], _ => by simp [lessD]
  | a :: r, b :: s, h => by
    have hab := h a (by simp) b (by simp)
    show lessD (f a :: r.map f) (f b :: s.map f) = lessD (a :: r) (b :: s)
    simp only [lessD, List.length_map]
    have e1 : (f a = f b) ↔ a = b := by
      constructor
      · intro e
        rcases Nat.lt_trichotomy a b with c | c | c
        · have := hab.1 c; omega
        · exact c
        · have := hab.2 c; omega
      · rintro rfl; rfl
    have e2 : (f a < f b) ↔ a < b := by
      constructor
      · intro e
        rcases Nat.lt_trichotomy a b with c | c | c
        · exact c
        · subst c; omega
        · have := hab.2 c; omega
      · exact hab.1
    rw [less_map r s fun x hx y hy => h x (by simp [hx]) y (by simp [hy])]
    simp only [e1, e2]
theorem asc_map {f : Nat → Nat} {ts : List Nat} (h : Asc ts) (hf : ∀ x ∈ ts, ∀ y ∈ ts, x < y → f x < f y) : Asc (ts.map f) := by
  rw [asc_pairwise] at *
  rw [List.pairwise_map]
  exact h.imp_of_mem fun ha hb hab => hf _ ha _ hb hab
/-- places moved, the order kept: the values keep their order -/
theorem tv_map_lt {f : Nat → Nat} {ts us : List Nat} (hA : Asc ts) (hB : Asc us) (hf : ∀ x ∈ ts ++ us, ∀ y ∈ ts ++ us, x < y → f x < f y) (h : tv ts < tv us) : tv (ts.map f) < tv (us.map f) := by
  have hA' := asc_map hA fun x hx y hy => hf x (by simp [hx]) y (by simp [hy])
  have hB' := asc_map hB fun x hx y hy => hf x (by simp [hx]) y (by simp [hy])
  rw [← less_iff _ _ _ (Nat.le_refl _) hA' hB', ← List.map_reverse, ← List.map_reverse]
  rw [less_map]
  · exact (less_iff _ _ _ (Nat.le_refl _) hA hB).mpr h
  · intro x hx y hy
    simp at hx hy
    exact ⟨hf x (by simp [hx]) y (by simp [hy]), hf y (by simp [hy]) x (by simp [hx])⟩
/-! ### the turns of an integer as a function -/
noncomputable def turnsOf (n : Int) : List Nat := Classical.choose (turns_ex n)
theorem turnsOf_asc (n : Int) : Asc (turnsOf n) := (Classical.choose_spec (turns_ex n)).1
theorem turnsOf_tv (n : Int) : tv (turnsOf n) = n := (Classical.choose_spec (turns_ex n)).2
theorem turnsOf_eq {ts : List Nat} (h : Asc ts) : turnsOf (tv ts) = ts := tv_inj (turnsOf_asc _) h (turnsOf_tv _)
theorem turnsOf_is {ts : List Nat} {n : Int} (h : Asc ts) (e : tv ts = n) : turnsOf n = ts := e ▸ turnsOf_eq h
theorem even_of_nonneg {ts : List Nat} (h : Asc ts) (h0 : 0 ≤ tv ts) : ts.length % 2 = 0 := by
  rcases snoc_cases ts with rfl | ⟨r, a, rfl⟩
  · rfl
  · have := tv_sign h
    simp
    apply Classical.byContradiction
    intro hc
    have := this.1.mpr (by omega)
    omega
/-! ### digits of two hundred bits -/
def num : List Nat → Int
  | [] => 0
  | a :: r => (a : Int) + 2 ^ 200 * num r
theorem num_nonneg : ∀ ps : List Nat, 0 ≤ num ps
  | [] => Int.le_refl _
  | a :: r => by
    have := num_nonneg r
    have h2 : (0 : Int) ≤ 2 ^ 200 * num r := Int.mul_nonneg (Int.le_of_lt (Int.pow_pos (by decide))) this
    show 0 ≤ (a : Int) + 2 ^ 200 * num r
    omega
theorem num_set : ∀ (ps : List Nat) (d y : Nat) (a : Nat), ps[d]? = some a → num (ps.set d (a + y)) = num ps + y * 2 ^ (200 * d)
  | [], d, y, a, h => by simp at h
  | b :: r, 0, y, a, h => by
    simp at h
    subst h
    show ((b + y : Nat) : Int) + 2 ^ 200 * num r = (b : Int) + 2 ^ 200 * num r + y * 2 ^ 0
    rw [Int.pow_zero]
    omega
  | b :: r, d + 1, y, a, h => by
    have ih := num_set r d y a (by simpa using h)
    show (b : Int) + 2 ^ 200 * num (r.set d (a + y)) = (b : Int) + 2 ^ 200 * num r + y * 2 ^ (200 * (d + 1))
    rw [ih, Int.mul_add, show 200 * (d + 1) = 200 + 200 * d by omega, Int.pow_add]
    have : (2 : Int) ^ 200 * (y * 2 ^ (200 * d)) = y * (2 ^ 200 * 2 ^ (200 * d)) := by
      rw [← Int.mul_assoc, Int.mul_comm (2 ^ 200) (y : Int), Int.mul_assoc]
    rw [this]
    omega
theorem num_zero : ∀ m : Nat, num (List.replicate m 0) = 0
  | 0 => rfl
  | m + 1 => by
    show ((0 : Nat) : Int) + 2 ^ 200 * num (List.replicate m 0) = 0
    rw [num_zero m]
    simp
/-- m digits below B -/
def Dg (m B : Nat) (c : Int) : Prop := ∃ ps : List Nat, ps.length = m ∧ (∀ a ∈ ps, a < B) ∧ c = num ps
theorem Dg.mono {m B B' : Nat} {c : Int} (h : Dg m B c) (l : B ≤ B') : Dg m B' c := by
  obtain ⟨ps, h1, h2, h3⟩ := h
  exact ⟨ps, h1, fun a ha => Nat.lt_of_lt_of_le (h2 a ha) l, h3⟩
theorem Dg.nonneg {m B : Nat} {c : Int} (h : Dg m B c) : 0 ≤ c := by
  obtain ⟨ps, _, _, rfl⟩ := h
  exact num_nonneg ps
theorem Dg.zero {m B : Nat} (h : 0 < B) : Dg m B 0 := ⟨List.replicate m 0, by simp, fun a ha => by
  rw [List.mem_replicate] at ha
  omega, (num_zero m).symm⟩
theorem Dg.add {m B Y : Nat} {c : Int} (h : Dg m B c) {d y : Nat} (hd : d < m) (hy : y < Y) : Dg m (B + Y) (c + y * 2 ^ (200 * d)) := by
  obtain ⟨ps, h1, h2, rfl⟩ := h
  have hg : ps[d]? = some ps[d] := List.getElem?_eq_getElem (by omega)
  refine ⟨ps.set d (ps[d] + y), by simp [h1], fun a ha => ?_, (num_set ps d y _ hg).symm⟩
  rcases List.mem_or_eq_of_mem_set ha with ha | ha
  · have := h2 a ha; omega
  · have := h2 ps[d] (List.getElem_mem _)
    omega
theorem tb_add {a q : Nat} {c : Int} (ha : a < 2 ^ 200) : tb ((a : Int) + 2 ^ 200 * c) q = if q < 200 then tb (a : Int) q else tb c (q - 200) := by
  have hp : (0 : Int) < 2 ^ q := Int.pow_pos (by decide)
  split
  · rename_i hq
    unfold tb
    have e : (2 : Int) ^ 200 * c = 2 ^ q * (2 * (2 ^ (199 - q) * c)) := by
      rw [← Int.mul_assoc, ← Int.mul_assoc, ← Int.pow_succ, ← Int.pow_add]
      congr 2
      omega
    rw [e, Int.add_mul_ediv_left _ _ (Int.ne_of_gt hp)]
    congr 1
    apply propext
    constructor <;> intro h <;> omega
  · rename_i hq
    have e : ((a : Int) + 2 ^ 200 * c) / 2 ^ 200 = c := by
      rw [Int.add_mul_ediv_left _ _ (Int.ne_of_gt (Int.pow_pos (by decide)))]
      rw [Int.ediv_eq_zero_of_lt (by omega) (by
        have : ((2 ^ 200 : Nat) : Int) = (2 : Int) ^ 200 := by simp
        omega)]
      omega
    have := tb_shift ((a : Int) + 2 ^ 200 * c) 200 (q - 200)
    rw [e] at this
    rw [this]
    congr 1
    omega
theorem tb_small {a k q : Nat} (ha : a < 2 ^ k) (hq : k ≤ q) : tb (a : Int) q = false := by
  unfold tb
  have h1 : (a : Int) < 2 ^ q := by
    have : a < 2 ^ q := Nat.lt_of_lt_of_le ha (Nat.pow_le_pow_right (by decide) hq)
    have h3 : ((2 ^ q : Nat) : Int) = (2 : Int) ^ q := by simp
    omega
  rw [Int.ediv_eq_zero_of_lt (by omega) h1]
  rfl
/-- no turn of a code lies high in its digit -/
theorem dg_turns : ∀ (ps : List Nat), (∀ a ∈ ps, a < 2 ^ 100) → ∀ q, (ps.length ≤ q / 200 ∨ 100 ≤ q % 200) → tb (num ps) q = false
  | [], _, q, _ => tb_top q
  | a :: r, h, q, hq => by
    have ha := h a (by simp)
    have ha2 : a < 2 ^ 200 := Nat.lt_of_lt_of_le ha (Nat.pow_le_pow_right (by decide) (by decide))
    show tb ((a : Int) + 2 ^ 200 * num r) q = false
    rw [tb_add ha2]
    split
    · refine tb_small ha ?_
      simp at hq
      omega
    · refine dg_turns r (fun x hx => h x (by simp [hx])) (q - 200) ?_
      simp at hq
      omega
/-- a code's turns: fields below m, steps up to 101 -/
def CodeOk (m : Nat) (c : Int) : Prop := 0 ≤ c ∧ ∀ t ∈ turnsOf c, t / 200 < m ∧ t % 200 ≤ 101
theorem Dg.code {m B : Nat} {c : Int} (h : Dg m B c) (hB : B ≤ 2 ^ 100) : CodeOk m c := by
  refine ⟨h.nonneg, fun t ht => ?_⟩
  obtain ⟨ps, h1, h2, rfl⟩ := h
  have hz := dg_turns ps fun a ha => Nat.lt_of_lt_of_le (h2 a ha) hB
  have hm := (mem_tb (turnsOf_asc (num ps)) t).mp ht
  rw [turnsOf_tv] at hm
  apply Classical.byContradiction
  intro hc
  apply hm
  by_cases h0 : t = 0
  · subst h0
    rw [if_pos rfl]
    exact hz 0 (by omega)
  · rw [if_neg h0, hz t (by omega), hz (t - 1) (by omega)]
theorem code_range {m : Nat} {c : Int} (h : CodeOk m c) : -(2 ^ (200 * m)) ≤ c ∧ c < 2 ^ (200 * m) := by
  have := (tv_range (k := 200 * m) (turnsOf_asc c)).mp fun t ht => by
    have := h.2 t ht
    omega
  rwa [turnsOf_tv] at this
/-- where field i lies -/
def Fi (fs : List PyData) (i : Nat) : Nat := (val (fs.getD i (.int 0))).toNat
def phi (fs : List PyData) (t : Nat) : Nat := Fi fs (t / 200) + t % 200
theorem fields_step {fs : List PyData} (F : Fields fs) : ∀ i j, i < j → j < 4 → Fi fs i + 102 ≤ Fi fs j := by
  obtain ⟨f1, es2, es3, rfl, h1, h2, _, _, _, _, h3, h4, _⟩ := F.ex
  have e0 : Fi [.int 0, .int (f1 : Nat), .tuple es2, .tuple es3] 0 = 0 := by
    show (val (.int 0)).toNat = 0
    rw [val_int]; rfl
  have e1 : Fi [.int 0, .int (f1 : Nat), .tuple es2, .tuple es3] 1 = f1 := by
    show (val (.int (f1 : Nat))).toNat = f1
    rw [val_int]; omega
  have e2 : Fi [.int 0, .int (f1 : Nat), .tuple es2, .tuple es3] 2 = (val (.tuple es2)).toNat := rfl
  have e3 : Fi [.int 0, .int (f1 : Nat), .tuple es2, .tuple es3] 3 = (val (.tuple es3)).toNat := rfl
  have h140 : (2 : Int) ^ 65 < 2 ^ 140 := by decide
  intro i j hij hj
  have hi : i = 0 ∨ i = 1 ∨ i = 2 := by omega
  have hj' : j = 1 ∨ j = 2 ∨ j = 3 := by omega
  rcases hi with rfl | rfl | rfl <;> rcases hj' with rfl | rfl | rfl <;> first | omega | (simp only [e0, e1, e2, e3]; omega)
theorem phi_lt {fs : List PyData} (F : Fields fs) {m t u : Nat} (hm : m ≤ 4) (ht : t / 200 < m ∧ t % 200 ≤ 101) (hu : u / 200 < m ∧ u % 200 ≤ 101) (h : t < u) : phi fs t < phi fs u := by
  unfold phi
  by_cases e : t / 200 = u / 200
  · rw [e]
    omega
  · have := fields_step F (t / 200) (u / 200) (by omega) (by omega)
    omega
/-- the far number of a code -/
noncomputable def Phi (fs : List PyData) (c : Int) : Int := tv ((turnsOf c).map (phi fs))
theorem phi_asc {fs : List PyData} (F : Fields fs) {m : Nat} {c : Int} (hm : m ≤ 4) (h : CodeOk m c) : Asc ((turnsOf c).map (phi fs)) :=
  asc_map (turnsOf_asc c) fun x hx y hy hxy => phi_lt F hm (h.2 x hx) (h.2 y hy) hxy
theorem Phi_nonneg {fs : List PyData} (F : Fields fs) {m : Nat} {c : Int} (hm : m ≤ 4) (h : CodeOk m c) : 0 ≤ Phi fs c := by
  have hA := phi_asc F hm h
  have he := even_of_nonneg (turnsOf_asc c) (by rw [turnsOf_tv]; exact h.1)
  by_cases hn : (turnsOf c).map (phi fs) = []
  · unfold Phi
    rw [hn]
    exact Int.le_refl _
  · exact Int.le_of_lt (even_pos hA hn (by rw [List.length_map]; exact he))
theorem Phi_lt {fs : List PyData} (F : Fields fs) {m : Nat} {c d : Int} (hm : m ≤ 4) (hc : CodeOk m c) (hd : CodeOk m d) (h : c < d) : Phi fs c < Phi fs d := by
  refine tv_map_lt (turnsOf_asc c) (turnsOf_asc d) (fun x hx y hy hxy => ?_) (by rw [turnsOf_tv, turnsOf_tv]; exact h)
  have good : ∀ z ∈ turnsOf c ++ turnsOf d, z / 200 < m ∧ z % 200 ≤ 101 := fun z hz => (List.mem_append.mp hz).elim (hc.2 z) (hd.2 z)
  exact phi_lt F hm (good x hx) (good y hy) hxy
/-- a far place: a field and a step -/
theorem place_far {es : List PyData} {us : List Nat} {j : Nat} (hF : Fm (.tuple es)) (hl : ∀ t ∈ vals es, 150 ≤ t) (h0 : 0 ≤ val (.tuple es)) (hA : Asc us) (hj : tv us = j) (hu : ∀ t ∈ us, t ≤ 100) :
    Fm (.tuple (iD us ++ es)) ∧ val (.tuple (iD us ++ es)) = val (.tuple es) + j := by
  have hF' := (fm_tuple es).mp hF
  have he := even_of_nonneg hA (by omega)
  rw [fm_tuple, val_tuple, val_tuple, vals_app, vals_iD, fmAll_app, tv_append, if_pos he]
  refine ⟨⟨⟨fmAll_iD fun t ht => by have := hu t ht; omega, hF'.1⟩, ?_, ?_⟩, by omega⟩
  · rw [asc_pairwise, List.pairwise_append]
    exact ⟨asc_pairwise.mp hA, asc_pairwise.mp hF'.2.1, fun x hx y hy => by have := hu x hx; have := hl y hy; omega⟩
  · obtain ⟨t, ht, h64⟩ := hF'.2.2
    exact ⟨t, by simp [ht], h64⟩
/-- a little above the plain numbers: few turns -/
theorem near_int {d : PyData} (f : Fm d) (h0 : 0 ≤ val d) (hp : val d < 2 ^ 64) : wt d = 1 := by
  have e : d = .int (val d) := by
    cases d with
    | int i => rw [val_int]
    | tuple ds => exact absurd ⟨by omega, hp⟩ (tuple_far f)
    | none => simp [Fm] at f
    | bool _ => simp [Fm] at f
    | str _ => simp [Fm] at f
    | list _ => simp [Fm] at f
    | dict _ => simp [Fm] at f
  rw [e, wt_int]
/-- the weight of a code's turn, at most; of a code -/
def cw (t : Nat) : Nat := if t < 200 then 1 else 23
noncomputable def cwt (c : Int) : Nat := 1 + ((turnsOf c).map cw).sum
theorem near64 {d : PyData} (f : Fm d) (h0 : 0 ≤ val d) (h1 : val d < 2 ^ 64 + 102) : wt d ≤ 23 := by
  by_cases hp : val d < 2 ^ 64
  · rw [near_int f h0 hp]
    decide
  · obtain ⟨us, hA, e⟩ := turns_ex (val d - 2 ^ 64)
    have hb : ∀ t ∈ us, t ≤ 7 := (tv_range hA).mpr ⟨by omega, by omega⟩
    have hl := asc_len (a := 0) hA fun t ht => ⟨Nat.zero_le _, hb t ht⟩
    have hev : us.length % 2 = 0 := by
      by_cases hn : us = []
      · subst hn
        rfl
      · obtain ⟨a, r, rfl⟩ : ∃ a r, us = r ++ [a] := ⟨us.getLast hn, us.dropLast, (List.dropLast_concat_getLast hn).symm⟩
        have := tv_sign hA
        have h2 : ¬ tv (r ++ [a]) < 0 := by omega
        rw [this.1] at h2
        simp
        omega
    have hA2 : Asc (us ++ [64, 65]) := asc_pairwise.mpr (List.pairwise_append.mpr ⟨asc_pairwise.mp hA, by simp, fun x hx y hy => by
      have := hb x hx
      simp at hy
      omega⟩)
    obtain ⟨f1, f2⟩ := fm_small hA2 (fun t ht => by
      rcases List.mem_append.mp ht with ht | ht
      · have := hb t ht
        omega
      · simp at ht
        omega) ⟨65, by simp, by decide⟩
    have e2 : tv (us ++ [64, 65]) = tv us + tv [64, 65] := by
      rw [tv_append, if_pos hev]
    have e3 : tv [64, 65] = 2 ^ 64 := by decide
    rw [fm_inj f f1 (by rw [f2, e2, e3, e]; omega), wt_tuple, wtAll_iD, List.length_append]
    simp
    omega
/-- how many turns a code has -/
theorem code_len {m : Nat} {c : Int} {ts : List Nat} (hA : Asc ts) (h : ∀ t ∈ ts, t / 200 < m ∧ t % 200 ≤ 101) (hm : m ≤ 4) : ts.length ≤ 408 := by
  have h2 : Asc (ts.map fun t => t / 200 * 102 + t % 200) := asc_map hA fun x hx y hy hxy => by
    have := h x hx
    have := h y hy
    omega
  have h3 := asc_len (a := 0) (k := 407) h2 fun t ht => by
    obtain ⟨x, hx, rfl⟩ := List.mem_map.mp ht
    have := h x hx
    omega
  rw [List.length_map] at h3
  omega
theorem cw_sum : ∀ ts : List Nat, (ts.map cw).sum ≤ 23 * ts.length
  | [] => by simp
  | t :: r => by
    have := cw_sum r
    simp only [List.map_cons, List.sum_cons, List.length_cons]
    have : cw t ≤ 23 := by unfold cw; split <;> omega
    omega
theorem CodeOk.cwt {m : Nat} {c : Int} (h : CodeOk m c) (hm : m ≤ 4) : cwt c ≤ 12300 := by
  have h1 := code_len (c := c) (turnsOf_asc c) h.2 hm
  have h2 := cw_sum (turnsOf c)
  unfold FC.cwt
  omega
theorem cwts_le {m : Nat} (hm : m ≤ 4) : ∀ {cs : List Int}, (∀ c ∈ cs, CodeOk m c) → (cs.map cwt).sum ≤ 12300 * cs.length
  | [], _ => by simp
  | c :: r, h => by
    have h1 := (h c (by simp)).cwt hm
    have h2 := cwts_le hm (cs := r) fun x hx => h x (by simp [hx])
    simp only [List.map_cons, List.sum_cons, List.length_cons]
    omega
end FC
set_option Elab.async false
set_option linter.all false
set_option maxRecDepth 100000
/-! sums of powers of two at far places, known by sums at near places -/
namespace MS
open PySem PySem.Spec TV FM FC
theorem tv_map_add (Q : Nat) (ts : List Nat) : tv (ts.map (· + Q)) = 2 ^ Q * tv ts := by
  induction Q with
  | zero => simp
  | succ Q ih =>
    have : ts.map (· + (Q + 1)) = (ts.map (· + Q)).map (· + 1) := by
      rw [List.map_map]
      rfl
    rw [this, tv_map_succ, ih, Int.pow_succ, Int.mul_comm (2 ^ Q) 2, Int.mul_assoc]
theorem asc_map_add (Q : Nat) {ts : List Nat} (h : Asc ts) : Asc (ts.map (· + Q)) := asc_map h fun x _ y _ hxy => by omega
theorem turns_app {L Hh : Int} {Q : Nat} (hL : ∀ t ∈ turnsOf L, t < Q) : turnsOf (L + 2 ^ Q * Hh) = turnsOf L ++ (turnsOf (if (turnsOf L).length % 2 = 0 then Hh else -Hh)).map (· + Q) := by
  refine turnsOf_is ?_ ?_
  · refine asc_pairwise.mpr (List.pairwise_append.mpr ⟨asc_pairwise.mp (turnsOf_asc L), asc_pairwise.mp (asc_map_add Q (turnsOf_asc _)), fun x hx y hy => ?_⟩)
    obtain ⟨z, _, rfl⟩ := List.mem_map.mp hy
    have := hL x hx
    omega
  · rw [tv_append, tv_map_add, turnsOf_tv, turnsOf_tv]
    by_cases h : (turnsOf L).length % 2 = 0
    · rw [if_pos h, if_pos h]
    · rw [if_neg h, if_neg h, Int.mul_neg, Int.neg_neg]
theorem stretch {L Hh : Int} {Q δ : Nat} (hL : ∀ t ∈ turnsOf L, t < Q) : turnsOf (L + 2 ^ (Q + δ) * Hh) = (turnsOf (L + 2 ^ Q * Hh)).map fun t => if t < Q then t else t + δ := by
  rw [turns_app hL, turns_app (Q := Q + δ) fun t ht => by have := hL t ht; omega, List.map_append, List.map_map]
  congr 1
  · conv => lhs; rw [← List.map_id (turnsOf L)]
    refine List.map_congr_left fun t ht => ?_
    rw [if_pos (hL t ht)]
    rfl
  · refine List.map_congr_left fun t _ => ?_
    show t + (Q + δ) = if t + Q < Q then t + Q else t + Q + δ
    rw [if_neg (by omega)]
    omega
/-- the sum of the terms, each at its place -/
def Sm (T : List (Nat × Int)) (π : Nat → Nat) : Int := (T.map fun t => t.2 * 2 ^ π t.1).sum
def Ab (T : List (Nat × Int)) : Nat := (T.map fun t => t.2.natAbs).sum
theorem Sm_congr {T : List (Nat × Int)} {π π' : Nat → Nat} (h : ∀ t ∈ T, π t.1 = π' t.1) : Sm T π = Sm T π' := by
  unfold Sm
  congr 1
  refine List.map_congr_left fun t ht => ?_
  rw [h t ht]
theorem Sm_split {π : Nat → Nat} (k : Nat) : ∀ T : List (Nat × Int), Sm T π = Sm (T.filter fun t => decide (t.1 < k)) π + Sm (T.filter fun t => !decide (t.1 < k)) π
  | [] => rfl
  | t :: r => by
    have ih := Sm_split (π := π) k r
    unfold Sm at *
    rw [List.map_cons, List.sum_cons, ih]
    by_cases h : t.1 < k
    · rw [List.filter_cons_of_pos (by simpa using h), List.filter_cons_of_neg (by simpa using h), List.map_cons, List.sum_cons, Int.add_assoc]
    · rw [List.filter_cons_of_neg (by simpa using h), List.filter_cons_of_pos (by simpa using h), List.map_cons, List.sum_cons]
      omega
theorem Sm_lift {π : Nat → Nat} {Q : Nat} : ∀ {T : List (Nat × Int)}, (∀ t ∈ T, Q ≤ π t.1) → Sm T π = 2 ^ Q * Sm T fun i => π i - Q
  | [], _ => by simp [Sm]
  | t :: r, h => by
    have ih := Sm_lift (π := π) (Q := Q) (T := r) fun t ht => h t (by simp [ht])
    unfold Sm at *
    rw [List.map_cons, List.sum_cons, ih, List.map_cons, List.sum_cons, Int.mul_add]
    congr 1
    have e : π t.1 = Q + (π t.1 - Q) := by
      have := h t (by simp)
      omega
    show t.2 * 2 ^ π t.1 = 2 ^ Q * (t.2 * 2 ^ (π t.1 - Q))
    conv => lhs; rw [e, Int.pow_add]
    rw [Int.mul_left_comm]
theorem Ab_filter (p : Nat × Int → Bool) : ∀ T, Ab (T.filter p) ≤ Ab T
  | [] => Nat.le_refl _
  | t :: r => by
    have ih := Ab_filter p r
    unfold Ab at *
    rw [List.map_cons, List.sum_cons]
    cases h : p t
    · rw [List.filter_cons_of_neg (by simp [h])]
      omega
    · rw [List.filter_cons_of_pos h, List.map_cons, List.sum_cons]
      omega
theorem Sm_abs {π : Nat → Nat} {b : Nat} : ∀ {T : List (Nat × Int)}, (∀ t ∈ T, π t.1 ≤ b) → (Sm T π).natAbs ≤ Ab T * 2 ^ b
  | [], _ => by simp [Sm]
  | t :: r, h => by
    have ih := Sm_abs (π := π) (b := b) (T := r) fun t ht => h t (by simp [ht])
    unfold Sm Ab at *
    rw [List.map_cons, List.sum_cons, List.map_cons, List.sum_cons, Nat.add_mul]
    have h1 : (t.2 * 2 ^ π t.1).natAbs ≤ t.2.natAbs * 2 ^ b := by
      rw [Int.natAbs_mul, Int.natAbs_pow]
      exact Nat.mul_le_mul_left _ (Nat.pow_le_pow_right (by decide) (h t (by simp)))
    have := Int.natAbs_add_le (t.2 * 2 ^ π t.1) (r.map fun t => t.2 * 2 ^ π t.1).sum
    omega
theorem turns_lt {n : Int} {b c : Nat} (h : n.natAbs ≤ 2 ^ c * 2 ^ b) : ∀ t ∈ turnsOf n, t ≤ b + c + 1 := by
  refine (tv_range (turnsOf_asc n)).mpr ?_
  rw [turnsOf_tv]
  have e : (2 : Int) ^ (b + c + 1) = ((2 ^ c * 2 ^ b * 2 : Nat) : Int) := by
    rw [Int.pow_succ, Nat.add_comm b c, Int.pow_add]
    simp
  have hp : 0 < 2 ^ c * 2 ^ b := Nat.mul_pos (Nat.pow_pos (by decide)) (Nat.pow_pos (by decide))
  rw [e]
  omega
theorem stretch_sum {T : List (Nat × Int)} {π π' : Nat → Nat} {k Q δ : Nat} (hlow : ∀ t ∈ T, t.1 < k → π t.1 + 120 ≤ Q ∧ π' t.1 = π t.1) (hhigh : ∀ t ∈ T, k ≤ t.1 → Q ≤ π t.1 ∧ π' t.1 = π t.1 + δ) (hb : Ab T ≤ 2 ^ 100) :
    turnsOf (Sm T π') = (turnsOf (Sm T π)).map fun t => if t < Q then t else t + δ := by
  have e1 := Sm_split (π := π) k T
  have e2 := Sm_split (π := π') k T
  have l1 : ∀ t ∈ T.filter (fun t => decide (t.1 < k)), t ∈ T ∧ t.1 < k := fun t ht => by simpa using List.mem_filter.mp ht
  have l2 : ∀ t ∈ T.filter (fun t => !decide (t.1 < k)), t ∈ T ∧ k ≤ t.1 := fun t ht => by simpa using List.mem_filter.mp ht
  have e3 : Sm (T.filter fun t => decide (t.1 < k)) π' = Sm (T.filter fun t => decide (t.1 < k)) π := Sm_congr fun t ht => (hlow t (l1 t ht).1 (l1 t ht).2).2
  have e4 : Sm (T.filter fun t => !decide (t.1 < k)) π = 2 ^ Q * _ := Sm_lift fun t ht => (hhigh t (l2 t ht).1 (l2 t ht).2).1
  have e5 : Sm (T.filter fun t => !decide (t.1 < k)) π' = 2 ^ (Q + δ) * _ := Sm_lift fun t ht => by
    have := hhigh t (l2 t ht).1 (l2 t ht).2
    omega
  have e6 : Sm (T.filter fun t => !decide (t.1 < k)) (fun i => π' i - (Q + δ)) = Sm (T.filter fun t => !decide (t.1 < k)) (fun i => π i - Q) := Sm_congr fun t ht => by
    have := hhigh t (l2 t ht).1 (l2 t ht).2
    show π' t.1 - (Q + δ) = π t.1 - Q
    omega
  rw [e1, e2, e3, e4, e5, e6]
  refine stretch fun t ht => ?_
  by_cases hn : T.filter (fun t => decide (t.1 < k)) = []
  · rw [hn] at ht
    have : turnsOf (Sm [] π) = [] := turnsOf_is (ts := []) trivial rfl
    rw [this] at ht
    exact absurd ht (by simp)
  · obtain ⟨u, hu⟩ := List.exists_mem_of_ne_nil _ hn
    have hq := (hlow u (l1 u hu).1 (l1 u hu).2).1
    have h1 := Sm_abs (π := π) (b := Q - 120) (T := T.filter fun t => decide (t.1 < k)) fun t ht => by
      have := (hlow t (l1 t ht).1 (l1 t ht).2).1
      omega
    have h2 := Nat.le_trans (Ab_filter (fun t => decide (t.1 < k)) T) hb
    have h3 := Nat.le_trans h1 (Nat.mul_le_mul_right (2 ^ (Q - 120)) h2)
    have := turns_lt (c := 100) h3 t ht
    omega
/-- places near and far: the same steps, but that a step of 120 may stand for a longer one -/
structure Near (n : Nat) (q P : Nat → Nat) : Prop where
  z : q 0 = 0
  s : ∀ k, k + 1 < n → q k ≤ q (k + 1) ∧ ((P (k + 1) = P k + (q (k + 1) - q k)) ∨ (q (k + 1) = q k + 120 ∧ P k + 120 ≤ P (k + 1)))
theorem Near.mono {n : Nat} {q P : Nat → Nat} (h : Near n q P) {i : Nat} : ∀ {j : Nat}, i ≤ j → j < n → q i ≤ q j ∧ q j - q i + P i ≤ P j
  | 0, hij, hj => by
    have : i = 0 := by omega
    subst this
    omega
  | j + 1, hij, hj => by
    by_cases e : i = j + 1
    · subst e
      omega
    · have ih := h.mono (i := i) (j := j) (by omega) (by omega)
      have := h.s j hj
      omega
theorem Near.le {n : Nat} {q P : Nat → Nat} (h : Near n q P) {i : Nat} (hi : i < n) : q i ≤ P i := by
  have := h.mono (Nat.zero_le i) hi
  have := h.z
  omega
def At (n : Nat) (q : Nat → Nat) (at_ : Nat → Nat) (t : Nat) : Prop := at_ t < n ∧ q (at_ t) ≤ t ∧ (at_ t + 1 = n ∨ t < q (at_ t + 1))
theorem near_turns {n : Nat} {q P at_ : Nat → Nat} {T : List (Nat × Int)} (N : Near n q P) (hT : ∀ t ∈ T, t.1 < n) (hb : Ab T ≤ 2 ^ 100) (ha : ∀ t ∈ turnsOf (Sm T q), At n q at_ t) :
    turnsOf (Sm T P) = (turnsOf (Sm T q)).map fun t => t + (P (at_ t) - q (at_ t)) := by
  let Dk : Nat → Nat := fun k => if k = 0 then 0 else P (k - 1) - q (k - 1)
  let πk : Nat → Nat → Nat := fun k i => if i < k then q i else P i - Dk k
  let fk : Nat → Nat → Nat := fun k t => if k ≤ at_ t then t + (P (at_ t) - q (at_ t)) - Dk k else t
  have main : ∀ j, j ≤ n → turnsOf (Sm T (πk (n - j))) = (turnsOf (Sm T q)).map (fk (n - j)) := by
    intro j
    induction j with
    | zero =>
      intro _
      have e1 : Sm T (πk (n - 0)) = Sm T q := Sm_congr fun t ht => by
        show (if t.1 < n - 0 then q t.1 else _) = _
        rw [if_pos (show t.1 < n - 0 from hT t ht)]
      have e2 : (turnsOf (Sm T q)).map (fk (n - 0)) = (turnsOf (Sm T q)).map id := List.map_congr_left fun t ht => by
        show (if n - 0 ≤ at_ t then _ else t) = t
        rw [if_neg (by have := (ha t ht).1; omega)]
      rw [e1, e2, List.map_id]
    | succ j ih =>
      intro hj
      have ih := ih (by omega)
      obtain ⟨k, hk⟩ : ∃ k, n - (j + 1) = k := ⟨_, rfl⟩
      have hk1 : n - j = k + 1 := by omega
      have hkn : k < n := by omega
      rw [hk]
      rw [hk1] at ih
      have hD1 : Dk (k + 1) = P k - q k := by
        show (if k + 1 = 0 then 0 else P (k + 1 - 1) - q (k + 1 - 1)) = _
        rw [if_neg (by omega), Nat.add_sub_cancel]
      have hqk := N.le hkn
      have hmono : ∀ i, k ≤ i → i < n → q k ≤ q i ∧ q i - q k + P k ≤ P i := fun i h1 h2 => N.mono h1 h2
      have hDle : Dk k ≤ P k - q k ∧ (Dk k = P k - q k ∨ ∀ i, i < k → q i + 120 ≤ q k) := by
        show (if k = 0 then 0 else P (k - 1) - q (k - 1)) ≤ P k - q k ∧ ((if k = 0 then 0 else P (k - 1) - q (k - 1)) = P k - q k ∨ _)
        by_cases h0 : k = 0
        · rw [if_pos h0]
          exact ⟨Nat.zero_le _, .inr fun i hi => by omega⟩
        · rw [if_neg h0]
          have hs := N.s (k - 1) (by omega)
          rw [show k - 1 + 1 = k by omega] at hs
          have hq1 := N.le (i := k - 1) (by omega)
          refine ⟨by omega, ?_⟩
          rcases hs.2 with hs2 | hs2
          · left
            omega
          · right
            intro i hi
            have := (N.mono (i := i) (j := k - 1) (by omega) (by omega)).1
            omega
      have hat : ∀ t ∈ turnsOf (Sm T q), (at_ t < k → t < q k) ∧ (k ≤ at_ t → q k ≤ t ∧ P k - q k ≤ P (at_ t) - q (at_ t)) := fun t ht => by
        obtain ⟨a1, a2, a3⟩ := ha t ht
        refine ⟨fun h => ?_, fun h => ?_⟩
        · have := (N.mono (i := at_ t + 1) (j := k) (by omega) hkn).1
          omega
        · have := hmono (at_ t) h a1
          have := N.le a1
          omega
      by_cases hδ : Dk k = P k - q k
      · have e1 : Sm T (πk k) = Sm T (πk (k + 1)) := Sm_congr fun t ht => by
          have htn := hT t ht
          show (if t.1 < k then q t.1 else P t.1 - Dk k) = (if t.1 < k + 1 then q t.1 else P t.1 - Dk (k + 1))
          by_cases h1 : t.1 < k
          · rw [if_pos h1, if_pos (by omega)]
          · rw [if_neg h1]
            by_cases h2 : t.1 = k
            · rw [if_pos (by omega), h2]
              omega
            · rw [if_neg (by omega), hD1, hδ]
        rw [e1, ih]
        refine List.map_congr_left fun t ht => ?_
        have hh := hat t ht
        show (if k + 1 ≤ at_ t then t + (P (at_ t) - q (at_ t)) - Dk (k + 1) else t) = (if k ≤ at_ t then t + (P (at_ t) - q (at_ t)) - Dk k else t)
        by_cases h1 : k + 1 ≤ at_ t
        · rw [if_pos h1, if_pos (by omega), hD1, hδ]
        · rw [if_neg h1]
          by_cases h2 : k ≤ at_ t
          · have : at_ t = k := by omega
            rw [if_pos h2, this]
            omega
          · rw [if_neg h2]
      · have hcap := hDle.2.resolve_left hδ
        have hst := stretch_sum (T := T) (π := πk (k + 1)) (π' := πk k) (k := k) (Q := q k) (δ := P k - q k - Dk k) (fun t ht hlt => ?_) (fun t ht hge => ?_) hb
        · rw [hst, ih, List.map_map]
          refine List.map_congr_left fun t ht => ?_
          have hh := hat t ht
          show (if fk (k + 1) t < q k then fk (k + 1) t else fk (k + 1) t + (P k - q k - Dk k)) = (if k ≤ at_ t then t + (P (at_ t) - q (at_ t)) - Dk k else t)
          by_cases h2 : k ≤ at_ t
          · have h3 := hh.2 h2
            rw [if_pos h2]
            by_cases h1 : k + 1 ≤ at_ t
            · have ef : fk (k + 1) t = t + (P (at_ t) - q (at_ t)) - Dk (k + 1) := if_pos h1
              rw [ef, hD1, if_neg (by omega)]
              omega
            · have ef : fk (k + 1) t = t := if_neg h1
              have : at_ t = k := by omega
              rw [ef, if_neg (by omega), this]
              omega
          · have ef : fk (k + 1) t = t := if_neg (by omega)
            rw [if_neg h2, ef, if_pos (hh.1 (by omega))]
        · refine ⟨?_, ?_⟩
          · show (if t.1 < k + 1 then q t.1 else _) + 120 ≤ q k
            rw [if_pos (by omega)]
            exact hcap _ hlt
          · show (if t.1 < k then q t.1 else _) = (if t.1 < k + 1 then q t.1 else _)
            rw [if_pos hlt, if_pos (by omega)]
        · have hm := hmono t.1 hge (hT t ht)
          show q k ≤ (if t.1 < k + 1 then q t.1 else P t.1 - Dk (k + 1)) ∧ (if t.1 < k then q t.1 else P t.1 - Dk k) = (if t.1 < k + 1 then q t.1 else P t.1 - Dk (k + 1)) + (P k - q k - Dk k)
          rw [if_neg (show ¬ t.1 < k by omega), hD1]
          by_cases h2 : t.1 = k
          · rw [if_pos (show t.1 < k + 1 by omega), h2]
            omega
          · rw [if_neg (show ¬ t.1 < k + 1 by omega)]
            omega
  have h0 := main n (Nat.le_refl n)
  rw [Nat.sub_self] at h0
  have e1 : Sm T (πk 0) = Sm T P := Sm_congr fun t _ => by
    show (if t.1 < 0 then q t.1 else P t.1 - 0) = P t.1
    rw [if_neg (by omega)]
    rfl
  rw [← e1, h0]
  refine List.map_congr_left fun t ht => ?_
  show (if 0 ≤ at_ t then t + (P (at_ t) - q (at_ t)) - 0 else t) = _
  rw [if_pos (Nat.zero_le _)]
  rfl
end MS
set_option Elab.async false
set_option linter.all false
set_option maxRecDepth 100000
/-! how many turns a sum of powers of two has -/
namespace MS
open PySem PySem.Spec TV FM FC
noncomputable def tau (n : Int) : Nat := (turnsOf n).length
theorem turns_dbl (m : Int) : turnsOf (2 * m) = (turnsOf m).map (· + 1) := turnsOf_is (asc_succ (turnsOf_asc m)) (by rw [tv_map_succ, turnsOf_tv])
theorem tau_dbl (m : Int) : tau (2 * m) = tau m := by
  unfold tau
  rw [turns_dbl, List.length_map]
theorem zero_turn (m : Int) : 0 ∈ turnsOf m ↔ m % 2 = 1 := by
  have := mem_tb (turnsOf_asc m) 0
  rw [turnsOf_tv, if_pos rfl, tb_zero] at this
  rw [this]
  simp
theorem tau_odd (m : Int) : tau (2 * m + 1) = tau m + if m % 2 = 0 then 2 else 0 := by
  by_cases h : m % 2 = 0
  · rw [if_pos h]
    have h0 : ∀ t ∈ turnsOf m, 0 < t := fun t ht => by
      apply Nat.pos_of_ne_zero
      intro e
      subst e
      have := (zero_turn m).mp ht
      omega
    have e : turnsOf (2 * m + 1) = 0 :: 1 :: (turnsOf m).map (· + 1) := by
      refine turnsOf_is (asc_cons (fun b hb => ?_) (asc_cons (fun b hb => ?_) (asc_succ (turnsOf_asc m)))) ?_
      · simp only [List.mem_cons, List.mem_map] at hb
        rcases hb with rfl | ⟨t, _, rfl⟩
        · decide
        · omega
      · obtain ⟨t, ht, rfl⟩ := List.mem_map.mp hb
        have := h0 t ht
        omega
      · rw [tv_cons, tv_cons, tv_map_succ, turnsOf_tv]
        omega
    unfold tau
    rw [e]
    simp
  · rw [if_neg h]
    have hz := (zero_turn m).mpr (by omega)
    have hA := turnsOf_asc m
    have hv := turnsOf_tv m
    unfold tau
    cases ht : turnsOf m with
    | nil => rw [ht] at hz; exact absurd hz (by simp)
    | cons a r =>
      rw [ht] at hz hA hv
      have ha : a = 0 := by
        rcases List.mem_cons.mp hz with e | e
        · exact e.symm
        · have := hA.lt 0 e
          omega
      subst ha
      have e : turnsOf (2 * m + 1) = 0 :: r.map (· + 1) := by
        refine turnsOf_is (asc_cons (fun b hb => ?_) (asc_succ hA.tail)) ?_
        · obtain ⟨t, _, rfl⟩ := List.mem_map.mp hb
          omega
        · rw [tv_cons, tv_map_succ]
          rw [tv_cons] at hv
          omega
      rw [e]
      simp
theorem half_ind {p : Int → Prop} (h0 : p 0) (h1 : p (-1)) (hs : ∀ m, p m → p (2 * m) ∧ p (2 * m + 1)) : ∀ n, p n := by
  have : ∀ k : Nat, ∀ n : Int, n.natAbs ≤ k → p n := by
    intro k
    induction k with
    | zero =>
      intro n hn
      have : n = 0 := by omega
      exact this ▸ h0
    | succ k ih =>
      intro n hn
      by_cases e0 : n = 0
      · exact e0 ▸ h0
      · by_cases e1 : n = -1
        · exact e1 ▸ h1
        · have := hs (n / 2) (ih (n / 2) (by omega))
          by_cases e : n % 2 = 0
          · have e2 : n = 2 * (n / 2) := by omega
            rw [e2]
            exact this.1
          · have e2 : n = 2 * (n / 2) + 1 := by omega
            rw [e2]
            exact this.2
  intro n
  exact this n.natAbs n (Nat.le_refl _)
theorem tau_zero : tau 0 = 0 := by
  unfold tau
  rw [show turnsOf 0 = [] from turnsOf_is (ts := []) trivial rfl]
  rfl
theorem tau_neg1 : tau (-1) = 1 := by
  unfold tau
  rw [turnsOf_is (ts := [0]) trivial (by decide)]
  rfl
theorem tau_one : tau 1 = 2 := by
  unfold tau
  rw [turnsOf_is (ts := [0, 1]) ⟨by decide, trivial⟩ (by decide)]
  rfl
theorem tau_s : ∀ n : Int, tau (n + 1) ≤ tau n + (if n % 2 = 0 then 2 else 0) ∧ tau n ≤ tau (n + 1) + (if n % 2 = 0 then 0 else 2) := by
  refine half_ind ?_ ?_ fun m ih => ⟨?_, ?_⟩
  · rw [show (0 : Int) + 1 = 1 by decide, tau_zero, tau_one]
    simp
  · rw [show (-1 : Int) + 1 = 0 by decide, tau_zero, tau_neg1]
    simp
  · rw [tau_odd, tau_dbl, if_pos (show 2 * m % 2 = 0 by omega), if_pos (show 2 * m % 2 = 0 by omega)]
    split <;> omega
  · rw [show 2 * m + 1 + 1 = 2 * (m + 1) by omega, tau_dbl, tau_odd, if_neg (show ¬ (2 * m + 1) % 2 = 0 by omega), if_neg (show ¬ (2 * m + 1) % 2 = 0 by omega)]
    obtain ⟨h1, h2⟩ := ih
    split at h1 <;> split at h2 <;> split <;> omega
/-- one more power of two, one less: two more turns at most -/
theorem tau_pow : ∀ (p : Nat) (n : Int), tau (n + 2 ^ p) ≤ tau n + 2 ∧ tau n ≤ tau (n + 2 ^ p) + 2
  | 0, n => by
    have := tau_s n
    rw [show (2 : Int) ^ 0 = 1 from rfl]
    obtain ⟨h1, h2⟩ := this
    split at h1 <;> split at h2 <;> omega
  | p + 1, n => by
    have ih := tau_pow p (n / 2)
    by_cases e : n % 2 = 0
    · have e1 : n = 2 * (n / 2) := by omega
      have e2 : n + 2 ^ (p + 1) = 2 * (n / 2 + 2 ^ p) := by rw [Int.pow_succ]; omega
      rw [e2, tau_dbl]
      have e3 : tau n = tau (n / 2) := by
        conv => lhs; rw [e1]
        exact tau_dbl _
      rw [e3]
      exact ih
    · have e1 : n = 2 * (n / 2) + 1 := by omega
      have e2 : n + 2 ^ (p + 1) = 2 * (n / 2 + 2 ^ p) + 1 := by rw [Int.pow_succ]; omega
      have e3 : tau n = tau (n / 2) + if n / 2 % 2 = 0 then 2 else 0 := by
        conv => lhs; rw [e1]
        exact tau_odd _
      rw [e2, tau_odd, e3]
      cases p with
      | zero =>
        rw [show (2 : Int) ^ 0 = 1 from rfl]
        have h := tau_s (n / 2)
        by_cases e4 : n / 2 % 2 = 0
        · rw [if_pos e4, if_neg (by omega)]
          rw [if_pos e4, if_pos e4] at h
          have e5 : n / 2 = 2 * (n / 2 / 2) := by omega
          have h6 := tau_dbl (n / 2 / 2)
          have h7 := tau_odd (n / 2 / 2)
          rw [← e5] at h6 h7
          omega
        · rw [if_neg e4, if_pos (by omega)]
          rw [if_neg e4, if_neg e4] at h
          omega
      | succ p =>
        have : (2 : Int) ^ (p + 1) = 2 ^ p * 2 := Int.pow_succ 2 p
        by_cases e4 : n / 2 % 2 = 0
        · rw [if_pos e4, if_pos (by omega)]
          omega
        · rw [if_neg e4, if_neg (by omega)]
          omega
theorem tau_mul {p : Nat} : ∀ (k : Nat) (n : Int), tau (n + k * 2 ^ p) ≤ tau n + 2 * k ∧ tau (n - k * 2 ^ p) ≤ tau n + 2 * k
  | 0, n => by simp
  | k + 1, n => by
    have ih := tau_mul (p := p) k n
    have h1 := (tau_pow p (n + k * 2 ^ p)).1
    have h2 := (tau_pow p (n - k * 2 ^ p - 2 ^ p)).2
    rw [show n - k * 2 ^ p - 2 ^ p + 2 ^ p = n - k * 2 ^ p by omega] at h2
    rw [show n + ((k + 1 : Nat) : Int) * 2 ^ p = n + k * 2 ^ p + 2 ^ p by rw [Int.natCast_add, Int.add_mul]; simp; omega, show n - ((k + 1 : Nat) : Int) * 2 ^ p = n - k * 2 ^ p - 2 ^ p by rw [Int.natCast_add, Int.add_mul]; simp; omega]
    omega
theorem tau_add (n c : Int) (p : Nat) : tau (n + c * 2 ^ p) ≤ tau n + 2 * c.natAbs := by
  have := tau_mul (p := p) c.natAbs n
  by_cases h : 0 ≤ c
  · have e : ((c.natAbs : Nat) : Int) = c := by omega
    rw [e] at this
    exact this.1
  · have e : ((c.natAbs : Nat) : Int) = -c := by omega
    rw [e, Int.neg_mul, Int.sub_neg] at this
    exact this.2
theorem tau_Sm {π : Nat → Nat} : ∀ T : List (Nat × Int), tau (Sm T π) ≤ 2 * Ab T
  | [] => by
    show tau 0 ≤ _
    rw [tau_zero]
    exact Nat.zero_le _
  | t :: r => by
    have ih := tau_Sm (π := π) r
    have := tau_add (Sm r π) t.2 (π t.1)
    unfold Sm Ab at *
    rw [List.map_cons, List.sum_cons, List.map_cons, List.sum_cons, Int.add_comm]
    omega
end MS
set_option Elab.async false
set_option linter.all false
set_option maxRecDepth 100000
/-! codes: digits, few turns in the far fields; the places that they stand for, near and far -/
namespace FD
open PySem PySem.Spec TV FM FB FC MS
/-- m digits below B; w turns at most in the far fields -/
def Dw (m B w : Nat) (c : Int) : Prop := ∃ (a : Nat) (r : List Nat), r.length + 1 = m ∧ a < B ∧ (∀ x ∈ r, x < B) ∧ c = (a : Int) + 2 ^ 200 * num r ∧ tau (num r) ≤ w
theorem Dw.dg {m B w : Nat} {c : Int} (h : Dw m B w c) : Dg m B c := by
  obtain ⟨a, r, h1, h2, h3, h4, h5⟩ := h
  exact ⟨a :: r, h1, fun x hx => (List.mem_cons.mp hx).elim (fun e => e ▸ h2) (h3 x), h4⟩
theorem Dw.mono {m B B' w w' : Nat} {c : Int} (h : Dw m B w c) (l : B ≤ B') (l2 : w ≤ w') : Dw m B' w' c := by
  obtain ⟨a, r, h1, h2, h3, h4, h5⟩ := h
  exact ⟨a, r, h1, by omega, fun x hx => by have := h3 x hx; omega, h4, by omega⟩
theorem Dw.code {m B w : Nat} {c : Int} (h : Dw m B w c) (hB : B ≤ 2 ^ 100) : CodeOk m c := h.dg.code hB
theorem Dw.nonneg {m B w : Nat} {c : Int} (h : Dw m B w c) : 0 ≤ c := h.dg.nonneg
theorem Dw.nat {m B x : Nat} (hm : 1 ≤ m) (hx : x < B) : Dw m B 0 (x : Nat) := by
  refine ⟨x, List.replicate (m - 1) 0, by simp; omega, hx, fun y hy => ?_, ?_, ?_⟩
  · rw [List.mem_replicate] at hy
    omega
  · rw [num_zero]
    simp
  · rw [num_zero, tau_zero]
    exact Nat.le_refl _
theorem Dw.add {m B Y w y : Nat} {c : Int} (h : Dw m B w c) (hy : y < Y) : Dw m (B + Y) w (c + (y : Nat)) := by
  obtain ⟨a, r, h1, h2, h3, rfl, h5⟩ := h
  exact ⟨a + y, r, h1, by omega, fun x hx => by have := h3 x hx; omega, by omega, h5⟩
/-- a number of at most two signed powers -/
def Two (y : Nat) : Prop := ∃ (a b : Nat) (s : Int), s.natAbs ≤ 1 ∧ (y : Int) = 2 ^ a + s * 2 ^ b
theorem Two.shl {y : Nat} (h : Two y) (k : Nat) : Two (y * 2 ^ k) := by
  obtain ⟨a, b, s, hs, e⟩ := h
  refine ⟨a + k, b + k, s, hs, ?_⟩
  rw [Int.pow_add, Int.pow_add, ← Int.mul_assoc, ← Int.add_mul, ← e]
  simp
theorem Dw.far {m B Y w y d : Nat} {c : Int} (h : Dw m B w c) (h0 : 1 ≤ d) (hd : d < m) (hy : y < Y) (ht : Two y) : Dw m (B + Y) (w + 4) (c + (y : Nat) * 2 ^ (200 * d)) := by
  obtain ⟨a, r, h1, h2, h3, rfl, h5⟩ := h
  obtain ⟨e, rfl⟩ : ∃ e, d = e + 1 := ⟨d - 1, by omega⟩
  have hg : r[e]? = some r[e] := List.getElem?_eq_getElem (by omega)
  have hn := num_set r e y _ hg
  refine ⟨a, r.set e (r[e] + y), by simp [h1], by omega, fun x hx => ?_, ?_, ?_⟩
  · rcases List.mem_or_eq_of_mem_set hx with hx | hx
    · have := h3 x hx; omega
    · have := h3 r[e] (List.getElem_mem _)
      omega
  · rw [hn, Int.mul_add, show 200 * (e + 1) = 200 + 200 * e by omega, Int.pow_add, Int.mul_left_comm]
    omega
  · rw [hn]
    obtain ⟨p, q, s, hs, ey⟩ := ht
    rw [ey, Int.add_mul, ← Int.pow_add, Int.mul_assoc, ← Int.pow_add, ← Int.add_assoc]
    have h6 := tau_add (num r + 2 ^ (p + 200 * e)) s (q + 200 * e)
    have h7 := (tau_pow (p + 200 * e) (num r)).1
    omega
/-- the far number of a row of digits from field j on -/
def far (fs : List PyData) : Nat → List Nat → Int
  | _, [] => 0
  | j, a :: r => (a : Int) * 2 ^ Fi fs j + far fs (j + 1) r
theorem Phi_far {fs : List PyData} : ∀ (ps : List Nat) (j : Nat), (∀ a ∈ ps, a < 2 ^ 100) → tv ((turnsOf (num ps)).map fun t => Fi fs (j + t / 200) + t % 200) = far fs j ps
  | [], j, _ => by
    rw [show turnsOf (num []) = [] from turnsOf_is (ts := []) trivial rfl]
    rfl
  | a :: r, j, h => by
    have ih := Phi_far (fs := fs) r (j + 1) fun x hx => h x (by simp [hx])
    have ha := h a (by simp)
    have hb : ∀ t ∈ turnsOf (a : Int), t ≤ 100 := by
      refine (tv_range (turnsOf_asc _)).mpr ?_
      rw [turnsOf_tv]
      have : ((2 ^ 100 : Nat) : Int) = 2 ^ 100 := by simp
      omega
    have he : (turnsOf (a : Int)).length % 2 = 0 := even_of_nonneg (turnsOf_asc _) (by rw [turnsOf_tv]; omega)
    show tv ((turnsOf ((a : Int) + 2 ^ 200 * num r)).map _) = (a : Int) * 2 ^ Fi fs j + far fs (j + 1) r
    rw [turns_app (Q := 200) fun t ht => by have := hb t ht; omega, if_pos he, List.map_append, tv_append, List.length_map, if_pos he, List.map_map, ← ih]
    congr 1
    · have : (turnsOf (a : Int)).map (fun t => Fi fs (j + t / 200) + t % 200) = (turnsOf (a : Int)).map (· + Fi fs j) := List.map_congr_left fun t ht => by
        have := hb t ht
        show Fi fs (j + t / 200) + t % 200 = t + Fi fs j
        rw [show j + t / 200 = j by omega]
        omega
      rw [this, tv_map_add, turnsOf_tv, Int.mul_comm]
    · congr 1
      refine List.map_congr_left fun t ht => ?_
      show Fi fs (j + (t + 200) / 200) + (t + 200) % 200 = Fi fs (j + 1 + t / 200) + t % 200
      rw [show j + (t + 200) / 200 = j + 1 + t / 200 by omega]
      omega
theorem Phi_num {fs : List PyData} {ps : List Nat} (h : ∀ a ∈ ps, a < 2 ^ 100) : Phi fs (num ps) = far fs 0 ps := by
  rw [← Phi_far ps 0 h]
  unfold Phi
  congr 1
  refine List.map_congr_left fun t _ => ?_
  unfold phi
  rw [Nat.zero_add]
theorem Fi_zero {fs : List PyData} (F : Fields fs) : Fi fs 0 = 0 := by
  obtain ⟨f1, es2, es3, rfl, _⟩ := F.ex
  show (val (.int 0)).toNat = 0
  rw [val_int]
  rfl
theorem Dg.split {m B : Nat} {c : Int} (h : Dg m B c) (hm : 1 ≤ m) : ∃ (a : Nat) (r : List Nat), r.length + 1 = m ∧ a < B ∧ (∀ x ∈ r, x < B) ∧ c = (a : Int) + 2 ^ 200 * num r := by
  obtain ⟨ps, h1, h2, rfl⟩ := h
  cases ps with
  | nil => simp at h1; omega
  | cons a r => exact ⟨a, r, h1, h2 a (by simp), fun x hx => h2 x (by simp [hx]), rfl⟩
/-- the weight of a code of few far turns -/
theorem Dw.cwt {m B : Nat} {c : Int} (h : Dw m B 8 c) (hB : B ≤ 2 ^ 61) : cwt c ≤ 247 := by
  obtain ⟨a, r, h1, h2, h3, rfl, h5⟩ := h
  have hb : ∀ t ∈ turnsOf (a : Int), t ≤ 61 := by
    refine (tv_range (turnsOf_asc _)).mpr ?_
    rw [turnsOf_tv]
    have : ((2 ^ 61 : Nat) : Int) = 2 ^ 61 := by simp
    omega
  have hl := asc_len (a := 0) (turnsOf_asc (a : Int)) fun t ht => ⟨Nat.zero_le _, hb t ht⟩
  have he : (turnsOf (a : Int)).length % 2 = 0 := even_of_nonneg (turnsOf_asc _) (by rw [turnsOf_tv]; omega)
  unfold FC.cwt
  rw [turns_app (Q := 200) fun t ht => by have := hb t ht; omega, if_pos he, List.map_append, List.sum_append]
  have e1 : (turnsOf (a : Int)).map cw = (turnsOf (a : Int)).map fun _ => 1 := List.map_congr_left fun t ht => by
    unfold cw
    rw [if_pos (by have := hb t ht; omega)]
  have e2 := cw_sum ((turnsOf (num r)).map (· + 200))
  have e3 : ((turnsOf (a : Int)).map fun _ => 1).sum = (turnsOf (a : Int)).length := by
    generalize turnsOf (a : Int) = l
    induction l with
    | nil => rfl
    | cons x y ih => simp only [List.map_cons, List.sum_cons, List.length_cons, ih]; omega
  rw [e1, e3]
  rw [List.length_map] at e2
  unfold tau at h5
  omega
theorem cwts_dw {m B : Nat} (hB : B ≤ 2 ^ 61) : ∀ {cs : List Int}, (∀ c ∈ cs, Dw m B 8 c) → (cs.map FC.cwt).sum ≤ 247 * cs.length
  | [], _ => by simp
  | c :: r, h => by
    have h1 := (h c (by simp)).cwt hB
    have h2 := cwts_dw hB (cs := r) fun x hx => h x (by simp [hx])
    simp only [List.map_cons, List.sum_cons, List.length_cons]
    omega
/-- a little further in field nought -/
theorem Phi_step {fs : List PyData} (F : Fields fs) {m B y : Nat} {c : Int} (h : Dg m B c) (hm : 1 ≤ m) (hB : B + y ≤ 2 ^ 100) : Phi fs (c + (y : Nat)) = Phi fs c + (y : Nat) := by
  obtain ⟨a, r, h1, h2, h3, rfl⟩ := Dg.split h hm
  have e1 : ((a : Int) + 2 ^ 200 * num r) = num (a :: r) := rfl
  have e2 : ((a : Int) + 2 ^ 200 * num r + (y : Nat)) = num ((a + y) :: r) := by
    show _ = ((a + y : Nat) : Int) + 2 ^ 200 * num r
    omega
  rw [e2, e1, Phi_num fun x hx => ?_, Phi_num fun x hx => ?_]
  · show ((a + y : Nat) : Int) * 2 ^ Fi fs 0 + _ = (a : Int) * 2 ^ Fi fs 0 + _ + (y : Nat)
    rw [Fi_zero F, Int.pow_zero]
    omega
  · rcases List.mem_cons.mp hx with rfl | hx
    · omega
    · have := h3 x hx
      omega
  · rcases List.mem_cons.mp hx with rfl | hx
    · omega
    · have := h3 x hx
      omega
/-- codes near one another: places so, too; codes apart: places so, too -/
theorem Phi_gap {fs : List PyData} (F : Fields fs) {m B : Nat} {c d : Int} (hc : Dg m B c) (hd : Dg m B d) (hm : 1 ≤ m) (hm4 : m ≤ 4) (hB : B ≤ 2 ^ 90) (h : c ≤ d) :
    (d - c < 120 → Phi fs d = Phi fs c + (d - c)) ∧ (120 ≤ d - c → Phi fs c + 120 ≤ Phi fs d) := by
  constructor
  · intro hlt
    have := Phi_step F (y := (d - c).toNat) hc hm (by omega)
    have e : (((d - c).toNat : Nat) : Int) = d - c := by omega
    rw [e, show c + (d - c) = d by omega] at this
    exact this
  · intro hge
    have h1 := Phi_step F (y := 120) hc hm (by omega)
    have h2 : CodeOk m (c + ((120 : Nat) : Int)) := by
      have := hc.add (d := 0) (y := 120) (Y := 121) (by omega) (by decide)
      rw [Nat.mul_zero, Int.pow_zero, Int.mul_one] at this
      exact this.code (by omega)
    have e : ((120 : Nat) : Int) = 120 := rfl
    rw [e] at h1 h2
    by_cases hz : c + 120 = d
    · rw [← hz, h1]
      exact Int.le_refl _
    · have := Phi_lt F hm4 h2 (hd.code (by omega)) (by omega)
      omega
/-- the turns that codes stand for -/
noncomputable def Phis (fs : List PyData) (cs : List Int) : List Nat := cs.map fun c => (Phi fs c).toNat
theorem Phis_asc {fs : List PyData} (F : Fields fs) {m : Nat} (hm : m ≤ 4) {cs : List Int} (h : cs.Pairwise (· < ·)) (hc : ∀ c ∈ cs, CodeOk m c) : Asc (Phis fs cs) := by
  rw [asc_pairwise]
  unfold Phis
  rw [List.pairwise_map]
  refine h.imp_of_mem fun {a b} ha hb hab => ?_
  have h1 := Phi_lt F hm (hc a ha) (hc b hb) hab
  have h2 := Phi_nonneg F hm (hc a ha)
  omega
/-- the code with number k of a row -/
def cd (cs : List Int) (k : Nat) : Int := cs.getD k 0
/-- the near places of a row of codes -/
def qN (cs : List Int) : Nat → Nat
  | 0 => 0
  | k + 1 => qN cs k + (min (cd cs (k + 1) - cd cs k) 120).toNat
theorem cd_at {cs : List Int} {k : Nat} (h : k < cs.length) : cs[k]? = some (cd cs k) := by
  unfold cd
  rw [List.getD_eq_getElem?_getD, List.getElem?_eq_getElem h]
  rfl
theorem cd_mem {cs : List Int} {k : Nat} (h : k < cs.length) : cd cs k ∈ cs := List.mem_of_getElem? (cd_at h)
theorem cd_le {cs : List Int} (hs : cs.Pairwise (· ≤ ·)) {i j : Nat} (hij : i ≤ j) (hj : j < cs.length) : cd cs i ≤ cd cs j := by
  by_cases e : i = j
  · rw [e]
    exact Int.le_refl _
  · have h1 := cd_at (cs := cs) (k := i) (by omega)
    have h2 := cd_at hj
    obtain ⟨h1', e1⟩ := List.getElem?_eq_some_iff.mp h1
    obtain ⟨h2', e2⟩ := List.getElem?_eq_some_iff.mp h2
    rw [← e1, ← e2]
    exact List.pairwise_iff_getElem.mp hs i j h1' h2' (by omega)
theorem qN_step {cs : List Int} (hs : cs.Pairwise (· ≤ ·)) {k : Nat} (hk : k + 1 < cs.length) : qN cs k ≤ qN cs (k + 1) ∧ ((qN cs (k + 1) : Int) = qN cs k + (cd cs (k + 1) - cd cs k) ∧ cd cs (k + 1) - cd cs k < 120 ∨ qN cs (k + 1) = qN cs k + 120 ∧ 120 ≤ cd cs (k + 1) - cd cs k) := by
  have := cd_le hs (show k ≤ k + 1 by omega) hk
  show qN cs k ≤ qN cs k + _ ∧ (((qN cs k + _ : Nat) : Int) = _ ∧ _ ∨ qN cs k + _ = _ ∧ _)
  omega
theorem qN_eq {cs : List Int} (hs : cs.Pairwise (· ≤ ·)) {i : Nat} : ∀ {j : Nat}, i ≤ j → j < cs.length → cd cs i = cd cs j → qN cs i = qN cs j
  | 0, hij, hj, e => by
    have : i = 0 := by omega
    rw [this]
  | j + 1, hij, hj, e => by
    by_cases z : i = j + 1
    · rw [z]
    · have h1 := cd_le hs (show i ≤ j by omega) (show j < cs.length by omega)
      have h2 := cd_le hs (show j ≤ j + 1 by omega) hj
      have ih := qN_eq hs (i := i) (j := j) (by omega) (by omega) (by omega)
      have := qN_step hs hj
      omega
theorem near_codes {fs : List PyData} (F : Fields fs) {m B : Nat} {cs : List Int} (hs : cs.Pairwise (· ≤ ·)) (hc : ∀ c ∈ cs, Dg m B c) (hm : 1 ≤ m) (hm4 : m ≤ 4) (hB : B ≤ 2 ^ 90) : Near cs.length (qN cs) fun k => (Phi fs (cd cs k)).toNat := by
  refine ⟨rfl, fun k hk => ?_⟩
  have h1 := qN_step hs hk
  have h2 := cd_le hs (show k ≤ k + 1 by omega) hk
  have d1 := hc _ (cd_mem (show k < cs.length by omega))
  have d2 := hc _ (cd_mem hk)
  have g := Phi_gap F d1 d2 hm hm4 hB h2
  have n1 := Phi_nonneg F hm4 (d1.code (by omega))
  have n2 := Phi_nonneg F hm4 (d2.code (by omega))
  refine ⟨h1.1, ?_⟩
  show (Phi fs (cd cs (k + 1))).toNat = (Phi fs (cd cs k)).toNat + (qN cs (k + 1) - qN cs k) ∨ _
  rcases h1.2 with ⟨e, hlt⟩ | ⟨e, hge⟩
  · left
    have := g.1 hlt
    omega
  · right
    have := g.2 hge
    refine ⟨e, ?_⟩
    show (Phi fs (cd cs k)).toNat + 120 ≤ (Phi fs (cd cs (k + 1))).toNat
    omega
/-- terms by the numbers of their codes -/
def ixT (cs : List Int) (ts : List (Int × Int)) : List (Nat × Int) := ts.map fun t => (cs.idxOf t.1, t.2)
def AbT (ts : List (Int × Int)) : Nat := (ts.map fun t => t.2.natAbs).sum
theorem Ab_ix (cs : List Int) (ts : List (Int × Int)) : Ab (ixT cs ts) = AbT ts := by
  unfold Ab AbT ixT
  rw [List.map_map]
  rfl
theorem Sm_ix (cs : List Int) (ts : List (Int × Int)) (π : Nat → Nat) : Sm (ixT cs ts) π = (ts.map fun t => t.2 * 2 ^ π (cs.idxOf t.1)).sum := by
  unfold Sm ixT
  rw [List.map_map]
  rfl
theorem cd_ix {cs : List Int} {c : Int} (h : c ∈ cs) : cs.idxOf c < cs.length ∧ cd cs (cs.idxOf c) = c := by
  have h1 := List.idxOf_lt_length_iff.mpr h
  refine ⟨h1, ?_⟩
  have := cd_at h1
  rw [List.getElem?_eq_getElem h1, List.getElem_idxOf h1] at this
  exact (Option.some.inj this).symm
theorem spot_eq {cs : List Int} (hs : cs.Pairwise (· ≤ ·)) {i : Nat} (hi : i < cs.length) : qN cs (cs.idxOf (cd cs i)) = qN cs i := by
  obtain ⟨h1, h2⟩ := cd_ix (cd_mem hi)
  rcases Nat.le_total (cs.idxOf (cd cs i)) i with h | h
  · exact qN_eq hs h hi h2
  · exact (qN_eq hs h h1 h2.symm).symm
theorem qN_le (cs : List Int) : ∀ k, qN cs k ≤ 120 * k
  | 0 => Nat.le_refl _
  | k + 1 => by
    have := qN_le cs k
    show qN cs k + _ ≤ _
    omega
/-- what the sum at near places tells -/
theorem summed {m B w : Nat} {cs : List Int} {ts : List (Int × Int)} {at_ : Nat → Nat} (hs : cs.Pairwise (· ≤ ·)) (hc : ∀ c ∈ cs, Dw m B w c) (hm : 1 ≤ m) (hm4 : m ≤ 4) (hB : B ≤ 2 ^ 80) (ht : ∀ t ∈ ts, t.1 ∈ cs) (hb : AbT ts ≤ 2 ^ 100)
    (ha : ∀ t ∈ turnsOf (Sm (ixT cs ts) (qN cs)), At cs.length (qN cs) at_ t) {ds : List Int} (hd : ds = (turnsOf (Sm (ixT cs ts) (qN cs))).map fun t => cd cs (at_ t) + (t : Nat) - (qN cs (at_ t) : Nat)) :
    ds.Pairwise (· < ·) ∧ (∀ d ∈ ds, Dw m (B + 122) w d) ∧ ds.length ≤ 2 * AbT ts ∧ ∀ fs, Fields fs → tv (Phis fs ds) = (ts.map fun t => t.2 * 2 ^ (Phi fs t.1).toNat).sum := by
  have hix : ∀ t ∈ ixT cs ts, t.1 < cs.length := fun t h => by
    obtain ⟨u, hu, rfl⟩ := List.mem_map.mp h
    exact (cd_ix (ht u hu)).1
  have hAb : Ab (ixT cs ts) ≤ 2 ^ 100 := by rw [Ab_ix]; exact hb
  have qm : ∀ {i j : Nat}, i ≤ j → j < cs.length → qN cs i ≤ qN cs j := fun {i j} => by
    intro hij hj
    induction j with
    | zero => rw [show i = 0 by omega]; exact Nat.le_refl _
    | succ j ih =>
      by_cases e : i = j + 1
      · rw [e]; exact Nat.le_refl _
      · have := ih (by omega) (by omega)
        have := (qN_step hs hj).1
        omega
  have small : ∀ t ∈ turnsOf (Sm (ixT cs ts) (qN cs)), t - qN cs (at_ t) ≤ 121 := fun t h => by
    obtain ⟨a1, a2, a3⟩ := ha t h
    rcases a3 with a3 | a3
    · have h1 := Sm_abs (π := qN cs) (b := qN cs (at_ t)) (T := ixT cs ts) fun u hu => qm (by have := hix u hu; omega) a1
      have h2 := turns_lt (c := 100) (Nat.le_trans h1 (Nat.mul_le_mul_right _ hAb)) t h
      omega
    · have : qN cs (at_ t + 1) ≤ qN cs (at_ t) + 120 := by
        show qN cs (at_ t) + _ ≤ _
        omega
      omega
  have hdg : ∀ d ∈ ds, Dw m (B + 122) w d := fun d h => by
    rw [hd] at h
    obtain ⟨t, h1, rfl⟩ := List.mem_map.mp h
    obtain ⟨a1, a2, a3⟩ := ha t h1
    have := (hc _ (cd_mem a1)).add (Y := 122) (y := t - qN cs (at_ t)) (by have := small t h1; omega)
    rw [show cd cs (at_ t) + (t : Nat) - (qN cs (at_ t) : Nat) = cd cs (at_ t) + ((t - qN cs (at_ t) : Nat) : Int) by omega]
    exact this
  refine ⟨?_, hdg, ?_, fun fs F => ?_⟩
  · rw [hd, List.pairwise_map]
    refine (asc_pairwise.mp (turnsOf_asc _)).imp_of_mem fun {t u} h1 h2 hlt => ?_
    obtain ⟨a1, a2, a3⟩ := ha t h1
    obtain ⟨b1, b2, b3⟩ := ha u h2
    have hle : at_ t ≤ at_ u := by
      apply Nat.le_of_not_lt
      intro hc
      have := qm (i := at_ u + 1) (j := at_ t) (by omega) a1
      omega
    by_cases e : at_ t = at_ u
    · rw [e]
      omega
    · have h3 := qN_step hs (k := at_ t) (by omega)
      have h4 := cd_le hs (i := at_ t + 1) (j := at_ u) (by omega) b1
      omega
  · rw [hd, List.length_map, ← Ab_ix cs]
    exact tau_Sm _
  · have N := near_codes F hs (fun c h => (hc c h).dg) hm hm4 (by omega)
    have e1 : Phis fs ds = turnsOf (Sm (ixT cs ts) fun k => (Phi fs (cd cs k)).toNat) := by
      rw [near_turns N hix hAb ha, hd]
      unfold Phis
      rw [List.map_map]
      refine List.map_congr_left fun t h => ?_
      obtain ⟨a1, a2, a3⟩ := ha t h
      have d1 := hc _ (cd_mem a1)
      have h1 := Phi_step F (y := t - qN cs (at_ t)) d1.dg hm (by have := small t h; omega)
      have h2 := Phi_nonneg F hm4 (d1.code (by omega))
      have h3 := N.le a1
      show (Phi fs (cd cs (at_ t) + (t : Nat) - (qN cs (at_ t) : Nat))).toNat = t + ((Phi fs (cd cs (at_ t))).toNat - qN cs (at_ t))
      rw [show cd cs (at_ t) + (t : Nat) - (qN cs (at_ t) : Nat) = cd cs (at_ t) + ((t - qN cs (at_ t) : Nat) : Int) by omega, h1]
      omega
    rw [e1, turnsOf_tv, Sm_ix]
    congr 1
    refine List.map_congr_left fun t h => ?_
    rw [(cd_ix (ht t h)).2]
end FD
set_option Elab.async false
set_option linter.all false
set_option maxRecDepth 100000
/-! what the program's functions of forms compute (plain mathematics) -/
namespace PM
open PySem TV FM DX FB FC HX L2
/-! ### equality of forms -/
mutual
theorem eqv_fm : ∀ {d e : PyData}, Fm d → Fm e → PyData.eqv d e = true → d = e
  | .int i, .int j, _, _, h => by
    simp only [PyData.eqv, beq_iff_eq] at h
    rw [h]
  | .int i, .tuple es, _, _, h => by simp [PyData.eqv] at h
  | .tuple ds, .int j, _, _, h => by simp [PyData.eqv] at h
  | .tuple ds, .tuple es, f, g, h => by
    rw [fm_tuple] at f g
    simp only [PyData.eqv] at h
    rw [eqvAll_fm f.1 g.1 h]
  | .none, _, f, _, _ => by simp [Fm] at f
  | .bool _, _, f, _, _ => by simp [Fm] at f
  | .str _, _, f, _, _ => by simp [Fm] at f
  | .list _, _, f, _, _ => by simp [Fm] at f
  | .dict _, _, f, _, _ => by simp [Fm] at f
  | .int _, .none, _, g, _ => by simp [Fm] at g
  | .int _, .bool _, _, g, _ => by simp [Fm] at g
  | .int _, .str _, _, g, _ => by simp [Fm] at g
  | .int _, .list _, _, g, _ => by simp [Fm] at g
  | .int _, .dict _, _, g, _ => by simp [Fm] at g
  | .tuple _, .none, _, g, _ => by simp [Fm] at g
  | .tuple _, .bool _, _, g, _ => by simp [Fm] at g
  | .tuple _, .str _, _, g, _ => by simp [Fm] at g
  | .tuple _, .list _, _, g, _ => by simp [Fm] at g
  | .tuple _, .dict _, _, g, _ => by simp [Fm] at g
theorem eqvAll_fm : ∀ {ds es : List PyData}, FmAll ds → FmAll es → PyData.eqvAll ds es = true → ds = es
  | [], [], _, _, _ => rfl
  | [], e :: r, _, _, h => by simp [PyData.eqvAll] at h
  | d :: r, [], _, _, h => by simp [PyData.eqvAll] at h
  | d :: r, e :: q, f, g, h => by
    rw [fmAll_cons] at f g
    simp only [PyData.eqvAll, Bool.and_eq_true] at h
    rw [eqv_fm f.1 g.1 h.1, eqvAll_fm f.2.2 g.2.2 h.2]
end
theorem eqv_val {d e : PyData} (f : Fm d) (g : Fm e) : PyData.eqv d e = decide (val d = val e) := by
  by_cases h : val d = val e
  · rw [decide_eq_true h, fm_inj f g h]
    exact SeqAt.eqv_refl _ (fm_lay g)
  · rw [decide_eq_false h]
    cases q : PyData.eqv d e with
    | false => rfl
    | true => exact absurd (by rw [eqv_fm f g q]) h
theorem eqv_self {d : PyData} (f : Fm d) : PyData.eqv d d = true := by rw [eqv_val f f, decide_eq_true rfl]
/-! ### forms as texts -/
mutual
theorem rp_fm : ∀ {d : PyData}, Fm d → d.showable = true ∧ d.hasDict = false ∧ d.shown.length + 2 ≤ 25 * wt d
  | .int i, f => by
    rw [fm_int] at f
    have h := Rp.int (i := i) (by omega)
    rw [wt_int]
    exact ⟨h.sh, h.nd, by have := h.ln; omega⟩
  | .tuple ds, f => by
    rw [fm_tuple] at f
    obtain ⟨h1, h2, h3⟩ := rpAll_fm f.1
    have h := Rp.tup (n := 25 * wtAll ds) (k := PyData.depthAll ds) ⟨h1, h2, Nat.le_refl _, h3⟩
    rw [wt_tuple]
    exact ⟨h.sh, h.nd, by have := h.ln; omega⟩
  | .none, f => by simp [Fm] at f
  | .bool _, f => by simp [Fm] at f
  | .str _, f => by simp [Fm] at f
  | .list _, f => by simp [Fm] at f
  | .dict _, f => by simp [Fm] at f
theorem rpAll_fm : ∀ {ds : List PyData}, FmAll ds → PyData.showableAll ds = true ∧ PyData.hasDictAll ds = false ∧ piled (PyData.shownAll ds) ≤ 25 * wtAll ds
  | [], _ => ⟨by simp [PyData.showableAll], by simp [PyData.hasDictAll], by simp [PyData.shownAll, piled]⟩
  | d :: r, f => by
    rw [fmAll_cons] at f
    obtain ⟨a1, a2, a3⟩ := rp_fm f.1
    obtain ⟨b1, b2, b3⟩ := rpAll_fm f.2.2
    refine ⟨by simp [PyData.showableAll, a1, b1], by simp [PyData.hasDictAll, a2, b2], ?_⟩
    simp only [PyData.shownAll, piled_cons, wtAll_cons]
    omega
end
theorem rp_form {d : PyData} (f : Fm d) : Rp d (25 * wt d) d.depth := by
  obtain ⟨h1, h2, h3⟩ := rp_fm f
  exact ⟨h1, h2, Nat.le_refl _, by omega⟩
/-! ### order -/
def sg (a b : Int) : Int := if a < b then -1 else if b < a then 1 else 0
theorem sg_lt {a b : Int} (h : a < b) : sg a b = -1 := if_pos h
theorem sg_gt {a b : Int} (h : b < a) : sg a b = 1 := by
  unfold sg
  rw [if_neg (by omega), if_pos h]
theorem sg_eq {a b : Int} (h : a = b) : sg a b = 0 := by
  unfold sg
  rw [if_neg (by omega), if_neg (by omega)]
theorem top_lt {a b : List Nat} {x y : Nat} (ha : Asc (a ++ [x])) (hb : Asc (b ++ [y])) (hp : a.length % 2 = b.length % 2) (h : x < y) :
    (a.length % 2 = 1 → tv (a ++ [x]) < tv (b ++ [y])) ∧ (a.length % 2 = 0 → tv (b ++ [y]) < tv (a ++ [x])) := by
  have h1 := top_out hb h
  have h2 := (tv_range (k := x) ha).mp (fun t ht => by
    rcases List.mem_append.mp ht with ht | ht
    · exact Nat.le_of_lt ((asc_snoc.mp ha).2 t ht)
    · rw [List.mem_singleton.mp ht]
      exact Nat.le_refl _)
  constructor
  · intro e
    have := h1.1 (by omega)
    omega
  · intro e
    have := h1.2 (by omega)
    omega
theorem split_at {A : List Nat} {c x : Nat} (hc : c < A.length) (hx : A[A.length - 1 - c]? = some x) : A = (A.take (A.length - 1 - c) ++ [x]) ++ A.drop (A.length - c) := by
  have e : A.take (A.length - c) = A.take (A.length - 1 - c) ++ [x] := by
    have : A.length - c = (A.length - 1 - c) + 1 := by omega
    rw [this, List.take_add_one, hx]
    rfl
  rw [← e, List.take_append_drop]
theorem asc_app {a b : List Nat} (h : Asc (a ++ b)) : Asc a ∧ Asc b := by
  have := asc_pairwise.mp h
  rw [List.pairwise_append] at this
  exact ⟨asc_pairwise.mpr this.1, asc_pairwise.mpr this.2.1⟩
theorem ord_diff {A B : List Nat} {c x y : Nat} (hA : Asc A) (hB : Asc B) (h1 : c < A.length) (h2 : c < B.length) (hs : A.drop (A.length - c) = B.drop (B.length - c)) (hp : A.length % 2 = B.length % 2)
    (hx : A[A.length - 1 - c]? = some x) (hy : B[B.length - 1 - c]? = some y) (h : x < y) : ((A.length + c) % 2 = 0 → tv A < tv B) ∧ ((A.length + c) % 2 = 1 → tv B < tv A) := by
  have eA := split_at h1 hx
  have eB := split_at h2 hy
  have la : (A.take (A.length - 1 - c)).length = A.length - 1 - c := by rw [List.length_take]; omega
  have lb : (B.take (B.length - 1 - c)).length = B.length - 1 - c := by rw [List.length_take]; omega
  have hA' := hA
  have hB' := hB
  rw [eA] at hA'
  rw [eB] at hB'
  have q := top_lt (asc_app hA').1 (asc_app hB').1 (by omega) h
  have vA : tv A = tv (A.take (A.length - 1 - c) ++ [x]) + (if (A.take (A.length - 1 - c) ++ [x]).length % 2 = 0 then tv (A.drop (A.length - c)) else -tv (A.drop (A.length - c))) := by
    rw [← tv_append, ← eA]
  have vB : tv B = tv (B.take (B.length - 1 - c) ++ [y]) + (if (B.take (B.length - 1 - c) ++ [y]).length % 2 = 0 then tv (B.drop (B.length - c)) else -tv (B.drop (B.length - c))) := by
    rw [← tv_append, ← eB]
  rw [List.length_append, la, List.length_singleton] at vA
  rw [List.length_append, lb, List.length_singleton, ← hs] at vB
  have hpp : (A.length - 1 - c + 1) % 2 = (B.length - 1 - c + 1) % 2 := by omega
  rw [← hpp] at vB
  rw [la] at q
  constructor
  · intro e
    have := q.1 (by omega)
    omega
  · intro e
    have := q.2 (by omega)
    omega
theorem ord_short {A B : List Nat} (hA : Asc A) (hB : Asc B) (h : A.length < B.length) (hs : A = B.drop (B.length - A.length)) (hp : A.length % 2 = B.length % 2) : tv A < tv B := by
  have e : B = B.take (B.length - A.length) ++ A := by
    conv => lhs; rw [← List.take_append_drop (B.length - A.length) B]
    rw [← hs]
  have hl : (B.take (B.length - A.length)).length = B.length - A.length := by rw [List.length_take]; omega
  have v : tv B = tv (B.take (B.length - A.length)) + (if (B.take (B.length - A.length)).length % 2 = 0 then tv A else -tv A) := by
    rw [← tv_append, ← e]
  have hB' := hB
  rw [e] at hB'
  have := even_pos (asc_app hB').1 (by intro z; rw [z] at hl; simp at hl; omega) (by omega)
  rw [hl, if_pos (by omega)] at v
  omega
/-! ### rows: places with two marks -/
abbrev Row := PyData × Bool × Bool
def bi (b : Bool) : Int := if b then 1 else 0
def bn (b : Bool) : Nat := if b then 1 else 0
theorem bi_bn (b : Bool) : bi b = (bn b : Nat) := by cases b <;> rfl
def vl (d : PyData) : Nat := (val d).toNat
def rowD (r : Row) : PyData := .tuple [r.1, .int (bi r.2.1), .int (bi r.2.2)]
def pA (R : List Row) : List PyData := (R.filter (·.2.1)).map (·.1)
def pB (R : List Row) : List PyData := (R.filter (·.2.2)).map (·.1)
def pR (R : List Row) : List PyData := R.map (·.1)
structure Mg (A B : List PyData) (R : List Row) : Prop where
  a : pA R = A
  b : pB R = B
  fm : FmAll (pR R)
  asc : Asc (vals (pR R))
  wt : wtAll (pR R) ≤ wtAll A + wtAll B
  mem : ∀ p ∈ pR R, p ∈ A ∨ p ∈ B
theorem vals_map (ds : List PyData) : vals ds = ds.map vl := by
  induction ds with
  | nil => simp [vals]
  | cons d r ih => rw [vals_cons, ih]; rfl
theorem pR_app (R S : List Row) : pR (R ++ S) = pR R ++ pR S := by simp [pR]
theorem pA_app (R S : List Row) : pA (R ++ S) = pA R ++ pA S := by simp [pA]
theorem pB_app (R S : List Row) : pB (R ++ S) = pB R ++ pB S := by simp [pB]
/-- one more row -/
theorem Mg.snoc {A B : List PyData} {R : List Row} (h : Mg A B R) {p : PyData} {m n : Bool} (hmn : (m || n) = true) (f : Fm p) (h0 : 0 ≤ val p) (hlt : ∀ r ∈ R, vl r.1 < vl p) :
    Mg (if m then A ++ [p] else A) (if n then B ++ [p] else B) (R ++ [(p, m, n)]) := by
  refine ⟨?_, ?_, ?_, ?_, ?_, ?_⟩
  · rw [pA_app, h.a]
    cases m <;> simp [pA]
  · rw [pB_app, h.b]
    cases n <;> simp [pB]
  · rw [pR_app, fmAll_app]
    refine ⟨h.fm, ?_⟩
    show FmAll [p]
    rw [fmAll_cons]
    exact ⟨f, h0, fmAll_nil⟩
  · rw [pR_app, vals_app]
    show Asc (vals (pR R) ++ vals [p])
    rw [vals_cons, vals_nil, asc_snoc]
    refine ⟨h.asc, fun x hx => ?_⟩
    rw [vals_map] at hx
    obtain ⟨d, hd, rfl⟩ := List.mem_map.mp hx
    obtain ⟨r, hr, rfl⟩ := List.mem_map.mp hd
    exact hlt r hr
  · have hw := h.wt
    rw [pR_app, wtAll_app]
    show wtAll (pR R) + wtAll [p] ≤ _
    rw [wtAll_cons, wtAll_nil]
    cases m <;> cases n <;> simp [wtAll_app, wtAll_cons, wtAll_nil] at hmn ⊢ <;> omega
  · intro x hx
    rw [pR_app] at hx
    rcases List.mem_append.mp hx with hx | hx
    · rcases h.mem x hx with z | z
      · left
        cases m <;> simp [z]
      · right
        cases n <;> simp [z]
    · have hx : x = p := List.mem_singleton.mp hx
      subst hx
      cases m <;> cases n <;> simp at hmn ⊢
/-! ### combined -/
def comb (f : Bool → Bool → Bool) : Bool → Bool → Bool → List Row → List PyData
  | _, _, _, [] => []
  | o, t, b, (p, m, n) :: R => if f (o ^^ m) (t ^^ n) = b then comb f (o ^^ m) (t ^^ n) b R else p :: comb f (o ^^ m) (t ^^ n) (f (o ^^ m) (t ^^ n)) R
def par (n : Nat) : Bool := decide (n % 2 = 1)
theorem par_zero : par 0 = false := rfl
theorem par_succ (n : Nat) : par (n + 1) = !par n := by
  unfold par
  by_cases h : n % 2 = 1
  · rw [decide_eq_true h, decide_eq_false (by omega)]
    rfl
  · rw [decide_eq_false h, decide_eq_true (by omega)]
    rfl
theorem cnt_big {ds : List PyData} {q p : Nat} (h : ∀ x ∈ vals ds, p < x) (hq : q ≤ p) : cnt (vals ds) q = 0 := cnt_zero fun t ht => by have := h t ht; omega
theorem comb_sub (f : Bool → Bool → Bool) : ∀ (R : List Row) (o t b : Bool), (comb f o t b R).Sublist (pR R)
  | [], _, _, _ => .slnil
  | (p, m, n) :: R, o, t, b => by
    unfold comb
    split
    · exact .cons _ (comb_sub f R _ _ _)
    · exact .cons_cons _ (comb_sub f R _ _ _)
theorem pA_sub (R : List Row) : (pA R).Sublist (pR R) := (List.filter_sublist (l := R)).map _
theorem pB_sub (R : List Row) : (pB R).Sublist (pR R) := (List.filter_sublist (l := R)).map _
theorem vals_sub {ds es : List PyData} (h : ds.Sublist es) : (vals ds).Sublist (vals es) := by
  rw [vals_map, vals_map]
  exact h.map _
theorem asc_sub {a b : List Nat} (h : a.Sublist b) (hb : Asc b) : Asc a := asc_pairwise.mpr ((asc_pairwise.mp hb).sublist h)
theorem fmAll_sub {ds es : List PyData} (h : ds.Sublist es) (f : FmAll es) : FmAll ds := by
  induction h with
  | slnil => exact fmAll_nil
  | cons a _ ih => exact ih ((fmAll_cons _ _).mp f).2.2
  | cons_cons a _ ih =>
    rw [fmAll_cons] at f ⊢
    exact ⟨f.1, f.2.1, ih f.2.2⟩
theorem comb_par (f : Bool → Bool → Bool) : ∀ (R : List Row) (o t b : Bool), Asc (vals (pR R)) → f o t = b → ∀ q,
    (b ^^ par (cnt (vals (comb f o t b R)) q)) = f (o ^^ par (cnt (vals (pA R)) q)) (t ^^ par (cnt (vals (pB R)) q))
  | [], o, t, b, _, h, q => by
    simp [comb, pA, pB, vals, cnt, par, h]
  | (p, m, n) :: R, o, t, b, hA, h, q => by
    have hA1 : Asc (vl p :: vals (pR R)) := by
      have : vals (pR ((p, m, n) :: R)) = vl p :: vals (pR R) := by show vals (p :: pR R) = _; rw [vals_cons]; rfl
      rw [this] at hA
      exact hA
    have hlt := Asc.lt hA1
    by_cases hq : vl p ≤ q
    · have ea : par (cnt (vals (pA ((p, m, n) :: R))) q) = (m ^^ par (cnt (vals (pA R)) q)) := by
        cases m
        · simp [pA]
        · show par (cnt (vals (p :: pA R)) q) = _
          rw [vals_cons, cnt_cons]
          show par (_ + if vl p ≤ q then 1 else 0) = _
          rw [if_pos hq, par_succ]
          simp
      have eb : par (cnt (vals (pB ((p, m, n) :: R))) q) = (n ^^ par (cnt (vals (pB R)) q)) := by
        cases n
        · simp [pB]
        · show par (cnt (vals (p :: pB R)) q) = _
          rw [vals_cons, cnt_cons]
          show par (_ + if vl p ≤ q then 1 else 0) = _
          rw [if_pos hq, par_succ]
          simp
      rw [ea, eb, ← Bool.xor_assoc, ← Bool.xor_assoc]
      unfold comb
      split
      · rename_i e
        exact comb_par f R _ _ _ hA1.tail e q
      · rename_i e
        rw [← comb_par f R _ _ _ hA1.tail rfl q, vals_cons, cnt_cons]
        show (b ^^ par (_ + if vl p ≤ q then 1 else 0)) = _
        rw [if_pos hq, par_succ]
        generalize f (o ^^ m) (t ^^ n) = z at *
        generalize par _ = y
        revert e
        cases z <;> cases b <;> cases y <;> decide
    · have big : ∀ {ds : List PyData}, ds.Sublist (pR ((p, m, n) :: R)) → par (cnt (vals ds) q) = false := fun {ds} hs => by
        rw [cnt_zero fun x hx => ?_]
        · rfl
        · have hx' := (vals_sub hs).subset hx
          have : vals (pR ((p, m, n) :: R)) = vl p :: vals (pR R) := by show vals (p :: pR R) = _; rw [vals_cons]; rfl
          rw [this] at hx'
          rcases List.mem_cons.mp hx' with rfl | hx'
          · omega
          · have := hlt x hx'
            omega
      rw [big (comb_sub f _ _ _ _), big (pA_sub _), big (pB_sub _)]
      simp [h]
theorem tb_par {ts : List Nat} (h : Asc ts) (p : Nat) : tb (tv ts) p = par (cnt ts p) := tb_tv p h
theorem comb_tb {f : Bool → Bool → Bool} {A B : List PyData} {R : List Row} (M : Mg A B R) (h : f false false = false) (q : Nat) :
    tb (tv (vals (comb f false false false R))) q = f (tb (tv (vals A)) q) (tb (tv (vals B)) q) := by
  have hA : Asc (vals A) := by rw [← M.a]; exact asc_sub (vals_sub (pA_sub R)) M.asc
  have hB : Asc (vals B) := by rw [← M.b]; exact asc_sub (vals_sub (pB_sub R)) M.asc
  rw [tb_par (asc_sub (vals_sub (comb_sub f R _ _ _)) M.asc), tb_par hA, tb_par hB, ← M.a, ← M.b]
  have := comb_par f R false false false M.asc h q
  simpa using this
end PM
set_option Elab.async false
set_option linter.all false
set_option maxRecDepth 100000
/-! sums, neighbours (plain mathematics) -/
namespace PM
open PySem TV FM DX FB FC HX L2
theorem mul_pm (s P : Int) (h : s = 0 ∨ s = 1 ∨ s = -1) : s * P = if s = 0 then 0 else if s = 1 then P else -P := by
  rcases h with rfl | rfl | rfl
  · simp
  · simp
  · rw [if_neg (by decide), if_neg (by decide)]
    omega
/-- a sequence of turns and one more place -/
theorem tv_snoc_d (ds : List PyData) (p : PyData) : tv (vals (ds ++ [p])) = tv (vals ds) + (2 * ((ds.length % 2 : Nat) : Int) - 1) * 2 ^ vl p := by
  rw [vals_app, vals_cons, vals_nil, tv_snoc, vals_len]
  show _ + (if _ then -(2 ^ vl p) else 2 ^ vl p) = _
  by_cases h : ds.length % 2 = 0
  · rw [if_pos h, h]
    simp
  · have h1 : ds.length % 2 = 1 := by omega
    rw [if_neg h, h1]
    simp
theorem fmAll_snoc {ds : List PyData} {p : PyData} (f : FmAll ds) (g : Fm p) (h : 0 ≤ val p) : FmAll (ds ++ [p]) := by
  rw [fmAll_app, fmAll_cons]
  exact ⟨f, g, h, fmAll_nil⟩
theorem asc_snoc_d {ds : List PyData} {p : PyData} (f : Asc (vals ds)) (h : ∀ x ∈ vals ds, x < vl p) : Asc (vals (ds ++ [p])) := by
  rw [vals_app, vals_cons, vals_nil, asc_snoc]
  exact ⟨f, h⟩
/-- the next place, if there is one -/
def nxt (R : List Row) (i : Nat) : Nat := match R[i]? with
  | some r => vl r.1
  | none => 0
/-- the state of a sum ahead of row i -/
structure Ad (R : List Row) (i : Nat) (c0 : Int) (F : List PyData) (o t c b : Nat) : Prop where
  fm : FmAll F
  asc : Asc (vals F)
  lt : ∀ f ∈ vals F, ∀ r, R[i]? = some r → f < vl r.1
  pb : F.length % 2 = b
  po : (pA (R.take i)).length % 2 = o
  pt : (pB (R.take i)).length % 2 = t
  hc : c ≤ 1
  eq : ∃ r : Int, (o : Int) + t = r + c ∧ (r = b ∨ i < R.length) ∧ tv (vals F) = tv (vals (pA (R.take i))) + tv (vals (pB (R.take i))) + c0 + (r - b) * 2 ^ nxt R i
  ln : F.length ≤ 2 * i
theorem Ad.start {R : List Row} {c0 : Nat} (h1 : c0 ≤ 1) (h : c0 = 1 → nxt R 0 = 0 ∧ 0 < R.length) : Ad R 0 c0 [] 0 0 c0 0 := by
  refine ⟨fmAll_nil, by rw [vals_nil]; trivial, by simp [vals], rfl, rfl, rfl, h1, ⟨-(c0 : Int), by omega, ?_, ?_⟩, by simp⟩
  · by_cases e : c0 = 1
    · exact .inr (h e).2
    · exact .inl (by omega)
  · show tv (vals []) = tv (vals []) + tv (vals []) + c0 + (-(c0 : Int) - (0 : Nat)) * 2 ^ nxt R 0
    rw [vals_nil, tv_nil]
    by_cases e : c0 = 1
    · rw [(h e).1, e]
      decide
    · have : c0 = 0 := by omega
      rw [this]
      simp
theorem pA_take {R : List Row} {i : Nat} {p : PyData} {m n : Bool} (h : R[i]? = some (p, m, n)) : pA (R.take (i + 1)) = pA (R.take i) ++ (if m then [p] else []) := by
  rw [List.take_add_one, h, pA_app]
  cases m <;> simp [pA]
theorem pB_take {R : List Row} {i : Nat} {p : PyData} {m n : Bool} (h : R[i]? = some (p, m, n)) : pB (R.take (i + 1)) = pB (R.take i) ++ (if n then [p] else []) := by
  rw [List.take_add_one, h, pB_app]
  cases n <;> simp [pB]
/-- a turn more: the length's bit and the value -/
theorem turn_more (ds : List PyData) (p : PyData) (m : Bool) : (ds ++ (if m then [p] else [])).length % 2 = (ds.length % 2 + bn m) % 2 ∧
    tv (vals (ds ++ (if m then [p] else []))) = tv (vals ds) + (((ds.length % 2 : Nat) : Int) - (((ds.length % 2 + bn m) % 2 : Nat) : Int)) * 2 ^ vl p := by
  cases m
  · simp [bn]
  · refine ⟨by simp [bn], ?_⟩
    show tv (vals (ds ++ [p])) = _
    rw [tv_snoc_d]
    have : ds.length % 2 = 0 ∨ ds.length % 2 = 1 := by omega
    rcases this with e | e <;> rw [e] <;> simp [bn]
theorem nxt_some {R : List Row} {i : Nat} {r : Row} (h : R[i]? = some r) : nxt R i = vl r.1 := by
  unfold nxt
  rw [h]
/-- the numbers of one step -/
theorem add_nums {o t c o' t' h c' r' : Nat} (h1 : o' ≤ 1) (h2 : t' ≤ 1) (h3 : c ≤ 1) (e1 : h = (o' + t' + c) % 2) (e2 : c' = (o' + t' + c) / 2) (e3 : r' = (o' + t' + c') % 2) : (o' : Int) + t' = r' + c' ∧ (h : Int) = r' + c - c' ∧ c' ≤ 1 ∧ h ≤ 1 ∧ r' ≤ 1 := by
  omega
/-- row i is taken: here the bit at its place, rest the one behind it -/
theorem Ad.step {R : List Row} {i : Nat} {c0 : Int} {F : List PyData} {o t c b : Nat} (S : Ad R i c0 F o t c b) (hA : Asc (vals (pR R))) (hF : FmAll (pR R)) {p : PyData} {m n : Bool} (hr : R[i]? = some (p, m, n))
    {o' t' h c' r' : Nat} (eo : o' = (o + bn m) % 2) (et : t' = (t + bn n) % 2) (e1 : h = (o' + t' + c) % 2) (e2 : c' = (o' + t' + c) / 2) (e3 : r' = (o' + t' + c') % 2)
    {F1 : List PyData} (hF1 : F1 = if h = b then F else F ++ [p]) :
    (r' = h → Ad R (i + 1) c0 F1 o' t' c' h) ∧
    (r' ≠ h → ∀ f, Fm f → val f = val p + 1 → (i + 1 = R.length ∨ ∃ s, R[i + 1]? = some s ∧ vl s.1 ≠ vl f) → Ad R (i + 1) c0 (F1 ++ [f]) o' t' c' r') ∧
    (r' ≠ h → (∃ s, R[i + 1]? = some s ∧ vl s.1 = vl p + 1) → Ad R (i + 1) c0 F1 o' t' c' h) := by
  obtain ⟨hc, hcc, hc1, hh1, hr1⟩ := add_nums (o := o) (t := t) (c := c) (o' := o') (t' := t') (h := h) (c' := c') (r' := r') (by omega) (by omega) S.hc e1 e2 e3
  obtain ⟨r, q1, q2, q3⟩ := S.eq
  have hpm : p ∈ pR R := List.mem_map.mpr ⟨_, List.mem_of_getElem? hr, rfl⟩
  obtain ⟨fp, p0⟩ := fmAll_mem hF p hpm
  have ta := turn_more (pA (R.take i)) p m
  have tb' := turn_more (pB (R.take i)) p n
  rw [← pA_take hr, S.po, ← eo] at ta
  rw [← pB_take hr, S.pt, ← et] at tb'
  rw [nxt_some hr] at q3
  have ltp : ∀ x ∈ vals F, x < vl p := fun x hx => S.lt x hx _ hr
  -- F1
  have f1 : FmAll F1 := by
    rw [hF1]
    split
    · exact S.fm
    · exact fmAll_snoc S.fm fp p0
  have a1 : Asc (vals F1) := by
    rw [hF1]
    split
    · exact S.asc
    · exact asc_snoc_d S.asc ltp
  have l1 : ∀ x ∈ vals F1, x ≤ vl p := by
    rw [hF1]
    split
    · exact fun x hx => Nat.le_of_lt (ltp x hx)
    · intro x hx
      rw [vals_app, vals_cons, vals_nil] at hx
      rcases List.mem_append.mp hx with hx | hx
      · exact Nat.le_of_lt (ltp x hx)
      · exact Nat.le_of_eq (List.mem_singleton.mp hx)
  have p1 : F1.length % 2 = h := by
    rw [hF1]
    have := S.pb
    split
    · omega
    · rw [List.length_append, List.length_singleton]
      omega
  have n1 : F1.length ≤ 2 * i + 1 := by
    rw [hF1]
    have := S.ln
    split
    · omega
    · rw [List.length_append, List.length_singleton]
      omega
  have v1 : tv (vals F1) = tv (vals F) + ((b : Int) - h) * 2 ^ vl p := by
    rw [hF1]
    by_cases e : h = b
    · rw [if_pos e, e]
      simp
    · rw [if_neg e, tv_snoc_d, S.pb]
      have : (2 * ((b : Nat) : Int) - 1) = (b : Int) - h := by
        have := S.pb
        omega
      rw [this]
  have hasc : ∀ s, R[i + 1]? = some s → vl p < vl s.1 := fun s hs => by
    have := asc_pairwise.mp hA
    rw [vals_map, pR, List.map_map, List.pairwise_iff_getElem] at this
    obtain ⟨x1, x2⟩ := List.getElem?_eq_some_iff.mp hr
    obtain ⟨y1, y2⟩ := List.getElem?_eq_some_iff.mp hs
    have z := this i (i + 1) (by simpa using x1) (by simpa using y1) (by omega)
    simp only [List.getElem_map, Function.comp, x2, y2] at z
    exact z
  -- the value, with rest times what is open behind
  have main : tv (vals F1) = tv (vals (pA (R.take (i + 1)))) + tv (vals (pB (R.take (i + 1)))) + c0 + ((r' : Int) - h) * 2 ^ (vl p + 1) := by
    rw [v1, q3, ta.2, tb'.2, Int.pow_succ]
    generalize (2 : Int) ^ vl p = P
    generalize tv (vals (pA (R.take i))) = a
    generalize tv (vals (pB (R.take i))) = d
    have e5 : ((r : Int) - b) + (b - h) = ((o : Int) - o') + (t - t') + ((r' : Int) - h) * 2 := by omega
    have e6 : ((r : Int) - b) * P + (b - h) * P = ((o : Int) - o') * P + (t - t') * P + ((r' : Int) - h) * (P * 2) := by
      rw [← Int.add_mul, e5, Int.add_mul, Int.add_mul, Int.mul_assoc, Int.mul_comm 2 P]
    omega
  refine ⟨fun e => ?_, fun e f ff vf hn => ?_, fun e hn => ?_⟩
  · refine ⟨f1, a1, fun x hx s hs => Nat.lt_of_le_of_lt (l1 x hx) (hasc s hs), p1, ta.1, tb'.1, hc1, ⟨(r' : Int), hc, .inl (by rw [e]), ?_⟩, by omega⟩
    rw [main, e]
    simp
  · have vf' : vl f = vl p + 1 := by
      clear hn
      unfold vl
      omega
    have k1 : (F1 ++ [f]).length % 2 = r' := by
      clear hn
      rw [List.length_append, List.length_singleton]
      omega
    have k2 : (F1 ++ [f]).length ≤ 2 * (i + 1) := by
      clear hn
      rw [List.length_append, List.length_singleton]
      omega
    have k3 : 0 ≤ val f := by
      clear hn
      omega
    have k4 : ∀ x ∈ vals F1, x < vl f := fun x hx => by
      clear hn
      have := l1 x hx
      omega
    refine ⟨fmAll_snoc f1 ff k3, asc_snoc_d a1 k4, fun x hx s hs => ?_, k1, ta.1, tb'.1, hc1, ⟨(r' : Int), hc, .inl rfl, ?_⟩, k2⟩
    · have h1 := hasc s hs
      have h2 : vl s.1 ≠ vl f := by
        rcases hn with hn | ⟨s', hs', hne⟩
        · rw [List.getElem?_eq_none (by omega)] at hs
          cases hs
        · rw [hs] at hs'
          cases hs'
          exact hne
      clear hn
      rw [vals_app, vals_cons, vals_nil] at hx
      rcases List.mem_append.mp hx with hx | hx
      · have := l1 x hx
        omega
      · have : x = vl f := List.mem_singleton.mp hx
        omega
    · clear hn
      rw [tv_snoc_d, p1, main, vf']
      have : (2 * ((h : Nat) : Int) - 1) = (h : Int) - r' := by omega
      rw [this]
      generalize (2 : Int) ^ (vl p + 1) = P
      have : ((r' : Int) - h) * P + (h - r') * P = 0 := by
        rw [← Int.add_mul]
        have : ((r' : Int) - h) + (h - r') = 0 := by omega
        rw [this, Int.zero_mul]
      simp
      omega
  · obtain ⟨s, hs, vs⟩ := hn
    refine ⟨f1, a1, fun x hx s' hs' => Nat.lt_of_le_of_lt (l1 x hx) (hasc s' hs'), p1, ta.1, tb'.1, hc1, ⟨(r' : Int), hc, .inr (List.getElem?_eq_some_iff.mp hs).1, ?_⟩, by omega⟩
    rw [main, nxt_some hs, vs]
theorem Ad.done {R : List Row} {c0 : Int} {F : List PyData} {o t c b : Nat} (S : Ad R R.length c0 F o t c b) : tv (vals F) = tv (vals (pA R)) + tv (vals (pB R)) + c0 := by
  obtain ⟨r, _, q2, q3⟩ := S.eq
  rcases q2 with e | e
  · rw [q3, e, List.take_of_length_le (Nat.le_refl _)]
    simp
  · omega
/-! ### one place put in or taken out -/
structure Tog (A : List PyData) (p : PyData) (B : List PyData) : Prop where
  ex : ∃ L S : List PyData, A = L ++ S ∧ (∀ x ∈ L, vl x < vl p) ∧ ((∃ S', S = p :: S' ∧ B = L ++ S') ∨ ((∀ x ∈ S, vl p < vl x) ∧ B = L ++ p :: S))
theorem Tog.row {A B : List PyData} {p : PyData} (h : Tog A p B) (fA : FmAll A) (hA : Asc (vals A)) (f : Fm p) (h0 : 0 ≤ val p) : FmAll B ∧ Asc (vals B) := by
  obtain ⟨L, S, rfl, h1, h2⟩ := h.ex
  rw [fmAll_app] at fA
  rw [vals_app] at hA
  obtain ⟨a1, a2⟩ := asc_app hA
  have a3 := asc_pairwise.mp hA
  rw [List.pairwise_append] at a3
  rcases h2 with ⟨S', rfl, rfl⟩ | ⟨h3, rfl⟩
  · rw [fmAll_app, vals_app]
    rw [fmAll_cons] at fA
    refine ⟨⟨fA.1, fA.2.2.2⟩, asc_pairwise.mpr (List.pairwise_append.mpr ⟨asc_pairwise.mp a1, ?_, fun x hx y hy => a3.2.2 x hx y ?_⟩)⟩
    · rw [vals_cons] at a2
      exact asc_pairwise.mp a2.tail
    · rw [vals_cons]
      exact List.mem_cons_of_mem _ hy
  · rw [fmAll_app, fmAll_cons, vals_app, vals_cons]
    have lv : ∀ x ∈ vals L, x < vl p := fun x hx => by
      rw [vals_map] at hx
      obtain ⟨d, hd, rfl⟩ := List.mem_map.mp hx
      exact h1 d hd
    have sv : ∀ x ∈ vals S, vl p < x := fun x hx => by
      rw [vals_map] at hx
      obtain ⟨d, hd, rfl⟩ := List.mem_map.mp hx
      exact h3 d hd
    refine ⟨⟨fA.1, f, h0, fA.2⟩, asc_pairwise.mpr (List.pairwise_append.mpr ⟨asc_pairwise.mp a1, asc_pairwise.mp (asc_cons sv a2), fun x hx y hy => ?_⟩)⟩
    rcases List.mem_cons.mp hy with rfl | hy
    · exact lv x hx
    · exact a3.2.2 x hx y hy
theorem Tog.len {A B : List PyData} {p : PyData} (h : Tog A p B) : B.length ≤ A.length + 1 := by
  obtain ⟨L, S, rfl, h1, h2⟩ := h.ex
  rcases h2 with ⟨S', rfl, rfl⟩ | ⟨h3, rfl⟩ <;> simp only [List.length_append, List.length_cons] <;> omega
theorem Tog.wt {A B : List PyData} {p : PyData} (h : Tog A p B) : wtAll B ≤ wtAll A + wt p := by
  obtain ⟨L, S, rfl, h1, h2⟩ := h.ex
  rcases h2 with ⟨S', rfl, rfl⟩ | ⟨h3, rfl⟩ <;> simp only [wtAll_app, wtAll_cons] <;> omega
theorem Tog.mem {A B : List PyData} {p : PyData} (h : Tog A p B) : ∀ x ∈ B, x ∈ A ∨ x = p := by
  obtain ⟨L, S, rfl, h1, h2⟩ := h.ex
  rcases h2 with ⟨S', rfl, rfl⟩ | ⟨h3, rfl⟩
  · intro x hx
    simp only [List.mem_append, List.mem_cons] at hx ⊢
    rcases hx with hx | hx
    · exact .inl (.inl hx)
    · exact .inl (.inr (.inr hx))
  · intro x hx
    simp only [List.mem_append, List.mem_cons] at hx ⊢
    rcases hx with hx | hx | hx
    · exact .inl (.inl hx)
    · exact .inr hx
    · exact .inl (.inr hx)
/-- x + 1 where bit 0 is 1: x has the turns 0, a, .. -/
theorem Tog.odd {a p : PyData} {r B : List PyData} (h : Tog (a :: r) p B) (hA : Asc (vals (a :: r))) (hp : vl p = vl a + 1) : tv (vals B) = 2 ^ vl a + tv (vals r) := by
  obtain ⟨L, S, e, h1, h2⟩ := h.ex
  have hlt : ∀ x ∈ r, vl a < vl x := fun x hx => by
    rw [vals_cons] at hA
    refine Asc.lt hA _ ?_
    rw [vals_map]
    exact List.mem_map.mpr ⟨x, hx, rfl⟩
  have hL : L = [a] ∧ S = r := by
    cases L with
    | nil =>
      rcases h2 with ⟨S', rfl, _⟩ | ⟨h3, _⟩
      · injection e with e1 e2
        subst e1
        omega
      · have e' : S = a :: r := e.symm
        have := h3 a (by rw [e']; simp)
        omega
    | cons l L =>
      injection e with e1 e2
      subst e1
      cases L with
      | nil => exact ⟨rfl, e2.symm⟩
      | cons l2 L =>
        have g1 := h1 l2 (by simp)
        have g2 := hlt l2 (by rw [e2]; simp)
        omega
  obtain ⟨rfl, rfl⟩ := hL
  have hv : ∀ d : PyData, ∀ l, tv (vals (d :: l)) = -(2 ^ vl d) - tv (vals l) := fun d l => by
    rw [vals_cons, tv_cons]
    rfl
  rcases h2 with ⟨S', rfl, rfl⟩ | ⟨h3, rfl⟩
  · show tv (vals (a :: S')) = _
    rw [hv, hv, hp, Int.pow_succ]
    omega
  · show tv (vals (a :: p :: S)) = _
    rw [hv, hv, hp, Int.pow_succ]
    omega
/-- x + 1 where bit 0 is 0 -/
theorem Tog.even {p : PyData} {A B : List PyData} (h : Tog A p B) (hp : vl p = 1) (h0 : ∀ x ∈ A, 0 < vl x) : tv (vals B) = -2 - tv (vals A) ∧ ∀ x ∈ B, 0 < vl x := by
  obtain ⟨L, S, rfl, h1, h2⟩ := h.ex
  have hL : L = [] := by
    cases L with
    | nil => rfl
    | cons l L =>
      have g1 := h1 l (by simp)
      have g2 := h0 l (by simp)
      omega
  subst hL
  have hv : ∀ d : PyData, ∀ l, tv (vals (d :: l)) = -(2 ^ vl d) - tv (vals l) := fun d l => by
    rw [vals_cons, tv_cons]
    rfl
  rcases h2 with ⟨S', rfl, rfl⟩ | ⟨h3, rfl⟩
  · simp only [List.nil_append] at *
    rw [hv, hp]
    refine ⟨?_, fun x hx => h0 x (by simp [hx])⟩
    have : (2 : Int) ^ 1 = 2 := by decide
    omega
  · simp only [List.nil_append] at *
    rw [hv, hp]
    refine ⟨?_, fun x hx => ?_⟩
    · have : (2 : Int) ^ 1 = 2 := by decide
      omega
    · rcases List.mem_cons.mp hx with rfl | hx
      · omega
      · exact h0 x hx
theorem tv_zero (l : List PyData) : tv (vals (.int 0 :: l)) = -1 - tv (vals l) := by
  rw [vals_cons, tv_cons, val_int]
  rfl
theorem asc_zero {l : List PyData} (h : Asc (vals l)) (h0 : ∀ x ∈ l, 0 < vl x) : Asc (vals (.int 0 :: l)) := by
  rw [vals_cons, val_int]
  refine asc_cons (fun b hb => ?_) h
  rw [vals_map] at hb
  obtain ⟨d, hd, rfl⟩ := List.mem_map.mp hb
  exact h0 d hd
theorem fmAll_zero {l : List PyData} (h : FmAll l) : FmAll (.int 0 :: l) := by
  rw [fmAll_cons, fm_int, val_int]
  exact ⟨by decide, by decide, h⟩
/-! ### bits -/
theorem tb_not (x : Int) (p : Nat) : tb (-x - 1) p = !tb x p := by
  unfold tb
  have hp : (0 : Int) < 2 ^ p := Int.pow_pos (by decide)
  have e : (-x - 1) / 2 ^ p = -(x / 2 ^ p) - 1 := by
    have h1 := Int.emod_nonneg x (Int.ne_of_gt hp)
    have h2 := Int.emod_lt_of_pos x hp
    have h3 := Int.mul_ediv_add_emod x (2 ^ p)
    generalize x / 2 ^ p = q at *
    generalize x % 2 ^ p = s at *
    have e1 : -x - 1 = (2 ^ p - 1 - s) + 2 ^ p * (-q - 1) := by
      rw [← h3, Int.mul_sub, Int.mul_neg]
      omega
    rw [e1, Int.add_mul_ediv_left _ _ (Int.ne_of_gt hp), Int.ediv_eq_zero_of_lt (by omega) (by omega)]
    omega
  rw [e]
  generalize x / 2 ^ p = q
  by_cases h : q % 2 = 1
  · rw [decide_eq_true h, decide_eq_false (by omega)]
    rfl
  · rw [decide_eq_false h, decide_eq_true (by omega)]
    rfl
end PM
namespace PM
open PySem TV FM DX FB FC HX L2
theorem tb_or (x y : Int) (p : Nat) : tb (Builtin.bitOr x y) p = (tb x p || tb y p) := by
  unfold Builtin.bitOr Builtin.bitNot
  rw [tb_not, tb_and, tb_not, tb_not]
  cases tb x p <;> cases tb y p <;> rfl
/-! ### forms: small facts -/
theorem fm_plain {d : PyData} (h : Fm d) (h1 : -(2 ^ 64) ≤ val d) (h2 : val d < 2 ^ 64) : d = .int (val d) := by
  cases d with
  | int i => rw [val_int]
  | tuple ds => exact absurd ⟨h1, h2⟩ (tuple_far h)
  | none => simp [Fm] at h
  | bool _ => simp [Fm] at h
  | str _ => simp [Fm] at h
  | list _ => simp [Fm] at h
  | dict _ => simp [Fm] at h
theorem fm_cases {d : PyData} (h : Fm d) : (∃ i, d = .int i) ∨ ∃ ds, d = .tuple ds := by
  cases d with
  | int i => exact .inl ⟨i, rfl⟩
  | tuple ds => exact .inr ⟨ds, rfl⟩
  | none => simp [Fm] at h
  | bool _ => simp [Fm] at h
  | str _ => simp [Fm] at h
  | list _ => simp [Fm] at h
  | dict _ => simp [Fm] at h
theorem ds_small : ∀ {ds : List PyData}, FmAll ds → (∀ t ∈ vals ds, t ≤ 64) → ds = iD (vals ds)
  | [], _, _ => by simp [vals, iD]
  | d :: r, f, h => by
    rw [fmAll_cons] at f
    rw [vals_cons] at h ⊢
    have h1 := h (val d).toNat (by simp)
    have h0 := f.2.1
    have e := fm_plain f.1 (by omega) (by omega)
    show d :: r = .int ((val d).toNat : Nat) :: iD (vals r)
    rw [← ds_small f.2.2 fun t ht => h t (by simp [ht])]
    congr 1
    rw [show (((val d).toNat : Nat) : Int) = val d by omega]
    exact e
theorem nv_of {K : PySem.W.Frag} {H : Hp} : ∀ {ts : List Nat} {vs : List V}, DpAll K H vs (iD ts) → vs = nv ts
  | [], _, h => by
    cases h
    rfl
  | t :: r, _, h => by
    cases h with
    | cons h1 h2 =>
      cases h1
      show _ = .int (t : Nat) :: nv r
      rw [nv_of h2]
theorem last_is {α : Type} {l : List α} (h : l ≠ []) : ∃ a r, l = r ++ [a] := ⟨l.getLast h, l.dropLast, (List.dropLast_concat_getLast h).symm⟩
theorem fm_ne {ds : List PyData} (h : Fm (.tuple ds)) : ds ≠ [] := by
  rintro rfl
  obtain ⟨t, ht, _⟩ := ((fm_tuple _).mp h).2.2
  rw [vals_nil] at ht
  simp at ht
theorem wt_pos (d : PyData) : 1 ≤ wt d := by
  cases d <;> simp [wt]
theorem len_wt : ∀ ds : List PyData, ds.length ≤ wtAll ds
  | [] => by simp [wtAll]
  | d :: r => by
    have := len_wt r
    have := wt_pos d
    rw [wtAll_cons, List.length_cons]
    omega
theorem wt_mem : ∀ {ds : List PyData} {e : PyData}, e ∈ ds → wt e ≤ wtAll ds
  | d :: r, e, h => by
    rw [wtAll_cons]
    rcases List.mem_cons.mp h with rfl | h
    · omega
    · have := wt_mem h
      omega
theorem dep_mem {ds : List PyData} {e : PyData} (h : e ∈ ds) : e.depth ≤ PyData.depthAll ds := depthAll_le.mp (Nat.le_refl _) e h
theorem val_neg {ds : List PyData} (h : Fm (.tuple ds)) : val (.tuple ds) < 0 ↔ ds.length % 2 = 1 := by
  obtain ⟨a, r, e⟩ := last_is (fm_ne h)
  have hA := ((fm_tuple _).mp h).2.1
  rw [val_tuple]
  have : vals ds = vals r ++ [vl a] := by rw [e, vals_app, vals_cons, vals_nil]; rfl
  rw [this] at hA ⊢
  rw [(tv_sign hA).1, vals_len, e]
  simp
  omega
theorem fm_last {ds : List PyData} {a : PyData} (h : Fm (.tuple (ds ++ [a]))) : 64 < vl a := by
  obtain ⟨f, hA, t, ht, h64⟩ := (fm_tuple _).mp h
  rw [vals_app, vals_cons, vals_nil] at hA ht
  have := (asc_snoc.mp hA).2
  rcases List.mem_append.mp ht with ht | ht
  · have := this t ht
    show 64 < (val a).toNat
    omega
  · rw [List.mem_singleton.mp ht] at h64
    exact h64
theorem dpAll_at {K : PySem.W.Frag} {H : Hp} {ds : List PyData} {us : List V} {i : Nat} {d : PyData} (h : DpAll K H us ds) (e : ds[i]? = some d) : ∃ v, us[i]? = some v ∧ Dp K H v d := by
  have hl := dpAll_len h
  have hi := (List.getElem?_eq_some_iff.mp e).1
  have h1 : us[i]? = some (us[i]'(by omega)) := by simp [show i < us.length by omega]
  obtain ⟨d', e', h2⟩ := dpAll_get h h1
  rw [e] at e'
  cases e'
  exact ⟨_, h1, h2⟩
theorem intBits_le {n : Int} {k : Nat} (h1 : -(2 ^ k) ≤ n) (h2 : n ≤ 2 ^ k) : Builtin.Int.intBits n ≤ k + 1 := by
  unfold Builtin.Int.intBits
  split
  · omega
  · rename_i hn
    have h0 : n.natAbs ≠ 0 := fun z => hn (by simpa using z)
    have h3 : ((2 ^ k : Nat) : Int) = (2 : Int) ^ k := by simp
    have : n.natAbs.log2 < k + 1 := by
      rw [Nat.log2_lt h0, Nat.pow_succ]
      have : 0 < 2 ^ k := Nat.pow_pos (by decide)
      omega
    omega
end PM
namespace PM
open PySem TV FM DX FB FC HX L2
def isI : PyData → Bool
  | .int _ => true
  | _ => false
def isT : PyData → Bool
  | .tuple _ => true
  | _ => false
theorem isI_int (i : Int) : isI (.int i) = true := rfl
theorem isI_tup (ds : List PyData) : isI (.tuple ds) = false := rfl
def tyOf (d : PyData) : String := if isI d then "int" else "tuple"
theorem ty_f {K : PySem.W.Frag} {H : Hp} {v : V} {d : PyData} (hD : Dp K H v d) (f : Fm d) : TyX K H v (.type (tyOf d)) := by
  rcases fm_cases f with ⟨i, rfl⟩ | ⟨ds, rfl⟩
  · cases hD
    exact tyI i
  · cases hD with
    | tup h1 h2 => exact tyT h1
theorem kit_fi {d : PyData} (f : Fm d) : kitB (tyOf d) "int" = some (isI d) := by
  rcases fm_cases f with ⟨i, rfl⟩ | ⟨ds, rfl⟩
  · exact k_ii
  · exact k_ti
theorem kit_ft {d : PyData} (f : Fm d) : kitB (tyOf d) "tuple" = some (!isI d) := by
  rcases fm_cases f with ⟨i, rfl⟩ | ⟨ds, rfl⟩
  · exact k_it
  · exact k_tt
theorem ifB {b : Bool} {A X Y : Prop} (hY : Y) (h : b = true → Y → A) : if b = true then A else (if false = true then X else Y) := by
  cases b
  · exact iteF (iteF hY)
  · exact iteT (h rfl hY)
theorem ifBD {b : Bool} {A B : Prop} (h1 : b = true → A) (h2 : b = false → B) : if b = true then A else B := by
  cases b
  · exact iteF (h2 rfl)
  · exact iteT (h1 rfl)
theorem fm_isI {d : PyData} (f : Fm d) (h : isI d = true) : ∃ i, d = .int i := by
  rcases fm_cases f with ⟨i, rfl⟩ | ⟨ds, rfl⟩
  · exact ⟨i, rfl⟩
  · cases h
theorem fm_isT {d : PyData} (f : Fm d) (h : isI d = false) : ∃ ds, d = .tuple ds := by
  rcases fm_cases f with ⟨i, rfl⟩ | ⟨ds, rfl⟩
  · cases h
  · exact ⟨ds, rfl⟩
theorem neg_len {ts : List Nat} (h : Asc ts) : tv ts < 0 ↔ ts.length % 2 = 1 := by
  by_cases hn : ts = []
  · subst hn
    simp [tv_nil]
  · obtain ⟨a, r, rfl⟩ := last_is hn
    rw [(tv_sign h).1]
    simp
    omega
theorem atI_at {xs : List V} {n : Nat} {i : Int} {v : V} (h : xs[n]? = some v) (e : i = (n : Nat)) : atI xs i = some v := by
  subst e
  exact atI_nat h
theorem drop_more {α : Type} {A : List α} {c : Nat} {a : α} (hc : c < A.length) (h : A[A.length - 1 - c]? = some a) : A.drop (A.length - (c + 1)) = a :: A.drop (A.length - c) := by
  obtain ⟨h1, h2⟩ := List.getElem?_eq_some_iff.mp h
  have e : A.length - (c + 1) = A.length - 1 - c := by omega
  rw [e, List.drop_eq_getElem_cons h1, h2]
  congr 2
  omega
theorem vals_drop (ds : List PyData) (n : Nat) : (vals ds).drop n = vals (ds.drop n) := by
  rw [vals_map, vals_map, List.map_drop]
theorem vals_at {ds : List PyData} {n : Nat} {d : PyData} (h : ds[n]? = some d) : (vals ds)[n]? = some (vl d) := by
  rw [vals_map, List.getElem?_map, h]
  rfl
end PM
set_option Elab.async false
set_option linter.all false
set_option maxRecDepth 100000
/-! data without lists; merging two rows -/
namespace PM
open PySem TV FM DX FB FC HX L2
mutual
def Im : PyData → Prop
  | .tuple ds => ImAll ds
  | .list _ => False
  | .dict _ => False
  | _ => True
def ImAll : List PyData → Prop
  | [] => True
  | d :: r => Im d ∧ ImAll r
end
theorem im_int (i : Int) : Im (.int i) := by simp [Im]
theorem im_bool (i : Bool) : Im (.bool i) := by simp [Im]
theorem im_str (i : Str) : Im (.str i) := by simp [Im]
theorem im_none : Im .none := by simp [Im]
theorem im_tuple (ds : List PyData) : Im (.tuple ds) ↔ ImAll ds := by simp [Im]
theorem imAll_nil : ImAll [] := by simp [ImAll]
theorem imAll_cons (d : PyData) (r : List PyData) : ImAll (d :: r) ↔ Im d ∧ ImAll r := by simp [ImAll]
mutual
theorem im_fm : ∀ {d : PyData}, Fm d → Im d
  | .int i, _ => im_int i
  | .tuple ds, f => by
    rw [fm_tuple] at f
    rw [im_tuple]
    exact imAll_fm f.1
  | .none, f => by simp [Fm] at f
  | .bool _, f => by simp [Fm] at f
  | .str _, f => by simp [Fm] at f
  | .list _, f => by simp [Fm] at f
  | .dict _, f => by simp [Fm] at f
theorem imAll_fm : ∀ {ds : List PyData}, FmAll ds → ImAll ds
  | [], _ => imAll_nil
  | d :: r, f => by
    rw [fmAll_cons] at f
    rw [imAll_cons]
    exact ⟨im_fm f.1, imAll_fm f.2.2⟩
end
mutual
theorem dp_im {K : PySem.W.Frag} {H H' : Hp} (e : Tk H H') : ∀ {d : PyData} {v : V}, Im d → Dp K H v d → Dp K H' v d
  | .int i, _, _, h => by
    cases h
    exact .int i
  | .tuple ds, _, f, h => by
    rw [im_tuple] at f
    cases h with
    | tup h1 h2 => exact .tup (tk_tup e h1) (dpAll_im e f h2)
  | .none, _, _, h => by
    cases h
    exact .non
  | .bool b, _, _, h => by
    cases h
    exact .bl b
  | .str x, _, _, h => by
    cases h
    exact .str x
  | .list _, _, f, _ => by simp [Im] at f
  | .dict _, _, f, _ => by simp [Im] at f
theorem dpAll_im {K : PySem.W.Frag} {H H' : Hp} (e : Tk H H') : ∀ {ds : List PyData} {vs : List V}, ImAll ds → DpAll K H vs ds → DpAll K H' vs ds
  | [], _, _, h => by
    cases h
    exact .nil
  | d :: r, _, f, h => by
    rw [imAll_cons] at f
    cases h with
    | cons h1 h2 => exact .cons (dp_im e f.1 h1) (dpAll_im e f.2 h2)
end
theorem im_row {r : Row} (f : Fm r.1) : Im (rowD r) := by
  unfold rowD
  rw [im_tuple, imAll_cons, imAll_cons, imAll_cons]
  exact ⟨im_fm f, im_int _, im_int _, imAll_nil⟩
theorem im_rows : ∀ {R : List Row}, FmAll (pR R) → ImAll (R.map rowD)
  | [], _ => imAll_nil
  | r :: R, f => by
    have f' : FmAll (r.1 :: pR R) := f
    rw [fmAll_cons] at f'
    rw [List.map_cons, imAll_cons]
    exact ⟨im_row f'.1, im_rows f'.2.2⟩
structure MgI (A B : List PyData) (R : List Row) (i j : Nat) : Prop where
  mg : Mg (A.take i) (B.take j) R
  la : ∀ r ∈ R, ∀ x ∈ A.drop i, vl r.1 < vl x
  lb : ∀ r ∈ R, ∀ x ∈ B.drop j, vl r.1 < vl x
  hi : i ≤ A.length
  hj : j ≤ B.length
  ln : R.length ≤ i + j
theorem MgI.start (A B : List PyData) : MgI A B [] 0 0 := ⟨⟨rfl, rfl, fmAll_nil, by show Asc (vals []); rw [vals_nil]; trivial, by show wtAll [] ≤ _; rw [wtAll_nil]; exact Nat.zero_le _, by simp [pR]⟩, by simp, by simp, Nat.zero_le _, Nat.zero_le _, by simp⟩
theorem take_one {A : List PyData} {i : Nat} {a : PyData} (h : A[i]? = some a) : A.take (i + 1) = A.take i ++ [a] := by
  rw [List.take_add_one, h]
  rfl
theorem drop_one {A : List PyData} {i : Nat} {a : PyData} (h : A[i]? = some a) : A.drop i = a :: A.drop (i + 1) := by
  obtain ⟨hi, e⟩ := List.getElem?_eq_some_iff.mp h
  rw [List.drop_eq_getElem_cons hi, e]
theorem asc_tail {A : List PyData} {i : Nat} {a : PyData} (hA : Asc (vals A)) (h : A[i]? = some a) : ∀ x ∈ A.drop (i + 1), vl a < vl x := fun x hx => by
  have h1 : Asc (vals (A.drop i)) := by
    rw [← vals_drop]
    exact asc_sub (List.drop_sublist _ _) hA
  rw [drop_one h, vals_cons] at h1
  refine Asc.lt h1 _ ?_
  rw [vals_map]
  exact List.mem_map.mpr ⟨x, hx, rfl⟩
theorem MgI.left {A B : List PyData} {R : List Row} {i j : Nat} (S : MgI A B R i j) {a : PyData} (fA : FmAll A) (hA : Asc (vals A)) (h : A[i]? = some a) (hB : ∀ x ∈ B.drop j, vl a < vl x) : MgI A B (R ++ [(a, true, false)]) (i + 1) j := by
  have hm := fmAll_mem fA a (List.mem_of_getElem? h)
  have hi := (List.getElem?_eq_some_iff.mp h).1
  have ha : a ∈ A.drop i := by rw [drop_one h]; simp
  refine ⟨?_, fun r hr x hx => ?_, fun r hr x hx => ?_, hi, S.hj, by rw [List.length_append, List.length_singleton]; have := S.ln; omega⟩
  · rw [take_one h]
    exact S.mg.snoc (m := true) (n := false) rfl hm.1 hm.2 (fun r hr => S.la r hr a ha)
  · rcases List.mem_append.mp hr with hr | hr
    · exact S.la r hr x (by rw [drop_one h]; simp [hx])
    · rw [List.mem_singleton.mp hr]
      exact asc_tail hA h x hx
  · rcases List.mem_append.mp hr with hr | hr
    · exact S.lb r hr x hx
    · rw [List.mem_singleton.mp hr]
      exact hB x hx
theorem MgI.right {A B : List PyData} {R : List Row} {i j : Nat} (S : MgI A B R i j) {b : PyData} (fB : FmAll B) (hB : Asc (vals B)) (h : B[j]? = some b) (hA : ∀ x ∈ A.drop i, vl b < vl x) : MgI A B (R ++ [(b, false, true)]) i (j + 1) := by
  have hm := fmAll_mem fB b (List.mem_of_getElem? h)
  have hj := (List.getElem?_eq_some_iff.mp h).1
  have hb : b ∈ B.drop j := by rw [drop_one h]; simp
  refine ⟨?_, fun r hr x hx => ?_, fun r hr x hx => ?_, S.hi, hj, by rw [List.length_append, List.length_singleton]; have := S.ln; omega⟩
  · rw [take_one h]
    exact S.mg.snoc (m := false) (n := true) rfl hm.1 hm.2 (fun r hr => S.lb r hr b hb)
  · rcases List.mem_append.mp hr with hr | hr
    · exact S.la r hr x hx
    · rw [List.mem_singleton.mp hr]
      exact hA x hx
  · rcases List.mem_append.mp hr with hr | hr
    · exact S.lb r hr x (by rw [drop_one h]; simp [hx])
    · rw [List.mem_singleton.mp hr]
      exact asc_tail hB h x hx
theorem MgI.both {A B : List PyData} {R : List Row} {i j : Nat} (S : MgI A B R i j) {a : PyData} (fA : FmAll A) (hA : Asc (vals A)) (hB : Asc (vals B)) (h : A[i]? = some a) (h2 : B[j]? = some a) : MgI A B (R ++ [(a, true, true)]) (i + 1) (j + 1) := by
  have hm := fmAll_mem fA a (List.mem_of_getElem? h)
  have hi := (List.getElem?_eq_some_iff.mp h).1
  have hj := (List.getElem?_eq_some_iff.mp h2).1
  have ha : a ∈ A.drop i := by rw [drop_one h]; simp
  refine ⟨?_, fun r hr x hx => ?_, fun r hr x hx => ?_, hi, hj, by rw [List.length_append, List.length_singleton]; have := S.ln; omega⟩
  · rw [take_one h, take_one h2]
    exact S.mg.snoc (m := true) (n := true) rfl hm.1 hm.2 (fun r hr => S.la r hr a ha)
  · rcases List.mem_append.mp hr with hr | hr
    · exact S.la r hr x (by rw [drop_one h]; simp [hx])
    · rw [List.mem_singleton.mp hr]
      exact asc_tail hA h x hx
  · rcases List.mem_append.mp hr with hr | hr
    · exact S.lb r hr x (by rw [drop_one h2]; simp [hx])
    · rw [List.mem_singleton.mp hr]
      exact asc_tail hB h2 x hx
theorem MgI.done {A B : List PyData} {R : List Row} {i j : Nat} (S : MgI A B R i j) (h1 : A.length ≤ i) (h2 : B.length ≤ j) : Mg A B R := by
  have := S.mg
  rw [List.take_of_length_le h1, List.take_of_length_le h2] at this
  exact this
/-- p or q as a test: the body once -/
theorem ifOrQ (q : Prop) {p A X Y : Prop} [Decidable p] (hX : p ∨ q → X) (h : ¬ p → (p ∨ q → X) → A) : if decide p = true then (if true = true then X else Y) else A :=
  ifD (fun hp => iteT (hX (.inl hp))) (fun hp => h hp hX)
/-- the three ways of an order of two places -/
theorem sg_ways {a b : PyData} (fa : Fm a) (fb : Fm b) (ha : 0 ≤ val a) (hb : 0 ≤ val b) : (sg (val a) (val b) < 0 → vl a < vl b) ∧ (0 < sg (val a) (val b) → vl b < vl a) ∧ (sg (val a) (val b) = 0 → a = b) := by
  unfold sg vl
  split
  · exact ⟨fun _ => by omega, fun z => by omega, fun z => by omega⟩
  · split
    · exact ⟨fun z => by omega, fun _ => by omega, fun z => by omega⟩
    · exact ⟨fun z => by omega, fun z => by omega, fun _ => fm_inj fa fb (by omega)⟩
end PM
namespace PM
open PySem TV FM DX FB FC HX L2
/-- the rows of a sum: those of two numbers, ahead of them perhaps the place 0 -/
structure Rs (A B : List PyData) (R : List Row) (c : Nat) : Prop where
  a : pA R = A
  b : pB R = B
  fm : FmAll (pR R)
  asc : Asc (vals (pR R))
  wt : wtAll (pR R) ≤ wtAll A + wtAll B + 1
  mem : ∀ p ∈ pR R, p ∈ A ∨ p ∈ B ∨ p = .int 0
  ln : R.length ≤ A.length + B.length + 1
  st : c = 1 → nxt R 0 = 0 ∧ 0 < R.length
theorem Mg.rs {A B : List PyData} {R : List Row} {c : Nat} (M : Mg A B R) (hl : R.length ≤ A.length + B.length) (h : c = 1 → nxt R 0 = 0 ∧ 0 < R.length) : Rs A B R c :=
  ⟨M.a, M.b, M.fm, M.asc, by have := M.wt; omega, fun p hp => (M.mem p hp).elim .inl (fun z => .inr (.inl z)), by omega, h⟩
theorem Mg.rs0 {A B : List PyData} {R : List Row} {c : Nat} (M : Mg A B R) (hl : R.length ≤ A.length + B.length) {r : Row} (h : R[0]? = some r) (h0 : val r.1 ≠ 0) : Rs A B ((.int 0, false, false) :: R) c := by
  have hr0 : ∀ x ∈ pR R, 0 < vl x := fun x hx => by
    cases R with
    | nil => cases h
    | cons s S =>
      simp at h
      subst h
      have hs : 0 ≤ val s.1 := (fmAll_mem M.fm s.1 (by simp [pR])).2
      have ha := M.asc
      have e : pR (s :: S) = s.1 :: pR S := rfl
      rw [e, vals_cons] at ha
      have p0 : 0 < vl s.1 := by unfold vl; omega
      rw [e] at hx
      rcases List.mem_cons.mp hx with rfl | hx
      · exact p0
      · have := Asc.lt ha (vl x) (by rw [vals_map]; exact List.mem_map.mpr ⟨x, hx, rfl⟩)
        unfold vl at *
        omega
  have e : pR ((.int 0, false, false) :: R) = .int 0 :: pR R := rfl
  refine ⟨?_, ?_, ?_, ?_, ?_, ?_, by rw [List.length_cons]; omega, fun _ => ⟨?_, by simp⟩⟩
  · rw [← M.a]
    simp [pA]
  · rw [← M.b]
    simp [pB]
  · rw [e]
    exact fmAll_zero M.fm
  · rw [e]
    exact asc_zero M.asc hr0
  · rw [e, wtAll_cons, wt_int]
    have := M.wt
    omega
  · intro p hp
    rw [e] at hp
    rcases List.mem_cons.mp hp with rfl | hp
    · exact .inr (.inr rfl)
    · exact (M.mem p hp).elim .inl (fun z => .inr (.inl z))
  · show vl (.int 0) = 0
    unfold vl
    rw [val_int]
    rfl
theorem Rs.sum {A B : List PyData} {R : List Row} {c : Nat} (S : Rs A B R c) {F : List PyData} {o t k b : Nat} (h : Ad R R.length c F o t k b) : tv (vals F) = tv (vals A) + tv (vals B) + c := by
  rw [h.done, S.a, S.b]
/-- the numbers 0 and 1 -/
theorem xor_n {o : Nat} (h : o ≤ 1) (m : Bool) : Builtin.bitXor ((o : Nat) : Int) (bi m) = (((o + bn m) % 2 : Nat) : Int) := by
  have : o = 0 ∨ o = 1 := by omega
  rcases this with rfl | rfl <;> cases m <;> decide
theorem and_n (n : Nat) : Builtin.bitAnd ((n : Nat) : Int) 1 = ((n % 2 : Nat) : Int) := by
  rw [PyProof.Rows.bitAnd_m1]
  omega
end PM
namespace PM
open PySem TV FM DX FB FC HX L2
theorem range_div {n : Int} {k : Nat} : (-(2 ^ k) ≤ n ∧ n < 2 ^ k) ↔ ∀ p, k ≤ p → tb n p = tb n k := by
  obtain ⟨ts, hA, rfl⟩ := turns_ex n
  rw [← tv_range hA]
  constructor
  · intro h p hp
    rw [tb_par hA, tb_par hA, cnt_all fun t ht => Nat.le_trans (h t ht) hp, cnt_all h]
  · intro h t ht
    apply Nat.le_of_not_lt
    intro hlt
    refine (mem_tb hA t).mp ht ?_
    rw [if_neg (by omega), h t (by omega), h (t - 1) (by omega)]
theorem range_f {a b r : Int} {k : Nat} {f : Bool → Bool → Bool} (ha : -(2 ^ k) ≤ a ∧ a < 2 ^ k) (hb : -(2 ^ k) ≤ b ∧ b < 2 ^ k) (h : ∀ p, tb r p = f (tb a p) (tb b p)) : -(2 ^ k) ≤ r ∧ r < 2 ^ k := by
  rw [range_div] at *
  intro p hp
  rw [h, h, ha p hp, hb p hp]
theorem range_and {a b : Int} {k : Nat} (ha : -(2 ^ k) ≤ a ∧ a < 2 ^ k) (hb : -(2 ^ k) ≤ b ∧ b < 2 ^ k) : -(2 ^ k) ≤ Builtin.bitAnd a b ∧ Builtin.bitAnd a b < 2 ^ k := range_f (f := fun x y => x && y) ha hb fun p => tb_and a b p
theorem range_or {a b : Int} {k : Nat} (ha : -(2 ^ k) ≤ a ∧ a < 2 ^ k) (hb : -(2 ^ k) ≤ b ∧ b < 2 ^ k) : -(2 ^ k) ≤ Builtin.bitOr a b ∧ Builtin.bitOr a b < 2 ^ k := range_f (f := fun x y => x || y) ha hb fun p => tb_or a b p
theorem range_xor {a b : Int} {k : Nat} (ha : -(2 ^ k) ≤ a ∧ a < 2 ^ k) (hb : -(2 ^ k) ≤ b ∧ b < 2 ^ k) : -(2 ^ k) ≤ Builtin.bitXor a b ∧ Builtin.bitXor a b < 2 ^ k := range_f (f := fun x y => x ^^ y) ha hb fun p => tb_xor a b p
/-- the form of an int whose turns are plain -/
theorem form_ex {m : Int} {k : Nat} (hk : k ≤ 900000) (h1 : -(2 ^ k) ≤ m) (h2 : m < 2 ^ k) : ∃ d, Fm d ∧ val d = m ∧ wt d ≤ k + 3 ∧ d.depth ≤ 1 := by
  by_cases hp : -(2 ^ 64) ≤ m ∧ m < 2 ^ 64
  · exact ⟨.int m, (fm_int m).mpr hp, val_int m, by rw [wt_int]; omega, by rw [depth_int]; omega⟩
  · obtain ⟨ts, hA, e⟩ := turns_ex m
    subst e
    have hb := (tv_range hA).mpr ⟨h1, h2⟩
    have h64 : ∃ t ∈ ts, 64 < t := by
      apply Classical.byContradiction
      intro hc
      apply hp
      rw [← tv_range hA]
      intro t ht
      apply Nat.le_of_not_lt
      intro hlt
      exact hc ⟨t, ht, hlt⟩
    obtain ⟨f1, f2⟩ := fm_small hA (fun t ht => by have := hb t ht; omega) h64
    have hl := asc_len (a := 0) hA fun t ht => ⟨Nat.zero_le _, hb t ht⟩
    exact ⟨_, f1, f2, by rw [wt_tuple, wtAll_iD]; omega, by rw [depth_tuple, depthAll_iD]; omega⟩
theorem form_lim {r : PyData} {m : Int} {k : Nat} (hk : k ≤ 900000) (h1 : -(2 ^ k) ≤ m) (h2 : m < 2 ^ k) (f : Fm r) (e : val r = m) : wt r ≤ k + 3 ∧ r.depth ≤ 1 := by
  obtain ⟨d, f', e', w, dp⟩ := form_ex hk h1 h2
  rw [fm_inj f f' (e.trans e'.symm)]
  exact ⟨w, dp⟩
end PM
set_option Elab.async false
set_option linter.all false
set_option maxRecDepth 100000
/-! shifts of rows of turns (plain mathematics) -/
namespace PM
open PySem TV FM DX FC MS
theorem mul_ge {a b : Nat} (h : 1 ≤ a) : a + b ≤ a * (b + 1) := by
  obtain ⟨c, rfl⟩ : ∃ c, a = c + 1 := ⟨a - 1, by omega⟩
  have : (c + 1) * (b + 1) = c * (b + 1) + (b + 1) := Nat.succ_mul c (b + 1)
  have h2 : c * 1 ≤ c * (b + 1) := Nat.mul_le_mul_left _ (by omega)
  omega
theorem row_wt {n W w e F r : Nat} (h1 : F ≤ (n + 6) * (W * (e + 141))) (h2 : r ≤ (n + 6) * (w + e + 140)) (hw : 1 ≤ w) : F + r ≤ (n + 6) * ((W + w) * (e + 141)) := by
  have h3 : w + (e + 140) ≤ w * (e + 141) := mul_ge hw
  have h4 : (n + 6) * (w + e + 140) ≤ (n + 6) * (w * (e + 141)) := Nat.mul_le_mul_left _ (by omega)
  have h5 : (n + 6) * ((W + w) * (e + 141)) = (n + 6) * (W * (e + 141)) + (n + 6) * (w * (e + 141)) := by rw [Nat.add_mul W w, Nat.mul_add (n + 6)]
  omega
def lowZ (b : Bool) : List Nat := if b then [0] else []
theorem cnt_app (a b : List Nat) (p : Nat) : cnt (a ++ b) p = cnt a p + cnt b p := by
  unfold cnt
  rw [List.countP_append]
theorem cnt_keep {A : Nat} : ∀ (ts : List Nat) (p : Nat), cnt ts (A + p) = (ts.length - (ts.filter fun t => decide (A < t)).length) + cnt ((ts.filter fun t => decide (A < t)).map (· - A)) p
  | [], p => rfl
  | t :: r, p => by
    have ih := cnt_keep (A := A) r p
    have hl := List.length_filter_le (fun t => decide (A < t)) r
    rw [cnt_cons]
    by_cases h : A < t
    · rw [List.filter_cons_of_pos (by simpa using h), List.map_cons, cnt_cons, List.length_cons, List.length_cons, ih]
      by_cases h2 : t ≤ A + p
      · rw [if_pos h2, if_pos (show t - A ≤ p by omega)]
        omega
      · rw [if_neg h2, if_neg (show ¬ t - A ≤ p by omega)]
        omega
    · rw [List.filter_cons_of_neg (by simpa using h), if_pos (show t ≤ A + p by omega), List.length_cons, ih]
      omega
theorem asc_filter {ts : List Nat} {p : Nat → Bool} (h : Asc ts) : Asc (ts.filter p) := asc_pairwise.mpr ((asc_pairwise.mp h).sublist List.filter_sublist)
theorem drop_asc {ts : List Nat} {A : Nat} (h : Asc ts) : Asc ((ts.filter fun t => decide (A < t)).map (· - A)) := by
  refine asc_map (asc_filter h) fun x hx y hy hxy => ?_
  have h1 := (List.mem_filter.mp hx).2
  have h2 := (List.mem_filter.mp hy).2
  simp at h1 h2
  omega
theorem drop_low {ts : List Nat} {A : Nat} (h : Asc ts) (b : Bool) : Asc (lowZ b ++ (ts.filter fun t => decide (A < t)).map (· - A)) := by
  unfold lowZ
  split
  · refine asc_cons (fun x hx => ?_) (drop_asc h)
    obtain ⟨t, ht, rfl⟩ := List.mem_map.mp hx
    have := (List.mem_filter.mp ht).2
    simp at this
    omega
  · exact drop_asc h
theorem tv_drop {ts : List Nat} {A : Nat} (h : Asc ts) : tv (lowZ (decide ((ts.length - (ts.filter fun t => decide (A < t)).length) % 2 = 1)) ++ (ts.filter fun t => decide (A < t)).map (· - A)) = tv ts / 2 ^ A := by
  refine tb_ext fun p => ?_
  rw [tb_tv p (drop_low h _), tb_shift, tb_tv _ h, cnt_keep, cnt_app]
  unfold lowZ
  by_cases hb : (ts.length - (ts.filter fun t => decide (A < t)).length) % 2 = 1
  · rw [if_pos (decide_eq_true hb)]
    have : cnt [0] p = 1 := by simp [cnt]
    rw [this]
    congr 1
    exact propext (by omega)
  · rw [if_neg (by simpa using hb)]
    have : cnt [] p = 0 := rfl
    rw [this]
    congr 1
    exact propext (by omega)
theorem take_snoc {α : Type} {l : List α} {i : Nat} {a : α} (h : l[i]? = some a) : l.take (i + 1) = l.take i ++ [a] := by
  rw [List.take_add_one, h]
  rfl
end PM
set_option Elab.async false
set_option linter.all false
set_option maxRecDepth 100000
/-! weights of sums of powers (plain mathematics) -/
namespace PM
open PySem TV FM DX FC MS
/-- a sum of signed powers, by their places -/
def Sp2 (T : List (Nat × Int)) : Int := Sm T fun i => i
theorem turn_near {T : List (Nat × Int)} (hb : Ab T ≤ 2 ^ 10) {t : Nat} (ht : t ∈ turnsOf (Sp2 T)) : ∃ q ∈ T, q.1 ≤ t ∧ t ≤ q.1 + 11 := by
  apply Classical.byContradiction
  intro hn
  have far : ∀ q ∈ T, q.1 ≤ t → q.1 + 12 ≤ t := fun q hq h => by
    apply Classical.byContradiction
    intro hc
    exact hn ⟨q, hq, h, by omega⟩
  have e1 : Sp2 T = Sm (T.filter fun q => decide (q.1 < t + 1)) (fun i => i) + 2 ^ (t + 1) * Sm (T.filter fun q => !decide (q.1 < t + 1)) fun i => i - (t + 1) := by
    unfold Sp2
    rw [Sm_split (t + 1) T, Sm_lift (Q := t + 1) (T := T.filter fun q => !decide (q.1 < t + 1)) fun q hq => by
      have := (List.mem_filter.mp hq).2
      simp at this
      omega]
  have low : ∀ q ∈ T.filter (fun q => decide (q.1 < t + 1)), q.1 + 12 ≤ t := fun q hq => by
    obtain ⟨h1, h2⟩ := List.mem_filter.mp hq
    simp at h2
    exact far q h1 (by omega)
  have hL : ∀ u ∈ turnsOf (Sm (T.filter fun q => decide (q.1 < t + 1)) fun i => i), u < t := by
    by_cases h12 : 12 ≤ t
    · have h3 := Sm_abs (π := fun i => i) (b := t - 12) (T := T.filter fun q => decide (q.1 < t + 1)) fun q hq => by
        have := low q hq
        show q.1 ≤ t - 12
        omega
      have h4 := Ab_filter (fun q => decide (q.1 < t + 1)) T
      intro u hu
      have h5 : Ab (T.filter fun q => decide (q.1 < t + 1)) * 2 ^ (t - 12) ≤ 2 ^ 10 * 2 ^ (t - 12) := Nat.mul_le_mul_right _ (Nat.le_trans h4 hb)
      have := turns_lt (Nat.le_trans h3 h5) u hu
      omega
    · have : T.filter (fun q => decide (q.1 < t + 1)) = [] := by
        apply List.eq_nil_iff_forall_not_mem.mpr
        intro q hq
        have := low q hq
        omega
      rw [this]
      intro u hu
      rw [show Sm [] (fun i => i) = 0 from rfl, show turnsOf 0 = [] from turnsOf_is (ts := []) trivial rfl] at hu
      cases hu
  rw [e1, turns_app (Q := t + 1) fun u hu => by have := hL u hu; omega] at ht
  rcases List.mem_append.mp ht with ht | ht
  · have := hL t ht
    omega
  · obtain ⟨u, _, hu⟩ := List.mem_map.mp ht
    omega
/-- what the forms near the places of T weigh at most -/
def Wt (T : List (Nat × Int)) (W D : Nat) : Prop := ∀ q ∈ T, ∀ j, j ≤ 11 → ∀ d, Fm d → val d = ((q.1 + j : Nat) : Int) → wt d ≤ W ∧ d.depth ≤ D
theorem wtAll_le {W : Nat} : ∀ {ds : List PyData}, (∀ d ∈ ds, wt d ≤ W) → wtAll ds ≤ ds.length * W
  | [], _ => by rw [wtAll_nil]; exact Nat.zero_le _
  | d :: r, h => by
    have h1 := h d (by simp)
    have h2 := wtAll_le (ds := r) fun x hx => h x (by simp [hx])
    rw [wtAll_cons, List.length_cons, Nat.succ_mul]
    omega
theorem sum_wt {T : List (Nat × Int)} {W D : Nat} (hb : Ab T ≤ 2 ^ 10) (h : Wt T W D) {r : PyData} (f : Fm r) (e : val r = Sp2 T) : wt r ≤ 1 + 2 * Ab T * W ∧ r.depth ≤ D + 1 := by
  rcases fm_cases f with ⟨i, rfl⟩ | ⟨ds, rfl⟩
  · rw [wt_int, depth_int]
    omega
  · obtain ⟨fA, hA, _⟩ := (fm_tuple ds).mp f
    have et : turnsOf (Sp2 T) = vals ds := turnsOf_is hA (by rw [← e, val_tuple])
    have each : ∀ d ∈ ds, wt d ≤ W ∧ d.depth ≤ D := fun d hd => by
      obtain ⟨fd, h0⟩ := fmAll_mem fA d hd
      have hm : (val d).toNat ∈ turnsOf (Sp2 T) := by rw [et]; exact mem_vals.mpr ⟨d, hd, rfl⟩
      obtain ⟨q, hq, h1, h2⟩ := turn_near hb hm
      exact h q hq ((val d).toNat - q.1) (by omega) d fd (by omega)
    have hl : ds.length ≤ 2 * Ab T := by
      have := tau_Sm (π := fun i => i) T
      unfold tau at this
      rw [show turnsOf (Sm T fun i => i) = vals ds from et, vals_len] at this
      exact this
    have hw := wtAll_le fun d hd => (each d hd).1
    have hw2 : ds.length * W ≤ 2 * Ab T * W := Nat.mul_le_mul_right _ hl
    rw [wt_tuple, depth_tuple]
    refine ⟨by omega, ?_⟩
    have := depthAll_le.mpr fun d hd => (each d hd).2
    omega
end PM
set_option Elab.async false
set_option linter.all false
set_option maxRecDepth 100000
/-! the form of an int, and how many bits an int has -/
namespace FI
open PySem PySem.Spec PyProof.Rows L2 HX TV FM FC PM DX
theorem forms_ex : ∀ {ts : List Nat}, (∀ t ∈ ts, ∃ d, Fm d ∧ val d = ((t : Nat) : Int)) → ∃ ds, FmAll ds ∧ vals ds = ts
  | [], _ => ⟨[], fmAll_nil, vals_nil⟩
  | t :: r, h => by
    obtain ⟨d, f, e⟩ := h t (by simp)
    obtain ⟨ds, F, e2⟩ := forms_ex (ts := r) fun x hx => h x (by simp [hx])
    refine ⟨d :: ds, (fmAll_cons d ds).mpr ⟨f, by omega, F⟩, ?_⟩
    rw [vals_cons, e2, e, Int.toNat_natCast]
theorem turns_small {n : Int} {k : Nat} (h1 : -(2 ^ k) ≤ n) (h2 : n < 2 ^ k) : ∀ t ∈ turnsOf n, t ≤ k :=
  (tv_range (turnsOf_asc n)).mpr (by rw [turnsOf_tv]; exact ⟨h1, h2⟩)
theorem abs_pow {n : Int} {N : Nat} (h : n.natAbs ≤ N + 1) (h3 : 3 ≤ N + 1) : -(2 ^ N) ≤ n ∧ n < 2 ^ N := by
  have h4 : N + 1 < 2 ^ N := by
    obtain ⟨M, rfl⟩ : ∃ M, N = M + 2 := ⟨N - 2, by omega⟩
    clear h h3
    induction M with
    | zero => decide
    | succ M ih =>
      rw [show M + 1 + 2 = (M + 2) + 1 from rfl, Nat.pow_succ]
      omega
  have e : ((2 ^ N : Nat) : Int) = 2 ^ N := by norm_cast
  rw [← e]
  revert h4
  generalize 2 ^ N = B
  intro h4
  omega
theorem fo_ex : ∀ (N : Nat) (n : Int), n.natAbs ≤ N → ∃ d, Fm d ∧ val d = n := by
  intro N
  induction N with
  | zero => intro n h; exact ⟨.int n, (fm_int n).mpr (by omega), val_int n⟩
  | succ N ih =>
    intro n h
    by_cases hp : -(2 ^ 64) ≤ n ∧ n < 2 ^ 64
    · exact ⟨.int n, (fm_int n).mpr hp, val_int n⟩
    · have hN : 3 ≤ N + 1 := by omega
      obtain ⟨b1, b2⟩ := abs_pow h hN
      have hb := turns_small b1 b2
      obtain ⟨ds, F, e⟩ := forms_ex (ts := turnsOf n) fun t ht => ih _ (by have := hb t ht; omega)
      refine ⟨.tuple ds, (fm_tuple ds).mpr ⟨F, by rw [e]; exact turnsOf_asc n, ?_⟩, by rw [val_tuple, e, turnsOf_tv]⟩
      rw [e]
      apply Classical.byContradiction
      intro hc
      apply hp
      rw [← turnsOf_tv n, ← tv_range (turnsOf_asc n)]
      intro t ht
      apply Nat.le_of_not_lt
      intro hlt
      exact hc ⟨t, ht, hlt⟩
noncomputable def fo (n : Int) : PyData := Classical.choose (fo_ex n.natAbs n (Nat.le_refl _))
theorem fo_fm (n : Int) : Fm (fo n) := (Classical.choose_spec (fo_ex n.natAbs n (Nat.le_refl _))).1
theorem val_fo (n : Int) : val (fo n) = n := (Classical.choose_spec (fo_ex n.natAbs n (Nat.le_refl _))).2
theorem fo_is {d : PyData} {n : Int} (f : Fm d) (e : val d = n) : d = fo n := fm_inj f (fo_fm n) (e.trans (val_fo n).symm)
theorem fo_val {d : PyData} (f : Fm d) : fo (val d) = d := (fo_is f rfl).symm
theorem vl_fo (p : Nat) : vl (fo (p : Nat)) = p := by
  show (val (fo (p : Nat))).toNat = p
  rw [val_fo, Int.toNat_natCast]
theorem fo_int {i : Int} (h : -(2 ^ 64) ≤ i ∧ i < 2 ^ 64) : fo i = .int i := (fo_is ((fm_int i).mpr h) (val_int i)).symm
/-- v is the form of the int n -/
abbrev DI (K : PySem.W.Frag) (H : Hp) (v : V) (n : Int) : Prop := Dp K H v (fo n)
section
variable {K : PySem.W.Frag} {H H' : Hp} {v : V} {n m : Int}
theorem DI.of {d : PyData} (f : Fm d) (e : val d = n) (h : Dp K H v d) : DI K H v n := by
  have := fo_is f e
  subst this
  exact h
theorem DI.same (h : DI K H v n) (e : Same H H') : DI K H' v n := dp_tk (tk_same e) (fo_fm n) h
theorem DI.eq (h : DI K H v n) (e : n = m) : DI K H v m := e ▸ h
theorem di_int {i : Int} (h : -(2 ^ 64) ≤ i ∧ i < 2 ^ 64) : DI K H (.int i) i := by
  show Dp K H _ (fo i)
  rw [fo_int h]
  exact .int i
theorem di_nat {i : Nat} (h : i < 2 ^ 64) : DI K H (.int (i : Nat)) (i : Nat) := di_int (by omega)
theorem DI.int {i : Int} (h : DI K H v i) (hb : -(2 ^ 64) ≤ i ∧ i < 2 ^ 64) : v = .int i := by
  have h2 : Dp K H v (fo i) := h
  rw [fo_int hb] at h2
  cases h2
  rfl
theorem DI.not_none (h : DI K H v n) : v ≠ .non := fun z => by
  subst z
  have h2 : Dp K H .non (fo n) := h
  have f := fo_fm n
  revert h2 f
  generalize fo n = d
  intro h2 f
  cases h2
  simp [Fm] at f
end
/-- n has at most k bits and a sign -/
def Bw (k : Nat) (n : Int) : Prop := -(2 ^ k) ≤ n ∧ n < 2 ^ k
theorem bw_iff {k : Nat} {n : Int} : Bw k n ↔ -((2 ^ k : Nat) : Int) ≤ n ∧ n < ((2 ^ k : Nat) : Int) := by
  unfold Bw
  have e : ((2 ^ k : Nat) : Int) = 2 ^ k := by norm_cast
  rw [e]
theorem Bw.mono {j k : Nat} {n : Int} (h : Bw j n) (l : j ≤ k) : Bw k n := by
  rw [bw_iff] at *
  have := Nat.pow_le_pow_right (n := 2) (by decide) l
  omega
theorem bw_of_abs {k : Nat} {n : Int} (h : n.natAbs < 2 ^ k) : Bw k n := by
  rw [bw_iff]
  omega
theorem Bw.abs {k : Nat} {n : Int} (h : Bw k n) : n.natAbs ≤ 2 ^ k := by
  rw [bw_iff] at h
  omega
theorem bw_nat {k n : Nat} (h : n < 2 ^ k) : Bw k (n : Nat) := bw_of_abs (by omega)
theorem bw64 {n : Int} (h : Bw 64 n) : -(2 ^ 64) ≤ n ∧ n < 2 ^ 64 := h
theorem Bw.add {k : Nat} {n m : Int} (h1 : Bw k n) (h2 : Bw k m) {c : Nat} (hc : c ≤ 1) : Bw (k + 1) (n + m + c) := by
  rw [bw_iff] at *
  rw [Nat.pow_succ]
  omega
theorem Bw.add0 {k : Nat} {n m : Int} (h1 : Bw k n) (h2 : Bw k m) : Bw (k + 1) (n + m) := by
  have := h1.add h2 (c := 0) (by decide)
  simpa using this
theorem Bw.sub {k : Nat} {n m : Int} (h1 : Bw k n) (h2 : Bw k m) : Bw (k + 1) (n - m) := by
  rw [bw_iff] at *
  rw [Nat.pow_succ]
  omega
theorem Bw.not {k : Nat} {n : Int} (h : Bw k n) : Bw k (-n - 1) := by
  rw [bw_iff] at *
  omega
theorem Bw.neg {k : Nat} {n : Int} (h : Bw k n) : Bw (k + 1) (-n) := by
  rw [bw_iff] at *
  rw [Nat.pow_succ]
  omega
theorem Bw.inc {k : Nat} {n : Int} (h : Bw k n) : Bw (k + 1) (n + 1) := by
  rw [bw_iff] at *
  have := Nat.two_pow_pos k
  rw [Nat.pow_succ]
  omega
theorem Bw.and {k : Nat} {n m : Int} (h1 : Bw k n) (h2 : Bw k m) : Bw k (Builtin.bitAnd n m) := range_and h1 h2
theorem Bw.or {k : Nat} {n m : Int} (h1 : Bw k n) (h2 : Bw k m) : Bw k (Builtin.bitOr n m) := range_or h1 h2
theorem Bw.xor {k : Nat} {n m : Int} (h1 : Bw k n) (h2 : Bw k m) : Bw k (Builtin.bitXor n m) := range_xor h1 h2
theorem Bw.shl {k : Nat} {n : Int} (h : Bw k n) (s : Nat) : Bw (k + s) (n * 2 ^ s) := by
  obtain ⟨h1, h2⟩ := h
  have hp : (0 : Int) < 2 ^ s := Int.pow_pos (by decide)
  unfold Bw
  rw [Int.pow_add, ← Int.neg_mul]
  exact ⟨Int.mul_le_mul_of_nonneg_right h1 (Int.le_of_lt hp), Int.mul_lt_mul_of_pos_right h2 hp⟩
theorem Bw.shr {k : Nat} {n : Int} (h : Bw k n) (s : Nat) : Bw k (n / 2 ^ s) := by
  obtain ⟨h1, h2⟩ := h
  have hp : (0 : Int) < 2 ^ s := Int.pow_pos (by decide)
  have hk : (0 : Int) < 2 ^ k := Int.pow_pos (by decide)
  refine ⟨?_, ?_⟩
  · rw [Int.le_ediv_iff_mul_le hp]
    have : (2 : Int) ^ k ≤ 2 ^ k * 2 ^ s := by
      have := Int.mul_le_mul_of_nonneg_left (show (1 : Int) ≤ 2 ^ s by omega) (Int.le_of_lt hk)
      omega
    rw [Int.neg_mul]
    omega
  · rw [Int.ediv_lt_iff_lt_mul hp]
    have : (2 : Int) ^ k ≤ 2 ^ k * 2 ^ s := by
      have := Int.mul_le_mul_of_nonneg_left (show (1 : Int) ≤ 2 ^ s by omega) (Int.le_of_lt hk)
      omega
    omega
theorem Bw.mul {j k : Nat} {n m : Int} (h1 : Bw j n) (h2 : Bw k m) : Bw (j + k + 1) (n * m) := by
  have := Nat.mul_le_mul h1.abs h2.abs
  rw [← Int.natAbs_mul, ← Nat.pow_add] at this
  refine bw_of_abs (Nat.lt_of_le_of_lt this ?_)
  exact Nat.pow_lt_pow_right (by decide) (by omega)
theorem bw_pow (p : Nat) : Bw (p + 1) (2 ^ p) := by
  have e : ((2 ^ p : Nat) : Int) = 2 ^ p := by norm_cast
  rw [← e]
  exact bw_nat (Nat.pow_lt_pow_right (by decide) (by omega))
theorem Bw.turns {k : Nat} {n : Int} (h : Bw k n) : ∀ t ∈ turnsOf n, t ≤ k := turns_small h.1 h.2
theorem bw_turns {k : Nat} {n : Int} (h : ∀ t ∈ turnsOf n, t ≤ k) : Bw k n := by
  have := (tv_range (turnsOf_asc n)).mp h
  rw [turnsOf_tv] at this
  exact this
theorem Bw.len {k : Nat} {n : Int} (h : Bw k n) : (turnsOf n).length ≤ k + 1 := by
  have := asc_len (a := 0) (turnsOf_asc n) fun t ht => ⟨Nat.zero_le _, h.turns t ht⟩
  omega
theorem fo_lim {k : Nat} {n : Int} (hk : k ≤ 900000) (h : Bw k n) : wt (fo n) ≤ k + 3 ∧ (fo n).depth ≤ 1 := form_lim hk h.1 h.2 (fo_fm n) (val_fo n)
theorem plain_nv {K : PySem.W.Frag} {H : Hp} : ∀ {ds : List PyData} {us : List V}, DpAll K H us ds → FmAll ds → (∀ t ∈ vals ds, t < 2 ^ 64) → us = nv (vals ds)
  | [], us, h, _, _ => by
    cases h
    rw [vals_nil]
    rfl
  | d :: r, us, h, f, hb => by
    rw [fmAll_cons] at f
    rw [vals_cons] at hb ⊢
    have h0 := hb (val d).toNat (by simp)
    have e : d = .int (val d) := fm_inj f.1 ((fm_int _).mpr (by omega)) (by rw [val_int])
    cases h with
    | cons h1 h2 =>
      rw [plain_nv h2 f.2.2 fun t ht => hb t (by simp [ht])]
      rw [e] at h1
      cases h1
      show _ = V.int ((val d).toNat : Nat) :: nv (vals r)
      rw [Int.toNat_of_nonneg f.2.1]
end FI
set_option Elab.async false
set_option linter.all false
set_option maxRecDepth 100000
/-! small helpers over the hand layer -/
namespace HX
open PySem PySem.Spec PyProof.Rows L2 TV FM FC PM FI
theorem ifDec {p A B : Prop} {b : Bool} [Decidable p] (e : decide p = b) (h1 : b = true → A) (h2 : b = false → B) : if decide p = true then A else B := by
  rw [e]
  cases b
  · exact iteF (h2 rfl)
  · exact iteT (h1 rfl)
theorem bit_on (n : Int) (j : Nat) : Builtin.bitAnd (n / 2 ^ j) 1 = PM.bi (tb n j) := by
  rw [bitAnd_m1]
  unfold tb PM.bi
  by_cases z : n / 2 ^ j % 2 = 1
  · rw [decide_eq_true z, z]
    rfl
  · rw [decide_eq_false z]
    show _ = (0 : Int)
    omega
/-- n, or ~n -/
def gw (w : Nat) (n : Int) : Int := if w = 1 then n else -n - 1
theorem gw_one {w : Nat} (h : w = 1) : gw w = fun n => n := by
  funext n
  exact if_pos h
theorem gw_not {w : Nat} (h : w ≠ 1) : gw w = fun n => -n - 1 := by
  funext n
  exact if_neg h
theorem dec_bit {n : Int} {w q : Nat} (hw : w ≤ 1) : decide (V.int (Builtin.bitAnd (n / 2 ^ q) 1) = V.int ((w : Nat) : Int)) = tb (gw w n) q := by
  have e := bit_on n q
  have e2 : decide (V.int (Builtin.bitAnd (n / 2 ^ q) 1) = V.int ((w : Nat) : Int)) = decide (PM.bi (tb n q) = ((w : Nat) : Int)) := decide_eq_decide.mpr ⟨fun z => by rw [← e]; exact V.int.inj z, fun z => by rw [e, z]⟩
  rw [e2]
  unfold gw
  rcases (by omega : w = 0 ∨ w = 1) with rfl | rfl
  · rw [if_neg (by decide), PM.tb_not]
    cases tb n q <;> rfl
  · rw [if_pos rfl]
    cases tb n q <;> rfl
theorem dec_bit1 {n : Int} {q : Nat} : decide (V.int (Builtin.bitAnd (n / 2 ^ q) 1) = V.int 1) = tb n q := dec_bit (w := 1) (Nat.le_refl _)
theorem cut_first {xs : List V} : cutV xs none (some 1) = xs.take 1 := by
  have := HT.sIx_nat xs.length xs.length 1
  unfold cutV
  rw [show HT.sIx xs.length xs.length (some 1) = min 1 xs.length from this, HT.sIx_none]
  show List.take (min 1 xs.length - 0) xs = xs.take 1
  rw [Nat.sub_zero, List.take_eq_take_iff]
  omega
/-- one of two calls with the same arguments -/
theorem both {w : Nat} {sA sB sC : Sp} {ta : TA} {σ : L2.St} {H : Hp} {Q : VK} (h1 : w = 1 → sA = sC) (h2 : w ≠ 1 → sB = sC) (h : tCall sC [] E0 ta σ H Q) :
    if decide (V.int ((w : Nat) : Int) = V.int 1) = true then tCall sA [] E0 ta σ H Q else tCall sB [] E0 ta σ H Q :=
  ifE (fun e => by rw [h1 (by omega)]; exact h) (fun e => by rw [h2 (by omega)]; exact h)
/-- far up all bits are the same -/
theorem tb_high {n : Int} {k : Nat} (h : Bw k n) {i j : Nat} (hi : k ≤ i) (hj : k ≤ j) : tb n i = tb n j := by
  have := range_div.mp h
  rw [this i hi, this j hj]
theorem nv_mem {ts : List Nat} {v : V} (h : v ∈ nv ts) : ∃ q ∈ ts, v = .int (q : Nat) := by
  unfold nv at h
  rw [List.mem_map] at h
  obtain ⟨q, h, e⟩ := h
  exact ⟨q, h, e.symm⟩
end HX
set_option Elab.async false
set_option linter.all false
set_option maxRecDepth 100000
namespace HX
open PySem PySem.Spec PyProof.Rows L2
/-- a loop over a range with a step -/
theorem flC {lo c : Int} {n : Nat} {g : TG} {tb : TS} {D : Ends} {σ : L2.St} {H : Hp} (Pv : Nat → L2.St → Hp → Prop) (h0 : Pv 0 σ H)
    (hs : ∀ i σ H, i < n → Pv i σ H → ∀ D', Bd D (Pv (i + 1)) D' → g (.int (lo + (i : Nat) * c)) σ H fun σ2 H2 => tb D' σ2 H2) (hd : ∀ σ H, Pv n σ H → D.nx σ H) :
    ∃ W : Nat → Nat → L2.St → Hp → Prop, (∃ m, W 0 m σ H) ∧ ∀ i m σ H, W i m σ H →
      ((Itc lo c n).stop i H ∧ D.nx σ H) ∨ ((Itc lo c n).go i H ∧ ∃ N : L2.St → Hp → Prop, (∀ σ' H', N σ' H' → ∃ m', m' < m ∧ W (i + 1) m' σ' H') ∧ ∀ x H', (Itc lo c n).yld i H x H' → g x σ H' fun σ2 H2 => tb { D with nx := N, ct := N, bk := D.nx } σ2 H2) :=
  for_rangeC Pv h0 (fun i σ H hx p => hs i σ H hx p _ ⟨fun _ _ h => h, fun _ _ h => h, fun _ _ h => h, fun _ _ h => h⟩) hd
end HX
set_option Elab.async false
set_option linter.all false
set_option maxRecDepth 100000
/-! f(k = v, ..) where what is raised is wished for at the caller's slots -/
namespace HX
open PySem PySem.Spec PyProof.Rows L2
theorem passFN {X : Cx} (σ : L2.St) : PassesAt (L2.CX X.prog X.w) X σ (fun _ _ _ => False) := fun _ _ _ _ _ _ h => by
  obtain ⟨_, _, _, _, _, _, _, _, _, _, _, _, z⟩ := h
  exact z.elim
def tCallNS (m : Nat) (sp : Sp) (gV : List V → List V → List V) (E : L2.St → XK) (tk : TA) : TE := fun σ H Q => tk σ H fun zs H2 => zs.length = m ∧ sp (gV [] zs) H2 Q (E σ)
section
variable {X : Cx} {CX : CXT} {k : Nat} {f : Addr} {fd : FuncData} {ps ks : List Str} {sp : Sp} {E : L2.St → XK} {x : Str} {p pos : Pos} {kws : List Keyword} {tk : TA} {g : List Value → List Value → List Value} {gV : List V → List V → List V}
theorem pe_callNS0 (F : FnOk X.prog X.w X.K X.mg X.base CX k f fd ps sp) (hr : Room k X.A) (hg : Gl X x) (hm : X.mg x = some (.ref f)) (hk : PySem.W.keepIn X.K (.ref f) = true) (hb : KBn X.K fd ps 0 ks g gV) (hx : ∀ σ, PassesAt CX X σ (E σ)) (hkw : PK X kws tk)
    (hall : (backToKw pos (keywordEach kws X.env)).all (·.1.isSome) = true := by rfl) (hks : (backToKw pos (keywordEach kws X.env)).filterMap (·.1) = ks := by rfl) (hdb : (x == ("__debug__" : Str)) = false := by decide)
    (hpl : ((backTo pos (starEach [] X.env)).any (·.1) || (backToKw pos (keywordEach kws X.env)).any (·.1.isNone)) = false := by rfl) :
    PE X (.Call (.Name x p) [] kws pos) (tCallNS ks.length sp gV E tk) := by
  refine ⟨fun pins s σ H Q I h => ?_⟩
  refine wpAny_Call_Name_kw (ld_glob I hg hm ?_ hdb)
  refine PySem.W.callWith_KW0 (h₀ := X.base) I.ok.mod.kin hk hall ?_ hpl
  refine thn (hkw.run pos pins s σ H _ I h) fun ws s2 ⟨zs, H2, I2, rz, l2, q2⟩ => ⟨I2.kIn, ?_⟩
  rw [hks]
  have l2' : zs.length = ks.length := l2
  have r2 := hb.rel .nil rz
  refine wpAny_call (codeAny_mono (F.run X.A X.stack s2 H2 ⟨[], ks.zip ws⟩ (g [] ws) (gV [] zs) Q (E σ) hr I2.env0 (hb.to s2 [] ws I2.kIn rfl (rz.length.symm.trans l2')) r2 q2) fun r s' hq => ?_)
  cases r with
  | error e => exact hx σ pins H2 s2 e s' I2 hq
  | ok fl =>
    cases fl with
    | ret u => exact I2.after hq
    | next => exact False.elim hq
    | brk => exact False.elim hq
    | cont => exact False.elim hq
end
end HX
set_option Elab.async false
set_option linter.all false
set_option maxRecDepth 100000
/-! the least one from a place on -/
namespace MN
open PySem TV FM FC FI
def LeastOne (n : Int) (p q : Nat) : Prop := p ≤ q ∧ tb n q = true ∧ ∀ j, p ≤ j → j < q → tb n j = false
theorem LeastOne.uniq {n : Int} {p q r : Nat} (h : LeastOne n p q) (g : LeastOne n p r) : q = r := by
  rcases Nat.lt_trichotomy q r with z | z | z
  · have := g.2.2 q h.1 z
    rw [h.2.1] at this
    cases this
  · exact z
  · have := h.2.2 r g.1 z
    rw [g.2.1] at this
    cases this
theorem tb_step (n : Int) (p : Nat) (h : p + 1 ∉ turnsOf n) : tb n (p + 1) = tb n p := by
  have := mt (mem_tb (turnsOf_asc n) (p + 1)).mpr h
  rw [turnsOf_tv, if_neg (by omega)] at this
  have e : p + 1 - 1 = p := rfl
  rw [e] at this
  revert this
  cases tb n (p + 1) <;> cases tb n p <;> simp
theorem tb_flip (n : Int) (p : Nat) (h : p + 1 ∈ turnsOf n) : tb n (p + 1) = !tb n p := by
  have := (mem_tb (turnsOf_asc n) (p + 1)).mp h
  rw [turnsOf_tv, if_neg (by omega)] at this
  have e : p + 1 - 1 = p := rfl
  rw [e] at this
  revert this
  cases tb n (p + 1) <;> cases tb n p <;> simp
theorem same_between {n : Int} {p : Nat} : ∀ m : Nat, (∀ t ∈ turnsOf n, ¬ (p < t ∧ t ≤ p + m)) → tb n (p + m) = tb n p
  | 0, _ => rfl
  | m + 1, h => by
    rw [show p + (m + 1) = (p + m) + 1 from rfl, tb_step n (p + m) fun z => h _ z ⟨by omega, by omega⟩]
    exact same_between m fun t ht z => h t ht ⟨z.1, by omega⟩
theorem least_turn {n : Int} {p t : Nat} (h0 : tb n p = false) (ht : t ∈ turnsOf n) (hlt : p < t) (hno : ∀ u ∈ turnsOf n, p < u → t ≤ u) : LeastOne n p t := by
  have low : ∀ j, p ≤ j → j < t → tb n j = false := fun j h1 h2 => by
    obtain ⟨m, rfl⟩ : ∃ m, j = p + m := ⟨j - p, by omega⟩
    rw [same_between m fun u hu z => by have := hno u hu z.1; omega]
    exact h0
  refine ⟨by omega, ?_, low⟩
  obtain ⟨s, rfl⟩ : ∃ s, t = s + 1 := ⟨t - 1, by omega⟩
  rw [tb_flip n s ht, low s (by omega) (by omega)]
  rfl
theorem none_after {n : Int} {p : Nat} (h0 : tb n p = false) (h : ∀ t ∈ turnsOf n, t ≤ p) : ∀ j, p ≤ j → tb n j = false := fun j hj => by
  obtain ⟨m, rfl⟩ : ∃ m, j = p + m := ⟨j - p, by omega⟩
  rw [same_between m fun u hu z => by have := h u hu; omega]
  exact h0
end MN
set_option Elab.async false
set_option linter.all false
set_option maxRecDepth 100000
/-! weights of the forms of sums of two places and a small number (plain mathematics) -/
namespace MZ
open PySem TV FM DX FC PM FI MN
theorem tbq (n : Int) (u i : Nat) : tb n (u + i) = decide (n / 2 ^ u / 2 ^ i % 2 = 1) := by
  rw [← tb_shift]
  rfl
theorem pow_big {u k : Nat} (h : k ≤ u) : (2 : Int) ^ k ≤ 2 ^ u := by
  have := Nat.pow_le_pow_right (n := 2) (by decide) h
  have e : ((2 ^ k : Nat) : Int) = 2 ^ k := by norm_cast
  have e2 : ((2 ^ u : Nat) : Int) = 2 ^ u := by norm_cast
  omega
theorem quot {M A ra : Int} (hM : 0 < M) (h0 : 0 ≤ ra) (k : Nat) (h1 : ra < M * (k + 1)) : ∃ c : Int, 0 ≤ c ∧ c ≤ k ∧ (M * A + ra) / M = A + c := by
  refine ⟨ra / M, Int.ediv_nonneg h0 (by omega), ?_, ?_⟩
  · have : ra / M < (k + 1 : Int) := Int.ediv_lt_of_lt_mul hM (by rw [Int.mul_comm]; exact h1)
    omega
  · rw [Int.add_comm, Int.add_mul_ediv_left _ _ (by omega), Int.add_comm]
theorem dvd_nat {a b : Int} : (a = b) ↔ (decide (a = b) = true) := by simp
theorem near2 (a b : Int) (j : Nat) (hj : j ≤ 11) {t : Nat} (ht : t ∈ turnsOf (a + b + j)) : t ≤ 6 ∨ ∃ q, (q ∈ turnsOf a ∨ q ∈ turnsOf b) ∧ q ≤ t ∧ t ≤ q + 2 := by
  apply Classical.byContradiction
  intro hc
  have h6 : ¬ t ≤ 6 := fun z => hc (.inl z)
  obtain ⟨u, rfl⟩ : ∃ u, t = u + 3 := ⟨t - 3, by omega⟩
  have no : ∀ {x : Int}, (∀ q, q ∈ turnsOf x → ¬ (q ≤ u + 3 ∧ u + 3 ≤ q + 2)) → tb x (u + 1) = tb x (u + 0) ∧ tb x (u + 2) = tb x (u + 1) ∧ tb x (u + 3) = tb x (u + 2) := fun {x} h =>
    ⟨tb_step x u fun z => h _ z ⟨by omega, by omega⟩, tb_step x (u + 1) fun z => h _ z ⟨by omega, by omega⟩, tb_step x (u + 2) fun z => h _ z ⟨by omega, by omega⟩⟩
  have na := no (x := a) fun q hq z => hc (.inr ⟨q, .inl hq, z⟩)
  have nb := no (x := b) fun q hq z => hc (.inr ⟨q, .inr hq, z⟩)
  have fl := tb_flip _ (u + 2) ht
  have hM := pow_big (u := u) (k := 4) (by omega)
  have ra0 := Int.emod_nonneg a (b := 2 ^ u) (by omega)
  have ra1 := Int.emod_lt_of_pos a (b := 2 ^ u) (by omega)
  have rb0 := Int.emod_nonneg b (b := 2 ^ u) (by omega)
  have rb1 := Int.emod_lt_of_pos b (b := 2 ^ u) (by omega)
  have ea := Int.mul_ediv_add_emod a (2 ^ u)
  have eb := Int.mul_ediv_add_emod b (2 ^ u)
  have es : a + b + j = 2 ^ u * (a / 2 ^ u + b / 2 ^ u) + (a % 2 ^ u + b % 2 ^ u + j) := by
    rw [Int.mul_add]
    omega
  obtain ⟨c, c0, c1, ec⟩ := quot (M := 2 ^ u) (A := a / 2 ^ u + b / 2 ^ u) (ra := a % 2 ^ u + b % 2 ^ u + j) (by omega) (by omega) 2 (by
    show _ < 2 ^ u * (3 : Int)
    omega)
  rw [← es] at ec
  rw [show u + 2 + 1 = u + 3 from rfl] at fl
  simp only [tbq] at na nb fl
  rw [ec] at fl
  generalize a / 2 ^ u = A at *
  generalize b / 2 ^ u = B at *
  simp only [show (2 : Int) ^ 0 = 1 from rfl, show (2 : Int) ^ 1 = 2 from rfl, show (2 : Int) ^ 2 = 4 from rfl, show (2 : Int) ^ 3 = 8 from rfl, Int.ediv_one, decide_eq_decide] at na nb
  have fl2 : (A + B + c) / 8 % 2 ≠ (A + B + c) / 4 % 2 := fun z => by
    rw [show (2 : Int) ^ 3 = 8 from rfl, show (2 : Int) ^ 2 = 4 from rfl, z] at fl
    revert fl
    cases decide ((A + B + c) / 4 % 2 = 1) <;> simp
  omega
theorem near1 (a : Int) (i : Nat) (hi : i ≤ 2) {t : Nat} (ht : t ∈ turnsOf (a + i)) : t ≤ 2 ∨ ∃ q, q ∈ turnsOf a ∧ q ≤ t ∧ t ≤ q + 1 := by
  apply Classical.byContradiction
  intro hc
  have h6 : ¬ t ≤ 2 := fun z => hc (.inl z)
  obtain ⟨u, rfl⟩ : ∃ u, t = u + 2 := ⟨t - 2, by omega⟩
  have na : tb a (u + 1) = tb a (u + 0) ∧ tb a (u + 2) = tb a (u + 1) :=
    ⟨tb_step a u fun z => hc (.inr ⟨_, z, by omega, by omega⟩), tb_step a (u + 1) fun z => hc (.inr ⟨_, z, by omega, by omega⟩)⟩
  have fl := tb_flip _ (u + 1) ht
  have hM := pow_big (u := u) (k := 1) (by omega)
  have ra0 := Int.emod_nonneg a (b := 2 ^ u) (by omega)
  have ra1 := Int.emod_lt_of_pos a (b := 2 ^ u) (by omega)
  have ea := Int.mul_ediv_add_emod a (2 ^ u)
  have es : a + i = 2 ^ u * (a / 2 ^ u) + (a % 2 ^ u + i) := by omega
  obtain ⟨c, c0, c1, ec⟩ := quot (M := 2 ^ u) (A := a / 2 ^ u) (ra := a % 2 ^ u + i) (by omega) (by omega) 1 (by
    show _ < 2 ^ u * (2 : Int)
    omega)
  rw [← es] at ec
  rw [show u + 1 + 1 = u + 2 from rfl] at fl
  simp only [tbq] at na fl
  rw [ec] at fl
  generalize a / 2 ^ u = A at *
  simp only [show (2 : Int) ^ 0 = 1 from rfl, show (2 : Int) ^ 1 = 2 from rfl, show (2 : Int) ^ 2 = 4 from rfl, Int.ediv_one, decide_eq_decide] at na
  have fl2 : (A + c) / 4 % 2 ≠ (A + c) / 2 % 2 := fun z => by
    rw [show (2 : Int) ^ 2 = 4 from rfl, show (2 : Int) ^ 1 = 2 from rfl, z] at fl
    revert fl
    cases decide ((A + c) / 2 % 2 = 1) <;> simp
  omega
/-! ### sums over lists without repeats -/
theorem sub_sum (w : Nat → Nat) : ∀ (L U : List Nat), L.Nodup → (∀ t ∈ L, t ∈ U) → (L.map w).sum ≤ (U.map w).sum
  | [], U, _, _ => by simp
  | t :: L, U, hn, h => by
    obtain ⟨U1, U2, rfl⟩ := List.append_of_mem (h t (by simp))
    obtain ⟨h1, h2⟩ := List.nodup_cons.mp hn
    have ih := sub_sum w L (U1 ++ U2) h2 fun x hx => by
      have := h x (by simp [hx])
      simp only [List.mem_append, List.mem_cons] at this ⊢
      rcases this with z | z | z
      · exact .inl z
      · subst z
        exact absurd hx h1
      · exact .inr z
    simp only [List.map_append, List.map_cons, List.sum_append, List.sum_cons] at ih ⊢
    omega
theorem turns_nodup (n : Int) : (turnsOf n).Nodup := by
  have := asc_pairwise.mp (turnsOf_asc n)
  exact this.imp fun {a b} h => by omega
/-- what the form of a number weighs, by its turns -/
noncomputable def w (t : Nat) : Nat := wt (fo (t : Nat))
noncomputable def dp (t : Nat) : Nat := (fo (t : Nat)).depth
def Pl (n : Int) : Prop := -(2 ^ 64) ≤ n ∧ n < 2 ^ 64
theorem wt_rows : ∀ {ds : List PyData}, FmAll ds → wtAll ds = ((vals ds).map w).sum
  | [], _ => by rw [wtAll_nil, vals_nil]; rfl
  | d :: r, h => by
    obtain ⟨h1, h2, h3⟩ := (fmAll_cons d r).mp h
    rw [wtAll_cons, vals_cons, List.map_cons, List.sum_cons, wt_rows h3]
    have : w (val d).toNat = wt d := by
      unfold w
      rw [show (((val d).toNat : Nat) : Int) = val d by omega, fo_val h1]
    rw [this]
theorem fo_big {n : Int} (h : ¬ Pl n) : ∃ ds, fo n = .tuple ds ∧ FmAll ds ∧ vals ds = turnsOf n := by
  rcases fm_cases (fo_fm n) with ⟨i, e⟩ | ⟨ds, e⟩
  · have f := fo_fm n
    rw [e] at f
    have := (fm_int i).mp f
    have ev := val_fo n
    rw [e, val_int] at ev
    subst ev
    exact absurd this h
  · have f := fo_fm n
    rw [e] at f
    obtain ⟨f1, f2, _⟩ := (fm_tuple ds).mp f
    have ev := val_fo n
    rw [e, val_tuple] at ev
    exact ⟨ds, e, f1, (turnsOf_is f2 ev).symm⟩
theorem wt_plain {n : Int} (h : Pl n) : wt (fo n) = 1 := by rw [fo_int h, wt_int]
theorem wt_big {n : Int} (h : ¬ Pl n) : wt (fo n) = 1 + ((turnsOf n).map w).sum := by
  obtain ⟨ds, e, f, ev⟩ := fo_big h
  rw [e, wt_tuple, wt_rows f, ev]
theorem wt_any (n : Int) : wt (fo n) ≤ 1 + ((turnsOf n).map w).sum := by
  by_cases h : Pl n
  · rw [wt_plain h]
    omega
  · rw [wt_big h]
    exact Nat.le_refl _
theorem dep_any {n : Int} {k : Nat} (h : ∀ t ∈ turnsOf n, dp t ≤ k) : (fo n).depth ≤ k + 1 := by
  by_cases hp : Pl n
  · rw [fo_int hp, depth_int]
    omega
  · obtain ⟨ds, e, f, ev⟩ := fo_big hp
    rw [e, depth_tuple]
    have := depthAll_le.mpr fun d (hd : d ∈ ds) => by
      obtain ⟨fd, h0⟩ := fmAll_mem f d hd
      have hm : (val d).toNat ∈ turnsOf n := by rw [← ev]; exact mem_vals.mpr ⟨d, hd, rfl⟩
      have := h _ hm
      unfold dp at this
      rw [show (((val d).toNat : Nat) : Int) = val d by omega, fo_val fd] at this
      exact this
    omega
theorem dep_mem_turn {n : Int} {k : Nat} (hp : ¬ Pl n) (h : (fo n).depth ≤ k + 1) : ∀ t ∈ turnsOf n, dp t ≤ k := fun t ht => by
  obtain ⟨ds, e, f, ev⟩ := fo_big hp
  rw [e, depth_tuple] at h
  rw [← ev] at ht
  obtain ⟨d, hd, rfl⟩ := mem_vals.mp ht
  obtain ⟨fd, h0⟩ := fmAll_mem f d hd
  have := dep_mem hd
  unfold dp
  show (fo ((val d).toNat : Nat)).depth ≤ k
  rw [show (((val d).toNat : Nat) : Int) = val d by omega, fo_val fd]
  omega
theorem w_small {t : Nat} (h : t < 2 ^ 64) : w t = 1 := wt_plain ⟨by omega, by omega⟩
theorem dp_small {t : Nat} (h : t < 2 ^ 64) : dp t = 0 := by
  unfold dp
  rw [fo_int ⟨by omega, by omega⟩, depth_int]
theorem w_pos (t : Nat) : 1 ≤ w t := wt_pos _
theorem turns_64 {n : Int} (h : Pl n) : ∀ t ∈ turnsOf n, t ≤ 64 := (tv_range (turnsOf_asc n)).mpr (by rw [turnsOf_tv]; exact h)
theorem turns_66 {n : Int} (h1 : 0 ≤ n) (h2 : n ≤ 2 ^ 64 + 1) : ∀ t ∈ turnsOf n, t ≤ 65 := (tv_range (turnsOf_asc n)).mpr (by rw [turnsOf_tv]; omega)
theorem sum_le_mul {w' v : Nat → Nat} {c : Nat} : ∀ {L : List Nat}, (∀ q ∈ L, w' q ≤ c * v q) → (L.map w').sum ≤ c * (L.map v).sum
  | [], _ => by simp
  | q :: L, h => by
    have h1 := h q (by simp)
    have h2 := sum_le_mul (L := L) fun x hx => h x (by simp [hx])
    rw [List.map_cons, List.map_cons, List.sum_cons, List.sum_cons, Nat.mul_add]
    omega
theorem sum_two {v : Nat → Nat} : ∀ L : List Nat, (L.map fun q => 2 * v q).sum = 2 * (L.map v).sum
  | [] => by simp
  | q :: L => by
    rw [List.map_cons, List.map_cons, List.sum_cons, List.sum_cons, sum_two L]
    omega
theorem dep_plain {n : Int} {k : Nat} (hp : ¬ Pl n) (h : (fo n).depth ≤ k) : 1 ≤ k := by
  obtain ⟨ds, e, f, ev⟩ := fo_big hp
  rw [e, depth_tuple] at h
  omega
theorem sum_const {w' : Nat → Nat} {c : Nat} : ∀ {L : List Nat}, (∀ q ∈ L, w' q ≤ c) → (L.map w').sum ≤ L.length * c
  | [], _ => by simp
  | q :: L, h => by
    have h1 := h q (by simp)
    have h2 := sum_const (L := L) fun x hx => h x (by simp [hx])
    rw [List.map_cons, List.sum_cons, List.length_cons, Nat.succ_mul]
    omega
theorem turns_p64 : turnsOf (2 ^ 64) = [64, 65] := turnsOf_is (asc_pairwise.mpr (by decide)) (by decide)
theorem turns_p641 : turnsOf (2 ^ 64 + 1) = [0, 1, 64, 65] := turnsOf_is (asc_pairwise.mpr (by decide)) (by decide)
theorem sum_map_map (v : Nat → Nat) (f : Nat → Nat) (L : List Nat) : ((L.map f).map v).sum = (L.map fun q => v (f q)).sum := by rw [List.map_map]; rfl
/-- one or two more -/
theorem wt_more : ∀ (h : Nat) (n : Int), 0 ≤ n → (fo n).depth ≤ h → ∀ i : Nat, i ≤ 2 → (fo (n + i)).depth ≤ h + 1 ∧ (i ≤ 1 → 2 * wt (fo (n + i)) ≤ (2 * h + 7) * wt (fo n)) ∧ (2 ≤ h → 2 * wt (fo (n + i)) ≤ (2 * h + 7) * wt (fo n)) := by
  intro h
  induction h with
  | zero =>
    intro n h0 hd i hi
    have hp : Pl n := Classical.byContradiction fun z => by have := dep_plain z hd; omega
    rw [wt_plain hp]
    by_cases hp2 : Pl (n + i)
    · rw [wt_plain hp2, fo_int hp2, depth_int]
      omega
    · obtain ⟨p1, p2⟩ := hp
      have e : n + i = 2 ^ 64 ∨ n + i = 2 ^ 64 + 1 ∧ 2 ≤ i := by
        unfold Pl at hp2
        omega
      refine ⟨dep_any fun t ht => ?_, fun h1 => ?_, fun z => by omega⟩
      · rw [dp_small (by have := turns_66 (n := n + i) (by omega) (by omega) t ht; omega)]
        exact Nat.le_refl _
      · rcases e with e | ⟨_, e⟩
        · rw [e]
          have := wt_any (2 ^ 64)
          rw [turns_p64] at this
          simp only [List.map_cons, List.map_nil, List.sum_cons, List.sum_nil, w_small (t := 64) (by decide), w_small (t := 65) (by decide)] at this
          omega
        · omega
  | succ h ih =>
    intro n h0 hd i hi
    by_cases hp : Pl n
    · rw [wt_plain hp]
      by_cases hp2 : Pl (n + i)
      · rw [wt_plain hp2, fo_int hp2, depth_int]
        omega
      · obtain ⟨p1, p2⟩ := hp
        have e : n + i = 2 ^ 64 ∨ n + i = 2 ^ 64 + 1 ∧ 2 ≤ i := by
          unfold Pl at hp2
          omega
        have wb : (i ≤ 1 → wt (fo (n + i)) ≤ 3) ∧ wt (fo (n + i)) ≤ 5 := by
          rcases e with e | ⟨e, h2⟩
          · rw [e]
            have := wt_any (2 ^ 64)
            rw [turns_p64] at this
            simp only [List.map_cons, List.map_nil, List.sum_cons, List.sum_nil, w_small (t := 64) (by decide), w_small (t := 65) (by decide)] at this
            omega
          · rw [e]
            have := wt_any (2 ^ 64 + 1)
            rw [turns_p641] at this
            simp only [List.map_cons, List.map_nil, List.sum_cons, List.sum_nil, w_small (t := 64) (by decide), w_small (t := 65) (by decide), w_small (t := 0) (by decide), w_small (t := 1) (by decide)] at this
            omega
        refine ⟨Nat.le_trans (dep_any (k := 0) fun t ht => ?_) (by omega), fun h1 => ?_, fun z => ?_⟩
        · rw [dp_small (by have := turns_66 (n := n + i) (by omega) (by omega) t ht; omega)]
          exact Nat.le_refl _
        · have := wb.1 h1
          omega
        · have := wb.2
          omega
    · have hq := dep_mem_turn hp hd
      have hs1 : ((turnsOf n).map fun q => 2 * w (q + 1)).sum ≤ (2 * h + 7) * ((turnsOf n).map w).sum := sum_le_mul fun q hq' => by
        have := (ih (q : Nat) (by omega) (hq q hq') 1 (by decide)).2.1 (by decide)
        exact this
      rw [sum_two (v := fun q => w (q + 1))] at hs1
      have hsub := sub_sum w (turnsOf (n + i)) ([0, 1, 2] ++ (turnsOf n ++ (turnsOf n).map (· + 1))) (turns_nodup _) fun t ht => by
        rcases near1 n i hi ht with h2 | ⟨q, hq, h1, h2⟩
        · refine List.mem_append.mpr (.inl ?_)
          match t, h2 with
          | 0, _ => simp
          | 1, _ => simp
          | 2, _ => simp
        · refine List.mem_append.mpr (.inr (List.mem_append.mpr ?_))
          by_cases e : t = q
          · exact .inl (e ▸ hq)
          · exact .inr (List.mem_map.mpr ⟨q, hq, by omega⟩)
      rw [List.map_append, List.map_append, List.sum_append, List.sum_append, sum_map_map] at hsub
      simp only [List.map_cons, List.map_nil, List.sum_cons, List.sum_nil, w_small (t := 0) (by decide), w_small (t := 1) (by decide), w_small (t := 2) (by decide)] at hsub
      have h1 := wt_any (n + i)
      have h2 := wt_big hp
      have hm : (2 * (h + 1) + 7) * wt (fo n) = (2 * h + 9) + 2 * ((turnsOf n).map w).sum + (2 * h + 7) * ((turnsOf n).map w).sum := by
        rw [h2, Nat.mul_add, Nat.mul_one, show 2 * (h + 1) + 7 = 2 + (2 * h + 7) by omega, Nat.add_mul]
        omega
      have all : 2 * wt (fo (n + i)) ≤ (2 * (h + 1) + 7) * wt (fo n) := by
        rw [hm]
        omega
      refine ⟨dep_any fun t ht => ?_, fun _ => all, fun _ => all⟩
      rcases near1 n i hi ht with h2 | ⟨q, hq', h1, h2⟩
      · rw [dp_small (by omega)]
        exact Nat.zero_le _
      · by_cases e : t = q
        · rw [e]
          have := hq q hq'
          omega
        · have := (ih (q : Nat) (by omega) (hq q hq') 1 (by decide)).1
          rw [show t = q + 1 by omega]
          exact this
/-- what stands near the turns of a place -/
theorem sum_near {h : Nat} (h2 : 2 ≤ h) {a : Int} (ha : 0 ≤ a) (da : (fo a).depth ≤ h + 1) :
    ((turnsOf a).map w).sum + ((turnsOf a).map fun q => w (q + 1)).sum + ((turnsOf a).map fun q => w (q + 2)).sum ≤ (2 * h + 8) * wt (fo a) + 195 ∧ ∀ q ∈ turnsOf a, ∀ i, i ≤ 2 → dp (q + i) ≤ h + 1 := by
  by_cases hp : Pl a
  · have ht := turns_64 hp
    have hl : (turnsOf a).length ≤ 65 := by
      have := sub_sum (fun _ => 1) (turnsOf a) (List.range 65) (turns_nodup a) fun t h => List.mem_range.mpr (by have := ht t h; omega)
      have e1 := sum_const (w' := fun _ => 1) (c := 1) (L := List.range 65) fun q _ => Nat.le_refl 1
      rw [List.length_range] at e1
      have e2 : ∀ L : List Nat, (L.map fun _ => 1).sum = L.length := fun L => by
        induction L with
        | nil => rfl
        | cons x L ih => rw [List.map_cons, List.sum_cons, ih, List.length_cons]; omega
      rw [e2] at this
      omega
    have s0 := sum_const (w' := w) (c := 1) (L := turnsOf a) fun q hq => by rw [w_small (by have := ht q hq; omega)]; exact Nat.le_refl 1
    have s1 := sum_const (w' := fun q => w (q + 1)) (c := 1) (L := turnsOf a) fun q hq => by rw [w_small (by have := ht q hq; omega)]; exact Nat.le_refl 1
    have s2 := sum_const (w' := fun q => w (q + 2)) (c := 1) (L := turnsOf a) fun q hq => by rw [w_small (by have := ht q hq; omega)]; exact Nat.le_refl 1
    refine ⟨by omega, fun q hq i hi => ?_⟩
    rw [dp_small (by have := ht q hq; omega)]
    exact Nat.zero_le _
  · have hq := dep_mem_turn hp da
    have hs1 : ((turnsOf a).map fun q => 2 * w (q + 1)).sum ≤ (2 * h + 7) * ((turnsOf a).map w).sum := sum_le_mul fun q hq' => (wt_more h (q : Nat) (by omega) (hq q hq') 1 (by decide)).2.1 (by decide)
    have hs2 : ((turnsOf a).map fun q => 2 * w (q + 2)).sum ≤ (2 * h + 7) * ((turnsOf a).map w).sum := sum_le_mul fun q hq' => (wt_more h (q : Nat) (by omega) (hq q hq') 2 (by decide)).2.2 h2
    rw [sum_two (v := fun q => w (q + 1))] at hs1
    rw [sum_two (v := fun q => w (q + 2))] at hs2
    have e := wt_big hp
    have hm : (2 * h + 8) * wt (fo a) = (2 * h + 8) + ((turnsOf a).map w).sum + (2 * h + 7) * ((turnsOf a).map w).sum := by
      rw [e, Nat.mul_add, Nat.mul_one, show 2 * h + 8 = 1 + (2 * h + 7) by omega, Nat.add_mul]
      omega
    refine ⟨by rw [hm]; omega, fun q hq' i hi => ?_⟩
    exact (wt_more h (q : Nat) (by omega) (hq q hq') i hi).1
/-- the form of the sum of two places and a small number -/
theorem wt_sum3 {h : Nat} (h2 : 2 ≤ h) {a b : Int} (ha : 0 ≤ a) (hb : 0 ≤ b) (da : (fo a).depth ≤ h + 1) (db : (fo b).depth ≤ h + 1) {j : Nat} (hj : j ≤ 11) :
    wt (fo (a + b + j)) ≤ (2 * h + 8) * (wt (fo a) + wt (fo b)) + 400 ∧ (fo (a + b + j)).depth ≤ h + 2 := by
  obtain ⟨sa, ga⟩ := sum_near h2 ha da
  obtain ⟨sb, gb⟩ := sum_near h2 hb db
  have hsub := sub_sum w (turnsOf (a + b + j)) (List.range 7 ++ ((turnsOf a ++ ((turnsOf a).map (· + 1) ++ (turnsOf a).map (· + 2))) ++ (turnsOf b ++ ((turnsOf b).map (· + 1) ++ (turnsOf b).map (· + 2))))) (turns_nodup _) fun t ht => by
    rcases near2 a b j hj ht with h2 | ⟨q, hq, h1, h2⟩
    · exact List.mem_append.mpr (.inl (List.mem_range.mpr (by omega)))
    · refine List.mem_append.mpr (.inr (List.mem_append.mpr ?_))
      have pick : ∀ {x : Int}, q ∈ turnsOf x → t ∈ turnsOf x ++ ((turnsOf x).map (· + 1) ++ (turnsOf x).map (· + 2)) := fun {x} hx => by
        by_cases e0 : t = q
        · exact List.mem_append.mpr (.inl (e0 ▸ hx))
        · refine List.mem_append.mpr (.inr (List.mem_append.mpr ?_))
          by_cases e1 : t = q + 1
          · exact .inl (List.mem_map.mpr ⟨q, hx, e1.symm⟩)
          · exact .inr (List.mem_map.mpr ⟨q, hx, by omega⟩)
      rcases hq with hq | hq
      · exact .inl (pick hq)
      · exact .inr (pick hq)
  simp only [List.map_append, List.sum_append, sum_map_map] at hsub
  have s7 := sum_const (w' := w) (c := 1) (L := List.range 7) fun q hq => by rw [w_small (by have := List.mem_range.mp hq; omega)]; exact Nat.le_refl 1
  rw [List.length_range] at s7
  have h1 := wt_any (a + b + j)
  refine ⟨by rw [Nat.mul_add]; omega, ?_⟩
  refine dep_any fun t ht => ?_
  rcases near2 a b j hj ht with h3 | ⟨q, hq, h3, h4⟩
  · rw [dp_small (by omega)]
    exact Nat.zero_le _
  · have := show dp (q + (t - q)) ≤ h + 1 from by
      rcases hq with hq | hq
      · exact ga q hq _ (by omega)
      · exact gb q hq _ (by omega)
    rw [show q + (t - q) = t by omega] at this
    exact this
end MZ
set_option linter.all false
/-! ones below a place, by the turns (plain mathematics) -/
namespace MP
open PySem TV FM
/-- s * t0 - s * t1 + .. -/
def alt : Int → List Nat → Int
  | _, [] => 0
  | s, t :: r => s * t + alt (-s) r
theorem alt_snoc : ∀ (r : List Nat) (s : Int) (a : Nat), alt s (r ++ [a]) = alt s r + (if r.length % 2 = 0 then s * a else -(s * a))
  | [], s, a => by
    show s * a + 0 = 0 + (if (0 : Nat) % 2 = 0 then s * a else -(s * a))
    rw [if_pos (by decide)]
    omega
  | t :: r, s, a => by
    show s * t + alt (-s) (r ++ [a]) = s * t + alt (-s) r + _
    rw [alt_snoc r (-s) a, List.length_cons, Int.neg_mul]
    by_cases h : r.length % 2 = 0
    · rw [if_pos h, if_neg (by omega)]
      omega
    · rw [if_neg h, if_pos (by omega)]
      omega
def low (ts : List Nat) (p : Nat) : List Nat := ts.filter fun t => decide (t < p)
/-- how many ones below p -/
def onesB (n : Int) : Nat → Nat
  | 0 => 0
  | p + 1 => onesB n p + (if tb n p then 1 else 0)
def rowsB (ts : List Nat) (p : Nat) : List Nat := low ts p ++ (if (low ts p).length % 2 = 1 then [p] else [])
theorem low_zero (ts : List Nat) : low ts 0 = [] := by
  unfold low
  rw [List.filter_eq_nil_iff]
  intro t _
  simp
theorem low_len (ts : List Nat) (p : Nat) : (low ts (p + 1)).length = cnt ts p := by
  unfold low cnt
  rw [← List.countP_eq_length_filter]
  congr 1
  funext t
  exact decide_eq_decide.mpr (by omega)
theorem low_step : ∀ {ts : List Nat}, Asc ts → ∀ p : Nat, low ts (p + 1) = low ts p ++ (if p ∈ ts then [p] else [])
  | [], _, p => by simp [low]
  | t :: r, h, p => by
    have ih := low_step (ts := r) h.tail p
    have hgt : ∀ x ∈ r, t < x := fun x hx => Asc.lt h x hx
    have nil : ∀ q, q ≤ t → low r q = [] := fun q hq => by
      unfold low
      rw [List.filter_eq_nil_iff]
      intro x hx
      have := hgt x hx
      simp
      omega
    unfold low at *
    rw [List.filter_cons, List.filter_cons]
    by_cases h1 : t < p
    · rw [if_pos (by simp; omega), if_pos (by simpa using h1), ih, List.cons_append]
      have : (p ∈ t :: r) ↔ p ∈ r := by
        rw [List.mem_cons]
        constructor
        · rintro (z | z)
          · omega
          · exact z
        · exact .inr
      by_cases h2 : p ∈ r
      · rw [if_pos h2, if_pos (this.mpr h2)]
      · rw [if_neg h2, if_neg fun z => h2 (this.mp z)]
    · by_cases h2 : t = p
      · subst h2
        have e1 := nil t (Nat.le_refl _)
        rw [if_pos (by simp), if_neg (by simp), e1, if_pos (by simp), ih, e1]
        have : ¬ t ∈ r := fun z => by
          have := hgt t z
          omega
        rw [if_neg this]
        rfl
      · have hp : p < t := by omega
        have e1 := nil p (by omega)
        have e2 := nil (p + 1) (by omega)
        have : ¬ p ∈ t :: r := fun z => by
          rcases List.mem_cons.mp z with z | z
          · omega
          · have := hgt p z
            omega
        rw [if_neg (by simp; omega), if_neg (by simpa using h1), e1, e2, if_neg this]
        rfl
theorem rows_sum {ts : List Nat} (h : Asc ts) : ∀ p : Nat, alt (-1) (rowsB ts p) = (onesB (tv ts) p : Nat)
  | 0 => by
    unfold rowsB
    rw [low_zero]
    rfl
  | p + 1 => by
    have ih := rows_sum h p
    have hl := low_len ts p
    have hs := low_step h p
    have hb : tb (tv ts) p = decide ((low ts (p + 1)).length % 2 = 1) := by rw [hl]; exact tb_tv p h
    show alt (-1) (rowsB ts (p + 1)) = ((onesB (tv ts) p + (if tb (tv ts) p then 1 else 0) : Nat) : Int)
    rw [hb]
    unfold rowsB at ih ⊢
    by_cases hp : p ∈ ts
    · rw [if_pos hp] at hs
      have hl2 : (low ts (p + 1)).length = (low ts p).length + 1 := by rw [hs]; simp
      by_cases he : (low ts p).length % 2 = 1
      · rw [if_pos he, alt_snoc, if_neg (by omega)] at ih
        rw [if_neg (by omega), decide_eq_false (by omega), List.append_nil, hs, alt_snoc, if_neg (by omega)]
        simp
        omega
      · rw [if_neg he, List.append_nil] at ih
        rw [if_pos (by omega), decide_eq_true (by omega), alt_snoc, if_neg (by omega), hs, alt_snoc, if_pos (by omega)]
        simp
        omega
    · rw [if_neg hp, List.append_nil] at hs
      rw [hs]
      by_cases he : (low ts p).length % 2 = 1
      · rw [if_pos he, alt_snoc, if_neg (by omega)] at ih
        rw [if_pos he, decide_eq_true he, alt_snoc, if_neg (by omega)]
        simp
        omega
      · rw [if_neg he, List.append_nil] at ih
        rw [if_neg he, decide_eq_false he, List.append_nil]
        simp
        omega
theorem tb_not (n : Int) (p : Nat) : tb (-n - 1) p = !tb n p := by
  unfold tb
  have hp : (0 : Int) < 2 ^ p := Int.pow_pos (by decide)
  have e : (-n - 1) / 2 ^ p = -(n / 2 ^ p) - 1 := by
    have h1 := Int.mul_ediv_add_emod n (2 ^ p)
    have h2 := Int.emod_nonneg n (Int.ne_of_gt hp)
    have h3 := Int.emod_lt_of_pos n hp
    generalize n / 2 ^ p = q at *
    generalize n % 2 ^ p = r at *
    have : -n - 1 = (-q - 1) * 2 ^ p + (2 ^ p - 1 - r) := by
      rw [← h1, Int.sub_mul, Int.neg_mul, Int.mul_comm (2 ^ p)]
      omega
    rw [this, Int.add_comm, Int.add_mul_ediv_right _ _ (Int.ne_of_gt hp), Int.ediv_eq_zero_of_lt (by omega) (by omega)]
    omega
  rw [e]
  generalize n / 2 ^ p = q
  rw [← decide_not]
  exact decide_eq_decide.mpr (by omega)
theorem ones_not (n : Int) : ∀ p : Nat, onesB (-n - 1) p + onesB n p = p
  | 0 => rfl
  | p + 1 => by
    have ih := ones_not n p
    show onesB (-n - 1) p + (if tb (-n - 1) p then 1 else 0) + (onesB n p + (if tb n p then 1 else 0)) = p + 1
    rw [tb_not]
    cases tb n p <;> simp <;> omega
theorem ones_le (n : Int) : ∀ p : Nat, onesB n p ≤ p
  | 0 => Nat.le_refl _
  | p + 1 => by
    have := ones_le n p
    show onesB n p + _ ≤ p + 1
    split <;> omega
end MP
set_option Elab.async false
set_option linter.all false
set_option maxRecDepth 100000
/-! the one with a number (kth_one) -/
namespace MK
open PySem TV FM FC FI MN MP PM L2
theorem rgc2 {n : Nat} (h : n ≤ 1000000) : RgC 0 ((n : Nat) : Int) 2 ((n + 1) / 2) := by
  refine ⟨by decide, by decide, ?_, ?_⟩
  · have e : Builtin.Range.rangeSize 0 ((n : Nat) : Int) 2 = ((n + 1) / 2 : Nat) := by
      unfold Builtin.Range.rangeSize
      rw [if_pos (by decide)]
      split <;> omega
    have f : ∀ i : Int, -(2 ^ 62) ≤ i → i < 2 ^ 62 → Builtin.Range.rangeFitsLong i = true := fun i h1 h2 => by
      unfold Builtin.Range.rangeFitsLong
      rw [Bool.and_eq_true, decide_eq_true_eq, decide_eq_true_eq]
      omega
    unfold Builtin.Range.small
    rw [e]
    generalize hh : (((n + 1) / 2 : Nat) : Int) = k
    have hk : 0 ≤ k ∧ k < 2 ^ 40 := by omega
    simp only [f 0 (by decide) (by decide), f (n : Nat) (by omega) (by omega), f 2 (by decide) (by decide), f k (by omega) (by omega), Bool.true_and, Bool.and_true]
    rw [if_pos (by decide), f _ (by omega) (by omega), Bool.or_true]
  · unfold Builtin.Range.rangeSize
    rw [if_pos (by decide)]
    split <;> omega
/-- q is the one number r of n -/
def Kth (n : Int) (r : Nat) (q : Nat) : Prop := tb n q = true ∧ onesB n q = r
theorem ones_mono (n : Int) {p q : Nat} (h : p ≤ q) : onesB n p ≤ onesB n q := by
  obtain ⟨m, rfl⟩ : ∃ m, q = p + m := ⟨q - p, by omega⟩
  clear h
  induction m with
  | zero => exact Nat.le_refl _
  | succ m ih =>
    show _ ≤ onesB n (p + m) + _
    omega
theorem ones_at (n : Int) (q : Nat) (h : tb n q = true) : onesB n (q + 1) = onesB n q + 1 := by
  show onesB n q + (if tb n q then 1 else 0) = _
  rw [if_pos h]
theorem Kth.uniq {n : Int} {r p q : Nat} (h : Kth n r p) (g : Kth n r q) : p = q := by
  rcases Nat.lt_trichotomy p q with z | z | z
  · have h1 := ones_mono n (show p + 1 ≤ q from z)
    rw [ones_at n p h.1, h.2, g.2] at h1
    omega
  · exact z
  · have h1 := ones_mono n (show q + 1 ≤ p from z)
    rw [ones_at n q g.1, h.2, g.2] at h1
    omega
theorem ones_run {n : Int} {a : Nat} : ∀ m : Nat, (∀ j, a ≤ j → j < a + m → tb n j = true) → onesB n (a + m) = onesB n a + m
  | 0, _ => rfl
  | m + 1, h => by
    have := ones_run m fun j h1 h2 => h j h1 (by omega)
    show onesB n (a + m) + (if tb n (a + m) then 1 else 0) = _
    rw [if_pos (h (a + m) (by omega) (by omega)), this]
    omega
theorem zeros_run {n : Int} {a : Nat} : ∀ m : Nat, (∀ j, a ≤ j → j < a + m → tb n j = false) → onesB n (a + m) = onesB n a
  | 0, _ => rfl
  | m + 1, h => by
    have := zeros_run m fun j h1 h2 => h j h1 (by omega)
    show onesB n (a + m) + (if tb n (a + m) then 1 else 0) = _
    rw [if_neg (by rw [h (a + m) (by omega) (by omega)]; exact Bool.false_ne_true), this]
    rfl
theorem cnt_at {ts : List Nat} (hA : Asc ts) {i p : Nat} (hi : i ≤ ts.length) (h1 : ∀ j, j < i → ∀ a, ts[j]? = some a → a ≤ p) (h2 : ∀ b, ts[i]? = some b → p < b) : cnt ts p = i := by
  have e : cnt ts p = cnt (ts.take i) p + cnt (ts.drop i) p := by
    unfold TV.cnt
    rw [← List.countP_append, List.take_append_drop]
  have e1 : cnt (ts.take i) p = i := by
    rw [cnt_all (fun t ht => ?_), List.length_take]
    · omega
    · obtain ⟨j, hj⟩ := List.mem_iff_getElem?.mp ht
      rw [List.getElem?_take] at hj
      split at hj
      · rename_i hlt
        exact h1 j hlt t hj
      · cases hj
  have e2 : cnt (ts.drop i) p = 0 := by
    refine cnt_zero fun t ht => ?_
    by_cases hlt : i < ts.length
    · have hg := h2 ts[i] (List.getElem?_eq_getElem hlt)
      rw [List.drop_eq_getElem_cons hlt] at ht
      rcases List.mem_cons.mp ht with rfl | ht
      · exact hg
      · have : Asc (ts[i] :: ts.drop (i + 1)) := by
          have := asc_pairwise.mp hA
          rw [← List.take_append_drop i ts, List.drop_eq_getElem_cons hlt] at this
          exact asc_pairwise.mpr (List.pairwise_append.mp this).2.1
        have := this.lt t ht
        omega
    · rw [List.drop_of_length_le (by omega)] at ht
      cases ht
  omega
theorem asc_le {ts : List Nat} (hA : Asc ts) {i j a b : Nat} (hij : i ≤ j) (h1 : ts[i]? = some a) (h2 : ts[j]? = some b) : a ≤ b := by
  have hp := asc_pairwise.mp hA
  rw [List.pairwise_iff_getElem] at hp
  obtain ⟨q1, q2⟩ := List.getElem?_eq_some_iff.mp h1
  obtain ⟨q3, q4⟩ := List.getElem?_eq_some_iff.mp h2
  rcases Nat.lt_or_ge i j with z | z
  · have := hp i j q1 q3 z
    rw [q2, q4] at this
    omega
  · have : i = j := by omega
    subst this
    rw [q2] at q4
    omega
theorem asc_ltt {ts : List Nat} (hA : Asc ts) {i j a b : Nat} (hij : i < j) (h1 : ts[i]? = some a) (h2 : ts[j]? = some b) : a < b := by
  have hp := asc_pairwise.mp hA
  rw [List.pairwise_iff_getElem] at hp
  obtain ⟨q1, q2⟩ := List.getElem?_eq_some_iff.mp h1
  obtain ⟨q3, q4⟩ := List.getElem?_eq_some_iff.mp h2
  have := hp i j q1 q3 hij
  rw [q2, q4] at this
  exact this
/-- where the bit is told by the place among the turns -/
theorem bit_at {n : Int} {i p : Nat} (hi : i ≤ (turnsOf n).length) (h1 : i = 0 ∨ ∃ a, (turnsOf n)[i - 1]? = some a ∧ a ≤ p) (h2 : ∀ b, (turnsOf n)[i]? = some b → p < b) : tb n p = decide (i % 2 = 1) := by
  have hA := turnsOf_asc n
  have : cnt (turnsOf n) p = i := by
    refine cnt_at hA hi (fun j hj a ha => ?_) h2
    rcases h1 with h | ⟨b, hb, hbp⟩
    · omega
    · exact Nat.le_trans (asc_le hA (by omega) ha hb) hbp
  have e := tb_tv p hA
  rw [turnsOf_tv, this] at e
  exact e
/-- how many ones are below the run that begins with turn i (M lies beyond all) -/
noncomputable def wOf (n : Int) (M i : Nat) : Nat := onesB n ((turnsOf n).getD i M)
theorem w_zero (n : Int) (M : Nat) : wOf n M 0 = 0 := by
  unfold wOf
  have := zeros_run (n := n) (a := 0) ((turnsOf n).getD 0 M) fun j _ h2 => by
    rw [bit_at (i := 0) (Nat.zero_le _) (.inl rfl) fun b hb => ?_]
    · rfl
    · rw [List.getD_eq_getElem?_getD, hb] at h2
      simpa using h2
  rw [Nat.zero_add] at this
  exact this
theorem w_step {n : Int} {M i a b : Nat} (hM : ∀ t ∈ turnsOf n, t < M) (he : i % 2 = 0) (h1 : (turnsOf n)[i]? = some a) (h2 : (turnsOf n)[i + 1]? = some b) : wOf n M (i + 2) = wOf n M i + (b - a) := by
  have hA := turnsOf_asc n
  have hlt := asc_ltt hA (Nat.lt_succ_self i) h1 h2
  have l2 := (List.getElem?_eq_some_iff.mp h2).1
  unfold wOf
  have e1 : (turnsOf n).getD i M = a := by rw [List.getD_eq_getElem?_getD, h1]; rfl
  rw [e1]
  have r1 := ones_run (n := n) (a := a) (b - a) fun j g1 g2 => by
    rw [bit_at (i := i + 1) (by omega) (.inr ⟨a, h1, g1⟩) fun c hc => ?_]
    · exact decide_eq_true (by omega)
    · rw [h2] at hc
      cases hc
      omega
  rw [show a + (b - a) = b by omega] at r1
  obtain ⟨c, hc, hbc⟩ : ∃ c, (turnsOf n).getD (i + 2) M = c ∧ b < c := by
    cases h3 : (turnsOf n)[i + 2]? with
    | some c =>
      exact ⟨c, by rw [List.getD_eq_getElem?_getD, h3]; rfl, asc_ltt hA (by omega) h2 h3⟩
    | none =>
      exact ⟨M, by rw [List.getD_eq_getElem?_getD, h3]; rfl, hM b (List.mem_of_getElem? h2)⟩
  rw [hc]
  have r2 := zeros_run (n := n) (a := b) (c - b) fun j g1 g2 => by
    rw [bit_at (i := i + 2) (by omega) (.inr ⟨b, h2, g1⟩) fun d hd => ?_]
    · exact decide_eq_false (by omega)
    · rw [List.getD_eq_getElem?_getD, hd] at hc
      have : d = c := hc
      omega
  rw [show b + (c - b) = c by omega] at r2
  rw [r2, r1]
/-- the one is found in this run -/
theorem kth_here {n : Int} {M i a l r : Nat} (he : i % 2 = 0) (h1 : (turnsOf n)[i]? = some a) (h2 : ∀ b, (turnsOf n)[i + 1]? = some b → a + l < b) (hw : wOf n M i + l = r) : Kth n r (a + l) := by
  have l1 := (List.getElem?_eq_some_iff.mp h1).1
  have bits : ∀ j, a ≤ j → j ≤ a + l → tb n j = true := fun j g1 g2 => by
    rw [bit_at (i := i + 1) (by omega) (.inr ⟨a, h1, g1⟩) fun c hc => by have := h2 c hc; omega]
    exact decide_eq_true (by omega)
  refine ⟨bits _ (by omega) (Nat.le_refl _), ?_⟩
  have e1 : (turnsOf n).getD i M = a := by rw [List.getD_eq_getElem?_getD, h1]; rfl
  unfold wOf at hw
  rw [e1] at hw
  rw [ones_run l fun j g1 g2 => bits j g1 (by omega)]
  exact hw
/-- all runs are passed -/
theorem kth_none {n : Int} {M i r l : Nat} (hM : ∀ t ∈ turnsOf n, t < M) (he : i % 2 = 0) (hi : i = (turnsOf n).length) (hw : wOf n M i + l = r) : ∀ q, ¬ Kth n r q := by
  intro q ⟨h1, h2⟩
  have e1 : (turnsOf n).getD i M = M := by rw [List.getD_eq_getElem?_getD, List.getElem?_eq_none (by omega)]; rfl
  unfold wOf at hw
  rw [e1] at hw
  have hq : q < M := by
    apply Nat.lt_of_not_le
    intro hge
    have : tb n q = decide (i % 2 = 1) := by
      refine bit_at (by omega) ?_ fun b hb => ?_
      · by_cases h0 : i = 0
        · exact .inl h0
        · refine .inr ⟨(turnsOf n)[i - 1], List.getElem?_eq_getElem (by omega), ?_⟩
          have := hM (turnsOf n)[i - 1] (List.getElem_mem (by omega))
          omega
      · rw [List.getElem?_eq_none (by omega)] at hb
        cases hb
    rw [this, decide_eq_false (by omega)] at h1
    cases h1
  have h3 := ones_mono n (show q + 1 ≤ M from hq)
  rw [ones_at n q h1] at h3
  omega
end MK
set_option Elab.async false
set_option linter.all false
set_option maxRecDepth 100000
/-! the list of the ones below a bound -/
namespace MO
open PySem TV FM FC FI MN MP MK
def onesL (n : Int) (m : Nat) : List Nat := (List.range m).filter fun j => tb n j
theorem onesL_succ (n : Int) (m : Nat) : onesL n (m + 1) = onesL n m ++ (if tb n m = true then [m] else []) := by
  unfold onesL
  rw [List.range_succ, List.filter_append]
  congr 1
  rw [List.filter_cons]
  rfl
theorem onesL_len (n : Int) : ∀ m, (onesL n m).length = onesB n m
  | 0 => rfl
  | m + 1 => by
    rw [onesL_succ, List.length_append, onesL_len n m]
    show _ = onesB n m + (if tb n m then 1 else 0)
    split <;> rfl
theorem onesL_get (n : Int) {r q : Nat} : ∀ {m : Nat}, (onesL n m)[r]? = some q → q < m ∧ Kth n r q
  | 0, h => by cases h
  | m + 1, h => by
    rw [onesL_succ] at h
    by_cases hr : r < (onesL n m).length
    · rw [List.getElem?_append_left hr] at h
      have := onesL_get n h
      exact ⟨by omega, this.2⟩
    · rw [List.getElem?_append_right (by omega)] at h
      split at h
      · rename_i hb
        by_cases he : r - (onesL n m).length = 0
        · rw [he] at h
          cases h
          refine ⟨by omega, hb, ?_⟩
          rw [← onesL_len]
          omega
        · rw [List.getElem?_eq_none (by simp; omega)] at h
          cases h
      · cases h
/-- with that many places and turns, none is left out -/
theorem kth_seen {n : Int} {k m r : Nat} (hb : Bw k n) (hkm : k + 301 ≤ m) (hr : r ≤ 300) (h : onesB n m ≤ r) : ∀ q, ¬ Kth n r q := by
  intro q ⟨h1, h2⟩
  by_cases hq : q < m
  · have h3 := ones_mono n (show q + 1 ≤ m from hq)
    rw [ones_at n q h1] at h3
    omega
  · have h4 : ∀ j, k ≤ j → tb n j = true := fun j hj => by
      rw [HX.tb_high hb hj (show k ≤ q by omega)]
      exact h1
    have h5 := ones_run (n := n) (a := k) (m - k) fun j g1 _ => h4 j g1
    rw [show k + (m - k) = m by omega] at h5
    omega
end MO
set_option Elab.async false
set_option linter.all false
set_option maxRecDepth 100000
/-! all ones of an integer from 0 on, its last turn -/
namespace MD
open PySem TV FM FC FI MN MP MK
theorem len_even {n : Int} (h : 0 ≤ n) : (turnsOf n).length % 2 = 0 := by
  have := PM.neg_len (turnsOf_asc n)
  rw [turnsOf_tv] at this
  omega
theorem len_odd {n : Int} (h : n < 0) : (turnsOf n).length % 2 = 1 := by
  have := PM.neg_len (turnsOf_asc n)
  rw [turnsOf_tv] at this
  exact this.mp h
theorem sum_all {n : Int} {M : Nat} (h : 0 ≤ n) (hM : ∀ t ∈ turnsOf n, t < M) : alt (-1) (turnsOf n) = (onesB n M : Nat) := by
  have := rows_sum (turnsOf_asc n) M
  have e : low (turnsOf n) M = turnsOf n := by
    unfold low
    rw [List.filter_eq_self]
    intro t ht
    exact decide_eq_true (hM t ht)
  unfold rowsB at this
  rw [e, if_neg (by have := len_even h; omega), List.append_nil, turnsOf_tv] at this
  exact this
theorem no_turns {n : Int} : turnsOf n = [] ↔ n = 0 := by
  constructor
  · intro h
    have := turnsOf_tv n
    rw [h, tv_nil] at this
    exact this.symm
  · intro h
    subst h
    exact turnsOf_is (ts := []) trivial tv_nil
theorem last_bits {z : Int} {t : Nat} (h : 0 ≤ z) (hl : (turnsOf z).getLast? = some t) : 1 ≤ t ∧ Builtin.Int.intBits z = t := by
  have hne : turnsOf z ≠ [] := fun e => by rw [e] at hl; cases hl
  have hz : z ≠ 0 := fun e => hne (no_turns.mpr e)
  have hm : t ∈ turnsOf z := List.mem_of_getLast? hl
  have hA := turnsOf_asc z
  have hle : ∀ u ∈ turnsOf z, u ≤ t := fun u hu => by
    obtain ⟨i, hi⟩ := List.mem_iff_getElem?.mp hu
    rw [List.getLast?_eq_getElem?] at hl
    have := (List.getElem?_eq_some_iff.mp hi).1
    exact asc_le hA (by omega) hi hl
  have h1 := bw_turns hle
  have ht : 1 ≤ t := by
    apply Nat.pos_of_ne_zero
    intro e
    subst e
    have := h1.2
    rw [show (2 : Int) ^ 0 = 1 from rfl] at this
    omega
  have h2 : ¬ Bw (t - 1) z := fun hb => by
    have := hb.turns t hm
    omega
  rw [bw_iff] at h1 h2
  refine ⟨ht, ?_⟩
  unfold Builtin.Int.intBits
  rw [if_neg (by simpa using hz)]
  have h0 := Nat.two_pow_pos (t - 1)
  have h3 : z.natAbs.log2 = t - 1 := by
    rw [Nat.log2_eq_iff (by omega)]
    have e : t - 1 + 1 = t := by omega
    rw [e]
    omega
  omega
theorem ones_eq {n : Int} {p q : Nat} (hb : Bw p n) (h0 : 0 ≤ n) (hpq : p ≤ q) : onesB n q = onesB n p := by
  have := zeros_run (n := n) (a := p) (q - p) fun j h1 _ => by
    have h2 : tb n j = tb n (p + n.natAbs + 1) := HX.tb_high hb h1 (by omega)
    rw [h2]
    unfold tb
    rw [Int.ediv_eq_zero_of_lt h0]
    · rfl
    · have h3 : n.natAbs < 2 ^ n.natAbs := Nat.lt_two_pow_self
      have h4 : 2 ^ n.natAbs ≤ 2 ^ (p + n.natAbs + 1) := Nat.pow_le_pow_right (by decide) (by omega)
      have e : ((2 ^ (p + n.natAbs + 1) : Nat) : Int) = 2 ^ (p + n.natAbs + 1) := by norm_cast
      rw [← e]
      omega
  rw [show p + (q - p) = q by omega] at this
  exact this
end MD
set_option Elab.async false
set_option linter.all false
set_option maxRecDepth 100000
/-! != of lists and tuples whose items are equal by == (own == among them): False -/
namespace GN
open PySem PySem.SeqAt
open AutoSeq1 (wpAny_loadPart')
open MeetsSeq MeetsSeq2 MeetsSeq3 SeqRoads2
open GQ (FinOf ListI call_here)
section
variable {prog : Program} {w : World} {A : Around} {R : Result → Shared → Prop}
theorem ne_loopG (l b : Addr) (N : Nat) (I : Nat → Shared → Prop) (hl : ListI prog w A (fun e s' => R (.error e) s') l b N I)
    (fin : ∀ s, I N s → R (.ok (.ret (.bool false))) s) (k : Nat) :
    ∀ i : Nat, N - i = k → i ≤ N → ∀ s, I i s →
      wpAny (model prog w) A.in1 (Builtin.«list.__eq__.loop» ⟨[.ref l, .ref b, rawInt i, rawInt 3], []⟩) (FinOf prog w A R) (fun e s' => R (.error e) s') s := by
  induction k with
  | zero =>
    intro i hk hi s h
    obtain ⟨items, items2, n, n2, hl1, hb1, hs1, hs2, _⟩ := hl _ _ h
    have hi' : i = N := by omega
    have hR : R (.ok (.ret (.bool false))) s := fin s (hi' ▸ h)
    obtain ⟨hp, g, d, tk, os⟩ := s
    wp_walk using wpAny_loadPart' hl1, wpAny_loadPart' hb1
    have hi1 : items[((i : Nat) : Int).toNat]? = none := by simp; omega
    have hi2 : items2[((i : Nat) : Int).toNat]? = none := by simp; omega
    rw [hi1, hi2]
    wp_walk using wpAny_loadPart' hl1, wpAny_loadPart' hb1
    show R (.ok (.ret (.bool (items.size != items2.size)))) _
    rw [hs1, hs2]
    simpa using hR
  | succ k ih =>
    intro i hk hi s h
    obtain ⟨items, items2, n, n2, hl1, hb1, hs1, hs2, turn⟩ := hl _ _ h
    have hlt : i < items.size := by omega
    have hlt2 : i < items2.size := by omega
    have ht := turn hlt hlt2
    obtain ⟨hp, g, d, tk, os⟩ := s
    wp_walk using wpAny_loadPart' hl1, wpAny_loadPart' hb1
    have hi1 : items[((i : Nat) : Int).toNat]? = some items[i] := by simp [hlt]
    have hi2 : items2[((i : Nat) : Int).toNat]? = some items2[i] := by simp [hlt2]
    have hc : ((i : Int) + 1) = ((i + 1 : Nat) : Int) := by omega
    rw [hi1, hi2]
    refine wpAny_bind (wpAny_mono ht (fun r s2 h2 => ?_) fun _ _ x => x)
    obtain ⟨hr, h2⟩ := h2
    subst hr
    have hrec := ih (i + 1) (by omega) (by omega) s2 h2
    obtain ⟨hp2, g2, d2, tk2, os2⟩ := s2
    wp_walk
    rw [hc]
    exact ⟨plainId_quiet plain_eq_loop _, codeAny_builtin entry_eq_loop (by
      rw [Around.under_plainId plain_eq_loop _]
      exact hrec)⟩
theorem list_neG (l b : Addr) (N : Nat) (I : Nat → Shared → Prop) (hl : ListI prog w A (fun e s' => R (.error e) s') l b N I)
    (fin : ∀ s, I N s → R (.ok (.ret (.bool false))) s) {s : Shared} (h : I 0 s) :
    wpAny (model prog w) A.in1 (Builtin.«list.__ne__» ⟨[.ref l, .ref b], []⟩) (FinOf prog w A R) (fun e s' => R (.error e) s') s := by
  obtain ⟨items, items2, n, n2, hl1, hb1, hs1, hs2, _⟩ := hl _ _ h
  have hrec := ne_loopG (A := A) (R := R) l b N I hl fin _ 0 rfl (Nat.zero_le _) s h
  obtain ⟨hp, g, d, tk, os⟩ := s
  have f3 := AutoSeq1.sub_list_list
  have hne : ¬ (items.size != items2.size) = true := by simp [hs1, hs2]
  wp_walk using wpAny_loadPart' hl1, wpAny_loadPart' hb1
  exact ⟨plainId_quiet plain_eq_loop _, codeAny_builtin entry_eq_loop (by
    rw [Around.under_plainId plain_eq_loop _]
    exact hrec)⟩
theorem tuple_neG (l b : Addr) (items items2 : Array Value) (n n2 : Nat) (dd dd2 : Option Addr) (sl sl2 : Array (Option Value)) (hsz : items.size = items2.size) (I : Nat → Shared → Prop)
    (turn : ∀ i (h1 : i < items.size) (h2 : i < items2.size) s, I i s → wpAny (model prog w) A.in1 (eqBool items[i] items2[i]) (fun r s' => r = true ∧ I (i + 1) s') (fun e s' => R (.error e) s') s)
    (fin : ∀ s, I items.size s → R (.ok (.ret (.bool false))) s) {s : Shared} (hl1 : s.heap.get? l = some { cls := .type "tuple", dict := dd, data := .seq items n, slots := sl }) (hb1 : s.heap.get? b = some { cls := .type "tuple", dict := dd2, data := .seq items2 n2, slots := sl2 }) (h : I 0 s) :
    wpAny (model prog w) A.in1 (Builtin.«tuple.__ne__» ⟨[.ref l, .ref b], []⟩) (FinOf prog w A R) (fun e s' => R (.error e) s') s := by
  have f2 := AutoSeq1.sub_tuple_tuple
  have hZ : (items.toList.zip items2.toList).length = items.size := by simp [hsz]
  have h0 := h
  obtain ⟨hp, g, d, tk, os⟩ := s
  wp_walk using wpAny_loadPart' hl1, wpAny_loadPart' hb1, wpAny_forIn_list _ (fun rest b s' => b.1 = none ∧ ∃ i, rest = (items.toList.zip items2.toList).drop i ∧ i ≤ items.size ∧ I i s') _
  case turn =>
    rintro ⟨y, x⟩ rest b s' ⟨hb', i, hz, hi, hI⟩
    have hlt : i < (items.toList.zip items2.toList).length := by
      rcases Nat.lt_or_ge i (items.toList.zip items2.toList).length with h' | h'
      · exact h'
      · rw [List.drop_of_length_le h'] at hz; cases hz
    have h1 : i < items.size := hZ ▸ hlt
    have h2 : i < items2.size := hsz ▸ h1
    rw [List.drop_eq_getElem_cons hlt] at hz
    injection hz with hyx hrest
    have hy : y = items[i] := by have := congrArg Prod.fst hyx; simpa using this
    have hx : x = items2[i] := by have := congrArg Prod.snd hyx; simpa using this
    subst hy hx
    refine wpAny_bind (wpAny_mono (turn i h1 h2 s' hI) (fun r s2 q2 => ?_) fun _ _ x => x)
    obtain ⟨hr, q2⟩ := q2
    subst hr
    wp_walk
    exact ⟨rfl, i + 1, hrest, h1, q2⟩
  case fin =>
    rintro ⟨b1, b2⟩ s' ⟨hb', i, hz, hi, hI⟩
    simp only at hb'
    subst hb'
    have hge : items.size ≤ i := by
      rcases Nat.lt_or_ge i (items.toList.zip items2.toList).length with h' | h'
      · rw [List.drop_eq_getElem_cons h'] at hz; cases hz
      · exact hZ ▸ h'
    have hi' : i = items.size := by omega
    have hR : R (.ok (.ret (.bool false))) s' := fin s' (hi' ▸ hI)
    wp_walk
    simpa [Builtin.Tuple.tupleCompareSizes, hsz] using hR
  case h =>
    exact ⟨rfl, 0, rfl, Nat.zero_le _, h0⟩
end
section
variable {prog : Program} {w : World} {A : Around} {E : Value → Shared → Prop} {s : Shared}
theorem rc_neListG {l b : Addr} {N : Nat} {Q : Value → Shared → Prop} (hu : A.units < cLine) (I : Nat → Shared → Prop) (hl : ListI prog w A E l b N I)
    (fin : ∀ s, I N s → Q (.bool false) s) (h : I 0 s) : wpAny (model prog w) A (richCompare .NotEq (.ref l) (.ref b)) Q E s := by
  obtain ⟨items, items2, n, n2, hl1, hb1, _, _, _⟩ := hl _ _ h
  refine wpAny_richCompare_same_room (op := .NotEq) ⟨_, hl1, rfl⟩ ⟨_, hb1, rfl⟩ F.slot_list_ne (call_here F.slot_list_ne ⟨_, hl1, rfl⟩ F.entry_list_ne (F.args_list_ne_2 _ _) ?_) hu
  exact list_neG (R := wants (fun v s' => v ≠ .notImplemented ∧ Q v s') E) l b N I hl (fun s' q => ⟨(fun x => nomatch x), fin s' q⟩) h
theorem rc_neTupG {l b : Addr} {items items2 : Array Value} {Q : Value → Shared → Prop} (hsz : items.size = items2.size) (hu : A.units < cLine) (I : Nat → Shared → Prop)
    (hl : s.heap.IsTuple l items) (hb : s.heap.IsTuple b items2)
    (turn : ∀ i (h1 : i < items.size) (h2 : i < items2.size) s, I i s → wpAny (model prog w) A.in1 (eqBool items[i] items2[i]) (fun r s' => r = true ∧ I (i + 1) s') E s)
    (fin : ∀ s, I items.size s → Q (.bool false) s) (h : I 0 s) : wpAny (model prog w) A (richCompare .NotEq (.ref l) (.ref b)) Q E s := by
  obtain ⟨⟨cls, dd, data, sl⟩, ho, hc, n, hd⟩ := id hl
  obtain ⟨⟨cls2, dd2, data2, sl2⟩, ho2, hc2, n2, hd2⟩ := id hb
  simp only at hc hd hc2 hd2
  subst hc hd hc2 hd2
  refine wpAny_richCompare_same_room (op := .NotEq) ⟨_, ho, rfl⟩ ⟨_, ho2, rfl⟩ F.slot_tuple_ne (call_here F.slot_tuple_ne ⟨_, ho, rfl⟩ F.entry_tuple_ne (F.args_tuple_ne_2 _ _) ?_) hu
  exact tuple_neG (R := wants (fun v s' => v ≠ .notImplemented ∧ Q v s') E) l b items items2 n n2 dd dd2 sl sl2 hsz I turn (fun s' q => ⟨(fun x => nomatch x), fin s' q⟩) ho ho2 h
/-- == inside a builtin, of two values that are not one thing -/
theorem eqBool_valG {a : Addr} {i : Int} {t : Tok} {Q : Bool → Shared → Prop} (h : wpAny (model prog w) A (richCompare .Eq (.ref a) (.int i t)) (fun v s' => ∃ r, v = .bool r ∧ Q r s') E s) : wpAny (model prog w) A (eqBool (.ref a) (.int i t)) Q E s := by
  unfold eqBool
  refine wpAny_holding ?_
  refine wpAny_ite_split (fun hab => absurd (eq_of_beq hab) (by intro z; cases z)) (fun _ => ?_)
  refine wpAny_bind (wpAny_mono h (fun v s' hv => ?_) fun _ _ x => x)
  obtain ⟨r, rfl, q⟩ := hv
  exact wpAny_truthy_bool q
end
end GN
namespace HX
open PySem PySem.Spec PyProof.Rows L2
theorem op_or {X : Cx} {f : Value → Value → Sem Value} {r1 r2 : R2} (h : OpR X f r1) (g : OpR X f r2) : OpR X f (fun x y H Q => r1 x y H Q ∨ r2 x y H Q) := by
  intro pins s σ H x y v u Q I rx ry hq
  rcases hq with hq | hq
  · exact h pins s σ H x y v u Q I rx ry hq
  · exact g pins s σ H x y v u Q I rx ry hq
/-- != gives False for what D says, and only makes objects -/
def RnG (X : Cx) (n : Nat) (D : Eqv) : Prop :=
  ∀ (A : Around) (pins : List (Addr × Obj)) (s : Shared) (σ : L2.St) (H : Hp) (x y : V) (u v : Value), Sub X n A → Inv X pins σ H s → RelV x u → RelV y v → D x y H →
    wpAny (model X.prog X.w) A (richCompare .NotEq u v) (fun r s' => r = .bool false ∧ ∃ H', Inv X pins σ H' s' ∧ Ext H H') X.xe s
section
variable {X : Cx} {n m : Nat} {D D' : Eqv}
theorem rnG_list (hD : Mon D) (h : EqG X n D) : RnG X (n + 1) (DList D) := by
  intro A pins s σ H x y u v sb I rx ry d
  obtain ⟨a, b, xs, ys, rfl, rfl, ha, hb, p⟩ := d
  cases rx
  cases ry
  refine GN.rc_neListG (N := xs.length) sb.room.units0 (fun _ s' => LoopI X pins σ H s') (fun i s' q => ?_) (fun s' q => ⟨rfl, q⟩) ⟨H, I, Ext.rfl'⟩
  obtain ⟨H1, I1, e1⟩ := id q
  obtain ⟨z, its, k, r, e⟩ := I1.hok a _ (e1 _ _ ha)
  obtain ⟨z2, its2, k2, r2, e2⟩ := I1.hok b _ (e1 _ _ hb)
  refine ⟨its.toArray, its2.toArray, k, k2, e, e2, by rw [List.size_toArray, ← r.length], by rw [List.size_toArray, ← r2.length, ← p.1], fun h1 h2 => ?_⟩
  exact turnG hD h sb p r r2 i h1 h2 s' q
theorem rnG_tup (hD : Mon D) (h : EqG X n D) : RnG X (n + 1) (DTup X.K D) := by
  intro A pins s σ H x y u v sb I rx ry d
  obtain ⟨a, b, xs, ys, rfl, rfl, ha, hb, p⟩ := d
  cases rx
  cases ry
  obtain ⟨its, r, e, z⟩ := I.tuple ha
  obtain ⟨its2, r2, e2, z2⟩ := I.tuple hb
  have hsz : its.toArray.size = its2.toArray.size := by rw [List.size_toArray, List.size_toArray, ← r.length, ← r2.length]; exact p.1
  exact GN.rc_neTupG hsz sb.room.units0 (fun _ s' => LoopI X pins σ H s') e e2 (fun i h1 h2 s' q => turnG hD h sb p r r2 i h1 h2 s' q) (fun s' q => ⟨rfl, q⟩) ⟨H, I, Ext.rfl'⟩
/-- an instance of the class at C beside an int or another one: what R says of the two -/
def DOwn (C : Addr) (R : V → V → Hp → Prop) : Eqv := fun x y H => ∃ a dx fs, x = .ref a ∧ H a = some (.ins C dx fs) ∧ Opd C y H ∧ R x y H
theorem mon_own {C : Addr} {R : V → V → Hp → Prop} (hR : ∀ x y H H', Ext H H' → R x y H → R x y H') : Mon (DOwn C R) := fun x y H H' e d => by
  obtain ⟨a, dx, fs, hx, h1, h2, r⟩ := d
  refine ⟨a, dx, fs, hx, e _ _ h1, ?_, hR x y H H' e r⟩
  rcases h2 with ⟨i, h⟩ | ⟨b, dy, gs, h, h'⟩
  · exact .inl ⟨i, h⟩
  · exact .inr ⟨b, dy, gs, h, e _ _ h'⟩
/-- what the own == promises of an instance and a number -/
def spEqN (R : V → V → Hp → Prop) : Sp := fun vs H Q _ => ∃ x y, vs = [x, y] ∧ R x y H ∧ ∀ H', Ext H H' → Q (.bl true) H'
theorem rcG_own {CX : CXT} {C g : Addr} {fd : FuncData} {ps : List Str} {R : V → V → Hp → Prop} {E : XK} (O : CmpOwn X.K C .Eq g) (F : FnOk X.prog X.w X.K X.mg X.base CX n g fd ps (spEqN R))
    (hb : L2.Binds X.K fd ps []) (hx : Passes CX X E) : RcG X n (DOwn C R) := by
  intro A pins s σ H x y u v sb I rx ry d
  obtain ⟨a, dx, fs, rfl, ha, hy, hr⟩ := d
  cases (show u = Value.ref a from rx)
  obtain ⟨mA, OM, _⟩ := ins_get I.hok ha
  obtain ⟨od, J, _⟩ := OM.look
  obtain ⟨m, hF⟩ := I.fr
  have hsp : spEqN R [.ref a, y] H (fun v H' => v = .bl true ∧ Ext H H') E := ⟨_, _, rfl, hr, fun H' e => ⟨rfl, e⟩⟩
  have e0 : Env0 X.prog X.w X.K X.mg X.base A X.stack s H := by
    have e := I.env0
    exact ⟨by rw [sb.fr]; exact e.frames, e.mod, e.bs, e.bsz, e.funs, e.frf, e.hok, e.bare⟩
  have hl := F.len _ _ _ _ hsp
  have r2 : Vals [V.ref a, y] [Value.ref a, v] := .cons rfl (.cons ry .nil)
  have go : wpAny (model X.prog X.w) A (call (.ref g) [.ref a, v]) (PySem.W.CmpBack (fun r s' => r = .bool true ∧ ∃ H', Inv X pins σ H' s' ∧ Ext H H')) X.xe s := by
    refine wpAny_call (codeAny_mono (F.run A X.stack s H ⟨[.ref a, v], []⟩ [.ref a, v] [.ref a, y] _ E sb.room e0 (by
      have := hb s [.ref a, v] I.kIn (by simpa using hl)
      simpa using this) r2 hsp) fun r s' hq => ?_)
    cases r with
    | error e => exact hx pins σ H s e s' I hq
    | ok fl =>
      cases fl with
      | ret w =>
        obtain ⟨z, H', I', rz, ez, ex⟩ := I.after hq
        subst ez
        cases rz
        exact ⟨rfl, H', I', ex⟩
      | next => exact False.elim hq
      | brk => exact False.elim hq
      | cont => exact False.elim hq
  rcases hy with ⟨i, rfl⟩ | ⟨b, dy, gs, rfl, hb'⟩
  · obtain ⟨t, e⟩ := (show ∃ t, v = Value.int i t from ry)
    subst e
    exact PySem.W.cmp_K (op := .Eq) (tb := .type "int") sb.room.units0 hF I.ok.mod.kin J (PySem.W.Looks.of_pure rfl) O.nI O.hs O.hf go
  · cases (show v = Value.ref b from ry)
    obtain ⟨mB, OB, _⟩ := ins_get I.hok hb'
    obtain ⟨od', J', _⟩ := OB.look
    exact PySem.W.cmp_K (op := .Eq) (tb := .ref C) sb.room.units0 hF I.ok.mod.kin J J'.type O.nC O.hs O.hf go
theorem eqG_own {CX : CXT} {C g : Addr} {fd : FuncData} {ps : List Str} {R : V → V → Hp → Prop} {E : XK} (O : CmpOwn X.K C .Eq g) (F : FnOk X.prog X.w X.K X.mg X.base CX n g fd ps (spEqN R))
    (hb : L2.Binds X.K fd ps []) (hx : Passes CX X E) : EqG X n (DOwn C R) := by
  have h := rcG_own O F hb hx
  intro A pins s σ H x y u v sb I rx ry d
  have d' := d
  obtain ⟨a, dx, fs, rfl, ha, hy, hr⟩ := d
  cases (show u = Value.ref a from rx)
  rcases hy with ⟨i, rfl⟩ | ⟨b, dy, gs, rfl, hb'⟩
  · obtain ⟨t, e⟩ := (show ∃ t, v = Value.int i t from ry)
    subst e
    refine GN.eqBool_valG (wpAny_mono (h A pins s σ H (.ref a) (.int i) _ _ sb I rfl ⟨t, rfl⟩ d') (fun r s' q => ?_) fun _ _ x => x)
    obtain ⟨hr', q⟩ := q
    exact ⟨true, hr', rfl, q⟩
  · cases (show v = Value.ref b from ry)
    by_cases hab : a = b
    · subst hab
      exact SeqAt.EqAt.same (A := A) (s := s) (.ref a) X.prog X.w X.xe _ ⟨rfl, H, I, Ext.rfl'⟩
    · refine GQ.eqBool_refG hab (wpAny_mono (h A pins s σ H (.ref a) (.ref b) _ _ sb I rfl rfl d') (fun r s' q => ?_) fun _ _ x => x)
      obtain ⟨hr', q⟩ := q
      exact ⟨true, hr', rfl, q⟩
/-- x != y as an expression, of what is equal -/
def rNeG (D : Eqv) : R2 := fun x y H Q => D x y H ∧ ∀ H', Ext H H' → Q (.bl false) H'
theorem op_neG (h : RnG X n D) (hr : Room n X.A) : OpR X (compareOp .NotEq) (rNeG D) := by
  intro pins s σ H x y v u Q I rx ry hq
  obtain ⟨d, q⟩ := hq
  show wpAny (model X.prog X.w) X.A (richCompare .NotEq v u) (EP X pins σ Q) X.xe s
  refine wpAny_mono (h X.A pins s σ H x y v u ⟨hr, rfl⟩ I rx ry d) (fun r s' z => ?_) fun _ _ x => x
  obtain ⟨hr', H', I', e⟩ := z
  subst hr'
  exact ⟨.bl false, H', I', rfl, q H' e⟩
theorem RnG.or (h : RnG X n D) (h' : RnG X n D') : RnG X n (fun x y H => D x y H ∨ D' x y H) := fun A pins s σ H x y u v sb I rx ry d => by
  rcases d with d | d
  · exact h A pins s σ H x y u v sb I rx ry d
  · exact h' A pins s σ H x y u v sb I rx ry d
end
end HX
set_option Elab.async false
set_option linter.all false
set_option maxRecDepth 100000
/-! a list of objects != an empty list; a list and its copy -/
namespace HX
open PySem PySem.Spec PyProof.Rows L2
section
variable {X : Cx} {n : Nat}
theorem op_neLen (hu : X.A.units < cLine) : OpR X (compareOp .NotEq) (fun x y H Q => ∃ a b xs ys, x = .ref a ∧ y = .ref b ∧ H a = some (.lst xs) ∧ H b = some (.lst ys) ∧ xs.length ≠ ys.length ∧ Q (.bl true) H) := by
  intro pins s σ H x y v u Q I rx ry h
  obtain ⟨a, b, xs, ys, rfl, rfl, ha, hb, hl, q⟩ := h
  cases rx
  cases ry
  obtain ⟨its, r, pl, hz⟩ := I.list (.inl (.inl ha))
  obtain ⟨its2, r2, pl2, hz2⟩ := I.list (.inl (.inl hb))
  have hsz : (its.toArray.size != its2.toArray.size) = true := by
    rw [List.size_toArray, List.size_toArray, ← r.length, ← r2.length]
    simpa using hl
  show wpAny (model X.prog X.w) X.A (richCompare .NotEq (.ref a) (.ref b)) (EP X pins σ Q) X.xe s
  exact SeqAt.RcNeAt.lists_lengths pl.isList pl2.isList hsz hu X.prog X.w X.xe _ ⟨.bl _, H, I, rfl, q⟩
/-- nothing -/
def DNo : Eqv := fun _ _ _ => False
theorem mon_no : Mon DNo := fun _ _ _ _ _ d => d
theorem eqG_no : EqG X 0 DNo := fun _ _ _ _ _ _ _ _ _ _ _ _ _ d => d.elim
/-- one and the same object, or equal flat values -/
def DSame : Eqv := fun x y H => DFlat x y H ∨ ∃ a, x = .ref a ∧ y = .ref a
theorem mon_same : Mon DSame := fun x y H H' e d => d
theorem eqG_same : EqG X 0 DSame := EqG.or eqG_flat fun A pins s σ H x y u v sb I rx ry d => by
  obtain ⟨a, rfl, rfl⟩ := d
  cases rx
  cases ry
  exact SeqAt.EqAt.same (A := A) (s := s) (.ref a) X.prog X.w X.xe _ ⟨rfl, H, I, Ext.rfl'⟩
end
end HX
set_option Elab.async false
set_option linter.all false
set_option maxRecDepth 100000
/-! the cover of a range by aligned blocks (plain mathematics; laws k42, k43) -/
namespace MV
abbrev Blk := Nat × Nat
/-- the bits of n below K -/
def bits (n K : Nat) : List Nat := (List.range K).filter n.testBit
def upB (b l j : Nat) : Blk := (b + l % 2 ^ j, b + l % 2 ^ j + 2 ^ j)
def dnB (m r j : Nat) : Blk := (m + r / 2 ^ (j + 1) * 2 ^ (j + 1), m + r / 2 ^ (j + 1) * 2 ^ (j + 1) + 2 ^ j)
/-- the blocks ahead of the middle, of orders below K -/
def up (b l K : Nat) : List Blk := (bits l K).map (upB b l)
/-- the blocks behind the middle, of the first d orders from K - 1 down -/
def dn (m r K : Nat) : Nat → List Blk
  | 0 => []
  | d + 1 => dn m r K d ++ (if r.testBit (K - 1 - d) then [dnB m r (K - 1 - d)] else [])
theorem bits_succ (n K : Nat) : bits n (K + 1) = bits n K ++ (if n.testBit K then [K] else []) := by
  unfold bits
  rw [List.range_succ, List.filter_append]
  congr 1
  by_cases h : n.testBit K <;> simp [h]
theorem mem_bits {n K j : Nat} : j ∈ bits n K ↔ j < K ∧ n.testBit j = true := by
  unfold bits
  rw [List.mem_filter, List.mem_range]
theorem up_succ (b l K : Nat) : up b l (K + 1) = up b l K ++ (if l.testBit K then [upB b l K] else []) := by
  unfold up
  rw [bits_succ, List.map_append]
  by_cases h : l.testBit K <;> simp [h]
/-- a bit that is next -/
theorem next_up {l j : Nat} (h : l % 2 ^ j < l) : ∃ i, j ≤ i ∧ l.testBit i = true ∧ ∀ k, j ≤ k → k < i → l.testBit k = false := by
  have hex : ∃ i, j ≤ i ∧ l.testBit i = true := by
    apply Classical.byContradiction
    intro hc
    have : l % 2 ^ j = l := by
      apply Nat.eq_of_testBit_eq
      intro k
      rw [Nat.testBit_mod_two_pow]
      by_cases hk : k < j
      · simp [hk]
      · have : l.testBit k = false := by
          cases e : l.testBit k with
          | false => rfl
          | true => exact absurd ⟨k, by omega, e⟩ hc
        simp [hk, this]
    omega
  obtain ⟨i, hi, ht⟩ := hex
  obtain ⟨d, rfl⟩ : ∃ d, i = j + d := ⟨i - j, by omega⟩
  clear h
  induction d generalizing j with
  | zero => exact ⟨j, Nat.le_refl _, ht, fun k h1 h2 => by omega⟩
  | succ d ih =>
    cases e : l.testBit j with
    | true => exact ⟨j, Nat.le_refl _, e, fun k h1 h2 => by omega⟩
    | false =>
      obtain ⟨i, h1, h2, h3⟩ := ih (j := j + 1) (by omega) (by rw [show j + 1 + d = j + (d + 1) by omega]; exact ht)
      refine ⟨i, by omega, h2, fun k hk hki => ?_⟩
      by_cases hkj : k = j
      · rw [hkj]; exact e
      · exact h3 k (by omega) hki
theorem mod_succ (l K : Nat) : l % 2 ^ (K + 1) = l % 2 ^ K + (if l.testBit K then 2 ^ K else 0) := by
  rw [Nat.pow_succ, Nat.mod_mul, Nat.testBit_eq_decide_div_mod_eq]
  rcases Nat.mod_two_eq_zero_or_one (l / 2 ^ K) with h | h <;> simp [h]
theorem mod_same {l j i : Nat} (hj : j ≤ i) (h : ∀ k, j ≤ k → k < i → l.testBit k = false) : l % 2 ^ i = l % 2 ^ j := by
  obtain ⟨d, rfl⟩ : ∃ d, i = j + d := ⟨i - j, by omega⟩
  induction d with
  | zero => rfl
  | succ d ih =>
    rw [← Nat.add_assoc, mod_succ, ih (by omega) fun k h1 h2 => h k h1 (by omega), h (j + d) (by omega) (by omega)]
    simp
theorem up_same {b l j i : Nat} (hj : j ≤ i) (h : ∀ k, j ≤ k → k < i → l.testBit k = false) : up b l i = up b l j := by
  obtain ⟨d, rfl⟩ : ∃ d, i = j + d := ⟨i - j, by omega⟩
  induction d with
  | zero => rfl
  | succ d ih =>
    rw [← Nat.add_assoc, up_succ, ih (by omega) fun k h1 h2 => h k h1 (by omega), h (j + d) (by omega) (by omega)]
    simp
/-- one more block ahead of the middle -/
theorem up_step {b l j i : Nat} (hj : j ≤ i) (ht : l.testBit i = true) (h : ∀ k, j ≤ k → k < i → l.testBit k = false) : up b l (i + 1) = up b l j ++ [upB b l i] ∧ b + l % 2 ^ (i + 1) = b + l % 2 ^ j + 2 ^ i ∧ upB b l i = (b + l % 2 ^ j, b + l % 2 ^ j + 2 ^ i) := by
  refine ⟨by rw [up_succ, up_same hj h, if_pos ht], ?_, ?_⟩
  · rw [mod_succ, mod_same hj h, if_pos ht]
    omega
  · unfold upB
    rw [mod_same hj h]
/-- a bit that is next from above -/
theorem next_dn {r j : Nat} (h : r % 2 ^ j ≠ 0) : ∃ i, i < j ∧ r.testBit i = true ∧ ∀ k, i < k → k < j → r.testBit k = false := by
  induction j with
  | zero => exact absurd (Nat.mod_one r) h
  | succ j ih =>
    cases e : r.testBit j with
    | true => exact ⟨j, by omega, e, fun k h1 h2 => by omega⟩
    | false =>
      rw [mod_succ, e] at h
      obtain ⟨i, h1, h2, h3⟩ := ih (by simpa using h)
      refine ⟨i, by omega, h2, fun k hk hkj => ?_⟩
      by_cases hkj2 : k = j
      · rw [hkj2]; exact e
      · exact h3 k hk (by omega)
theorem mod_same2 {r i j : Nat} (hij : i < j) (h : ∀ k, i < k → k < j → r.testBit k = false) : r % 2 ^ j = r % 2 ^ (i + 1) := mod_same (by omega) fun k h1 h2 => h k (by omega) h2
theorem div_mul (r k : Nat) : r / 2 ^ k * 2 ^ k + r % 2 ^ k = r := by
  rw [Nat.mul_comm]
  exact Nat.div_add_mod r (2 ^ k)
theorem dn_same {m r K d e : Nat} (hd : d ≤ e) (h : ∀ k, d ≤ k → k < e → r.testBit (K - 1 - k) = false) : dn m r K e = dn m r K d := by
  obtain ⟨n, rfl⟩ : ∃ n, e = d + n := ⟨e - d, by omega⟩
  induction n with
  | zero => rfl
  | succ n ih =>
    show dn m r K (d + n) ++ (if r.testBit (K - 1 - (d + n)) then [dnB m r (K - 1 - (d + n))] else []) = _
    rw [ih (by omega) fun k h1 h2 => h k h1 (by omega), h (d + n) (by omega) (by omega)]
    simp
/-- one more block behind the middle -/
theorem dn_step {m r K i j : Nat} (hK : j ≤ K) (hij : i < j) (ht : r.testBit i = true) (h : ∀ k, i < k → k < j → r.testBit k = false) :
    dn m r K (K - i) = dn m r K (K - j) ++ [dnB m r i] ∧ m + r / 2 ^ i * 2 ^ i = m + r / 2 ^ j * 2 ^ j + 2 ^ i ∧ dnB m r i = (m + r / 2 ^ j * 2 ^ j, m + r / 2 ^ j * 2 ^ j + 2 ^ i) ∧ r % 2 ^ j < 2 ^ (i + 1) ∧ 2 ^ i ≤ r % 2 ^ j := by
  have e1 := mod_same2 hij h
  have e2 := mod_succ r i
  rw [if_pos ht] at e2
  have d1 := div_mul r i
  have d2 := div_mul r j
  have d3 := div_mul r (i + 1)
  have hlt : r % 2 ^ (i + 1) < 2 ^ (i + 1) := Nat.mod_lt _ (Nat.two_pow_pos _)
  refine ⟨?_, by omega, ?_, by omega, by omega⟩
  · have hs := dn_same (m := m) (r := r) (K := K) (d := K - j) (e := K - i - 1) (by omega) fun k h1 h2 => h _ (by omega) (by omega)
    rw [show K - i = (K - i - 1) + 1 by omega]
    show dn m r K (K - i - 1) ++ _ = _
    rw [hs, show K - 1 - (K - i - 1) = i by omega, if_pos ht]
  · unfold dnB
    have : r / 2 ^ (i + 1) * 2 ^ (i + 1) = r / 2 ^ j * 2 ^ j := by omega
    rw [this]
/-! ### the blocks of an order -/
theorem pow_inj2 {i j : Nat} : (2 ^ i = 2 ^ j) ↔ i = j := by
  constructor
  · intro h
    rcases Nat.lt_trichotomy i j with z | z | z
    · have := Nat.pow_lt_pow_right (a := 2) (by decide) z
      omega
    · exact z
    · have := Nat.pow_lt_pow_right (a := 2) (by decide) z
      omega
  · rintro rfl
    rfl
def ofSize (L : Nat) (p : Blk) : Bool := decide (p.2 - p.1 = 2 ^ L)
theorem up_level (b l L : Nat) : ∀ K, (up b l K).filter (ofSize L) = if L < K ∧ l.testBit L = true then [upB b l L] else []
  | 0 => by simp [up, bits]
  | K + 1 => by
    rw [up_succ, List.filter_append, up_level b l L K]
    have hz : ofSize L (upB b l K) = decide (K = L) := by
      unfold ofSize upB
      rw [Nat.add_sub_cancel_left]
      simp only [pow_inj2]
    by_cases hb : l.testBit K = true
    · rw [if_pos hb]
      by_cases e : K = L
      · subst e
        rw [if_neg (by omega), if_pos ⟨by omega, hb⟩]
        simp [hz]
      · by_cases c : L < K ∧ l.testBit L = true
        · rw [if_pos c, if_pos ⟨by omega, c.2⟩]
          simp [hz, e]
        · rw [if_neg c, if_neg (fun z => c ⟨by omega, z.2⟩)]
          simp [hz, e]
    · rw [if_neg hb]
      by_cases c : L < K ∧ l.testBit L = true
      · rw [if_pos c, if_pos ⟨by omega, c.2⟩]
        simp
      · rw [if_neg c, if_neg (fun z => c ⟨by
          have : L ≠ K := fun e => hb (e ▸ z.2)
          omega, z.2⟩)]
        simp
theorem dn_level (m r K L : Nat) : ∀ d, d ≤ K → (dn m r K d).filter (ofSize L) = if K - d ≤ L ∧ L < K ∧ r.testBit L = true then [dnB m r L] else []
  | 0, _ => by
    rw [if_neg (by omega)]
    rfl
  | d + 1, hd => by
    show (dn m r K d ++ _).filter _ = _
    rw [List.filter_append, dn_level m r K L d (by omega)]
    have hz : ofSize L (dnB m r (K - 1 - d)) = decide (K - 1 - d = L) := by
      unfold ofSize dnB
      rw [Nat.add_sub_cancel_left]
      simp only [pow_inj2]
    by_cases hb : r.testBit (K - 1 - d) = true
    · rw [if_pos hb]
      by_cases e : K - 1 - d = L
      · rw [if_neg (by omega), if_pos ⟨by omega, by omega, e ▸ hb⟩, List.filter_cons, hz, e]
        simp
      · by_cases c : K - d ≤ L ∧ L < K ∧ r.testBit L = true
        · rw [if_pos c, if_pos ⟨by omega, c.2⟩]
          simp [hz, e]
        · rw [if_neg c, if_neg (fun z => c ⟨by omega, z.2⟩)]
          simp [hz, e]
    · rw [if_neg hb]
      by_cases c : K - d ≤ L ∧ L < K ∧ r.testBit L = true
      · rw [if_pos c, if_pos ⟨by omega, c.2⟩]
        simp
      · rw [if_neg c, if_neg (fun z => c ⟨by
          have : L ≠ K - 1 - d := fun e => hb (e ▸ z.2.2)
          omega, z.2⟩)]
        simp
/-! ### which block fits -/
theorem odd_uniq : ∀ {c i p q : Nat}, 2 ^ c * (2 * q + 1) = 2 ^ i * (2 * p + 1) → c = i
  | 0, 0, _, _, _ => rfl
  | 0, i + 1, p, q, h => by
    rw [Nat.pow_succ, Nat.pow_zero, Nat.one_mul, Nat.mul_comm (2 ^ i) 2, Nat.mul_assoc] at h
    omega
  | c + 1, 0, p, q, h => by
    rw [Nat.pow_succ, Nat.pow_zero, Nat.one_mul, Nat.mul_comm (2 ^ c) 2, Nat.mul_assoc] at h
    omega
  | c + 1, i + 1, p, q, h => by
    rw [Nat.pow_succ, Nat.pow_succ, Nat.mul_comm (2 ^ c) 2, Nat.mul_comm (2 ^ i) 2, Nat.mul_assoc, Nat.mul_assoc] at h
    rw [odd_uniq (c := c) (i := i) (p := p) (q := q) (by omega)]
theorem odd_ex : ∀ {n : Nat}, 0 < n → ∃ c q, n = 2 ^ c * (2 * q + 1) := by
  intro n
  induction n using Nat.strongRecOn with
  | ind n ih =>
    intro h
    rcases Nat.mod_two_eq_zero_or_one n with e | e
    · obtain ⟨c, q, hq⟩ := ih (n / 2) (by omega) (by omega)
      refine ⟨c + 1, q, ?_⟩
      rw [Nat.pow_succ, Nat.mul_comm (2 ^ c) 2, Nat.mul_assoc, ← hq]
      omega
    · exact ⟨0, n / 2, by rw [Nat.pow_zero]; omega⟩
/-- the order that the law's own walk takes at a place -/
structure Fits (at_ fin s : Nat) : Prop where
  le : at_ + 2 ^ s ≤ fin
  odd : ∀ c q, at_ = 2 ^ c * (2 * q + 1) → s ≤ c ∧ (c = s ∨ fin < at_ + 2 ^ (s + 1))
  zero : at_ = 0 → fin < 2 ^ (s + 1)
theorem dvd_le {n s c q : Nat} (h : n = 2 ^ c * (2 * q + 1)) (hd : 2 ^ s ∣ n) : s ≤ c := by
  apply Nat.le_of_not_lt
  intro hlt
  obtain ⟨k, hk⟩ := hd
  obtain ⟨d, rfl⟩ : ∃ d, s = c + 1 + d := ⟨s - c - 1, by omega⟩
  rw [h, Nat.pow_add, Nat.pow_succ, Nat.mul_assoc, Nat.mul_assoc] at hk
  have := Nat.eq_of_mul_eq_mul_left (Nat.two_pow_pos c) hk
  omega
/-- a range, its middle and its parts -/
structure Rng (b f t : Nat) : Prop where
  even : b / 2 ^ t % 2 = 0
  odd : f / 2 ^ t % 2 = 1
  same : b / 2 ^ (t + 1) = f / 2 ^ (t + 1)
def mid (f t : Nat) : Nat := f / 2 ^ t * 2 ^ t
section
variable {b f t : Nat}
theorem Rng.facts (R : Rng b f t) : b < mid f t ∧ mid f t ≤ f ∧ mid f t - b ≤ 2 ^ t ∧ f - mid f t < 2 ^ t ∧ ∃ q, mid f t = 2 ^ t * (2 * q + 1) := by
  have h1 := R.even
  have h2 := R.odd
  have h3 := R.same
  have eb : b / 2 ^ (t + 1) = b / 2 ^ t / 2 := by rw [Nat.pow_succ, Nat.div_div_eq_div_mul]
  have ef : f / 2 ^ (t + 1) = f / 2 ^ t / 2 := by rw [Nat.pow_succ, Nat.div_div_eq_div_mul]
  have db := div_mul b t
  have df := div_mul f t
  have lb := Nat.mod_lt b (Nat.two_pow_pos t)
  have lf := Nat.mod_lt f (Nat.two_pow_pos t)
  have e : f / 2 ^ t = b / 2 ^ t + 1 := by omega
  have em : mid f t = b / 2 ^ t * 2 ^ t + 2 ^ t := by unfold mid; rw [e, Nat.succ_mul]
  refine ⟨by omega, by unfold mid; omega, by omega, by unfold mid; omega, f / 2 ^ t / 2, ?_⟩
  unfold mid
  rw [Nat.mul_comm (2 ^ t)]
  congr 1
  omega
theorem bit_le {l t i : Nat} (hl : l ≤ 2 ^ t) (ht : l.testBit i = true) : i ≤ t ∧ (i = t → l = 2 ^ t) := by
  have h1 := Nat.ge_two_pow_of_testBit ht
  refine ⟨?_, fun e => by subst e; omega⟩
  apply Nat.le_of_not_lt
  intro hlt
  have := Nat.pow_lt_pow_right (a := 2) (by decide) hlt
  omega
/-- ahead of the middle -/
theorem Rng.fits_up (R : Rng b f t) {i : Nat} (ht : (mid f t - b).testBit i = true) : Fits (b + (mid f t - b) % 2 ^ i) f i := by
  obtain ⟨h1, h2, h3, h4, q, hq⟩ := R.facts
  have hL : ∃ l, mid f t - b = l := ⟨_, rfl⟩
  obtain ⟨l, el⟩ := hL
  rw [el] at ht h3 ⊢
  obtain ⟨hi, hit⟩ := bit_le h3 ht
  have em : mid f t = b + l := by omega
  have dl := div_mul l i
  have hodd : l / 2 ^ i % 2 = 1 := by
    rw [Nat.testBit_eq_decide_div_mod_eq] at ht
    simpa using ht
  have hge : 2 ^ i ≤ l / 2 ^ i * 2 ^ i := Nat.le_mul_of_pos_left _ (Nat.pos_of_ne_zero fun z => by rw [z] at hodd; cases hodd)
  have tp := Nat.two_pow_pos i
  by_cases hlt : i = t
  · have elt := hit hlt
    subst hlt
    have e0 : l % 2 ^ i = 0 := by rw [elt]; exact Nat.mod_self _
    rw [e0, Nat.add_zero]
    have pw : 2 ^ (i + 1) = 2 ^ i + 2 ^ i := by rw [Nat.pow_succ]; omega
    refine ⟨by omega, fun c p hp => ⟨?_, .inr (by omega)⟩, fun z => by omega⟩
    refine dvd_le hp ⟨2 * q, ?_⟩
    have : 2 ^ i * (2 * q + 1) = 2 ^ i * (2 * q) + 2 ^ i := by rw [Nat.mul_add, Nat.mul_one]
    omega
  · obtain ⟨d, ed⟩ : ∃ d, t = i + 1 + d := ⟨t - i - 1, by omega⟩
    -- the place is an odd multiple
    have emm : mid f t = 2 ^ i * (2 * (2 ^ d * (2 * q + 1))) := by
      rw [hq, ed, Nat.pow_add, Nat.pow_succ, Nat.mul_assoc, Nat.mul_assoc]
    obtain ⟨u, hu⟩ : ∃ u, l / 2 ^ i = 2 * u + 1 := ⟨l / 2 ^ i / 2, by omega⟩
    have eat : b + l % 2 ^ i + 2 ^ i * (2 * u + 1) = 2 ^ i * (2 * (2 ^ d * (2 * q + 1))) := by
      rw [← emm, em, ← hu, Nat.mul_comm (2 ^ i)]
      omega
    have hlt2 : 2 * u + 1 ≤ 2 * (2 ^ d * (2 * q + 1)) := Nat.le_of_mul_le_mul_left (by omega : 2 ^ i * (2 * u + 1) ≤ 2 ^ i * (2 * (2 ^ d * (2 * q + 1)))) tp
    obtain ⟨v, hv⟩ : ∃ v, 2 * (2 ^ d * (2 * q + 1)) = (2 * u + 1) + (2 * v + 1) := ⟨2 ^ d * (2 * q + 1) - u - 1, by omega⟩
    have eat2 : b + l % 2 ^ i = 2 ^ i * (2 * v + 1) := by
      have e3 := Nat.mul_add (2 ^ i) (2 * u + 1) (2 * v + 1)
      rw [hv, e3] at eat
      omega
    refine ⟨by omega, fun c p hp => ?_, fun z => ?_⟩
    · have := odd_uniq (hp.symm.trans eat2)
      exact ⟨by omega, .inl this⟩
    · rw [z] at eat2
      have := Nat.mul_pos tp (show 0 < 2 * v + 1 by omega)
      omega
/-- behind the middle -/
theorem Rng.fits_dn (R : Rng b f t) {i j : Nat} (hj : j ≤ t) (hij : i < j) (h1 : (f - mid f t) % 2 ^ j < 2 ^ (i + 1)) (h2 : 2 ^ i ≤ (f - mid f t) % 2 ^ j) : Fits (mid f t + (f - mid f t) / 2 ^ j * 2 ^ j) f i := by
  obtain ⟨g1, g2, g3, g4, q, hq⟩ := R.facts
  have dr := div_mul (f - mid f t) j
  refine ⟨by omega, fun c p hp => ⟨?_, .inr (by omega)⟩, fun z => by omega⟩
  refine Nat.le_trans (Nat.le_of_lt hij) (dvd_le hp ?_)
  refine Nat.dvd_add ?_ ⟨_, Nat.mul_comm _ _⟩
  rw [hq]
  exact Nat.dvd_trans (Nat.pow_dvd_pow 2 hj) ⟨_, rfl⟩
end
/-! ### blocks by their numbers -/
theorem bits_get {n K q : Nat} (hq : q < K) (ht : n.testBit q = true) : (bits n K)[(bits n q).length]? = some q := by
  obtain ⟨d, rfl⟩ : ∃ d, K = q + 1 + d := ⟨K - q - 1, by omega⟩
  induction d with
  | zero => rw [Nat.add_zero, bits_succ, if_pos ht, List.getElem?_append_right (Nat.le_refl _), Nat.sub_self]; rfl
  | succ d ih =>
    have h := ih (by omega)
    rw [← Nat.add_assoc, bits_succ, List.getElem?_append_left (List.getElem?_eq_some_iff.mp h).1]
    exact h
theorem bits_at {n : Nat} : ∀ {K k q : Nat}, (bits n K)[k]? = some q → q < K ∧ n.testBit q = true ∧ (bits n q).length = k
  | 0, k, q, h => by simp [bits] at h
  | K + 1, k, q, h => by
    rw [bits_succ] at h
    by_cases hk : k < (bits n K).length
    · rw [List.getElem?_append_left hk] at h
      obtain ⟨h1, h2, h3⟩ := bits_at h
      exact ⟨by omega, h2, h3⟩
    · rw [List.getElem?_append_right (by omega)] at h
      by_cases hb : n.testBit K = true
      · rw [if_pos hb] at h
        have h0 : k - (bits n K).length = 0 := by
          have := (List.getElem?_eq_some_iff.mp h).1
          simp at this
          omega
        rw [h0] at h
        cases h
        exact ⟨by omega, hb, by omega⟩
      · rw [if_neg hb] at h
        simp at h
theorem bits_mono (n : Nat) {p q : Nat} (h : p ≤ q) : (bits n p).length ≤ (bits n q).length := by
  obtain ⟨d, rfl⟩ : ∃ d, q = p + d := ⟨q - p, by omega⟩
  induction d with
  | zero => exact Nat.le_refl _
  | succ d ih =>
    rw [← Nat.add_assoc, bits_succ, List.length_append]
    have := ih (by omega)
    omega
theorem dn_eq (m r K : Nat) : ∀ d, d ≤ K → dn m r K d = ((bits r K).drop (bits r (K - d)).length).reverse.map (dnB m r)
  | 0, _ => by
    rw [Nat.sub_zero, List.drop_length]
    rfl
  | d + 1, hd => by
    show dn m r K d ++ _ = _
    rw [dn_eq m r K d (by omega)]
    have e : K - d = (K - (d + 1)) + 1 := by omega
    have e2 : K - 1 - d = K - (d + 1) := by omega
    rw [e2, e, bits_succ]
    by_cases hb : r.testBit (K - (d + 1)) = true
    · have hg := bits_get (n := r) (K := K) (q := K - (d + 1)) (by omega) hb
      obtain ⟨h1, h2⟩ := List.getElem?_eq_some_iff.mp hg
      rw [if_pos hb, if_pos hb, List.length_append, List.drop_eq_getElem_cons h1, h2, List.reverse_cons, List.map_append]
      rfl
    · rw [if_neg hb, if_neg hb, List.append_nil, List.append_nil]
theorem dn_all (m r K : Nat) : dn m r K K = (bits r K).reverse.map (dnB m r) := by
  rw [dn_eq m r K K (Nat.le_refl _), Nat.sub_self]
  rfl
/-- all blocks of a cover -/
def cov (b M l r : Nat) : List Blk := up b l 4001 ++ dn M r 4001 4001
theorem cov_len (b M l r : Nat) : (cov b M l r).length = (bits l 4001).length + (bits r 4001).length := by
  unfold cov up
  rw [dn_all, List.length_append, List.length_map, List.length_map, List.length_reverse]
theorem cov_up {b M l r k q : Nat} (h : (bits l 4001)[k]? = some q) : (cov b M l r)[k]? = some (upB b l q) := by
  unfold cov up
  have := (List.getElem?_eq_some_iff.mp h).1
  rw [List.getElem?_append_left (by rw [List.length_map]; exact this), List.getElem?_map, h]
  rfl
theorem cov_dn {b M l r i q : Nat} (h : (bits r 4001)[i]? = some q) : (cov b M l r)[(bits l 4001).length + ((bits r 4001).length - 1 - i)]? = some (dnB M r q) := by
  have hi := (List.getElem?_eq_some_iff.mp h).1
  unfold cov up
  rw [List.getElem?_append_right (by rw [List.length_map]; omega), List.length_map, dn_all, List.getElem?_map, List.getElem?_reverse (by omega)]
  rw [show (bits r 4001).length - 1 - ((bits l 4001).length + ((bits r 4001).length - 1 - i) - (bits l 4001).length) = i by omega, h]
  rfl
/-! ### the block around a place -/
structure Lvl (b f s q : Nat) : Prop where
  lo : b ≤ s
  hi : s + 2 ^ q ≤ f
  dvd : 2 ^ q ∣ s
  out : f < s / 2 ^ (q + 1) * 2 ^ (q + 1) + 2 ^ (q + 1) ∨ s / 2 ^ (q + 1) * 2 ^ (q + 1) < b
theorem lvl_of {b f s q : Nat} (F : Fits s f q) (hb : b ≤ s) (h : s < b + 2 ^ q ∨ 2 ^ (q + 1) ∣ s) : Lvl b f s q := by
  have hd : 2 ^ q ∣ s := by
    by_cases z : s = 0
    · rw [z]
      exact Nat.dvd_zero _
    · obtain ⟨c, u, e⟩ := odd_ex (Nat.pos_of_ne_zero z)
      have := (F.odd c u e).1
      rw [e]
      exact Nat.dvd_trans (Nat.pow_dvd_pow 2 this) ⟨_, rfl⟩
  refine ⟨hb, F.le, hd, ?_⟩
  obtain ⟨u, hu⟩ := hd
  have pw : 2 ^ (q + 1) = 2 ^ q * 2 := Nat.pow_succ ..
  have tp := Nat.two_pow_pos q
  by_cases hev : u % 2 = 0
  · obtain ⟨v, rfl⟩ : ∃ v, u = 2 * v := ⟨u / 2, by omega⟩
    have es : s = 2 ^ (q + 1) * v := by rw [hu, pw, Nat.mul_assoc]
    have e2 : s / 2 ^ (q + 1) * 2 ^ (q + 1) = s := by rw [es, Nat.mul_div_cancel_left _ (Nat.two_pow_pos _), Nat.mul_comm]
    rw [e2]
    left
    by_cases z : s = 0
    · rw [z, Nat.zero_add]
      exact F.zero z
    · obtain ⟨c, w, e⟩ := odd_ex (Nat.pos_of_ne_zero z)
      rcases (F.odd c w e).2 with h1 | h1
      · subst h1
        have := dvd_le e ⟨v, es⟩
        omega
      · exact h1
  · obtain ⟨v, rfl⟩ : ∃ v, u = 2 * v + 1 := ⟨u / 2, by omega⟩
    have es : s = 2 ^ (q + 1) * v + 2 ^ q := by rw [hu, pw, Nat.mul_add, Nat.mul_one, Nat.mul_assoc]
    have e2 : s / 2 ^ (q + 1) = v := by
      rw [es, Nat.mul_add_div (Nat.two_pow_pos _), Nat.div_eq_of_lt (by rw [pw]; omega), Nat.add_zero]
    rw [e2, Nat.mul_comm v]
    right
    rcases h with h | h
    · omega
    · exfalso
      rw [es] at h
      have h3 := (Nat.dvd_add_right ⟨v, rfl⟩).mp h
      have := Nat.le_of_dvd tp h3
      omega
/-- the order that the program finds at a place of the block -/
theorem around {b f s q p : Nat} (L : Lvl b f s q) (h1 : s ≤ p) (h2 : p < s + 2 ^ q) :
    p / 2 ^ q * 2 ^ q = s ∧ (∀ u, Rng p f u → q ≤ u) ∧ (∀ u, b ≠ 0 → Rng (b - 1) p u → q ≤ u) ∧ ((∀ u, Rng p f u → u ≤ q) ∨ (b ≠ 0 ∧ ∀ u, Rng (b - 1) p u → u ≤ q)) := by
  obtain ⟨lo, hi, ⟨v, hv⟩, out⟩ := L
  have tp := Nat.two_pow_pos q
  have tq := Nat.two_pow_pos (q + 1)
  have pq : p / 2 ^ q = v := by
    rw [show p = 2 ^ q * v + (p - s) by omega, Nat.mul_add_div tp, Nat.div_eq_of_lt (by omega), Nat.add_zero]
  -- two places with the same part from u on have the same part from q on
  have up_ : ∀ {x y u : Nat}, u < q → x / 2 ^ (u + 1) = y / 2 ^ (u + 1) → x / 2 ^ q = y / 2 ^ q := fun {x y u} hu e => by
    obtain ⟨d, rfl⟩ : ∃ d, q = u + 1 + d := ⟨q - u - 1, by omega⟩
    rw [Nat.pow_add, ← Nat.div_div_eq_div_mul, ← Nat.div_div_eq_div_mul, e]
  have ge : ∀ {x y u : Nat}, Rng x y u → x / 2 ^ (q + 1) = y / 2 ^ (q + 1) → u ≤ q := fun {x y u} R e => by
    apply Nat.le_of_not_lt
    intro hu
    obtain ⟨d, rfl⟩ : ∃ d, u = q + 1 + d := ⟨u - q - 1, by omega⟩
    have h := R.even
    have h' := R.odd
    rw [Nat.pow_add, ← Nat.div_div_eq_div_mul] at h h'
    rw [e] at h
    omega
  refine ⟨by rw [pq, Nat.mul_comm]; exact hv.symm, fun u R => ?_, fun u hb R => ?_, ?_⟩
  · apply Nat.le_of_not_lt
    intro hu
    have e := up_ hu R.same
    rw [pq] at e
    have : v + 1 ≤ f / 2 ^ q := (Nat.le_div_iff_mul_le tp).mpr (by rw [Nat.succ_mul, Nat.mul_comm]; omega)
    omega
  · apply Nat.le_of_not_lt
    intro hu
    have e := up_ hu R.same
    rw [pq] at e
    have : (b - 1) / 2 ^ q < v := Nat.div_lt_of_lt_mul (by omega)
    omega
  · have sp : s / 2 ^ (q + 1) = p / 2 ^ (q + 1) := by
      rw [Nat.pow_succ, ← Nat.div_div_eq_div_mul, ← Nat.div_div_eq_div_mul, pq, hv, Nat.mul_div_cancel_left _ tp]
    have ds := div_mul s (q + 1)
    rcases out with h | h
    · refine .inl fun u R => ge R ?_
      rw [← sp]
      have l1 : s / 2 ^ (q + 1) ≤ f / 2 ^ (q + 1) := Nat.div_le_div_right (by omega)
      have l2 : f / 2 ^ (q + 1) < s / 2 ^ (q + 1) + 1 := Nat.div_lt_of_lt_mul (by rw [Nat.mul_add, Nat.mul_one, Nat.mul_comm]; exact h)
      omega
    · refine .inr ⟨by omega, fun u R => ge R ?_⟩
      rw [← sp]
      have l1 : (b - 1) / 2 ^ (q + 1) ≤ s / 2 ^ (q + 1) := Nat.div_le_div_right (by omega)
      have l2 : s / 2 ^ (q + 1) ≤ (b - 1) / 2 ^ (q + 1) := (Nat.le_div_iff_mul_le tq).mpr (by omega)
      omega
/-! ### how many bits of parts of a number -/
theorem bits_div (n a : Nat) : ∀ d, (bits n (a + d)).length = (bits n a).length + (bits (n / 2 ^ a) d).length
  | 0 => rfl
  | d + 1 => by
    rw [← Nat.add_assoc, bits_succ, bits_succ, List.length_append, List.length_append, bits_div n a d, Nat.testBit_div_two_pow, Nat.add_comm d a]
    by_cases h : n.testBit (a + d) = true <;> simp [h] <;> omega
theorem bits_zero : ∀ K, bits 0 K = []
  | 0 => rfl
  | K + 1 => by rw [bits_succ, bits_zero K]; simp
theorem bits_top {n K d : Nat} (h : n < 2 ^ K) : (bits n (K + d)).length = (bits n K).length := by
  rw [bits_div, Nat.div_eq_of_lt h, bits_zero]
  rfl
theorem bits_mod (n q : Nat) (d : Nat) : (bits (n % 2 ^ q) (q + d)).length = (bits n q).length := by
  rw [bits_top (Nat.mod_lt _ (Nat.two_pow_pos q))]
  have : ∀ j, j ≤ q → (bits (n % 2 ^ q) j).length = (bits n j).length := by
    intro j
    induction j with
    | zero => intro _; rfl
    | succ j ih =>
      intro h
      rw [bits_succ, bits_succ, List.length_append, List.length_append, ih (by omega), Nat.testBit_mod_two_pow]
      have : decide (j < q) = true := decide_eq_true (by omega)
      rw [this, Bool.true_and]
  exact this q (Nat.le_refl _)
theorem rng_uniq {b f t u : Nat} (R : Rng b f t) (S : Rng b f u) : t = u := by
  have key : ∀ {t u : Nat}, Rng b f t → Rng b f u → ¬ t < u := fun {t u} R S h => by
    obtain ⟨d, rfl⟩ : ∃ d, u = t + 1 + d := ⟨u - t - 1, by omega⟩
    have h1 := S.even
    have h2 := S.odd
    rw [Nat.pow_add, ← Nat.div_div_eq_div_mul] at h1 h2
    rw [R.same] at h1
    omega
  rcases Nat.lt_trichotomy t u with h | h | h
  · exact absurd h (key R S)
  · exact h
  · exact absurd h (key S R)
theorem bit_mod {n q : Nat} (h : n.testBit q = true) : n % 2 ^ q + 2 ^ q ≤ n ∧ 2 ^ q ≤ n % 2 ^ (q + 1) := by
  have e := mod_succ n q
  rw [if_pos h] at e
  have := Nat.mod_le n (2 ^ (q + 1))
  omega
/-! ### the law's own walk -/
/-- where the walk stands, and what it has found -/
def St (b M l r at_ : Nat) (L : List Blk) : Prop :=
  (∃ j, at_ = b + l % 2 ^ j ∧ L = up b l j ∧ l % 2 ^ j < l) ∨ (∃ j, j ≤ 4001 ∧ at_ = M + r / 2 ^ j * 2 ^ j ∧ L = up b l 4001 ++ dn M r 4001 (4001 - j))
theorem St.step {b f t at_ : Nat} {L : List Blk} (R : Rng b f t) (ht : t < 4000) (h : St b (mid f t) (mid f t - b) (f - mid f t) at_ L) (hlt : at_ < f) :
    ∃ s, Fits at_ f s ∧ St b (mid f t) (mid f t - b) (f - mid f t) (at_ + 2 ^ s) (L ++ [(at_, at_ + 2 ^ s)]) := by
  obtain ⟨g1, g2, g3, g4, v, hv⟩ := R.facts
  rcases h with ⟨j, e1, e2, e3⟩ | ⟨j, hj, e1, e2⟩
  · obtain ⟨i, hi, hb, hno⟩ := next_up e3
    obtain ⟨u1, u2, u3⟩ := up_step (b := b) hi hb hno
    have F := R.fits_up hb
    rw [mod_same hi hno, ← e1] at F
    rw [← e1] at u2 u3
    obtain ⟨hit, _⟩ := bit_le g3 hb
    refine ⟨i, F, ?_⟩
    by_cases hl : (mid f t - b) % 2 ^ (i + 1) < mid f t - b
    · exact .inl ⟨i + 1, u2.symm, by rw [u1, e2, u3], hl⟩
    · have hle := Nat.mod_le (mid f t - b) (2 ^ (i + 1))
      have he : (mid f t - b) % 2 ^ (i + 1) = mid f t - b := by omega
      refine .inr ⟨4001, Nat.le_refl _, ?_, ?_⟩
      · have hp : (2 : Nat) ^ t ≤ 2 ^ 4001 := Nat.pow_le_pow_right (by decide) (by omega)
        rw [Nat.div_eq_of_lt (by omega)]
        omega
      · have hsame := up_same (b := b) (l := mid f t - b) (j := i + 1) (i := 4001) (by omega) fun k h1 h2 => by
          have h3 := congrArg (fun n => Nat.testBit n k) he
          simp only [Nat.testBit_mod_two_pow] at h3
          have h4 : decide (k < i + 1) = false := decide_eq_false (by omega)
          rw [h4, Bool.false_and] at h3
          exact h3.symm
        rw [hsame, u1, e2, u3]
        show _ = _ ++ []
        rw [List.append_nil]
  · have dr := div_mul (f - mid f t) j
    obtain ⟨i, hij, hb, hno⟩ := next_dn (r := f - mid f t) (j := j) (by omega)
    obtain ⟨d1, d2, d3, d4, d5⟩ := dn_step (m := mid f t) hj hij hb hno
    obtain ⟨_, m2⟩ := bit_mod hb
    have hit : i < t := by
      have := Nat.ge_two_pow_of_testBit hb
      apply Nat.lt_of_not_le
      intro hle
      have := Nat.pow_le_pow_right (n := 2) (by decide) hle
      omega
    have F := R.fits_dn (i := i) (j := i + 1) (by omega) (by omega) (Nat.mod_lt _ (Nat.two_pow_pos _)) m2
    have ea : mid f t + (f - mid f t) / 2 ^ (i + 1) * 2 ^ (i + 1) = at_ := by
      have := congrArg Prod.fst d3
      rw [e1]
      exact this
    rw [ea] at F
    refine ⟨i, F, .inr ⟨i, by omega, by rw [d2, e1], ?_⟩⟩
    rw [d1, ← List.append_assoc, e2, d3, e1]
theorem St.done {b f t at_ : Nat} {L : List Blk} (R : Rng b f t) (h : St b (mid f t) (mid f t - b) (f - mid f t) at_ L) (hge : f ≤ at_) : L = cov b (mid f t) (mid f t - b) (f - mid f t) := by
  obtain ⟨g1, g2, g3, g4, _⟩ := R.facts
  rcases h with ⟨j, e1, e2, e3⟩ | ⟨j, hj, e1, e2⟩
  · omega
  · have dr := div_mul (f - mid f t) j
    have hz : (f - mid f t) % 2 ^ j = 0 := by omega
    have hd := dn_same (m := mid f t) (r := f - mid f t) (K := 4001) (d := 4001 - j) (e := 4001) (by omega) fun k h1 h2 => ?_
    · unfold cov
      rw [hd, e2]
    have h3 := congrArg (fun n => Nat.testBit n (4001 - 1 - k)) hz
    simp only [Nat.testBit_mod_two_pow, Nat.zero_testBit] at h3
    have h4 : decide (4001 - 1 - k < j) = true := decide_eq_true (by omega)
    rw [h4, Bool.true_and] at h3
    exact h3
theorem St.start {b f t : Nat} (R : Rng b f t) : St b (mid f t) (mid f t - b) (f - mid f t) b [] := by
  obtain ⟨g1, g2, g3, g4, _⟩ := R.facts
  exact .inl ⟨0, by rw [Nat.pow_zero, Nat.mod_one]; rfl, rfl, by rw [Nat.pow_zero, Nat.mod_one]; omega⟩
theorem St.gt {b f t at_ : Nat} {L : List Blk} (R : Rng b f t) (h : St b (mid f t) (mid f t - b) (f - mid f t) at_ L) : b ≤ at_ ∧ at_ ≤ f := by
  obtain ⟨g1, g2, g3, g4, _⟩ := R.facts
  rcases h with ⟨j, e1, e2, e3⟩ | ⟨j, hj, e1, e2⟩
  · omega
  · have dr := div_mul (f - mid f t) j
    omega
/-- where the inner loop begins -/
theorem Fits.first {a f s c : Nat} (F : Fits a f s) (h : (∃ u, a = 2 ^ c * (2 * u + 1)) ∨ (a = 0 ∧ 2 ^ c ≤ f ∧ f < 2 ^ (c + 1))) : s ≤ c ∧ (c = s ∨ f < a + 2 ^ (s + 1)) := by
  rcases h with ⟨u, e⟩ | ⟨e, h1, h2⟩
  · exact F.odd c u e
  · have hz := F.zero e
    have hl := F.le
    have hs : s ≤ c := by
      apply Nat.le_of_not_lt
      intro hlt
      have := Nat.pow_le_pow_right (n := 2) (by decide) (show c + 1 ≤ s from hlt)
      omega
    exact ⟨hs, .inr (by omega)⟩
theorem dn_len (m r K : Nat) : ∀ d, (dn m r K d).length ≤ d
  | 0 => Nat.le_refl _
  | d + 1 => by
    show (dn m r K d ++ _).length ≤ _
    rw [List.length_append]
    have := dn_len m r K d
    split
    · show _ + 1 ≤ _
      omega
    · show _ + 0 ≤ _
      omega
theorem bits_len_le (n : Nat) : ∀ K, (bits n K).length ≤ K
  | 0 => Nat.le_refl _
  | K + 1 => by
    rw [bits_succ, List.length_append]
    have := bits_len_le n K
    split
    · show _ + 1 ≤ _
      omega
    · show _ + 0 ≤ _
      omega
theorem St.len {b M l r at_ : Nat} {L : List Blk} (h : St b M l r at_ L) (hl : l < 2 ^ 4000) : L.length ≤ 8100 := by
  have key : ∀ j, (bits l j).length ≤ 4001 := fun j => by
    by_cases hj : j ≤ 4000
    · have := bits_len_le l j
      omega
    · obtain ⟨d, rfl⟩ : ∃ d, j = 4000 + d := ⟨j - 4000, by omega⟩
      rw [bits_top hl]
      have := bits_len_le l 4000
      omega
  rcases h with ⟨j, e1, e2, e3⟩ | ⟨j, hj, e1, e2⟩
  · rw [e2]
    unfold up
    rw [List.length_map]
    have := key j
    omega
  · rw [e2, List.length_append]
    unfold up
    rw [List.length_map]
    have h1 := key 4001
    have h2 := dn_len M r 4001 (4001 - j)
    omega
end MV
set_option Elab.async false
set_option linter.all false
set_option maxRecDepth 100000
/-! bits and ones of natural numbers as ints (laws k42, k43) -/
namespace MV
open PySem TV FM FC PM FI MP MK MD
theorem tb_nat (n p : Nat) : tb (n : Nat) p = n.testBit p := by
  unfold tb
  rw [Nat.testBit_eq_decide_div_mod_eq]
  have e : ((2 ^ p : Nat) : Int) = 2 ^ p := by norm_cast
  rw [← e, ← Int.natCast_ediv]
  congr 1
  rw [show (2 : Int) = ((2 : Nat) : Int) from rfl, ← Int.natCast_emod]
  simp only [eq_iff_iff]
  omega
/-- how many ones below K -/
theorem ones_bits (n : Nat) : ∀ K, onesB (n : Nat) K = (bits n K).length
  | 0 => rfl
  | K + 1 => by
    rw [bits_succ, List.length_append, ← ones_bits n K]
    show onesB (n : Nat) K + (if tb (n : Nat) K then 1 else 0) = _
    rw [tb_nat]
    by_cases h : n.testBit K = true <;> simp [h]
theorem and_mask (n p : Nat) : Builtin.bitAnd (n : Nat) (2 ^ p - 1) = ((n % 2 ^ p : Nat) : Int) := by
  rw [PySem.W.kbt_mask]
  have e : ((2 ^ p : Nat) : Int) = 2 ^ p := by norm_cast
  rw [← e, ← Int.natCast_emod]
/-- the top bit -/
theorem top_turn {n t : Nat} (h : (turnsOf (n : Nat)).getLast? = some t) : 0 < n ∧ 2 ^ (t - 1) ≤ n ∧ n < 2 ^ t ∧ 1 ≤ t := by
  obtain ⟨h1, _⟩ := last_bits (z := (n : Nat)) (by omega) h
  have hm : t ∈ turnsOf (n : Nat) := List.mem_of_getLast? h
  have hA := turnsOf_asc (n : Nat)
  have hle : ∀ u ∈ turnsOf (n : Nat), u ≤ t := fun u hu => by
    obtain ⟨i, hi⟩ := List.mem_iff_getElem?.mp hu
    rw [List.getLast?_eq_getElem?] at h
    have := (List.getElem?_eq_some_iff.mp hi).1
    exact asc_le hA (by omega) hi h
  have e1 : ∀ k : Nat, ((2 ^ k : Nat) : Int) = 2 ^ k := fun k => by norm_cast
  have r1 := (tv_range hA).mp hle
  rw [turnsOf_tv, ← e1] at r1
  have h2 : 2 ^ (t - 1) ≤ n := by
    apply Nat.le_of_not_lt
    intro hlt
    have := (tv_range (k := t - 1) hA).mpr (by
      rw [turnsOf_tv, ← e1]
      have := Nat.two_pow_pos (t - 1)
      omega) t hm
    omega
  have := Nat.two_pow_pos (t - 1)
  omega
/-! ### few turns -/
open MS MZ
theorem tau_tvs : ∀ (ts : List Nat) (s n : Int), s.natAbs = 1 → tau (n + tvs s ts) ≤ tau n + 2 * ts.length
  | [], s, n, _ => by
    show tau (n + 0) ≤ _
    rw [Int.add_zero]
    exact Nat.le_add_right _ _
  | t :: r, s, n, h => by
    have h1 := tau_add n s t
    have h2 := tau_tvs r (-s) (n + s * 2 ^ t) (by omega)
    show tau (n + (s * 2 ^ t + tvs (-s) r)) ≤ tau n + 2 * (r.length + 1)
    rw [← Int.add_assoc]
    omega
theorem tau_sum (n m : Int) : tau (n + m) ≤ tau n + 2 * tau m := by
  have := tau_tvs (turnsOf m) (-1) n (by decide)
  rw [show tvs (-1) (turnsOf m) = m from turnsOf_tv m] at this
  exact this
theorem tau_half (n : Int) : tau (n / 2) ≤ tau n := by
  rcases (by omega : n % 2 = 0 ∨ n % 2 = 1) with h | h
  · have e : n = 2 * (n / 2) := by omega
    have := tau_dbl (n / 2)
    rw [← e] at this
    omega
  · have e : n = 2 * (n / 2) + 1 := by omega
    have := tau_odd (n / 2)
    rw [← e] at this
    omega
theorem tau_drop (n : Int) : ∀ p : Nat, tau (n / 2 ^ p) ≤ tau n
  | 0 => by rw [Int.pow_zero, Int.ediv_one]; exact Nat.le_refl _
  | p + 1 => by
    have h1 := tau_drop n p
    have h2 := tau_half (n / 2 ^ p)
    rw [Int.ediv_ediv_of_nonneg (Int.le_of_lt (Int.pow_pos (by decide)))] at h2
    rw [Int.pow_succ]
    omega
theorem tau_up (n : Int) : ∀ p : Nat, tau (n * 2 ^ p) = tau n
  | 0 => by rw [Int.pow_zero, Int.mul_one]
  | p + 1 => by
    rw [Int.pow_succ, ← Int.mul_assoc, Int.mul_comm _ 2, tau_dbl, tau_up n p]
/-- few turns -/
def Fw (n : Nat) : Prop := tau ((n : Nat) : Int) ≤ 1500
theorem tau_n (n p c : Nat) (hc : c ≤ 1) : tau ((n / 2 ^ p * 2 ^ p + c * 2 ^ (p - 1) : Nat) : Int) ≤ tau ((n : Nat) : Int) + 2 := by
  have e : ((n / 2 ^ p * 2 ^ p + c * 2 ^ (p - 1) : Nat) : Int) = ((n : Nat) : Int) / 2 ^ p * 2 ^ p + ((c : Nat) : Int) * 2 ^ (p - 1) := by
    have e1 : ∀ k : Nat, ((2 ^ k : Nat) : Int) = 2 ^ k := fun k => by norm_cast
    rw [← e1, ← e1, ← Int.natCast_ediv, ← Int.natCast_mul, ← Int.natCast_mul, ← Int.natCast_add]
  rw [e]
  have h1 := tau_add (((n : Nat) : Int) / 2 ^ p * 2 ^ p) ((c : Nat) : Int) (p - 1)
  rw [tau_up] at h1
  have h2 := tau_drop ((n : Nat) : Int) p
  omega
theorem lvl_few {b f s q : Nat} (L : Lvl b f s q) (hb : tau ((b : Nat) : Int) ≤ 1000) (hf : tau ((f : Nat) : Int) ≤ 1000) : Fw s ∧ Fw (s + 2 ^ q) := by
  obtain ⟨lo, hi, ⟨v, hv⟩, out⟩ := L
  have tq := Nat.two_pow_pos (q + 1)
  have pq : 2 ^ (q + 1) = 2 ^ q * 2 := Nat.pow_succ ..
  have ds := div_mul s (q + 1)
  -- s is a multiple of the doubled block, or half of one more
  have hs : ∃ c, c ≤ 1 ∧ s = s / 2 ^ (q + 1) * 2 ^ (q + 1) + c * 2 ^ q := by
    have e : s / 2 ^ (q + 1) = v / 2 := by
      rw [pq, ← Nat.div_div_eq_div_mul, hv, Nat.mul_div_cancel_left _ (Nat.two_pow_pos q)]
    refine ⟨v % 2, by omega, ?_⟩
    rw [e]
    have ev : v = 2 * (v / 2) + v % 2 := (Nat.div_add_mod v 2).symm
    have : 2 ^ q * v = 2 ^ q * (2 * (v / 2) + v % 2) := congrArg _ ev
    rw [hv, this, pq, Nat.mul_add, Nat.mul_comm (2 ^ q) (v % 2), Nat.mul_comm (v / 2), Nat.mul_assoc]
  have key : ∃ n, tau ((n : Nat) : Int) ≤ 1000 ∧ s / 2 ^ (q + 1) = n / 2 ^ (q + 1) := by
    rcases out with h | h
    · refine ⟨f, hf, ?_⟩
      have l1 : s / 2 ^ (q + 1) ≤ f / 2 ^ (q + 1) := Nat.div_le_div_right (by omega)
      have l2 : f / 2 ^ (q + 1) < s / 2 ^ (q + 1) + 1 := Nat.div_lt_of_lt_mul (by rw [Nat.mul_add, Nat.mul_one, Nat.mul_comm]; exact h)
      omega
    · refine ⟨b, hb, ?_⟩
      have l1 : b / 2 ^ (q + 1) ≤ s / 2 ^ (q + 1) := Nat.div_le_div_right lo
      have l2 : s / 2 ^ (q + 1) ≤ b / 2 ^ (q + 1) := (Nat.le_div_iff_mul_le tq).mpr (by omega)
      omega
  obtain ⟨n, hn, en⟩ := key
  obtain ⟨c, hc, es⟩ := hs
  rw [en] at es
  have h1 := tau_n n (q + 1) c hc
  rw [Nat.add_sub_cancel, ← es] at h1
  have h2 := tau_add ((s : Nat) : Int) 1 q
  have e2 : ((s + 2 ^ q : Nat) : Int) = ((s : Nat) : Int) + 1 * 2 ^ q := by
    have e1 : ((2 ^ q : Nat) : Int) = 2 ^ q := by norm_cast
    rw [Int.one_mul, ← e1, ← Int.natCast_add]
  unfold Fw
  rw [e2]
  omega
theorem fw_small {n : Nat} (h : n < 2 ^ 64) : Fw n := by
  have bw : Bw 64 ((n : Nat) : Int) := bw_nat h
  have := bw.len
  unfold Fw tau
  omega
theorem fw_wt {n : Nat} (h : Fw n) (hb : n < 2 ^ 4001) : wt (fo ((n : Nat) : Int)) ≤ 2000 ∧ (fo ((n : Nat) : Int)).depth ≤ 1 := by
  have bw : Bw 4001 ((n : Nat) : Int) := bw_nat hb
  refine ⟨?_, (fo_lim (by decide) bw).2⟩
  have h1 := wt_any ((n : Nat) : Int)
  have h2 := sum_const (w' := w) (c := 1) (L := turnsOf ((n : Nat) : Int)) fun q hq => by
    have h3 := bw.turns q hq
    have h4 := w_small (t := q) (by omega)
    omega
  unfold Fw tau at h
  omega
end MV
set_option Elab.async false
set_option linter.all false
set_option maxRecDepth 100000
set_option pp.deepTerms false
set_option pp.maxSteps 1500
namespace K45
open PySem PySem.Spec PyProof.Rows L2 HX TV FM DX FB FC PM
local macro_rules | `(tactic| walk_at "r") => `(tactic| (repeat (first | refine Exists.intro _ (And.intro rfl ?_) | refine And.intro rfl ?_ | refine Exists.intro _ (Exists.intro _ (And.intro rfl (And.intro rfl ?_))) | refine And.intro (by omega) ?_ | refine And.intro (Or.inl (And.intro (by omega) (by omega))) ?_ | refine And.intro (Or.inr (And.intro (by omega) (by omega))) ?_ | refine And.intro (And.intro (by omega) (by omega)) ?_ | refine And.intro (And.intro (by decide) (And.intro (by decide) (by decide))) ?_ | refine Or.inl (Exists.intro _ (And.intro rfl ?_)) | (dsimp only [gName]; first | with_reducible refine seqC ?_ | with_reducible refine asgC ?_))))
local macro_rules | `(tactic| walk_at "s") => `(tactic| (repeat (first | refine Exists.intro _ (And.intro rfl ?_) | refine And.intro rfl ?_ | refine Exists.intro _ (Exists.intro _ (And.intro rfl (And.intro rfl ?_))) | refine And.intro (by omega) ?_ | refine And.intro (Or.inl (And.intro (by omega) (by omega))) ?_ | refine And.intro (Or.inr (And.intro (by omega) (by omega))) ?_ | refine And.intro (And.intro (by omega) (by omega)) ?_ | refine And.intro (And.intro (by decide) (And.intro (by decide) (by decide))) ?_ | refine Or.inl (Exists.intro _ (And.intro rfl ?_)) | refine Exists.intro _ (Exists.intro _ (And.intro rfl ?_)) | (dsimp only [gName]; first | with_reducible refine seqC ?_ | with_reducible refine asgC ?_))))
section
variable {P : Program} {w : World} {K : PySem.W.Frag} {mg : Str → Option Value} {base : Heap}
theorem bitsP (t : Nat) : Builtin.Int.intBits ((2 : Int) ^ t) = t + 1 := by
  have e : ((2 : Int) ^ t).natAbs = 2 ^ t := by rw [Int.natAbs_pow]; rfl
  have hp : 2 ^ t ≠ 0 := Nat.pos_iff_ne_zero.mp (Nat.pow_pos (by decide))
  unfold Builtin.Int.intBits
  split
  · rename_i h
    rw [show (2 : Int) ^ t = 0 by simpa using h] at e
    exact absurd e.symm hp
  · rw [e, Nat.log2_two_pow]
theorem turnsIn {n : Int} {k : Nat} (h1 : -(2 ^ k) ≤ n) (h2 : n < 2 ^ k) : ∃ ts, Asc ts ∧ tv ts = n ∧ (∀ t ∈ ts, t ≤ k) ∧ ts.length ≤ k + 1 := by
  obtain ⟨ts, hA, e⟩ := turns_ex n
  subst e
  have hb := (tv_range hA).mpr ⟨h1, h2⟩
  exact ⟨ts, hA, rfl, hb, asc_len (a := 0) hA fun t ht => ⟨Nat.zero_le _, hb t ht⟩⟩
/-- the turns of an int as a tuple -/
def sp_toi (K : PySem.W.Frag) : Sp := fun vs H Q _ => ∃ (n : Int) (k : Nat), vs = [.int n] ∧ k ≤ 900000 ∧ -(2 ^ k) ≤ n ∧ n < 2 ^ k ∧
  ∀ (ts : List Nat) l H', Asc ts → tv ts = n → (∀ t ∈ ts, t ≤ k) → ts.length ≤ k + 1 → Same H H' → H' l = some (.tup (nv ts)) → Q (.ref l) H'
theorem ok_turns_of_int (T : Top K mg) {k : Nat} : FnOk P w K mg base CX0 (k + 1) T.f_turns_of_int T.fd_turns_of_int ["number"]  (sp_toi K) := by
  refine T.F_turns_of_int.ok sc_turns_of_int (fun vs H Q E h => ?_) (fun cdv A outer s H vs Q E hr h => ?_)
  · obtain ⟨n, _, rfl, _⟩ := h
    rfl
  · obtain ⟨n, kb, rfl, hk, hn1, hn2, q⟩ := h
    obtain ⟨ts, hA, hn, hb, hlen⟩ := turnsIn hn1 hn2
    replace q := fun l H' => q ts l H' hA hn hb hlen
    refine ⟨_, (pss_cons (ps_set (i := 1) sc_turns_of_int.nd rfl (Or.inl rfl) (pe_op op_xor (pv 0) (pe_op op_shlN (pv 0) pe_int)))
    (pss_cons (ps_set (i := 2) sc_turns_of_int.nd rfl (Or.inl rfl) (pe_lst pa_nil))
    (pss_cons (ps_while PassesOwn.never (pt_cmpR op_gt (pv 1) pe_int (nomark _))
      (pss_cons (ps_set (i := 3) sc_turns_of_int.nd rfl (Or.inl rfl) (pe_op op_and (pv 1) (pe_un un_neg (pv 1))))
      (pss_cons (ps_expr (pe_bm PySem.F.plainAttrs_list PySem.F.slot_list_append PySem.F.type_list_append mt_append (pv 2) (pa_cons (pe_op op_sub (pe_bits (pe_callTy call_int1 (by rfl) T.m_int (by decide +kernel) (pa_cons (pv 3) pa_nil))) pe_int) pa_nil)))
      (pss_one (ps_set (i := 1) sc_turns_of_int.nd rfl (Or.inl rfl) (pe_op op_xor (pv 1) (pv 3)))))))
    (pss_one (ps_ret (pe_callTy call_tuple_of (by rfl) T.m_tuple (by decide +kernel) (pa_cons (pv 2) pa_nil))))))), ?_⟩
    walk_at "r"
    have hbits := intBits_le hn1 (Int.le_of_lt hn2)
    refine ⟨⟨by decide, by show (Builtin.Int.intBits n : Int) + 1 ≤ 2 ^ 27; omega⟩, ?_⟩
    walk_at "r"
    refine ⟨Nat.zero_le _, fun l nl => ?_⟩
    refine ⟨fun m σ H' => ∃ (pre post : List Nat) (z : Option V), σ = [some (.int n), some (.int (psum post)), some (.ref l), z] ∧ ts = pre ++ post ∧ post.length ≤ m ∧ Same H H' ∧ H' l = some (.lst (nv pre)),
      ⟨ts.length, [], ts, none, ?_, rfl, Nat.le_refl _, sm_upd nl, upd_same⟩, ?_⟩
    · show [some (V.int n), some (V.int (Builtin.bitXor n (n * 2))), some (V.ref l), none] = _
      rw [← hn, marks hA]
    rintro m σ H' ⟨pre, post, z, rfl, ets, hm, sm, el⟩
    walk_at "r"
    refine ifD (fun hc => wb fun D' B => ?_) (fun hc => ?_)
    · cases post with
      | nil => exact absurd hc (by decide)
      | cons t r =>
        have hA2 : Asc (t :: r) := (asc_app (ets ▸ hA)).2
        walk_at "r"
        simp only [low_mark hA2]
        refine ⟨.inl ⟨rfl, _, .inl (.inl el)⟩, ?_⟩
        walk_at "r"
        simp only [bitsP]
        refine ⟨_, _, _, rfl, rfl, el, ?_, ?_⟩
        · rw [nv_len]
          have : ts.length = pre.length + (r.length + 1) := by rw [ets]; simp
          exact len_lt (by omega)
        walk_at "r"
        refine B.nx _ _ ⟨r.length, by simp at hm; omega, pre ++ [t], r, some (.int (2 ^ t)), ?_, ?_, Nat.le_refl _, sm_mut sm nl, ?_⟩
        · show [some (V.int n), some (V.int (Builtin.bitXor (psum (t :: r)) (2 ^ t))), some (V.ref l), some (V.int (2 ^ t))] = _
          rw [off_mark hA2]
        · rw [ets]
          simp
        · rw [upd_same, nv_app]
          have e : ((t + 1 : Nat) : Int) - 1 = ((t : Nat) : Int) := by omega
          rw [← e]
    · cases post with
      | nil =>
        walk_at "r"
        rw [List.append_nil] at ets
        refine ⟨l, _, rfl, .inl ⟨.inl (.inl el), fun r nr => ?_⟩⟩
        refine q r _ (sm.trans (sm_upd nr)) ?_
        rw [upd_same, ets]
      | cons t r => exact absurd psum_pos hc
/-- the turns of a form -/
def sp_trn (K : PySem.W.Frag) : Sp := fun vs H Q _ => ∃ (v : V) (d : PyData), vs = [v] ∧ Dp K H v d ∧ Fm d ∧
  ∀ (a : Addr) (us : List V) (ds : List PyData) H', FmAll ds → Asc (vals ds) → tv (vals ds) = val d → SqT K H' a us → DpAll K H' us ds → PyData.depthAll ds + 1 ≤ max d.depth 1 → wtAll ds ≤ wt d + 65 →
    ((∃ i, d = .int i) → ∀ t ∈ vals ds, t ≤ 64) → Same H H' → Q (.ref a) H'
theorem ok_turns (T : Top K mg) {k : Nat} : FnOk P w K mg base CX0 (k + 2) T.f_turns T.fd_turns ["x"]  (sp_trn K) := by
  have G_turns_of_int : FnOk P w K mg base CX0 (k + 1) T.f_turns_of_int T.fd_turns_of_int ["number"]  (sp_toi K) := ok_turns_of_int T
  refine T.F_turns.ok sc_turns (fun vs H Q E h => ?_) (fun cdv A outer s H vs Q E hr h => ?_)
  · obtain ⟨v, d, rfl, _⟩ := h
    rfl
  · obtain ⟨v, d, rfl, hD, hF, q⟩ := h
    refine ⟨_, (pss_cons (ps_if (pt_val (pe_callB call_isi (by rfl) T.m_isinstance (by decide +kernel) (pa_cons (pv 0) (pa_cons (pe_bltn (v := .ty "tuple") (by rfl) T.m_tuple (by decide +kernel) rfl) pa_nil))) (fun _ => rfl))
      (pss_one (ps_ret (pv 0)))
      pss_nil)
    (pss_one (ps_ret (pe_call G_turns_of_int (hr.mono (by omega)) (by rfl) T.g_turns_of_int T.F_turns_of_int.kp T.b_turns_of_int .nil pass0 (pa_cons (pv 0) pa_nil))))), ?_⟩
    rcases fm_cases hF with ⟨i, rfl⟩ | ⟨ds, rfl⟩
    · cases hD
      refine ⟨_, rfl, _, _, _, _, false, rfl, .ty "tuple", tyI _, k_it, false, rfl, iteF ?_⟩
      rw [fm_int] at hF
      refine ⟨_, rfl, i, 64, rfl, by decide, hF.1, hF.2, fun ts l H' hA hn hb hl sm hl' => ?_⟩
      refine q l _ (iD ts) H' (fmAll_iD fun t ht => by have := hb t ht; omega) (by rw [vals_iD]; exact hA) (by rw [vals_iD, hn, val_int]) (.inl (.inl hl')) (dp_nv ts) (by rw [depthAll_iD]; omega) (by rw [wtAll_iD, wt_int]; omega) (fun _ => by rw [vals_iD]; exact hb) sm
    · have hF' := (fm_tuple _).mp hF
      cases hD with
      | @tup a xs _ h1 h2 =>
        refine ⟨_, rfl, _, _, _, _, true, rfl, .ty "tuple", tyT h1, k_tt, true, rfl, iteT ?_⟩
        walk_at "r"
        exact q a xs ds H hF'.1 hF'.2.1 (val_tuple ds).symm h1 h2 (by rw [depth_tuple]; omega) (by rw [wt_tuple]; omega) (fun ⟨i, e⟩ => nomatch e) (Same.refl _)
def sp_neg (K : PySem.W.Frag) : Sp := fun vs H Q _ => ∃ (v : V) (d : PyData), vs = [v] ∧ Dp K H v d ∧ Fm d ∧ Q (.bl (decide (val d < 0))) H
theorem ok_negative (T : Top K mg) {k : Nat} : FnOk P w K mg base CX0 (k + 1) T.f_negative T.fd_negative ["x"]  (sp_neg K) := by
  refine T.F_negative.ok sc_negative (fun vs H Q E h => ?_) (fun cdv A outer s H vs Q E hr h => ?_)
  · obtain ⟨v, d, rfl, _⟩ := h
    rfl
  · obtain ⟨v, d, rfl, hD, hF, q⟩ := h
    refine ⟨_, (pss_cons (ps_if (pt_val (pe_callB call_isi (by rfl) T.m_isinstance (by decide +kernel) (pa_cons (pv 0) (pa_cons (pe_bltn (v := .ty "int") (by rfl) T.m_int (by decide +kernel) rfl) pa_nil))) (fun _ => rfl))
      (pss_one (ps_ret (pe_cmpR op_lt (pv 0) pe_int (nomark _))))
      pss_nil)
    (pss_one (ps_ret (pe_cmpR op_eq (pe_op op_and (pe_callB call_len_seq (by rfl) T.m_len PySem.boot_len (pa_cons (pv 0) pa_nil)) pe_int) pe_int (nomark _))))), ?_⟩
    rcases fm_cases hF with ⟨i, rfl⟩ | ⟨ds, rfl⟩
    · cases hD
      refine ⟨_, rfl, _, _, _, _, true, rfl, .ty "int", tyI _, k_ii, true, rfl, iteT ?_⟩
      rw [val_int] at q
      walk_at "r"
      exact q
    · cases hD with
      | @tup a xs _ h1 h2 =>
        refine ⟨_, rfl, _, _, _, _, false, rfl, .ty "int", tyT h1, k_ti, false, rfl, iteF ?_⟩
        refine ⟨_, rfl, a, _, rfl, .inr h1, ?_⟩
        walk_at "r"
        have e : decide (val (.tuple ds) < 0) = decide (V.int (Builtin.bitAnd ((xs.length : Nat) : Int) 1) = V.int 1) := by
          rw [bitAnd_m1, dpAll_len h2]
          have := val_neg hF
          by_cases z : ds.length % 2 = 1
          · rw [decide_eq_true (this.mpr z), decide_eq_true (congrArg V.int (by omega))]
          · rw [decide_eq_false (fun y => z (this.mp y)), decide_eq_false (fun y => z (by have := V.int.inj y; omega))]
        rw [e] at q
        exact q
/-- a walk over a row of small turns: the number so far -/
theorem made_step {ts : List Nat} {i t : Nat} (h : ts[i]? = some t) : tv (ts.take (i + 1)) = if i % 2 = 1 then tv (ts.take i) + 2 ^ t else tv (ts.take i) - 2 ^ t := by
  have hi := (List.getElem?_eq_some_iff.mp h).1
  rw [List.take_add_one, h]
  show tv (ts.take i ++ [t]) = _
  rw [tv_snoc, List.length_take, Nat.min_eq_left (Nat.le_of_lt hi)]
  by_cases e : i % 2 = 1
  · rw [if_pos e, if_neg (by omega)]
  · rw [if_neg e, if_pos (by omega)]
    omega
/-- the form with the turns of a row -/
def sp_made (K : PySem.W.Frag) : Sp := fun vs H Q _ => ∃ (a : Addr) (us : List V) (ds : List PyData), vs = [.ref a] ∧ (SqL K H a us ∨ SqT K H a us) ∧ DpAll K H us ds ∧ FmAll ds ∧ Asc (vals ds) ∧
  ∀ (v : V) (d : PyData) H', Fm d → val d = tv (vals ds) → d.depth ≤ PyData.depthAll ds + 1 → wt d ≤ wtAll ds + 1 → Dp K H' v d → Same H H' → Q v H'
theorem ok_made (T : Top K mg) {k : Nat} : FnOk P w K mg base CX0 (k + 1) T.f_made T.fd_made ["found"]  (sp_made K) := by
  refine T.F_made.ok sc_made (fun vs H Q E h => ?_) (fun cdv A outer s H vs Q E hr h => ?_)
  · obtain ⟨a, us, ds, rfl, _⟩ := h
    rfl
  · obtain ⟨a, us, ds, rfl, hS, hD, hF, hA, q⟩ := h
    have hul := dpAll_len hD
    have fin : ds = [] → Q (.int 0) H := fun e => by
      subst e
      refine q _ (.int 0) H ((fm_int 0).mpr (by decide)) ?_ (by rw [depth_int]; exact Nat.zero_le _) (by rw [wt_int]; omega) (.int 0) (Same.refl _)
      rw [val_int, vals_nil, tv_nil]
    have small : (∀ t ∈ vals ds, t ≤ 64) → us = nv (vals ds) ∧ ∀ H', Same H H' → Q (.int (tv (vals ds))) H' := fun h64 => by
      have eds := ds_small hF h64
      refine ⟨nv_of (H := H) (by rw [← eds]; exact hD), fun H' sm => ?_⟩
      exact q _ _ _ ((fm_int _).mpr ((tv_range hA).mp h64)) (val_int _) (by rw [depth_int]; exact Nat.zero_le _) (by rw [wt_int]; omega) (.int _) sm
    have lst : ds ≠ [] → ∃ ul dl dr, ds = dr ++ [dl] ∧ us[us.length - 1]? = some ul ∧ Dp K H ul dl ∧ Fm dl ∧ 0 ≤ val dl ∧ ∀ t ∈ vals ds, t ≤ (val dl).toNat := fun hne => by
      obtain ⟨dl, dr, rfl⟩ := last_is hne
      obtain ⟨ul, h1, h2⟩ := dpAll_at (i := dr.length) (d := dl) hD (by simp)
      refine ⟨ul, dl, dr, rfl, ?_, h2, (fmAll_mem hF dl (by simp)).1, (fmAll_mem hF dl (by simp)).2, fun t ht => ?_⟩
      · rw [← h1, hul]
        simp
      · rw [vals_app, vals_cons, vals_nil] at ht hA
        rcases List.mem_append.mp ht with ht | ht
        · exact Nat.le_of_lt ((asc_snoc.mp hA).2 t ht)
        · exact Nat.le_of_eq (List.mem_singleton.mp ht)
    have big : ∀ {dl dr}, ds = dr ++ [dl] → 64 < val dl → ∀ l H', Same H H' → SqT K H' l us → Q (.ref l) H' := fun {dl dr} e h64 l H' sm hl => by
      refine q _ (.tuple ds) _ ((fm_tuple _).mpr ⟨hF, hA, (val dl).toNat, ?_, by omega⟩) (val_tuple _) (by rw [depth_tuple]; exact Nat.le_refl _) (by rw [wt_tuple]; omega) (.tup hl (dpAll_tk (tk_same sm) hF hD)) sm
      rw [e, vals_app, vals_cons]
      simp
    rcases hS with hS | hS
    · refine ⟨_, (pss_cons (ps_if (pt_cmpR op_eq (pe_callB call_len_seq (by rfl) T.m_len PySem.boot_len (pa_cons (pv 0) pa_nil)) pe_int (nomark _))
      (pss_one (ps_ret pe_int))
      pss_nil)
    (pss_cons (ps_set (i := 1) sc_made.nd rfl (Or.inl rfl) (pe_ix ix_list (pv 0) (pe_un un_neg pe_int) (fun _ _ => rfl)))
    (pss_cons (ps_if (PW.pt (pw_or (pt_not (pt_val (pe_callB call_isi (by rfl) T.m_isinstance (by decide +kernel) (pa_cons (pv 1) (pa_cons (pe_bltn (v := .ty "int") (by rfl) T.m_int (by decide +kernel) rfl) pa_nil))) (fun _ => rfl))) (pw_or1 (pt_cmpR op_gt (pv 1) (pe_glob (v := .int (64)) (by rfl) T.c_LAST_PLAIN_TURN ⟨_, rfl⟩) (nomark _)))))
      (pss_one (ps_ret (pe_callTy call_tuple_of (by rfl) T.m_tuple (by decide +kernel) (pa_cons (pv 0) pa_nil))))
      pss_nil)
    (pss_cons (ps_set (i := 2) sc_made.nd rfl (Or.inl rfl) pe_int)
    (pss_cons (ps_for PassesOwn.never rfl (pi_enum (by rfl) T.m_enumerate (pa_cons (pv 0) pa_nil)) (pg_tup rfl (pgs_cons (pg_name (i := 3) sc_made.nd rfl (Or.inl rfl)) (pgs_cons (pg_name (i := 4) sc_made.nd rfl (Or.inl rfl)) pgs_nil)))
      (pss_one (ps_if (pt_cmpR op_eq (pe_op op_and (pv 3) pe_int) pe_int (nomark _))
        (pss_one (ps_set (i := 2) sc_made.nd rfl (Or.inl rfl) (pe_op op_add (pv 2) (pe_op op_oneShl pe_int (pv 4)))))
        (pss_one (ps_set (i := 2) sc_made.nd rfl (Or.inl rfl) (pe_op op_sub (pv 2) (pe_op op_oneShl pe_int (pv 4))))))))
    (pss_one (ps_ret (pv 2)))))))), ?_⟩
      refine ⟨_, rfl, a, us, rfl, .inl hS, rfl, _, rfl, ?_⟩
      refine ifE (fun e => ?_) (fun e => ?_)
      · exact fin (List.length_eq_zero_iff.mp (by omega))
      obtain ⟨ul, dl, dr, eds, hu, hDl, hFl, h0, hle⟩ := lst (fun z => e (by rw [hul, z]; rfl))
      refine ⟨_, rfl, _, rfl, a, us, -1, ul, rfl, rfl, hS, atI_neg1 hu, ?_⟩
      dsimp only [gName]
      refine ⟨_, rfl, ?_⟩
      rcases fm_cases hFl with ⟨iv, rfl⟩ | ⟨es, rfl⟩
      · cases hDl
        refine ⟨_, _, _, _, true, rfl, .ty "int", tyI _, k_ii, true, rfl, iteF ?_⟩
        rw [val_int] at hle
        walk_at "r"
        refine ifD (fun hc => ?_) (fun hc => ?_)
        · refine ⟨_, rfl, a, us, rfl, .inl ⟨hS, fun l nl => big eds (by rw [val_int]; exact hc) l _ (sm_upd nl) (.inl (.inl upd_same))⟩⟩
        obtain ⟨eus, qs⟩ := small fun t ht => by have := hle t ht; omega
        walk_at "r"
        refine ⟨a, us, rfl, hS, flE (xs := us) (fun i σ H' => ∃ (z4 z5 : Option V), σ = [some (.ref a), some (.int iv), some (.int (tv ((vals ds).take i))), z4, z5] ∧ Same H H') ⟨none, none, rfl, Same.refl _⟩ ?_ ?_ ?_⟩
        · rintro i σ H' _ ⟨_, _, _, sm⟩
          exact sm.seq hS
        · rintro i x σ H' hx ⟨z4, z5, rfl, sm⟩ Tt nT D' B
          rw [eus] at hx
          obtain ⟨t, ht, rfl⟩ := nv_get hx
          have hbt : t ≤ 64 := by
            have := hle t (List.mem_of_getElem? ht)
            omega
          refine ⟨Tt, _, rfl, .inl (.inl upd_same), rfl, _, _, rfl, _, _, rfl, rfl, ?_⟩
          have ms := made_step ht
          have sm' := sm.trans (sm_upd (o := .tup [.int (i : Nat), .int (t : Nat)]) nT)
          walk_at "r"
          refine ifE (fun z => ?_) (fun z => ?_)
          · rw [bitAnd_m1] at z
            rw [if_pos (by omega)] at ms
            walk_at "r"
            refine ⟨t, rfl, rfl, by omega, ?_⟩
            walk_at "r"
            refine B.nx _ _ ⟨some (.int (i : Nat)), some (.int (t : Nat)), ?_, sm'⟩
            rw [ms]
            rfl
          · rw [bitAnd_m1] at z
            rw [if_neg (by omega)] at ms
            walk_at "r"
            refine ⟨t, rfl, rfl, by omega, ?_⟩
            walk_at "r"
            refine B.nx _ _ ⟨some (.int (i : Nat)), some (.int (t : Nat)), ?_, sm'⟩
            rw [ms]
            rfl
        · rintro σ H' ⟨z4, z5, rfl, sm⟩
          walk_at "r"
          rw [eus, nv_len, List.take_length]
          exact qs H' sm
      · have hfar := tuple_far hFl
        cases hDl with
        | tup g1 g2 =>
          refine ⟨_, _, _, _, false, rfl, .ty "int", tyT g1, k_ti, false, rfl, iteT (iteT ?_)⟩
          refine ⟨_, rfl, a, us, rfl, .inl ⟨hS, fun l nl => big eds ?_ l _ (sm_upd nl) (.inl (.inl upd_same))⟩⟩
          apply Int.lt_of_not_ge
          intro hc
          exact hfar ⟨by omega, by omega⟩
    · refine ⟨_, (pss_cons (ps_if (pt_cmpR op_eq (pe_callB call_len_seq (by rfl) T.m_len PySem.boot_len (pa_cons (pv 0) pa_nil)) pe_int (nomark _))
      (pss_one (ps_ret pe_int))
      pss_nil)
    (pss_cons (ps_set (i := 1) sc_made.nd rfl (Or.inl rfl) (pe_ix ix_tup (pv 0) (pe_un un_neg pe_int) (fun _ _ => rfl)))
    (pss_cons (ps_if (PW.pt (pw_or (pt_not (pt_val (pe_callB call_isi (by rfl) T.m_isinstance (by decide +kernel) (pa_cons (pv 1) (pa_cons (pe_bltn (v := .ty "int") (by rfl) T.m_int (by decide +kernel) rfl) pa_nil))) (fun _ => rfl))) (pw_or1 (pt_cmpR op_gt (pv 1) (pe_glob (v := .int (64)) (by rfl) T.c_LAST_PLAIN_TURN ⟨_, rfl⟩) (nomark _)))))
      (pss_one (ps_ret (pe_callTy call_tuple_of (by rfl) T.m_tuple (by decide +kernel) (pa_cons (pv 0) pa_nil))))
      pss_nil)
    (pss_cons (ps_set (i := 2) sc_made.nd rfl (Or.inl rfl) pe_int)
    (pss_cons (ps_for PassesOwn.never rfl (pi_enumT (by rfl) T.m_enumerate (pa_cons (pv 0) pa_nil)) (pg_tup rfl (pgs_cons (pg_name (i := 3) sc_made.nd rfl (Or.inl rfl)) (pgs_cons (pg_name (i := 4) sc_made.nd rfl (Or.inl rfl)) pgs_nil)))
      (pss_one (ps_if (pt_cmpR op_eq (pe_op op_and (pv 3) pe_int) pe_int (nomark _))
        (pss_one (ps_set (i := 2) sc_made.nd rfl (Or.inl rfl) (pe_op op_add (pv 2) (pe_op op_oneShl pe_int (pv 4)))))
        (pss_one (ps_set (i := 2) sc_made.nd rfl (Or.inl rfl) (pe_op op_sub (pv 2) (pe_op op_oneShl pe_int (pv 4))))))))
    (pss_one (ps_ret (pv 2)))))))), ?_⟩
      refine ⟨_, rfl, a, us, rfl, .inr hS, rfl, _, rfl, ?_⟩
      refine ifE (fun e => ?_) (fun e => ?_)
      · exact fin (List.length_eq_zero_iff.mp (by omega))
      obtain ⟨ul, dl, dr, eds, hu, hDl, hFl, h0, hle⟩ := lst (fun z => e (by rw [hul, z]; rfl))
      refine ⟨_, rfl, _, rfl, a, us, -1, ul, rfl, rfl, hS, atI_neg1 hu, ?_⟩
      dsimp only [gName]
      refine ⟨_, rfl, ?_⟩
      rcases fm_cases hFl with ⟨iv, rfl⟩ | ⟨es, rfl⟩
      · cases hDl
        refine ⟨_, _, _, _, true, rfl, .ty "int", tyI _, k_ii, true, rfl, iteF ?_⟩
        rw [val_int] at hle
        walk_at "r"
        refine ifD (fun hc => ?_) (fun hc => ?_)
        · refine ⟨_, rfl, a, us, rfl, .inr ⟨hS, big eds (by rw [val_int]; exact hc) a H (Same.refl _) hS⟩⟩
        obtain ⟨eus, qs⟩ := small fun t ht => by have := hle t ht; omega
        walk_at "r"
        refine ⟨a, us, rfl, hS, flET (xs := us) (fun i σ H' => ∃ (z4 z5 : Option V), σ = [some (.ref a), some (.int iv), some (.int (tv ((vals ds).take i))), z4, z5] ∧ Same H H') ⟨none, none, rfl, Same.refl _⟩ ?_ ?_ ?_⟩
        · rintro i σ H' _ ⟨_, _, _, sm⟩
          exact HX.Same.tup sm hS
        · rintro i x σ H' hx ⟨z4, z5, rfl, sm⟩ Tt nT D' B
          rw [eus] at hx
          obtain ⟨t, ht, rfl⟩ := nv_get hx
          have hbt : t ≤ 64 := by
            have := hle t (List.mem_of_getElem? ht)
            omega
          refine ⟨Tt, _, rfl, .inl (.inl upd_same), rfl, _, _, rfl, _, _, rfl, rfl, ?_⟩
          have ms := made_step ht
          have sm' := sm.trans (sm_upd (o := .tup [.int (i : Nat), .int (t : Nat)]) nT)
          walk_at "r"
          refine ifE (fun z => ?_) (fun z => ?_)
          · rw [bitAnd_m1] at z
            rw [if_pos (by omega)] at ms
            walk_at "r"
            refine ⟨t, rfl, rfl, by omega, ?_⟩
            walk_at "r"
            refine B.nx _ _ ⟨some (.int (i : Nat)), some (.int (t : Nat)), ?_, sm'⟩
            rw [ms]
            rfl
          · rw [bitAnd_m1] at z
            rw [if_neg (by omega)] at ms
            walk_at "r"
            refine ⟨t, rfl, rfl, by omega, ?_⟩
            walk_at "r"
            refine B.nx _ _ ⟨some (.int (i : Nat)), some (.int (t : Nat)), ?_, sm'⟩
            rw [ms]
            rfl
        · rintro σ H' ⟨z4, z5, rfl, sm⟩
          walk_at "r"
          rw [eus, nv_len, List.take_length]
          exact qs H' sm
      · have hfar := tuple_far hFl
        cases hDl with
        | tup g1 g2 =>
          refine ⟨_, _, _, _, false, rfl, .ty "int", tyT g1, k_ti, false, rfl, iteT (iteT ?_)⟩
          refine ⟨_, rfl, a, us, rfl, .inr ⟨hS, big eds ?_ a H (Same.refl _) hS⟩⟩
          apply Int.lt_of_not_ge
          intro hc
          exact hfar ⟨by omega, by omega⟩
/-- the form of an int -/
def sp_ofint (K : PySem.W.Frag) : Sp := fun vs H Q _ => ∃ (n : Int) (k : Nat), vs = [.int n] ∧ k ≤ 900000 ∧ -(2 ^ k) ≤ n ∧ n < 2 ^ k ∧
  ∀ (v : V) (d : PyData) H', Fm d → val d = n → d.depth ≤ 1 → wt d ≤ k + 3 → Dp K H' v d → Same H H' → Q v H'
theorem ok_of_int (T : Top K mg) {k : Nat} : FnOk P w K mg base CX0 (k + 2) T.f_of_int T.fd_of_int ["number"]  (sp_ofint K) := by
  have G_turns_of_int : FnOk P w K mg base CX0 (k + 1) T.f_turns_of_int T.fd_turns_of_int ["number"]  (sp_toi K) := ok_turns_of_int T
  refine T.F_of_int.ok sc_of_int (fun vs H Q E h => ?_) (fun cdv A outer s H vs Q E hr h => ?_)
  · obtain ⟨n, _, rfl, _⟩ := h
    rfl
  · obtain ⟨n, kb, rfl, hk, hn1, hn2, q⟩ := h
    refine ⟨_, (pss_cons (ps_if (pt_chain op_le op_le (pe_glob (v := .int (-18446744073709551616)) (by rfl) T.c_PLAIN_LEAST ⟨_, rfl⟩) (pv 0) (pe_glob (v := .int (18446744073709551615)) (by rfl) T.c_PLAIN_MOST ⟨_, rfl⟩))
      (pss_one (ps_ret (pv 0)))
      pss_nil)
    (pss_one (ps_ret (pe_call G_turns_of_int (hr.mono (by omega)) (by rfl) T.g_turns_of_int T.F_turns_of_int.kp T.b_turns_of_int .nil pass0 (pa_cons (pv 0) pa_nil))))), ?_⟩
    walk_at "r"
    by_cases hpl : -(2 ^ 64) ≤ n ∧ n < 2 ^ 64
    · refine ifD (fun _ => ?_) (fun z => absurd (by omega) z)
      walk_at "r"
      refine ifD (fun _ => ?_) (fun z => absurd (by omega) z)
      walk_at "r"
      exact q _ _ _ ((fm_int n).mpr hpl) (val_int n) (by rw [depth_int]; decide) (by rw [wt_int]; omega) (.int n) (Same.refl _)
    · refine ifChain ?_ (fun h1 hB => ?_)
      · walk_at "r"
        refine ⟨n, kb, rfl, hk, hn1, hn2, fun ts l H' hA hn hb hlen sm hl => ?_⟩
        have h64 : ∃ t ∈ ts, 64 < t := by
          apply Classical.byContradiction
          intro hc
          apply hpl
          rw [← hn, ← tv_range hA]
          intro t ht
          apply Nat.le_of_not_lt
          intro hlt
          exact hc ⟨t, ht, hlt⟩
        obtain ⟨f1, f2⟩ := fm_small hA (fun t ht => by have := hb t ht; omega) h64
        exact q _ _ _ f1 (f2.trans hn) (by rw [depth_tuple, depthAll_iD]; exact Nat.le_refl _) (by rw [wt_tuple, wtAll_iD]; omega) (.tup (.inl (.inl hl)) (dp_nv ts)) sm
      · walk_at "r"
        refine ifD (fun h2 => absurd ⟨by omega, by omega⟩ hpl) (fun _ => hB)
end
end K45
set_option Elab.async false
set_option linter.all false
set_option maxRecDepth 100000
set_option pp.deepTerms false
set_option pp.maxSteps 1500
namespace K45
open PySem PySem.Spec PyProof.Rows L2 HX TV FM DX FB FC PM
local macro_rules | `(tactic| walk_at "r") => `(tactic| (repeat (first | refine Exists.intro _ (And.intro rfl ?_) | refine And.intro rfl ?_ | refine Exists.intro _ (Exists.intro _ (And.intro rfl (And.intro rfl ?_))) | refine And.intro (by omega) ?_ | refine And.intro (Or.inl (And.intro (by omega) (by omega))) ?_ | refine And.intro (Or.inr (And.intro (by omega) (by omega))) ?_ | refine And.intro (And.intro (by omega) (by omega)) ?_ | refine And.intro (And.intro (by decide) (And.intro (by decide) (by decide))) ?_ | refine Or.inl (Exists.intro _ (And.intro rfl ?_)) | (dsimp only [gName]; first | with_reducible refine seqC ?_ | with_reducible refine asgC ?_))))
local macro_rules | `(tactic| walk_at "s") => `(tactic| (repeat (first | refine Exists.intro _ (And.intro rfl ?_) | refine And.intro rfl ?_ | refine Exists.intro _ (Exists.intro _ (And.intro rfl (And.intro rfl ?_))) | refine And.intro (by omega) ?_ | refine And.intro (Or.inl (And.intro (by omega) (by omega))) ?_ | refine And.intro (Or.inr (And.intro (by omega) (by omega))) ?_ | refine And.intro (And.intro (by omega) (by omega)) ?_ | refine And.intro (And.intro (by decide) (And.intro (by decide) (by decide))) ?_ | refine Or.inl (Exists.intro _ (And.intro rfl ?_)) | refine Exists.intro _ (Exists.intro _ (And.intro rfl ?_)) | (dsimp only [gName]; first | with_reducible refine seqC ?_ | with_reducible refine asgC ?_))))
section
variable {P : Program} {w : World} {K : PySem.W.Frag} {mg : Str → Option Value} {base : Heap}
/-- the sign of the difference of two forms of depth at most n -/
def sp_ord (K : PySem.W.Frag) (n : Nat) : Sp := fun vs H Q _ => ∃ (x y : V) (d e : PyData), vs = [x, y] ∧ Dp K H x d ∧ Dp K H y e ∧ Fm d ∧ Fm e ∧ d.depth ≤ n ∧ e.depth ≤ n ∧ n ≤ 60 ∧ ∀ H', Same H H' → Q (.int (sg (val d) (val e))) H'
theorem ok_order (T : Top K mg) : ∀ n, FnOk P w K mg base CX0 (n + 3) T.f_order T.fd_order ["x", "y"]  (sp_ord K n) := by
  have two : ∀ {n : Nat} {σ : L2.St} {H : Hp} {i j : Int} {Q : VK}, Q (.int (sg i j)) H → Q (.int (b2i (decide (j < i)) - b2i (decide (i < j)))) H := fun {n σ H i j Q} q => by
    have e : b2i (decide (j < i)) - b2i (decide (i < j)) = sg i j := by
      unfold sg
      by_cases h1 : i < j
      · rw [if_pos h1, decide_eq_true h1, decide_eq_false (by omega)]
        rfl
      · by_cases h2 : j < i
        · rw [if_neg h1, if_pos h2, decide_eq_true h2, decide_eq_false h1]
          rfl
        · rw [if_neg h1, if_neg h2, decide_eq_false h2, decide_eq_false h1]
          rfl
    rw [e]
    exact q
  intro n
  induction n with
  | zero =>
    have G_turns : FnOk P w K mg base CX0 (2) T.f_turns T.fd_turns ["x"]  (sp_trn K) := ok_turns T
    have G_negative : FnOk P w K mg base CX0 (1) T.f_negative T.fd_negative ["x"]  (sp_neg K) := ok_negative T
    refine T.F_order.ok sc_order (fun vs H Q E h => ?_) (fun cdv A outer s H vs Q E hr h => ?_)
    · obtain ⟨x, y, d, e, rfl, _⟩ := h
      rfl
    · obtain ⟨x, y, d, e, rfl, hx, hy, hd, he, hdd, hde, _, q⟩ := h
      refine ⟨_, (pss_cons (ps_if (PW.pt (pw_and (pt_val (pe_callB call_isi (by rfl) T.m_isinstance (by decide +kernel) (pa_cons (pv 0) (pa_cons (pe_bltn (v := .ty "int") (by rfl) T.m_int (by decide +kernel) rfl) pa_nil))) (fun _ => rfl)) (pw_and1 (pt_val (pe_callB call_isi (by rfl) T.m_isinstance (by decide +kernel) (pa_cons (pv 1) (pa_cons (pe_bltn (v := .ty "int") (by rfl) T.m_int (by decide +kernel) rfl) pa_nil))) (fun _ => rfl)))))
      (pss_one (ps_ret (pe_op op_sub (pe_callTy call_int1 (by rfl) T.m_int (by decide +kernel) (pa_cons (pe_cmpR op_gt (pv 0) (pv 1) (nomark _)) pa_nil)) (pe_callTy call_int1 (by rfl) T.m_int (by decide +kernel) (pa_cons (pe_cmpR op_lt (pv 0) (pv 1) (nomark _)) pa_nil)))))
      pss_nil)
    (pss_cons (ps_if (pt_cmpR (op_eqD hr.units) (pv 0) (pv 1) (nomark _))
      (pss_one (ps_ret pe_int))
      pss_nil)
    (pss_cons (ps_set (i := 2) sc_order.nd rfl (Or.inl rfl) (pe_call G_turns (hr.mono (by omega)) (by rfl) T.g_turns T.F_turns.kp T.b_turns .nil pass0 (pa_cons (pv 0) pa_nil)))
    (pss_cons (ps_set (i := 3) sc_order.nd rfl (Or.inl rfl) (pe_call G_turns (hr.mono (by omega)) (by rfl) T.g_turns T.F_turns.kp T.b_turns .nil pass0 (pa_cons (pv 1) pa_nil)))
    (pss_cons (ps_if (pt_cmpR op_ne (pe_call G_negative (hr.mono (by omega)) (by rfl) T.g_negative T.F_negative.kp T.b_negative .nil pass0 (pa_cons (pv 0) pa_nil)) (pe_call G_negative (hr.mono (by omega)) (by rfl) T.g_negative T.F_negative.kp T.b_negative .nil pass0 (pa_cons (pv 1) pa_nil)) (nomark _))
      (pss_one (ps_ret (pe_ifExp (pt_val (pe_call G_negative (hr.mono (by omega)) (by rfl) T.g_negative T.F_negative.kp T.b_negative .nil pass0 (pa_cons (pv 0) pa_nil)) (fun _ => rfl)) (pe_un un_neg pe_int) pe_int)))
      pss_nil)
    (pss_cons (ps_set (i := 4) sc_order.nd rfl (Or.inl rfl) pe_int)
    (pss_cons (ps_set (i := 5) sc_order.nd rfl (Or.inl rfl) (pe_callB (call_min2 rfl) (by rfl) T.m_min (by decide +kernel) (pa_cons (pe_callB call_len_seq (by rfl) T.m_len PySem.boot_len (pa_cons (pv 2) pa_nil)) (pa_cons (pe_callB call_len_seq (by rfl) T.m_len PySem.boot_len (pa_cons (pv 3) pa_nil)) pa_nil))))
    (pss_cons (ps_while PassesOwn.never (PW.pt (pw_and (pt_cmpR op_lt (pv 4) (pv 5) (nomark _)) (pw_and1 (pt_cmpR (op_eqD hr.units) (pe_ix ix_tup (pv 2) (pe_op op_sub (pe_op op_sub (pe_callB call_len_seq (by rfl) T.m_len PySem.boot_len (pa_cons (pv 2) pa_nil)) pe_int) (pv 4)) (fun _ _ => rfl)) (pe_ix ix_tup (pv 3) (pe_op op_sub (pe_op op_sub (pe_callB call_len_seq (by rfl) T.m_len PySem.boot_len (pa_cons (pv 3) pa_nil)) pe_int) (pv 4)) (fun _ _ => rfl)) (nomark _)))))
      (pss_one (ps_aug (i := 4) sc_order.nd rfl (Or.inl rfl) pe_int ip_add)))
    (pss_cons (ps_if (pt_cmpR op_eq (pv 4) (pe_callB call_len_seq (by rfl) T.m_len PySem.boot_len (pa_cons (pv 2) pa_nil)) (nomark _))
      (pss_one (ps_set (i := 6) sc_order.nd rfl (Or.inl rfl) (pe_un un_neg pe_int)))
      (pss_one (ps_if (pt_cmpR op_eq (pv 4) (pe_callB call_len_seq (by rfl) T.m_len PySem.boot_len (pa_cons (pv 3) pa_nil)) (nomark _))
        (pss_one (ps_set (i := 6) sc_order.nd rfl (Or.inl rfl) pe_int))
        (pss_one ps_never))))
    (pss_cons (ps_if (pt_cmpR op_eq (pe_op op_and (pe_op op_add (pe_callB call_len_seq (by rfl) T.m_len PySem.boot_len (pa_cons (pv 2) pa_nil)) (pv 4)) pe_int) pe_int (nomark _))
      (pss_one (ps_ret (pe_un un_neg (pv 6))))
      pss_nil)
    (pss_one (ps_ret (pv 6))))))))))))), ?_⟩
      rcases fm_cases hd with ⟨i, rfl⟩ | ⟨ds, rfl⟩
      · rcases fm_cases he with ⟨j, rfl⟩ | ⟨ds, rfl⟩
        · cases hx
          cases hy
          refine ⟨_, rfl, _, _, _, _, true, rfl, .ty "int", tyI _, k_ii, true, rfl, iteT ?_⟩
          refine ⟨_, rfl, _, _, _, _, true, rfl, .ty "int", tyI _, k_ii, true, rfl, iteT ?_⟩
          walk_at "r"
          refine .inr ⟨_, rfl, ?_⟩
          walk_at "r"
          refine .inr ⟨_, rfl, ?_⟩
          walk_at "r"
          rw [val_int, val_int] at q
          exact two (n := 0) (σ := []) (q H (Same.refl _))
        · rw [depth_tuple] at hde
          omega
      · rw [depth_tuple] at hdd
        omega
  | succ n ih =>
    have G_turns : FnOk P w K mg base CX0 (2) T.f_turns T.fd_turns ["x"]  (sp_trn K) := ok_turns T
    have G_negative : FnOk P w K mg base CX0 (1) T.f_negative T.fd_negative ["x"]  (sp_neg K) := ok_negative T
    have G_order : FnOk P w K mg base CX0 (n + 3) T.f_order T.fd_order ["x", "y"]  (sp_ord K n) := ih
    refine T.F_order.ok sc_order (fun vs H Q E h => ?_) (fun cdv A outer s H vs Q E hr h => ?_)
    · obtain ⟨x, y, d, e, rfl, _⟩ := h
      rfl
    · obtain ⟨x, y, d, e, rfl, hx, hy, hd, he, hdd, hde, hn, q⟩ := h
      refine ⟨_, (pss_cons (ps_if (PW.pt (pw_and (pt_val (pe_callB call_isi (by rfl) T.m_isinstance (by decide +kernel) (pa_cons (pv 0) (pa_cons (pe_bltn (v := .ty "int") (by rfl) T.m_int (by decide +kernel) rfl) pa_nil))) (fun _ => rfl)) (pw_and1 (pt_val (pe_callB call_isi (by rfl) T.m_isinstance (by decide +kernel) (pa_cons (pv 1) (pa_cons (pe_bltn (v := .ty "int") (by rfl) T.m_int (by decide +kernel) rfl) pa_nil))) (fun _ => rfl)))))
      (pss_one (ps_ret (pe_op op_sub (pe_callTy call_int1 (by rfl) T.m_int (by decide +kernel) (pa_cons (pe_cmpR op_gt (pv 0) (pv 1) (nomark _)) pa_nil)) (pe_callTy call_int1 (by rfl) T.m_int (by decide +kernel) (pa_cons (pe_cmpR op_lt (pv 0) (pv 1) (nomark _)) pa_nil)))))
      pss_nil)
    (pss_cons (ps_if (pt_cmpR (op_eqD hr.units) (pv 0) (pv 1) (nomark _))
      (pss_one (ps_ret pe_int))
      pss_nil)
    (pss_cons (ps_set (i := 2) sc_order.nd rfl (Or.inl rfl) (pe_call G_turns (hr.mono (by omega)) (by rfl) T.g_turns T.F_turns.kp T.b_turns .nil pass0 (pa_cons (pv 0) pa_nil)))
    (pss_cons (ps_set (i := 3) sc_order.nd rfl (Or.inl rfl) (pe_call G_turns (hr.mono (by omega)) (by rfl) T.g_turns T.F_turns.kp T.b_turns .nil pass0 (pa_cons (pv 1) pa_nil)))
    (pss_cons (ps_if (pt_cmpR op_ne (pe_call G_negative (hr.mono (by omega)) (by rfl) T.g_negative T.F_negative.kp T.b_negative .nil pass0 (pa_cons (pv 0) pa_nil)) (pe_call G_negative (hr.mono (by omega)) (by rfl) T.g_negative T.F_negative.kp T.b_negative .nil pass0 (pa_cons (pv 1) pa_nil)) (nomark _))
      (pss_one (ps_ret (pe_ifExp (pt_val (pe_call G_negative (hr.mono (by omega)) (by rfl) T.g_negative T.F_negative.kp T.b_negative .nil pass0 (pa_cons (pv 0) pa_nil)) (fun _ => rfl)) (pe_un un_neg pe_int) pe_int)))
      pss_nil)
    (pss_cons (ps_set (i := 4) sc_order.nd rfl (Or.inl rfl) pe_int)
    (pss_cons (ps_set (i := 5) sc_order.nd rfl (Or.inl rfl) (pe_callB (call_min2 rfl) (by rfl) T.m_min (by decide +kernel) (pa_cons (pe_callB call_len_seq (by rfl) T.m_len PySem.boot_len (pa_cons (pv 2) pa_nil)) (pa_cons (pe_callB call_len_seq (by rfl) T.m_len PySem.boot_len (pa_cons (pv 3) pa_nil)) pa_nil))))
    (pss_cons (ps_while PassesOwn.never (PW.pt (pw_and (pt_cmpR op_lt (pv 4) (pv 5) (nomark _)) (pw_and1 (pt_cmpR (op_eqD hr.units) (pe_ix ix_tup (pv 2) (pe_op op_sub (pe_op op_sub (pe_callB call_len_seq (by rfl) T.m_len PySem.boot_len (pa_cons (pv 2) pa_nil)) pe_int) (pv 4)) (fun _ _ => rfl)) (pe_ix ix_tup (pv 3) (pe_op op_sub (pe_op op_sub (pe_callB call_len_seq (by rfl) T.m_len PySem.boot_len (pa_cons (pv 3) pa_nil)) pe_int) (pv 4)) (fun _ _ => rfl)) (nomark _)))))
      (pss_one (ps_aug (i := 4) sc_order.nd rfl (Or.inl rfl) pe_int ip_add)))
    (pss_cons (ps_if (pt_cmpR op_eq (pv 4) (pe_callB call_len_seq (by rfl) T.m_len PySem.boot_len (pa_cons (pv 2) pa_nil)) (nomark _))
      (pss_one (ps_set (i := 6) sc_order.nd rfl (Or.inl rfl) (pe_un un_neg pe_int)))
      (pss_one (ps_if (pt_cmpR op_eq (pv 4) (pe_callB call_len_seq (by rfl) T.m_len PySem.boot_len (pa_cons (pv 3) pa_nil)) (nomark _))
        (pss_one (ps_set (i := 6) sc_order.nd rfl (Or.inl rfl) pe_int))
        (pss_one (ps_set (i := 6) sc_order.nd rfl (Or.inl rfl) (pe_call G_order (hr.mono (by omega)) (by rfl) T.g_order T.F_order.kp T.b_order .nil pass0 (pa_cons (pe_ix ix_tup (pv 2) (pe_op op_sub (pe_op op_sub (pe_callB call_len_seq (by rfl) T.m_len PySem.boot_len (pa_cons (pv 2) pa_nil)) pe_int) (pv 4)) (fun _ _ => rfl)) (pa_cons (pe_ix ix_tup (pv 3) (pe_op op_sub (pe_op op_sub (pe_callB call_len_seq (by rfl) T.m_len PySem.boot_len (pa_cons (pv 3) pa_nil)) pe_int) (pv 4)) (fun _ _ => rfl)) pa_nil))))))))
    (pss_cons (ps_if (pt_cmpR op_eq (pe_op op_and (pe_op op_add (pe_callB call_len_seq (by rfl) T.m_len PySem.boot_len (pa_cons (pv 2) pa_nil)) (pv 4)) pe_int) pe_int (nomark _))
      (pss_one (ps_ret (pe_un un_neg (pv 6))))
      pss_nil)
    (pss_one (ps_ret (pv 6))))))))))))), ?_⟩
      refine ⟨_, rfl, _, _, _, _, isI d, rfl, .ty "int", ty_f hx hd, kit_fi hd, _, rfl, ifB ?_ (fun h1 rest => ?_)⟩
      case refine_2 =>
        refine ⟨_, rfl, _, _, _, _, isI e, rfl, .ty "int", ty_f hy he, kit_fi he, _, rfl, ifBD (fun h2 => ?_) (fun h2 => rest)⟩
        obtain ⟨i, rfl⟩ := fm_isI hd h1
        obtain ⟨j, rfl⟩ := fm_isI he h2
        cases hx
        cases hy
        walk_at "r"
        refine .inr ⟨_, rfl, ?_⟩
        walk_at "r"
        refine .inr ⟨_, rfl, ?_⟩
        walk_at "r"
        rw [val_int, val_int] at q
        exact two (n := 0) (σ := []) (q H (Same.refl _))
      refine ⟨_, rfl, _, rfl, _, _, hx, hy, shaped_fm hd (by omega), shaped_fm he (by omega), _, rfl, ?_⟩
      rw [eqv_val hd he]
      refine ifD (fun hv => ?_) (fun hv => ?_)
      · walk_at "r"
        have := q H (Same.refl _)
        rw [sg_eq hv] at this
        exact this
      refine ⟨_, rfl, x, d, rfl, hx, hd, fun aO uO A H1 fA hA vA sO dO depA wA iA sm1 => ?_⟩
      dsimp only [gName]
      refine ⟨_, rfl, y, e, rfl, dp_tk (tk_same sm1) he hy, he, fun aT uT B H2 fB hB vB sT dT depB wB iB sm2 => ?_⟩
      have sm := sm1.trans sm2
      replace hx := dp_tk (tk_same sm) hd hx
      replace hy := dp_tk (tk_same sm) he hy
      replace sO := HX.Same.tup sm2 sO
      replace dO := dpAll_tk (tk_same sm2) fA dO
      have lO := dpAll_len dO
      have lT := dpAll_len dT
      dsimp only [gName]
      refine ⟨_, rfl, x, d, rfl, hx, hd, _, rfl, y, e, rfl, hy, he, rfl, _, rfl, ?_⟩
      refine ifN (fun hne => ?_) (fun hne => ?_)
      · refine ⟨_, rfl, x, d, rfl, hx, hd, _, rfl, ?_⟩
        refine ifD (fun hz => ?_) (fun hz => ?_)
        · walk_at "r"
          have : ¬ val e < 0 := fun z => hne (by rw [decide_eq_true hz, decide_eq_true z])
          have := q H2 sm
          rw [sg_lt (by omega)] at this
          exact this
        · walk_at "r"
          have : val e < 0 := Classical.byContradiction fun z => hne (by rw [decide_eq_false hz, decide_eq_false z])
          have := q H2 sm
          rw [sg_gt (by omega)] at this
          exact this
      have hpar : A.length % 2 = B.length % 2 := by
        have h1 := neg_len hA
        have h2 := neg_len hB
        rw [vA, vals_len] at h1
        rw [vB, vals_len] at h2
        have h3 : val d < 0 ↔ val e < 0 := by
          have := V.bl.inj hne
          simpa using this
        have : A.length % 2 = 1 ↔ B.length % 2 = 1 := h1.symm.trans (h3.trans h2)
        omega
      walk_at "r"
      refine ⟨aO, uO, rfl, .inr sO, _, rfl, aT, uT, rfl, .inr sT, _, _, rfl, ?_⟩
      dsimp only [gName]
      obtain ⟨mm, hmm, emm⟩ : ∃ mm : Nat, mm = min A.length B.length ∧ (if ((uT.length : Nat) : Int) < ((uO.length : Nat) : Int) then ((uT.length : Nat) : Int) else ((uO.length : Nat) : Int)) = (mm : Nat) := by
        refine ⟨min A.length B.length, rfl, ?_⟩
        rw [lO, lT]
        split <;> omega
      rw [emm]
      have atA : ∀ {c : Nat}, c < A.length → ∃ v a, uO[A.length - 1 - c]? = some v ∧ A[A.length - 1 - c]? = some a ∧ Dp K H2 v a ∧ Fm a ∧ 0 ≤ val a ∧ a.depth ≤ n := fun {c} hc => by
        have h1 : A[A.length - 1 - c]? = some (A[A.length - 1 - c]'(by omega)) := by simp [show A.length - 1 - c < A.length by omega]
        obtain ⟨v, h2, h3⟩ := dpAll_at dO h1
        have hm := List.mem_of_getElem? h1
        have := dep_mem hm
        exact ⟨v, _, h2, h1, h3, (fmAll_mem fA _ hm).1, (fmAll_mem fA _ hm).2, by omega⟩
      have atB : ∀ {c : Nat}, c < B.length → ∃ v a, uT[B.length - 1 - c]? = some v ∧ B[B.length - 1 - c]? = some a ∧ Dp K H2 v a ∧ Fm a ∧ 0 ≤ val a ∧ a.depth ≤ n := fun {c} hc => by
        have h1 : B[B.length - 1 - c]? = some (B[B.length - 1 - c]'(by omega)) := by simp [show B.length - 1 - c < B.length by omega]
        obtain ⟨v, h2, h3⟩ := dpAll_at dT h1
        have hm := List.mem_of_getElem? h1
        have := dep_mem hm
        exact ⟨v, _, h2, h1, h3, (fmAll_mem fB _ hm).1, (fmAll_mem fB _ hm).2, by omega⟩
      have ixA : ∀ {c : Nat}, c < A.length → ((uO.length : Nat) : Int) - 1 - (c : Nat) = ((A.length - 1 - c : Nat) : Int) := fun {c} hc => by rw [lO]; omega
      have ixB : ∀ {c : Nat}, c < B.length → ((uT.length : Nat) : Int) - 1 - (c : Nat) = ((B.length - 1 - c : Nat) : Int) := fun {c} hc => by rw [lT]; omega
      refine cut (fun σ H' => H' = H2 ∧ ∃ c : Nat, σ = [some x, some y, some (.ref aO), some (.ref aT), some (.int (c : Nat)), some (.int (mm : Nat)), none] ∧ c ≤ mm ∧ A.drop (A.length - c) = B.drop (B.length - c) ∧
        (c = mm ∨ ∃ a b, A[A.length - 1 - c]? = some a ∧ B[B.length - 1 - c]? = some b ∧ val a ≠ val b)) (fun D J => ?_) ?_
      · refine ⟨fun m σ H' => H' = H2 ∧ ∃ c : Nat, σ = [some x, some y, some (.ref aO), some (.ref aT), some (.int (c : Nat)), some (.int (mm : Nat)), none] ∧ c + m = mm ∧ A.drop (A.length - c) = B.drop (B.length - c),
          ⟨mm, rfl, 0, rfl, by omega, by simp⟩, ?_⟩
        rintro m σ H' ⟨rfl, c, rfl, hcm, hs⟩
        walk_at "r"
        refine ifBD (fun hc => ?_) (fun hc => ?_)
        · have hc : (c : Int) < (mm : Nat) := of_decide_eq_true hc
          obtain ⟨v, a, h1, h2, h3, h4, h5, h6⟩ := atA (c := c) (by omega)
          obtain ⟨v', b, g1, g2, g3, g4, g5, g6⟩ := atB (c := c) (by omega)
          refine ⟨_, rfl, _, rfl, aO, uO, rfl, .inr sO, _, _, rfl, rfl, _, rfl, _, _, rfl, rfl, aO, uO, _, v, rfl, rfl, sO, atI_at h1 (ixA (by omega)), ?_⟩
          refine ⟨_, rfl, _, rfl, aT, uT, rfl, .inr sT, _, _, rfl, rfl, _, rfl, _, _, rfl, rfl, aT, uT, _, v', rfl, rfl, sT, atI_at g1 (ixB (by omega)), ?_⟩
          refine ⟨_, _, h3, g3, shaped_fm h4 (by omega), shaped_fm g4 (by omega), _, rfl, ?_⟩
          rw [eqv_val h4 g4]
          refine ifD (fun hab => wb fun D' B' => ?_) (fun hab => ?_)
          · walk_at "r"
            refine B'.nx _ _ ⟨m - 1, by omega, rfl, c + 1, rfl, by omega, ?_⟩
            rw [drop_more (by omega) h2, drop_more (by omega) g2, hs, fm_inj h4 g4 hab]
          · exact J.nx _ _ ⟨rfl, c, rfl, by omega, hs, .inr ⟨a, b, h2, g2, hab⟩⟩
        · have hc : ¬ (c : Int) < (mm : Nat) := of_decide_eq_false hc
          refine iteF ?_
          exact J.nx _ _ ⟨rfl, c, rfl, by omega, hs, .inl (by omega)⟩
      · rintro σ H' ⟨eH, c, rfl, hcm, hs, hstop⟩
        subst eH
        have hvs : vals A = vals B → val d = val e := fun z => by rw [← vA, ← vB, z]
        refine cut (fun σ H3 => Same H' H3 ∧ ∃ sd : Int, σ = [some x, some y, some (.ref aO), some (.ref aT), some (.int (c : Nat)), some (.int (mm : Nat)), some (.int sd)] ∧ sg (val d) (val e) = if (A.length + c) % 2 = 1 then -sd else sd) (fun D J => ?_) ?_
        · refine ⟨_, rfl, _, rfl, aO, uO, rfl, .inr sO, rfl, _, rfl, ?_⟩
          refine ifE (fun hc => ?_) (fun hc => ?_)
          · walk_at "r"
            refine J.nx _ _ ⟨Same.refl _, -1, rfl, ?_⟩
            have hcA : c = A.length := by rw [lO] at hc; omega
            subst hcA
            rw [Nat.sub_self, List.drop_zero] at hs
            have hlt : A.length < B.length := by
              apply Nat.lt_of_le_of_ne (by omega)
              intro z
              rw [z, Nat.sub_self, List.drop_zero] at hs
              exact hv (hvs (by rw [hs]))
            rw [if_neg (by omega), sg_lt]
            rw [← vA, ← vB]
            refine ord_short hA hB (by rw [vals_len, vals_len]; exact hlt) ?_ (by rw [vals_len, vals_len]; exact hpar)
            rw [vals_len, vals_len, vals_drop, ← hs]
          · refine ⟨_, rfl, _, rfl, aT, uT, rfl, .inr sT, rfl, _, rfl, ?_⟩
            have hcA : c < A.length := by rw [lO] at hc; omega
            refine ifE (fun hc2 => ?_) (fun hc2 => ?_)
            · walk_at "r"
              refine J.nx _ _ ⟨Same.refl _, 1, rfl, ?_⟩
              have hcB : c = B.length := by rw [lT] at hc2; omega
              subst hcB
              rw [Nat.sub_self, List.drop_zero] at hs
              rw [if_neg (by omega), sg_gt]
              rw [← vA, ← vB]
              refine ord_short hB hA (by rw [vals_len, vals_len]; exact hcA) ?_ (by rw [vals_len, vals_len]; exact hpar.symm)
              rw [vals_len, vals_len, vals_drop, hs]
            · have hcB : c < B.length := by rw [lT] at hc2; omega
              obtain ⟨v, a, h1, h2, h3, h4, h5, h6⟩ := atA (c := c) (by omega)
              obtain ⟨v', b, g1, g2, g3, g4, g5, g6⟩ := atB (c := c) (by omega)
              refine ⟨_, rfl, _, rfl, aO, uO, rfl, .inr sO, _, _, rfl, rfl, _, rfl, _, _, rfl, rfl, aO, uO, _, v, rfl, rfl, sO, atI_at h1 (ixA (by omega)), ?_⟩
              refine ⟨_, rfl, _, rfl, aT, uT, rfl, .inr sT, _, _, rfl, rfl, _, rfl, _, _, rfl, rfl, aT, uT, _, v', rfl, rfl, sT, atI_at g1 (ixB (by omega)), ?_⟩
              refine ⟨v, v', a, b, rfl, h3, g3, h4, g4, h6, g6, by omega, fun H3 sm3 => ?_⟩
              dsimp only [gName]
              refine J.nx _ _ ⟨sm3, sg (val a) (val b), rfl, ?_⟩
              have hab : val a ≠ val b := by
                rcases hstop with z | ⟨a', b', z1, z2, z3⟩
                · omega
                · rw [h2] at z1
                  rw [g2] at z2
                  cases z1
                  cases z2
                  exact z3
              have lvA := vals_len A
              have lvB := vals_len B
              have hs' : (vals A).drop ((vals A).length - c) = (vals B).drop ((vals B).length - c) := by rw [lvA, lvB, vals_drop, vals_drop, hs]
              have xa : (vals A)[(vals A).length - 1 - c]? = some (vl a) := by rw [lvA]; exact vals_at h2
              have xb : (vals B)[(vals B).length - 1 - c]? = some (vl b) := by rw [lvB]; exact vals_at g2
              have hla : ((vl a : Nat) : Int) = val a := by unfold vl; omega
              have hlb : ((vl b : Nat) : Int) = val b := by unfold vl; omega
              rcases Int.lt_or_lt_of_ne hab with hlt | hlt
              · have od := ord_diff hA hB (by omega) (by omega) hs' (by omega) xa xb (by omega)
                rw [lvA, vA, vB] at od
                rw [sg_lt hlt]
                by_cases z : (A.length + c) % 2 = 1
                · rw [if_pos z, sg_gt (od.2 z)]
                  rfl
                · rw [if_neg z, sg_lt (od.1 (by omega))]
              · have od := ord_diff hB hA (by omega) (by omega) hs'.symm (by omega) xb xa (by omega)
                rw [lvB, vA, vB] at od
                rw [sg_gt hlt]
                by_cases z : (A.length + c) % 2 = 1
                · rw [if_pos z, sg_lt (od.2 (by omega))]
                · rw [if_neg z, sg_gt (od.1 (by omega))]
        · rintro σ H3 ⟨sm3, sd, rfl, hsd⟩
          refine ⟨_, rfl, aO, uO, rfl, .inr (HX.Same.tup sm3 sO), ?_⟩
          walk_at "r"
          refine ifE (fun hz => ?_) (fun hz => ?_)
          · rw [bitAnd_m1, lO] at hz
            rw [if_pos (by omega)] at hsd
            walk_at "r"
            show Q (.int (-sd)) H3
            rw [← hsd]
            exact q H3 (sm.trans sm3)
          · rw [bitAnd_m1, lO] at hz
            rw [if_neg (by omega)] at hsd
            walk_at "r"
            show Q (.int sd) H3
            rw [← hsd]
            exact q H3 (sm.trans sm3)
end
end K45
set_option Elab.async false
set_option linter.all false
set_option maxRecDepth 100000
set_option pp.deepTerms false
set_option pp.maxSteps 1500
namespace K45
open PySem PySem.Spec PyProof.Rows L2 HX TV FM DX FB FC PM
local macro_rules | `(tactic| walk_at "r") => `(tactic| (repeat (first | refine Exists.intro _ (And.intro rfl ?_) | refine And.intro rfl ?_ | refine Exists.intro _ (Exists.intro _ (And.intro rfl (And.intro rfl ?_))) | refine And.intro (by omega) ?_ | refine And.intro (Or.inl (And.intro (by omega) (by omega))) ?_ | refine And.intro (Or.inr (And.intro (by omega) (by omega))) ?_ | refine And.intro (And.intro (by omega) (by omega)) ?_ | refine And.intro (And.intro (by decide) (And.intro (by decide) (by decide))) ?_ | refine Or.inl (Exists.intro _ (And.intro rfl ?_)) | (dsimp only [gName]; first | with_reducible refine seqC ?_ | with_reducible refine asgC ?_))))
local macro_rules | `(tactic| walk_at "s") => `(tactic| (repeat (first | refine Exists.intro _ (And.intro rfl ?_) | refine And.intro rfl ?_ | refine Exists.intro _ (Exists.intro _ (And.intro rfl (And.intro rfl ?_))) | refine And.intro (by omega) ?_ | refine And.intro (Or.inl (And.intro (by omega) (by omega))) ?_ | refine And.intro (Or.inr (And.intro (by omega) (by omega))) ?_ | refine And.intro (And.intro (by omega) (by omega)) ?_ | refine And.intro (And.intro (by decide) (And.intro (by decide) (by decide))) ?_ | refine Or.inl (Exists.intro _ (And.intro rfl ?_)) | refine Exists.intro _ (Exists.intro _ (And.intro rfl ?_)) | (dsimp only [gName]; first | with_reducible refine seqC ?_ | with_reducible refine asgC ?_))))
section
variable {P : Program} {w : World} {K : PySem.W.Frag} {mg : Str → Option Value} {base : Heap}
/-- two rows merged -/
def sp_mrg (K : PySem.W.Frag) (n : Nat) : Sp := fun vs H Q _ => ∃ (a b : Addr) (ua ub : List V) (A B : List PyData), vs = [.ref a, .ref b] ∧ SqT K H a ua ∧ SqT K H b ub ∧ DpAll K H ua A ∧ DpAll K H ub B ∧ FmAll A ∧ FmAll B ∧ Asc (vals A) ∧ Asc (vals B) ∧
  PyData.depthAll A ≤ n ∧ PyData.depthAll B ≤ n ∧ n ≤ 60 ∧ A.length + B.length ≤ 14000000 ∧
  ∀ (l : Addr) (us : List V) (R : List PM.Row) H', H l = none → H' l = some (.lst us) → DpAll K H' us (R.map rowD) → Mg A B R → R.length ≤ A.length + B.length → Same H H' → Q (.ref l) H'
theorem ok_merged (T : Top K mg) (n : Nat) : FnOk P w K mg base CX0 (n + 4) T.f_merged T.fd_merged ["ours", "theirs"]  (sp_mrg K n) := by
  have G_order : FnOk P w K mg base CX0 (n + 3) T.f_order T.fd_order ["x", "y"]  (sp_ord K n) := ok_order T n
  refine T.F_merged.ok sc_merged (fun vs H Q E h => ?_) (fun cdv Ar outer s H vs Q E hr h => ?_)
  · obtain ⟨a, b, ua, ub, A, B, rfl, _⟩ := h
    rfl
  · obtain ⟨a, b, ua, ub, A, B, rfl, sA, sB, dA, dB, fA, fB, hA, hB, depA, depB, hn, hlen, q⟩ := h
    have lA := dpAll_len dA
    have lB := dpAll_len dB
    refine ⟨_, (pss_cons (ps_set (i := 2) sc_merged.nd rfl (Or.inl rfl) (pe_lst pa_nil))
    (pss_cons (ps_set (i := 3) sc_merged.nd rfl (Or.inl rfl) pe_int)
    (pss_cons (ps_set (i := 4) sc_merged.nd rfl (Or.inl rfl) pe_int)
    (pss_cons (ps_while PassesOwn.never (PW.pt (pw_or (pt_cmpR op_lt (pv 3) (pe_callB call_len_seq (by rfl) T.m_len PySem.boot_len (pa_cons (pv 0) pa_nil)) (nomark _)) (pw_or1 (pt_cmpR op_lt (pv 4) (pe_callB call_len_seq (by rfl) T.m_len PySem.boot_len (pa_cons (pv 1) pa_nil)) (nomark _)))))
      (pss_cons (ps_if (pt_cmpR op_eq (pv 3) (pe_callB call_len_seq (by rfl) T.m_len PySem.boot_len (pa_cons (pv 0) pa_nil)) (nomark _))
        (pss_one (ps_set (i := 5) sc_merged.nd rfl (Or.inl rfl) pe_int))
        (pss_one (ps_if (pt_cmpR op_eq (pv 4) (pe_callB call_len_seq (by rfl) T.m_len PySem.boot_len (pa_cons (pv 1) pa_nil)) (nomark _))
          (pss_one (ps_set (i := 5) sc_merged.nd rfl (Or.inl rfl) (pe_un un_neg pe_int)))
          (pss_one (ps_set (i := 5) sc_merged.nd rfl (Or.inl rfl) (pe_call G_order (hr.mono (by omega)) (by rfl) T.g_order T.F_order.kp T.b_order .nil pass0 (pa_cons (pe_ix ix_tup (pv 0) (pv 3) (fun _ _ => rfl)) (pa_cons (pe_ix ix_tup (pv 1) (pv 4) (fun _ _ => rfl)) pa_nil))))))))
      (pss_cons (ps_if (pt_cmpR op_lt (pv 5) pe_int (nomark _))
        (pss_one (ps_expr (pe_bm PySem.F.plainAttrs_list PySem.F.slot_list_append PySem.F.type_list_append mt_append (pv 2) (pa_cons (pe_tup (pa_cons (pe_ix ix_tup (pv 0) (pv 3) (fun _ _ => rfl)) (pa_cons pe_int (pa_cons pe_int pa_nil)))) pa_nil))))
        (pss_one (ps_if (pt_cmpR op_gt (pv 5) pe_int (nomark _))
          (pss_one (ps_expr (pe_bm PySem.F.plainAttrs_list PySem.F.slot_list_append PySem.F.type_list_append mt_append (pv 2) (pa_cons (pe_tup (pa_cons (pe_ix ix_tup (pv 1) (pv 4) (fun _ _ => rfl)) (pa_cons pe_int (pa_cons pe_int pa_nil)))) pa_nil))))
          (pss_one (ps_expr (pe_bm PySem.F.plainAttrs_list PySem.F.slot_list_append PySem.F.type_list_append mt_append (pv 2) (pa_cons (pe_tup (pa_cons (pe_ix ix_tup (pv 0) (pv 3) (fun _ _ => rfl)) (pa_cons pe_int (pa_cons pe_int pa_nil)))) pa_nil)))))))
      (pss_cons (ps_if (pt_cmpR op_le (pv 5) pe_int (nomark _))
        (pss_one (ps_aug (i := 3) sc_merged.nd rfl (Or.inl rfl) pe_int ip_add))
        pss_nil)
      (pss_one (ps_if (pt_cmpR op_ge (pv 5) pe_int (nomark _))
        (pss_one (ps_aug (i := 4) sc_merged.nd rfl (Or.inl rfl) pe_int ip_add))
        pss_nil))))))
    (pss_one (ps_ret (pv 2))))))), ?_⟩
    refine ⟨Nat.zero_le _, fun l nl => ?_⟩
    walk_at "r"
    refine ⟨fun m σ H' => ∃ (i j : Nat) (z : Option V) (us : List V) (R : List PM.Row), σ = [some (.ref a), some (.ref b), some (.ref l), some (.int (i : Nat)), some (.int (j : Nat)), z] ∧ MgI A B R i j ∧ (A.length - i) + (B.length - j) ≤ m ∧ H' l = some (.lst us) ∧ DpAll K H' us (R.map rowD) ∧ Same H H',
      ⟨A.length + B.length, 0, 0, none, [], [], rfl, .start A B, by omega, upd_same, .nil, sm_upd nl⟩, ?_⟩
    rintro m σ H' ⟨i, j, z, us, R, rfl, S, hm, hl, hD, sm⟩
    have hi := S.hi
    have hj := S.hj
    refine ⟨_, rfl, _, rfl, a, ua, rfl, .inr (HX.Same.tup sm sA), _, _, rfl, rfl, _, rfl, ?_⟩
    rw [lA]
    refine ifOrQ (j < B.length) (fun hij => wb fun D' B' => ?_) (fun h1 body => ?_)
    case refine_2 =>
      refine ⟨_, rfl, _, rfl, b, ub, rfl, .inr (HX.Same.tup sm sB), _, _, rfl, rfl, _, rfl, ?_⟩
      rw [lB]
      refine ifD (fun h2 => body (.inr (by omega))) (fun h2 => ?_)
      walk_at "r"
      have M := S.done (by omega) (by omega)
      exact q l us R H' nl hl hD M (by have := S.ln; omega) sm
    have sA' := HX.Same.tup sm sA
    have sB' := HX.Same.tup sm sB
    have dA' := dpAll_tk (tk_same sm) fA dA
    have dB' := dpAll_tk (tk_same sm) fB dB
    refine cut (fun σ H2 => Same H' H2 ∧ ∃ sd : Int, σ = [some (.ref a), some (.ref b), some (.ref l), some (.int (i : Nat)), some (.int (j : Nat)), some (.int sd)] ∧
      (sd < 0 → i < A.length ∧ ∀ p, A[i]? = some p → ∀ x ∈ B.drop j, vl p < vl x) ∧ (0 < sd → j < B.length ∧ ∀ p, B[j]? = some p → ∀ x ∈ A.drop i, vl p < vl x) ∧ (sd = 0 → ∃ p, A[i]? = some p ∧ B[j]? = some p)) (fun D J => ?_) ?_
    · refine ⟨_, rfl, _, rfl, a, ua, rfl, .inr sA', rfl, _, rfl, ?_⟩
      rw [lA]
      refine ifE (fun hc => ?_) (fun hc => ?_)
      · walk_at "r"
        refine J.nx _ _ ⟨Same.refl _, 1, rfl, fun z => by omega, fun _ => ⟨by omega, fun p hp x hx => ?_⟩, fun z => by omega⟩
        rw [List.drop_of_length_le (by omega)] at hx
        simp at hx
      · refine ⟨_, rfl, _, rfl, b, ub, rfl, .inr sB', rfl, _, rfl, ?_⟩
        rw [lB]
        refine ifE (fun hc2 => ?_) (fun hc2 => ?_)
        · walk_at "r"
          refine J.nx _ _ ⟨Same.refl _, -1, rfl, fun _ => ⟨by omega, fun p hp x hx => ?_⟩, fun z => by omega, fun z => by omega⟩
          rw [List.drop_of_length_le (by omega)] at hx
          simp at hx
        · obtain ⟨p, hp⟩ : ∃ p, A[i]? = some p := ⟨A[i]'(by omega), by simp [show i < A.length by omega]⟩
          obtain ⟨r, hr'⟩ : ∃ r, B[j]? = some r := ⟨B[j]'(by omega), by simp [show j < B.length by omega]⟩
          obtain ⟨v, hv1, hv2⟩ := dpAll_at dA' hp
          obtain ⟨u, hu1, hu2⟩ := dpAll_at dB' hr'
          have mp := fmAll_mem fA p (List.mem_of_getElem? hp)
          have mr := fmAll_mem fB r (List.mem_of_getElem? hr')
          have dp := dep_mem (List.mem_of_getElem? hp)
          have dr := dep_mem (List.mem_of_getElem? hr')
          refine ⟨_, rfl, _, rfl, a, ua, _, v, rfl, rfl, sA', atI_nat hv1, ?_⟩
          refine ⟨_, rfl, _, rfl, b, ub, _, u, rfl, rfl, sB', atI_nat hu1, ?_⟩
          refine ⟨v, u, p, r, rfl, hv2, hu2, mp.1, mr.1, by omega, by omega, hn, fun H2 sm2 => ?_⟩
          dsimp only [gName]
          have ways := sg_ways mp.1 mr.1 mp.2 mr.2
          refine J.nx _ _ ⟨sm2, _, rfl, fun z => ⟨by omega, fun p' hp' x hx => ?_⟩, fun z => ⟨by omega, fun p' hp' x hx => ?_⟩, fun z => ⟨p, hp, ways.2.2 z ▸ hr'⟩⟩
          · rw [hp] at hp'
            cases hp'
            rw [drop_one hr'] at hx
            have := ways.1 z
            rcases List.mem_cons.mp hx with rfl | hx
            · exact this
            · exact Nat.lt_trans this (asc_tail hB hr' x hx)
          · rw [hr'] at hp'
            cases hp'
            rw [drop_one hp] at hx
            have := ways.2.1 z
            rcases List.mem_cons.mp hx with rfl | hx
            · exact this
            · exact Nat.lt_trans this (asc_tail hA hp x hx)
    · rintro σ H2 ⟨sm2, sd, rfl, w1, w2, w3⟩
      have sA2 := HX.Same.tup sm2 sA'
      have sB2 := HX.Same.tup sm2 sB'
      have dA2 := dpAll_tk (tk_same sm2) fA dA'
      have dB2 := dpAll_tk (tk_same sm2) fB dB'
      have hl2 := sm2 _ _ hl
      have hD2 := dpAll_im (tk_same sm2) (im_rows S.mg.fm) hD
      have lus := dpAll_len hD2
      rw [List.length_map] at lus
      have hlt : us.length < sizeLine := len_lt (by have := S.ln; omega)
      refine cut (fun σ H3 => ∃ (p : PyData) (us' : List V), σ = [some (.ref a), some (.ref b), some (.ref l), some (.int (i : Nat)), some (.int (j : Nat)), some (.int sd)] ∧ (sd ≤ 0 → A[i]? = some p) ∧ (0 ≤ sd → B[j]? = some p) ∧
        Same H H3 ∧ H3 l = some (.lst us') ∧ DpAll K H3 us' ((R ++ [(p, decide (sd ≤ 0), decide (0 ≤ sd))]).map rowD)) (fun D J => ?_) ?_
      · have fin : ∀ (p : PyData) (v : V) (mi ni : Int) (t : Addr), H2 t = none → Dp K H2 v p → Fm p → mi = bi (decide (sd ≤ 0)) → ni = bi (decide (0 ≤ sd)) → (sd ≤ 0 → A[i]? = some p) → (0 ≤ sd → B[j]? = some p) →
            D.nx [some (.ref a), some (.ref b), some (.ref l), some (.int (i : Nat)), some (.int (j : Nat)), some (.int sd)] (upd (upd H2 t (.tup [v, .int mi, .int ni])) l (.lst (us ++ [.ref t]))) := fun p v mi ni t nt hv fp e1 e2 k1 k2 => by
          have s1 := sm_upd (o := .tup [v, .int mi, .int ni]) nt
          have mu : Mut (upd H2 t (.tup [v, .int mi, .int ni]) l) := by
            rw [s1 _ _ hl2]
            trivial
          have tk : Tk H2 (upd (upd H2 t (.tup [v, .int mi, .int ni])) l (.lst (us ++ [.ref t]))) := (tk_same s1).trans (tk_mut mu)
          have tne : t ≠ l := (ne_of_none hl2 nt).symm
          refine J.nx _ _ ⟨p, us ++ [.ref t], rfl, k1, k2, sm_mut ((sm.trans sm2).trans s1) nl, upd_same, ?_⟩
          rw [List.map_append]
          subst e1 e2
          have ht : upd (upd H2 t (.tup [v, .int (bi (decide (sd ≤ 0))), .int (bi (decide (0 ≤ sd)))])) l (.lst (us ++ [.ref t])) t = some (.tup [v, .int (bi (decide (sd ≤ 0))), .int (bi (decide (0 ≤ sd)))]) := by
            rw [upd_ne tne]
            exact upd_same
          exact dpAll_app (dpAll_im tk (im_rows S.mg.fm) hD2) (.cons (.tup (.inl (.inl ht)) (.cons (dp_tk tk fp hv) (.cons (.int _) (.cons (.int _) .nil)))) .nil)
        refine ⟨_, rfl, _, _, rfl, rfl, _, rfl, ?_⟩
        refine ifD (fun hz => ?_) (fun hz => ?_)
        · obtain ⟨hi', _⟩ := w1 hz
          obtain ⟨p, hp⟩ : ∃ p, A[i]? = some p := ⟨A[i]'(by omega), by simp [hi']⟩
          obtain ⟨v, hv1, hv2⟩ := dpAll_at dA2 hp
          refine ⟨_, rfl, .inl ⟨rfl, _, .inl (.inl hl2)⟩, _, rfl, _, rfl, a, ua, _, v, rfl, rfl, sA2, atI_nat hv1, by show 3 ≤ sizeLine; decide, fun t nt => ?_⟩
          refine ⟨l, us, _, rfl, rfl, (sm_upd nt) _ _ hl2, hlt, ?_⟩
          exact fin p v 1 0 t nt hv2 (fmAll_mem fA p (List.mem_of_getElem? hp)).1 (by rw [decide_eq_true (by omega)]; rfl) (by rw [decide_eq_false (by omega)]; rfl) (fun _ => hp) (fun z => by omega)
        refine ⟨_, rfl, _, _, rfl, rfl, _, rfl, ?_⟩
        refine ifD (fun hz2 => ?_) (fun hz2 => ?_)
        · obtain ⟨hj', _⟩ := w2 hz2
          obtain ⟨p, hp⟩ : ∃ p, B[j]? = some p := ⟨B[j]'(by omega), by simp [hj']⟩
          obtain ⟨v, hv1, hv2⟩ := dpAll_at dB2 hp
          refine ⟨_, rfl, .inl ⟨rfl, _, .inl (.inl hl2)⟩, _, rfl, _, rfl, b, ub, _, v, rfl, rfl, sB2, atI_nat hv1, by show 3 ≤ sizeLine; decide, fun t nt => ?_⟩
          refine ⟨l, us, _, rfl, rfl, (sm_upd nt) _ _ hl2, hlt, ?_⟩
          exact fin p v 0 1 t nt hv2 (fmAll_mem fB p (List.mem_of_getElem? hp)).1 (by rw [decide_eq_false (by omega)]; rfl) (by rw [decide_eq_true (by omega)]; rfl) (fun z => by omega) (fun _ => hp)
        · obtain ⟨p, hp, hp2⟩ := w3 (by omega)
          obtain ⟨v, hv1, hv2⟩ := dpAll_at dA2 hp
          refine ⟨_, rfl, .inl ⟨rfl, _, .inl (.inl hl2)⟩, _, rfl, _, rfl, a, ua, _, v, rfl, rfl, sA2, atI_nat hv1, by show 3 ≤ sizeLine; decide, fun t nt => ?_⟩
          refine ⟨l, us, _, rfl, rfl, (sm_upd nt) _ _ hl2, hlt, ?_⟩
          exact fin p v 1 1 t nt hv2 (fmAll_mem fA p (List.mem_of_getElem? hp)).1 (by rw [decide_eq_true (by omega)]; rfl) (by rw [decide_eq_true (by omega)]; rfl) (fun _ => hp) (fun _ => hp2)
      · rintro σ H3 ⟨p, us', rfl, k1, k2, sm3, hl3, hD3⟩
        have st : ∃ i' j' : Nat, i' = i + (if sd ≤ 0 then 1 else 0) ∧ j' = j + (if 0 ≤ sd then 1 else 0) ∧ MgI A B (R ++ [(p, decide (sd ≤ 0), decide (0 ≤ sd))]) i' j' ∧ (A.length - i') + (B.length - j') < m := by
          refine ⟨_, _, rfl, rfl, ?_⟩
          rcases Int.lt_trichotomy sd 0 with z | z | z
          · have := (w1 z).1
            rw [if_pos (by omega), if_neg (by omega), decide_eq_true (by omega), decide_eq_false (by omega)]
            exact ⟨S.left fA hA (k1 (by omega)) ((w1 z).2 p (k1 (by omega))), by omega⟩
          · have h1 := (List.getElem?_eq_some_iff.mp (k1 (by omega))).1
            rw [if_pos (by omega), if_pos (by omega), decide_eq_true (by omega), decide_eq_true (by omega)]
            exact ⟨S.both fA hA hB (k1 (by omega)) (k2 (by omega)), by omega⟩
          · have := (w2 z).1
            rw [if_neg (by omega), if_pos (by omega), decide_eq_false (by omega), decide_eq_true (by omega)]
            exact ⟨S.right fB hB (k2 (by omega)) ((w2 z).2 p (k2 (by omega))), by omega⟩
        obtain ⟨i', j', ei, ej, S', hm'⟩ := st
        refine cut (fun σ H4 => H4 = H3 ∧ σ = [some (.ref a), some (.ref b), some (.ref l), some (.int (i' : Nat)), some (.int (j : Nat)), some (.int sd)]) (fun D J => ?_) ?_
        · refine ⟨_, rfl, _, _, rfl, rfl, _, rfl, ?_⟩
          refine ifD (fun hz => ?_) (fun hz => ?_)
          · walk_at "r"
            rw [if_pos hz] at ei
            subst ei
            exact J.nx _ _ ⟨rfl, rfl⟩
          · rw [if_neg hz] at ei
            subst ei
            exact J.nx _ _ ⟨rfl, rfl⟩
        · rintro σ H4 ⟨rfl, rfl⟩
          refine ⟨_, rfl, _, _, rfl, rfl, _, rfl, ?_⟩
          refine ifD (fun hz => ?_) (fun hz => ?_)
          · walk_at "r"
            rw [if_pos hz] at ej
            subst ej
            exact B'.nx _ _ ⟨_, hm', i', j + 1, _, us', _, rfl, S', Nat.le_refl _, hl3, hD3, sm3⟩
          · rw [if_neg hz] at ej
            subst ej
            exact B'.nx _ _ ⟨_, hm', i', _, _, us', _, rfl, S', Nat.le_refl _, hl3, hD3, sm3⟩
end
end K45
set_option Elab.async false
set_option linter.all false
set_option maxRecDepth 100000
set_option pp.deepTerms false
set_option pp.maxSteps 1500
namespace K45
open PySem PySem.Spec PyProof.Rows L2 HX TV FM DX FB FC PM
local macro_rules | `(tactic| walk_at "r") => `(tactic| (repeat (first | refine Exists.intro _ (And.intro rfl ?_) | refine And.intro rfl ?_ | refine Exists.intro _ (Exists.intro _ (And.intro rfl (And.intro rfl ?_))) | refine And.intro (by omega) ?_ | refine And.intro (Or.inl (And.intro (by omega) (by omega))) ?_ | refine And.intro (Or.inr (And.intro (by omega) (by omega))) ?_ | refine And.intro (And.intro (by omega) (by omega)) ?_ | refine And.intro (And.intro (by decide) (And.intro (by decide) (by decide))) ?_ | refine Or.inl (Exists.intro _ (And.intro rfl ?_)) | (dsimp only [gName]; first | with_reducible refine seqC ?_ | with_reducible refine asgC ?_))))
local macro_rules | `(tactic| walk_at "s") => `(tactic| (repeat (first | refine Exists.intro _ (And.intro rfl ?_) | refine And.intro rfl ?_ | refine Exists.intro _ (Exists.intro _ (And.intro rfl (And.intro rfl ?_))) | refine And.intro (by omega) ?_ | refine And.intro (Or.inl (And.intro (by omega) (by omega))) ?_ | refine And.intro (Or.inr (And.intro (by omega) (by omega))) ?_ | refine And.intro (And.intro (by omega) (by omega)) ?_ | refine And.intro (And.intro (by decide) (And.intro (by decide) (by decide))) ?_ | refine Or.inl (Exists.intro _ (And.intro rfl ?_)) | refine Exists.intro _ (Exists.intro _ (And.intro rfl ?_)) | (dsimp only [gName]; first | with_reducible refine seqC ?_ | with_reducible refine asgC ?_))))
section
variable {P : Program} {w : World} {K : PySem.W.Frag} {mg : Str → Option Value} {base : Heap}
def tabV (f : Bool → Bool → Bool) : List V := [.int (bi (f false false)), .int (bi (f false true)), .int (bi (f true false)), .int (bi (f true true))]
theorem xor_bi (a b : Bool) : Builtin.bitXor (bi a) (bi b) = bi (a ^^ b) := by cases a <;> cases b <;> decide
theorem tab_at (f : Bool → Bool → Bool) (a b : Bool) : atI (tabV f) (2 * bi a + bi b) = some (.int (bi (f a b))) := by cases a <;> cases b <;> rfl
theorem comb_cons (f : Bool → Bool → Bool) (o t b : Bool) (p : PyData) (m n : Bool) (R : List PM.Row) : comb f o t b ((p, m, n) :: R) = if f (o ^^ m) (t ^^ n) = b then comb f (o ^^ m) (t ^^ n) b R else p :: comb f (o ^^ m) (t ^^ n) (f (o ^^ m) (t ^^ n)) R := rfl
theorem bi_inj {a b : Bool} (h : bi a = bi b) : a = b := by revert h; cases a <;> cases b <;> decide
theorem wtAll_sub {ds es : List PyData} (h : ds.Sublist es) : wtAll ds ≤ wtAll es := by
  induction h with
  | slnil => exact Nat.le_refl _
  | cons a _ ih => rw [wtAll_cons]; omega
  | cons_cons a _ ih => rw [wtAll_cons, wtAll_cons]; omega
/-- the form whose bits are f of the bits of two forms -/
def sp_cmb (K : PySem.W.Frag) (n : Nat) : Sp := fun vs H Q _ => ∃ (x y : V) (d e : PyData) (t : Addr) (f : Bool → Bool → Bool), vs = [x, y, .ref t] ∧ Dp K H x d ∧ Dp K H y e ∧ Fm d ∧ Fm e ∧ d.depth ≤ n + 1 ∧ e.depth ≤ n + 1 ∧ n ≤ 60 ∧ wt d + wt e ≤ 1000000 ∧
  (∀ H', SqT K H' t (tabV f)) ∧ f false false = false ∧
  ∀ (v : V) (r : PyData) H', Fm r → (∀ q, tb (val r) q = f (tb (val d) q) (tb (val e) q)) → r.depth ≤ n + 1 → wt r ≤ wt d + wt e + 140 → Dp K H' v r → Same H H' → Q v H'
theorem ok_combined (T : Top K mg) (n : Nat) : FnOk P w K mg base CX0 (n + 5) T.f_combined T.fd_combined ["x", "y", "table"]  (sp_cmb K n) := by
  have G_merged : FnOk P w K mg base CX0 (n + 4) T.f_merged T.fd_merged ["ours", "theirs"]  (sp_mrg K n) := ok_merged T n
  have G_turns : FnOk P w K mg base CX0 (2) T.f_turns T.fd_turns ["x"]  (sp_trn K) := ok_turns T
  have G_made : FnOk P w K mg base CX0 (1) T.f_made T.fd_made ["found"]  (sp_made K) := ok_made T
  refine T.F_combined.ok sc_combined (fun vs H Q E h => ?_) (fun cdv Ar outer s H vs Q E hr h => ?_)
  · obtain ⟨x, y, d, e, t, f, rfl, _⟩ := h
    rfl
  · obtain ⟨x, y, d, e, t, f, rfl, hx, hy, hd, he, hdd, hde, hn, hw, hT, hf, q⟩ := h
    refine ⟨_, (pss_cons (ps_set (i := 3) sc_combined.nd rfl (Or.inl rfl) (pe_lst pa_nil))
    (pss_cons (ps_set (i := 4) sc_combined.nd rfl (Or.inl rfl) pe_int)
    (pss_cons (ps_set (i := 5) sc_combined.nd rfl (Or.inl rfl) pe_int)
    (pss_cons (ps_set (i := 6) sc_combined.nd rfl (Or.inl rfl) pe_int)
    (pss_cons (ps_for PassesOwn.never rfl (pi_list (pe_call G_merged (hr.mono (by omega)) (by rfl) T.g_merged T.F_merged.kp T.b_merged .nil pass0 (pa_cons (pe_call G_turns (hr.mono (by omega)) (by rfl) T.g_turns T.F_turns.kp T.b_turns .nil pass0 (pa_cons (pv 0) pa_nil)) (pa_cons (pe_call G_turns (hr.mono (by omega)) (by rfl) T.g_turns T.F_turns.kp T.b_turns .nil pass0 (pa_cons (pv 1) pa_nil)) pa_nil)))) (pg_tup rfl (pgs_cons (pg_name (i := 7) sc_combined.nd rfl (Or.inl rfl)) (pgs_cons (pg_name (i := 8) sc_combined.nd rfl (Or.inl rfl)) (pgs_cons (pg_name (i := 9) sc_combined.nd rfl (Or.inl rfl)) pgs_nil))))
      (pss_cons (ps_set (i := 4) sc_combined.nd rfl (Or.inl rfl) (pe_op op_xor (pv 4) (pv 8)))
      (pss_cons (ps_set (i := 5) sc_combined.nd rfl (Or.inl rfl) (pe_op op_xor (pv 5) (pv 9)))
      (pss_cons (ps_set (i := 10) sc_combined.nd rfl (Or.inl rfl) (pe_ix ix_tup (pv 2) (pe_op op_add (pe_op op_mul pe_int (pv 4)) (pv 5)) (fun _ _ => rfl)))
      (pss_one (ps_if (pt_cmpR op_ne (pv 10) (pv 6) (nomark _))
        (pss_cons (ps_expr (pe_bm PySem.F.plainAttrs_list PySem.F.slot_list_append PySem.F.type_list_append mt_append (pv 3) (pa_cons (pv 7) pa_nil)))
        (pss_one (ps_set (i := 6) sc_combined.nd rfl (Or.inl rfl) (pv 10))))
        pss_nil))))))
    (pss_one (ps_ret (pe_call G_made (hr.mono (by omega)) (by rfl) T.g_made T.F_made.kp T.b_made .nil pass0 (pa_cons (pv 3) pa_nil))))))))), ?_⟩
    refine ⟨Nat.zero_le _, fun l nl => ?_⟩
    walk_at "r"
    have s0 := sm_upd (o := .lst []) nl
    have hl0 := upd_at (o := .lst []) nl
    replace hx := dp_tk (tk_same s0) hd hx
    replace hy := dp_tk (tk_same s0) he hy
    revert hl0 hx hy s0
    generalize upd H l (.lst []) = H0
    intro s0 hl0 hx hy
    refine ⟨x, d, rfl, hx, hd, fun aO uO A H1 fA hA vA sO dO depA wA iA sm1 => ?_⟩
    refine ⟨_, rfl, y, e, rfl, dp_tk (tk_same sm1) he hy, he, fun aT uT B H2 fB hB vB sT dT depB wB iB sm2 => ?_⟩
    have lwA := len_wt A
    have lwB := len_wt B
    refine ⟨aO, aT, uO, uT, A, B, rfl, HX.Same.tup sm2 sO, sT, dpAll_tk (tk_same sm2) fA dO, dT, fA, fB, hA, hB, by omega, by omega, hn, by omega, fun lr us R H3 nlr hlr hD M hR sm3 => ?_⟩
    have sm03 := (sm1.trans sm2).trans sm3
    have hl3 := sm03 _ _ hl0
    have lne : lr ≠ l := (ne_of_none (sm1.trans sm2 _ _ hl0) nlr).symm
    have lus := dpAll_len hD
    rw [List.length_map] at lus
    have mu : Mut (H3 l) := by
      rw [hl3]
      trivial
    refine ⟨lr, rfl, ⟨_, .inl (.inl hlr)⟩, flL (xs := us) (fun i σ H' => ∃ (o u b : Bool) (z7 z8 z9 z10 : Option V) (uf : List V) (F : List PyData), σ = [some x, some y, some (.ref t), some (.ref l), some (.int (bi o)), some (.int (bi u)), some (.int (bi b)), z7, z8, z9, z10] ∧
      f o u = b ∧ F ++ comb f o u b (R.drop i) = comb f false false false R ∧ H' l = some (.lst uf) ∧ DpAll K H' uf F ∧ But l H3 H')
      ⟨false, false, false, none, none, none, none, [], [], rfl, hf, by simp, hl3, .nil, But.refl _⟩ ?_ ?_ ?_⟩
    · rintro i σ H' _ ⟨o, u, b, z7, z8, z9, z10, uf, F, _, _, _, _, _, bt⟩
      exact .inl (.inl (bt _ _ lne hlr))
    · rintro i v σ H' hv ⟨o, u, b, z7, z8, z9, z10, uf, F, rfl, hb, inv, hl', hF, bt⟩ D' B'
      obtain ⟨d', hd', hv'⟩ := dpAll_get hD hv
      rw [List.getElem?_map] at hd'
      cases er : R[i]? with
      | none =>
        rw [er] at hd'
        cases hd'
      | some r =>
        rw [er] at hd'
        cases hd'
        obtain ⟨p, m, n'⟩ := r
        have hdrop : R.drop i = (p, m, n') :: R.drop (i + 1) := by
          obtain ⟨hi, e⟩ := List.getElem?_eq_some_iff.mp er
          rw [List.drop_eq_getElem_cons hi, e]
        have fp := fmAll_mem M.fm p (List.mem_map.mpr ⟨_, List.mem_of_getElem? er, rfl⟩)
        have hi := (List.getElem?_eq_some_iff.mp er).1
        have tk : Tk H3 H' := tk_but bt mu
        have hv2 := dp_im tk (im_row (r := (p, m, n')) fp.1) hv'
        rw [hdrop, comb_cons] at inv
        cases hv2 with
        | @tup T xs _ h1 h2 =>
          cases h2 with
          | @cons vp _ _ _ g1 g2 =>
            cases g2 with
            | cons g2 g3 =>
              cases g2
              cases g3 with
              | cons g3 g4 =>
                cases g3
                cases g4
                refine ⟨T, _, rfl, h1, rfl, _, _, rfl, _, _, rfl, _, _, rfl, rfl, ?_⟩
                walk_at "r"
                simp only [xor_bi]
                refine ⟨t, _, _, _, rfl, rfl, hT H', tab_at f _ _, ?_⟩
                walk_at "r"
                refine ifNE (fun hc => ?_) (fun hc => ?_)
                · have hne : f (o ^^ m) (u ^^ n') ≠ b := fun z => hc (by rw [z])
                  rw [if_neg hne] at inv
                  refine ⟨_, rfl, .inl ⟨rfl, _, .inl (.inl hl')⟩, _, rfl, l, uf, _, rfl, rfl, hl', ?_, ?_⟩
                  · have h5 := dpAll_len hF
                    have h6 := congrArg List.length inv
                    have h7 := (comb_sub f R false false false).length_le
                    have h8 : (pR R).length = R.length := by simp [pR]
                    rw [List.length_append] at h6
                    exact len_lt (by omega)
                  walk_at "r"
                  have mu' : Mut (H' l) := by
                    rw [hl']
                    trivial
                  have tk2 : Tk H' (upd H' l (.lst (uf ++ [vp]))) := tk_mut mu'
                  refine B'.nx _ _ ⟨o ^^ m, u ^^ n', f (o ^^ m) (u ^^ n'), _, _, _, _, uf ++ [vp], F ++ [p], rfl, rfl, ?_, upd_same, ?_, bt.upd⟩
                  · rw [← inv]
                    simp
                  · have fF : FmAll F := fmAll_sub (List.sublist_append_left F _) (inv ▸ fmAll_sub (comb_sub f R false false false) M.fm)
                    exact dpAll_app (dpAll_tk tk2 fF hF) (.cons (dp_tk tk2 fp.1 g1) .nil)
                · have hne : f (o ^^ m) (u ^^ n') = b := bi_inj hc
                  rw [if_pos hne] at inv
                  exact B'.nx _ _ ⟨o ^^ m, u ^^ n', b, _, _, _, _, uf, F, rfl, hne, inv, hl', hF, bt⟩
    · rintro σ H' ⟨o, u, b, z7, z8, z9, z10, uf, F, rfl, hb, inv, hl', hF, bt⟩
      have eF : F = comb f false false false R := by
        rw [lus, List.drop_length] at inv
        simpa [comb] using inv
      have sub := comb_sub f R false false false
      have fF : FmAll F := by
        rw [eF]
        exact fmAll_sub sub M.fm
      refine ⟨_, rfl, l, uf, F, rfl, .inl (.inl (.inl hl')), hF, fF, by rw [eF]; exact asc_sub (vals_sub sub) M.asc, fun v r H4 k1 k2 k3 k4 k5 sm4 => ?_⟩
      have hsm : Same H H4 := (But.same (s0.trans sm03) nl bt).trans sm4
      refine q v r H4 k1 (fun p => ?_) ?_ ?_ k5 hsm
      · rw [k2, eF, comb_tb M hf, vA, vB]
      · have : PyData.depthAll F ≤ n := depthAll_le.mpr fun z hz => by
          rw [eF] at hz
          rcases M.mem z (sub.subset hz) with hz | hz
          · have := dep_mem hz
            omega
          · have := dep_mem hz
            omega
        omega
      · have h1 := wtAll_sub sub
        rw [← eF] at h1
        have := M.wt
        omega
end
end K45
set_option Elab.async false
set_option linter.all false
set_option maxRecDepth 100000
set_option pp.deepTerms false
set_option pp.maxSteps 1500
namespace K45
open PySem PySem.Spec PyProof.Rows L2 HX TV FM DX FB FC PM
local macro_rules | `(tactic| walk_at "r") => `(tactic| (repeat (first | refine Exists.intro _ (And.intro rfl ?_) | refine And.intro rfl ?_ | refine Exists.intro _ (Exists.intro _ (And.intro rfl (And.intro rfl ?_))) | refine And.intro (by omega) ?_ | refine And.intro (Or.inl (And.intro (by omega) (by omega))) ?_ | refine And.intro (Or.inr (And.intro (by omega) (by omega))) ?_ | refine And.intro (And.intro (by omega) (by omega)) ?_ | refine And.intro (And.intro (by decide) (And.intro (by decide) (by decide))) ?_ | refine Or.inl (Exists.intro _ (And.intro rfl ?_)) | (dsimp only [gName]; first | with_reducible refine seqC ?_ | with_reducible refine asgC ?_))))
local macro_rules | `(tactic| walk_at "s") => `(tactic| (repeat (first | refine Exists.intro _ (And.intro rfl ?_) | refine And.intro rfl ?_ | refine Exists.intro _ (Exists.intro _ (And.intro rfl (And.intro rfl ?_))) | refine And.intro (by omega) ?_ | refine And.intro (Or.inl (And.intro (by omega) (by omega))) ?_ | refine And.intro (Or.inr (And.intro (by omega) (by omega))) ?_ | refine And.intro (And.intro (by omega) (by omega)) ?_ | refine And.intro (And.intro (by decide) (And.intro (by decide) (by decide))) ?_ | refine Or.inl (Exists.intro _ (And.intro rfl ?_)) | refine Exists.intro _ (Exists.intro _ (And.intro rfl ?_)) | (dsimp only [gName]; first | with_reducible refine seqC ?_ | with_reducible refine asgC ?_))))
section
variable {P : Program} {w : World} {K : PySem.W.Frag} {mg : Str → Option Value} {base : Heap}
theorem dpAll_take {H : Hp} {us : List V} {A : List PyData} (h : DpAll K H us A) (i : Nat) : DpAll K H (us.take i) (A.take i) := by
  induction i generalizing us A with
  | zero => simp; exact .nil
  | succ i ih =>
    cases h with
    | nil => simp; exact .nil
    | cons h1 h2 => simp; exact .cons h1 (ih h2)
theorem dpAll_drop {H : Hp} {us : List V} {A : List PyData} (h : DpAll K H us A) (i : Nat) : DpAll K H (us.drop i) (A.drop i) := by
  induction i generalizing us A with
  | zero => simpa using h
  | succ i ih =>
    cases h with
    | nil => simp; exact .nil
    | cons h1 h2 => simp; exact ih h2
/-- a place put into a row, or taken out of it -/
def sp_tog (K : PySem.W.Frag) (n : Nat) : Sp := fun vs H Q _ => ∃ (a : Addr) (p : V) (us : List V) (A : List PyData) (d : PyData), vs = [.ref a, p] ∧ SqT K H a us ∧ DpAll K H us A ∧ FmAll A ∧ Asc (vals A) ∧ Dp K H p d ∧ Fm d ∧ 0 ≤ val d ∧
  PyData.depthAll A ≤ n ∧ d.depth ≤ n ∧ n ≤ 60 ∧ A.length ≤ 14000000 ∧
  ∀ (l : Addr) (us' : List V) (B : List PyData) H', SqT K H' l us' → DpAll K H' us' B → Tog A d B → Same H H' → Q (.ref l) H'
theorem ok_toggled (T : Top K mg) (n : Nat) : FnOk P w K mg base CX0 (n + 4) T.f_toggled T.fd_toggled ["found", "place"]  (sp_tog K n) := by
  have G_order : FnOk P w K mg base CX0 (n + 3) T.f_order T.fd_order ["x", "y"]  (sp_ord K n) := ok_order T n
  refine T.F_toggled.ok sc_toggled (fun vs H Q E h => ?_) (fun cdv Ar outer s H vs Q E hr h => ?_)
  · obtain ⟨a, p, us, A, d, rfl, _⟩ := h
    rfl
  · obtain ⟨a, p, us, A, d, rfl, sA, dA, fA, hA, hp, fd, d0, depA, depD, hn, hlen, q⟩ := h
    have lA := dpAll_len dA
    refine ⟨_, (pss_cons (ps_set (i := 2) sc_toggled.nd rfl (Or.inl rfl) pe_int)
    (pss_cons (ps_while PassesOwn.never (PW.pt (pw_and (pt_cmpR op_lt (pv 2) (pe_callB call_len_seq (by rfl) T.m_len PySem.boot_len (pa_cons (pv 0) pa_nil)) (nomark _)) (pw_and1 (pt_cmpR op_lt (pe_call G_order (hr.mono (by omega)) (by rfl) T.g_order T.F_order.kp T.b_order .nil pass0 (pa_cons (pe_ix ix_tup (pv 0) (pv 2) (fun _ _ => rfl)) (pa_cons (pv 1) pa_nil))) pe_int (nomark _)))))
      (pss_one (ps_aug (i := 2) sc_toggled.nd rfl (Or.inl rfl) pe_int ip_add)))
    (pss_cons (ps_if (PW.pt (pw_and (pt_cmpR op_lt (pv 2) (pe_callB call_len_seq (by rfl) T.m_len PySem.boot_len (pa_cons (pv 0) pa_nil)) (nomark _)) (pw_and1 (pt_cmpR (op_eqD hr.units) (pe_ix ix_tup (pv 0) (pv 2) (fun _ _ => rfl)) (pv 1) (nomark _)))))
      (pss_one (ps_ret (pe_op op_catB (pe_slice sl_tupB (pv 0) po_none (po_some (pv 2))) (pe_slice sl_tupB (pv 0) (po_some (pe_op op_add (pv 2) pe_int)) po_none))))
      pss_nil)
    (pss_one (ps_ret (pe_op op_catB (pe_op op_catB (pe_slice sl_tupB (pv 0) po_none (po_some (pv 2))) (pe_tup (pa_cons (pv 1) pa_nil))) (pe_slice sl_tupB (pv 0) (po_some (pv 2)) po_none))))))), ?_⟩
    walk_at "r"
    refine cut (fun σ H' => ∃ i : Nat, σ = [some (.ref a), some p, some (.int (i : Nat))] ∧ i ≤ A.length ∧ (∀ x ∈ A.take i, vl x < vl d) ∧ (∀ e, A[i]? = some e → vl d ≤ vl e) ∧ Same H H') (fun D J => ?_) ?_
    · refine ⟨fun m σ H' => ∃ i : Nat, σ = [some (.ref a), some p, some (.int (i : Nat))] ∧ i + m = A.length ∧ (∀ x ∈ A.take i, vl x < vl d) ∧ Same H H', ⟨A.length, 0, rfl, by omega, by simp, Same.refl _⟩, ?_⟩
      rintro m σ H' ⟨i, rfl, hm, hlt, sm⟩
      refine ⟨_, rfl, _, rfl, a, us, rfl, .inr (HX.Same.tup sm sA), _, _, rfl, rfl, _, rfl, ?_⟩
      rw [lA]
      refine ifD (fun hc => ?_) (fun hc => ?_)
      · obtain ⟨e, he⟩ : ∃ e, A[i]? = some e := ⟨A[i]'(by omega), by simp [show i < A.length by omega]⟩
        obtain ⟨v, hv1, hv2⟩ := dpAll_at (dpAll_tk (tk_same sm) fA dA) he
        have me := fmAll_mem fA e (List.mem_of_getElem? he)
        have de := dep_mem (List.mem_of_getElem? he)
        refine ⟨_, rfl, _, rfl, a, us, _, v, rfl, rfl, HX.Same.tup sm sA, atI_nat hv1, _, rfl, ?_⟩
        refine ⟨v, p, e, d, rfl, hv2, dp_tk (tk_same sm) fd hp, me.1, fd, by omega, depD, hn, fun H2 sm2 => ?_⟩
        have ways := sg_ways me.1 fd me.2 d0
        walk_at "r"
        refine ifD (fun hz => wb fun D' B' => ?_) (fun hz => ?_)
        · walk_at "r"
          refine B'.nx _ _ ⟨m - 1, by omega, i + 1, rfl, by omega, fun x hx => ?_, sm.trans sm2⟩
          rw [take_one he] at hx
          rcases List.mem_append.mp hx with hx | hx
          · exact hlt x hx
          · rw [List.mem_singleton.mp hx]
            exact ways.1 hz
        · refine J.nx _ _ ⟨i, rfl, by omega, hlt, fun e' he' => ?_, sm.trans sm2⟩
          rw [he] at he'
          cases he'
          apply Nat.le_of_not_lt
          intro hlt2
          apply hz
          have : sg (val e) (val d) = -1 := sg_lt (by have := me.2; unfold vl at hlt2; omega)
          rw [this]
          decide
      · refine iteF ?_
        refine J.nx _ _ ⟨i, rfl, by omega, hlt, fun e he => ?_, sm⟩
        have := (List.getElem?_eq_some_iff.mp he).1
        omega
    · rintro σ H' ⟨i, rfl, hi, hlt, hge, sm⟩
      have sA' := HX.Same.tup sm sA
      have dA' := dpAll_tk (tk_same sm) fA dA
      have hp' := dp_tk (tk_same sm) fd hp
      refine ⟨_, rfl, _, rfl, a, us, rfl, .inr sA', _, _, rfl, rfl, _, rfl, ?_⟩
      rw [lA]
      by_cases heq : A[i]? = some d
      · have hil := (List.getElem?_eq_some_iff.mp heq).1
        refine ifD (fun _ => ?_) (fun z => absurd (by omega) z)
        have he := heq
        obtain ⟨v, hv1, hv2⟩ := dpAll_at dA' he
        refine ⟨_, rfl, _, rfl, a, us, _, v, rfl, rfl, sA', atI_nat hv1, _, rfl, _, _, hv2, hp', shaped_fm fd (by omega), shaped_fm fd (by omega), _, rfl, ?_⟩
        rw [eqv_self fd]
        refine iteT ?_
        refine ⟨_, rfl, _, rfl, _, rfl, a, us, rfl, sA', fun l1 H1 sm1 sl1 => ?_⟩
        rw [cut_to] at sl1
        refine ⟨_, rfl, _, rfl, _, _, rfl, rfl, _, rfl, a, us, rfl, HX.Same.tup sm1 sA', fun l2 H2 sm2 sl2 => ?_⟩
        rw [show ((i : Nat) : Int) + 1 = ((i + 1 : Nat) : Int) by omega, cut_from] at sl2
        refine ⟨l1, l2, _, _, rfl, rfl, HX.Same.tup sm2 sl1, sl2, len_le (by rw [List.length_take, List.length_drop]; omega), fun l3 H3 sm3 sl3 => ?_⟩
        have smm := (sm1.trans sm2).trans sm3
        have tk := tk_same smm
        refine q l3 _ (A.take i ++ A.drop (i + 1)) H3 sl3 (dpAll_app (dpAll_take (dpAll_tk tk fA dA') i) (dpAll_drop (dpAll_tk tk fA dA') (i + 1))) ⟨A.take i, A.drop i, by simp, hlt, .inl ⟨A.drop (i + 1), drop_one he, rfl⟩⟩ (sm.trans smm)
      refine ifB ?_ (fun hc rest => ?_)
      case refine_2 =>
        have hc : ((i : Nat) : Int) < ((A.length : Nat) : Int) := of_decide_eq_true hc
        obtain ⟨e, he⟩ : ∃ e, A[i]? = some e := ⟨A[i]'(by omega), by simp [show i < A.length by omega]⟩
        obtain ⟨v, hv1, hv2⟩ := dpAll_at dA' he
        have me := fmAll_mem fA e (List.mem_of_getElem? he)
        have de := dep_mem (List.mem_of_getElem? he)
        refine ⟨_, rfl, _, rfl, a, us, _, v, rfl, rfl, sA', atI_nat hv1, _, rfl, _, _, hv2, hp', shaped_fm me.1 (by omega), shaped_fm fd (by omega), _, rfl, ?_⟩
        rw [eqv_val me.1 fd]
        exact ifD (fun hed => absurd (fm_inj me.1 fd hed ▸ he) heq) (fun _ => rest)
      refine ⟨_, rfl, _, rfl, _, rfl, a, us, rfl, sA', fun l1 H1 sm1 sl1 => ?_⟩
      rw [cut_to] at sl1
      refine ⟨_, rfl, by show 1 ≤ sizeLine; decide, fun t nt => ?_⟩
      have st := sm_upd (o := .tup [p]) nt
      refine ⟨l1, t, _, _, rfl, rfl, HX.Same.tup st sl1, .inl (.inl upd_same), len_le (by rw [List.length_take, List.length_singleton]; omega), fun l2 H2 sm2 sl2 => ?_⟩
      have s2 := (sm1.trans st).trans sm2
      refine ⟨_, rfl, _, rfl, _, rfl, a, us, rfl, HX.Same.tup s2 sA', fun l3 H3 sm3 sl3 => ?_⟩
      rw [cut_from] at sl3
      refine ⟨l2, l3, _, _, rfl, rfl, HX.Same.tup sm3 sl2, sl3, len_le (by rw [List.length_append, List.length_take, List.length_drop, List.length_singleton]; omega), fun l4 H4 sm4 sl4 => ?_⟩
      have smm := (s2.trans sm3).trans sm4
      have tk := tk_same smm
      have hgt : ∀ x ∈ A.drop i, vl d < vl x := fun x hx => by
        by_cases hil : i < A.length
        · obtain ⟨e, he⟩ : ∃ e, A[i]? = some e := ⟨A[i]'hil, by simp [hil]⟩
          have me := fmAll_mem fA e (List.mem_of_getElem? he)
          have h1 := hge e he
          have h2 : vl d ≠ vl e := fun z => heq (by
            have : e = d := fm_inj me.1 fd (by have := me.2; unfold vl at z; omega)
            rw [he, this])
          rw [drop_one he] at hx
          rcases List.mem_cons.mp hx with rfl | hx
          · omega
          · have := asc_tail hA he x hx
            omega
        · rw [List.drop_of_length_le (by omega)] at hx
          simp at hx
      refine q l4 _ (A.take i ++ [d] ++ A.drop i) H4 sl4 ?_ ⟨A.take i, A.drop i, by simp, hlt, .inr ⟨hgt, by simp⟩⟩ (sm.trans smm)
      exact dpAll_app (dpAll_app (dpAll_take (dpAll_tk tk fA dA') i) (.cons (dp_tk tk fd hp') .nil)) (dpAll_drop (dpAll_tk tk fA dA') i)
end
end K45
set_option Elab.async false
set_option linter.all false
set_option maxRecDepth 100000
set_option pp.deepTerms false
set_option pp.maxSteps 1500
namespace K45
open PySem PySem.Spec PyProof.Rows L2 HX TV FM DX FB FC PM
local macro_rules | `(tactic| walk_at "r") => `(tactic| (repeat (first | refine Exists.intro _ (And.intro rfl ?_) | refine And.intro rfl ?_ | refine Exists.intro _ (Exists.intro _ (And.intro rfl (And.intro rfl ?_))) | refine And.intro (by omega) ?_ | refine And.intro (Or.inl (And.intro (by omega) (by omega))) ?_ | refine And.intro (Or.inr (And.intro (by omega) (by omega))) ?_ | refine And.intro (And.intro (by omega) (by omega)) ?_ | refine And.intro (And.intro (by decide) (And.intro (by decide) (by decide))) ?_ | refine Or.inl (Exists.intro _ (And.intro rfl ?_)) | (dsimp only [gName]; first | with_reducible refine seqC ?_ | with_reducible refine asgC ?_))))
local macro_rules | `(tactic| walk_at "s") => `(tactic| (repeat (first | refine Exists.intro _ (And.intro rfl ?_) | refine And.intro rfl ?_ | refine Exists.intro _ (Exists.intro _ (And.intro rfl (And.intro rfl ?_))) | refine And.intro (by omega) ?_ | refine And.intro (Or.inl (And.intro (by omega) (by omega))) ?_ | refine And.intro (Or.inr (And.intro (by omega) (by omega))) ?_ | refine And.intro (And.intro (by omega) (by omega)) ?_ | refine And.intro (And.intro (by decide) (And.intro (by decide) (by decide))) ?_ | refine Or.inl (Exists.intro _ (And.intro rfl ?_)) | refine Exists.intro _ (Exists.intro _ (And.intro rfl ?_)) | (dsimp only [gName]; first | with_reducible refine seqC ?_ | with_reducible refine asgC ?_))))
section
variable {P : Program} {w : World} {K : PySem.W.Frag} {mg : Str → Option Value} {base : Heap}
theorem fm6465 : Fm (.tuple [.int 64, .int 65]) ∧ val (.tuple [.int 64, .int 65]) = 18446744073709551616 := by
  have f1 := fm_small (ts := [64, 65]) ⟨by decide, trivial⟩ (by intro t ht; simp at ht; omega) ⟨65, by simp, by decide⟩
  have e1 : tv [64, 65] = 18446744073709551616 := by decide
  rw [e1] at f1
  exact f1
/-- x + 1 of a form of depth at most n -/
def sp_p1 (K : PySem.W.Frag) (n : Nat) : Sp := fun vs H Q _ => ∃ (x : V) (d : PyData), vs = [x] ∧ Dp K H x d ∧ Fm d ∧ d.depth ≤ n ∧ n ≤ 50 ∧ wt d ≤ 13000000 ∧
  ∀ (v : V) (r : PyData) H', Fm r → val r = val d + 1 → r.depth ≤ n + 1 → wt r ≤ (n + 1) * wt d + 4 → Dp K H' v r → Same H H' → Q v H'
theorem p1_int {H : Hp} {i : Int} {n : Nat} {Q : VK} (hF : Fm (.int i)) (q : ∀ (v : V) (r : PyData) H', Fm r → val r = val (.int i) + 1 → r.depth ≤ n + 1 → wt r ≤ (n + 1) * wt (.int i) + 4 → Dp K H' v r → Same H H' → Q v H') :
    (i < 18446744073709551615 → Q (.int (i + 1)) H) ∧ (¬ i < 18446744073709551615 → ∀ t, H t = none → Q (.ref t) (upd H t (.tup [.int 64, .int 65]))) := by
  rw [fm_int] at hF
  rw [val_int, wt_int] at q
  refine ⟨fun h => ?_, fun h t nt => ?_⟩
  · exact q _ (.int (i + 1)) H ((fm_int _).mpr (by omega)) (val_int _) (by rw [depth_int]; omega) (by rw [wt_int]; omega) (.int _) (Same.refl _)
  · refine q _ (.tuple [.int 64, .int 65]) _ fm6465.1 ?_ (by rw [depth_tuple, depthAll_cons, depthAll_cons, depthAll_nil, depth_int, depth_int]; omega) (by rw [wt_tuple, wtAll_cons, wtAll_cons, wtAll_nil, wt_int, wt_int]; omega) (.tup (.inl (.inl upd_same)) (.cons (.int _) (.cons (.int _) .nil))) (sm_upd nt)
    rw [fm6465.2]
    omega
theorem ok_plus_one (T : Top K mg) : ∀ n, FnOk P w K mg base CX0 (n + 5) T.f_plus_one T.fd_plus_one ["x"]  (sp_p1 K n) := by
  have G_made : FnOk P w K mg base CX0 (1) T.f_made T.fd_made ["found"]  (sp_made K) := ok_made T
  intro n
  induction n with
  | zero =>
    refine T.F_plus_one.ok sc_plus_one (fun vs H Q E h => ?_) (fun cdv Ar outer s H vs Q E hr h => ?_)
    · obtain ⟨x, d, rfl, _⟩ := h
      rfl
    · obtain ⟨x, d, rfl, hx, hF, hd, hn, hw, q⟩ := h
      refine ⟨_, (pss_cons (ps_if (pt_val (pe_callB call_isi (by rfl) T.m_isinstance (by decide +kernel) (pa_cons (pv 0) (pa_cons (pe_bltn (v := .ty "int") (by rfl) T.m_int (by decide +kernel) rfl) pa_nil))) (fun _ => rfl))
      (pss_cons (ps_if (pt_cmpR op_lt (pv 0) (pe_glob (v := .int (18446744073709551615)) (by rfl) T.c_PLAIN_MOST ⟨_, rfl⟩) (nomark _))
        (pss_one (ps_ret (pe_op op_add (pv 0) pe_int)))
        pss_nil)
      (pss_one (ps_ret (pe_tup (pa_cons pe_int (pa_cons pe_int pa_nil))))))
      pss_nil)
    (pss_cons (ps_if (pt_cmpR (op_eqD hr.units) (pe_ix ix_tup (pv 0) pe_int (fun _ _ => rfl)) pe_int (nomark _))
      (pss_one ps_never)
      pss_nil)
    (pss_one ps_never))), ?_⟩
      rcases fm_cases hF with ⟨i, rfl⟩ | ⟨ds, rfl⟩
      · cases hx
        obtain ⟨q1, q2⟩ := p1_int (H := H) hF q
        refine ⟨_, rfl, _, _, _, _, true, rfl, .ty "int", tyI _, k_ii, true, rfl, iteT ?_⟩
        walk_at "r"
        refine ifD (fun h => ?_) (fun h => ?_)
        · walk_at "r"
          exact q1 h
        · exact ⟨by show 2 ≤ sizeLine; decide, fun t nt => q2 h t nt⟩
      · rw [depth_tuple] at hd
        omega
  | succ n ih =>
    have G_plus_one : FnOk P w K mg base CX0 (n + 5) T.f_plus_one T.fd_plus_one ["x"]  (sp_p1 K n) := ih
    have G_toggled : FnOk P w K mg base CX0 (n + 5) T.f_toggled T.fd_toggled ["found", "place"]  (sp_tog K (n + 1)) := ok_toggled T (n + 1)
    refine T.F_plus_one.ok sc_plus_one (fun vs H Q E h => ?_) (fun cdv Ar outer s H vs Q E hr h => ?_)
    · obtain ⟨x, d, rfl, _⟩ := h
      rfl
    · obtain ⟨x, d, rfl, hx, hF, hd, hn, hw, q⟩ := h
      refine ⟨_, (pss_cons (ps_if (pt_val (pe_callB call_isi (by rfl) T.m_isinstance (by decide +kernel) (pa_cons (pv 0) (pa_cons (pe_bltn (v := .ty "int") (by rfl) T.m_int (by decide +kernel) rfl) pa_nil))) (fun _ => rfl))
      (pss_cons (ps_if (pt_cmpR op_lt (pv 0) (pe_glob (v := .int (18446744073709551615)) (by rfl) T.c_PLAIN_MOST ⟨_, rfl⟩) (nomark _))
        (pss_one (ps_ret (pe_op op_add (pv 0) pe_int)))
        pss_nil)
      (pss_one (ps_ret (pe_tup (pa_cons pe_int (pa_cons pe_int pa_nil))))))
      pss_nil)
    (pss_cons (ps_if (pt_cmpR (op_eqD hr.units) (pe_ix ix_tup (pv 0) pe_int (fun _ _ => rfl)) pe_int (nomark _))
      (pss_one (ps_ret (pe_call G_made (hr.mono (by omega)) (by rfl) T.g_made T.F_made.kp T.b_made .nil pass0 (pa_cons (pe_call G_toggled (hr.mono (by omega)) (by rfl) T.g_toggled T.F_toggled.kp T.b_toggled .nil pass0 (pa_cons (pe_slice sl_tupB (pv 0) (po_some pe_int) po_none) (pa_cons (pe_call G_plus_one (hr.mono (by omega)) (by rfl) T.g_plus_one T.F_plus_one.kp T.b_plus_one .nil pass0 (pa_cons (pe_ix ix_tup (pv 0) pe_int (fun _ _ => rfl)) pa_nil)) pa_nil))) pa_nil))))
      pss_nil)
    (pss_one (ps_ret (pe_call G_made (hr.mono (by omega)) (by rfl) T.g_made T.F_made.kp T.b_made .nil pass0 (pa_cons (pe_op op_catB (pe_tup (pa_cons pe_int pa_nil)) (pe_call G_toggled (hr.mono (by omega)) (by rfl) T.g_toggled T.F_toggled.kp T.b_toggled .nil pass0 (pa_cons (pv 0) (pa_cons pe_int pa_nil)))) pa_nil)))))), ?_⟩
      rcases fm_cases hF with ⟨i, rfl⟩ | ⟨ds, rfl⟩
      · cases hx
        obtain ⟨q1, q2⟩ := p1_int (H := H) hF q
        refine ⟨_, rfl, _, _, _, _, true, rfl, .ty "int", tyI _, k_ii, true, rfl, iteT ?_⟩
        walk_at "r"
        refine ifD (fun h => ?_) (fun h => ?_)
        · walk_at "r"
          exact q1 h
        · exact ⟨by show 2 ≤ sizeLine; decide, fun t nt => q2 h t nt⟩
      · have hF' := (fm_tuple _).mp hF
        rw [depth_tuple] at hd
        rw [val_tuple] at q
        rw [wt_tuple] at q hw
        have hlw := len_wt ds
        cases hx with
        | @tup a xs _ h1 h2 =>
          refine ⟨_, rfl, _, _, _, _, false, rfl, .ty "int", tyT h1, k_ti, false, rfl, iteF ?_⟩
          cases ds with
          | nil => exact absurd rfl (fm_ne hF)
          | cons e0 er =>
            cases h2 with
            | @cons v0 vr _ _ g1 g2 =>
              have f0 := fmAll_mem hF'.1 e0 (by simp)
              have dep0 := dep_mem (ds := e0 :: er) (e := e0) (by simp)
              refine ⟨_, rfl, a, _, _, v0, rfl, rfl, h1, atI_nat (j := 0) rfl, _, .int 0, g1, .int 0, shaped_fm f0.1 (by omega), shaped_fm ((fm_int 0).mpr (by decide)) (by rw [depth_int]; decide), _, rfl, ?_⟩
              rw [eqv_val f0.1 ((fm_int 0).mpr (by decide)), val_int]
              refine ifD (fun hz => ?_) (fun hz => ?_)
              · have e00 : e0 = .int 0 := fm_inj f0.1 ((fm_int 0).mpr (by decide)) (by rw [val_int]; exact hz)
                subst e00
                cases er with
                | nil =>
                  obtain ⟨t, ht, h64⟩ := hF'.2.2
                  rw [vals_cons, vals_nil, val_int] at ht
                  simp at ht
                  omega
                | cons e1 r =>
                  cases g2 with
                  | @cons v1 vr _ _ g2 g3 =>
                    have f1 := fmAll_mem hF'.1 e1 (by simp)
                    have dep1 := dep_mem (ds := .int 0 :: e1 :: r) (e := e1) (by simp)
                    have fr : FmAll (e1 :: r) := ((fmAll_cons _ _).mp hF'.1).2.2
                    have ar : Asc (vals (e1 :: r)) := by
                      have := hF'.2.1
                      rw [vals_cons] at this
                      exact this.tail
                    have depr : PyData.depthAll (e1 :: r) ≤ n := by
                      rw [depthAll_cons] at hd
                      omega
                    have hwt : wtAll (.int 0 :: e1 :: r) = 1 + wtAll (e1 :: r) := by rw [wtAll_cons, wt_int]
                    have w1 := wt_mem (ds := e1 :: r) (e := e1) (by simp)
                    refine ⟨_, rfl, _, rfl, a, _, rfl, h1, fun l1 H1 sm1 sl1 => ?_⟩
                    rw [show (1 : Int) = ((1 : Nat) : Int) from rfl, cut_from] at sl1
                    refine ⟨_, rfl, a, _, _, v1, rfl, rfl, HX.Same.tup sm1 h1, atI_nat (j := 1) rfl, ?_⟩
                    refine ⟨v1, e1, rfl, dp_tk (tk_same sm1) f1.1 g2, f1.1, by omega, by omega, by omega, fun vp p H2 fp vvp depp wp dpp sm2 => ?_⟩
                    have dr2 : DpAll K H2 (v1 :: vr) (e1 :: r) := dpAll_tk (tk_same (sm1.trans sm2)) fr (.cons g2 g3)
                    refine ⟨l1, vp, _, e1 :: r, p, rfl, HX.Same.tup sm2 sl1, dr2, fr, ar, dpp, fp, by have := f1.2; omega, by omega, by omega, by omega, by rw [List.length_cons] at hlw; omega, fun l us' B H3 sl dB tg sm3 => ?_⟩
                    obtain ⟨fB, aB⟩ := tg.row fr ar fp (by have := f1.2; omega)
                    refine ⟨l, us', B, rfl, .inr sl, dB, fB, aB, fun v' r' H4 k1 k2 k3 k4 k5 sm4 => ?_⟩
                    have hodd := tg.odd ar (by have := f1.2; unfold vl; omega)
                    refine q v' r' H4 k1 ?_ ?_ ?_ k5 (((sm1.trans sm2).trans sm3).trans sm4)
                    · rw [k2, hodd, tv_zero, vals_cons, tv_cons]
                      show (2 : Int) ^ vl e1 + tv (vals r) = -1 - (-(2 ^ vl e1) - tv (vals r)) + 1
                      omega
                    · have : PyData.depthAll B ≤ n + 1 := depthAll_le.mpr fun z hz => by
                        rcases tg.mem z hz with hz | hz
                        · have := dep_mem hz
                          omega
                        · rw [hz]
                          exact depp
                      omega
                    · have h5 := tg.wt
                      have h6 : (n + 1) * wt e1 ≤ (n + 1) * wtAll (e1 :: r) := Nat.mul_le_mul_left _ w1
                      rw [hwt]
                      have h7 : (n + 1 + 1) * (1 + (1 + wtAll (e1 :: r))) = (n + 1) * wtAll (e1 :: r) + wtAll (e1 :: r) + 2 * (n + 2) := by
                        rw [Nat.add_mul, Nat.mul_add, Nat.mul_add]
                        omega
                      omega
              · have pos : ∀ z ∈ e0 :: er, 0 < vl z := fun z hz' => by
                  have h0 := f0.2
                  have : 0 < vl e0 := by unfold vl; omega
                  rcases List.mem_cons.mp hz' with rfl | hz'
                  · exact this
                  · have := hF'.2.1
                    rw [vals_cons] at this
                    have := Asc.lt this (vl z) (by rw [vals_map]; exact List.mem_map.mpr ⟨z, hz', rfl⟩)
                    unfold vl at *
                    omega
                refine ⟨by show 1 ≤ sizeLine; decide, fun t nt => ?_⟩
                have st := sm_upd (o := .tup [.int 0]) nt
                refine ⟨_, rfl, a, .int 1, _, e0 :: er, .int 1, rfl, HX.Same.tup st h1, dpAll_tk (tk_same st) hF'.1 (.cons g1 g2), hF'.1, hF'.2.1, .int 1, (fm_int 1).mpr (by decide), by rw [val_int]; decide, by omega, by rw [depth_int]; omega, by omega, by omega, fun l us' B H3 sl dB tg sm3 => ?_⟩
                obtain ⟨fB, aB⟩ := tg.row hF'.1 hF'.2.1 ((fm_int 1).mpr (by decide)) (by rw [val_int]; decide)
                have hev := tg.even (by unfold vl; rw [val_int]; rfl) pos
                have hlB := tg.len
                have lB := dpAll_len dB
                refine ⟨t, l, _, us', rfl, rfl, .inl (.inl (sm3 _ _ upd_same)), sl, len_le (by rw [List.length_singleton]; omega), fun l4 H4 sm4 sl4 => ?_⟩
                refine ⟨l4, _, .int 0 :: B, rfl, .inr sl4, .cons (.int 0) (dpAll_tk (tk_same sm4) fB dB), fmAll_zero fB, asc_zero aB hev.2, fun v' r' H5 k1 k2 k3 k4 k5 sm5 => ?_⟩
                refine q v' r' H5 k1 ?_ ?_ ?_ k5 (((st.trans sm3).trans sm4).trans sm5)
                · rw [k2, tv_zero, hev.1]
                  omega
                · have : PyData.depthAll (.int 0 :: B) ≤ n + 1 := depthAll_le.mpr fun z hz => by
                    rcases List.mem_cons.mp hz with rfl | hz
                    · rw [depth_int]
                      omega
                    · rcases tg.mem z hz with hz | hz
                      · have := dep_mem hz
                        omega
                      · rw [hz, depth_int]
                        omega
                  omega
                · have h5 := tg.wt
                  rw [wt_int] at h5
                  rw [wtAll_cons, wt_int] at k4
                  have : 1 + wtAll (e0 :: er) ≤ (n + 1 + 1) * (1 + wtAll (e0 :: er)) := Nat.le_mul_of_pos_left _ (by omega)
                  omega
end
end K45
set_option Elab.async false
set_option linter.all false
set_option maxRecDepth 100000
set_option pp.deepTerms false
set_option pp.maxSteps 1500
namespace K45
open PySem PySem.Spec PyProof.Rows L2 HX TV FM DX FB FC PM
local macro_rules | `(tactic| walk_at "r") => `(tactic| (repeat (first | refine Exists.intro _ (And.intro rfl ?_) | refine And.intro rfl ?_ | refine Exists.intro _ (Exists.intro _ (And.intro rfl (And.intro rfl ?_))) | refine And.intro (by omega) ?_ | refine And.intro (Or.inl (And.intro (by omega) (by omega))) ?_ | refine And.intro (Or.inr (And.intro (by omega) (by omega))) ?_ | refine And.intro (And.intro (by omega) (by omega)) ?_ | refine And.intro (And.intro (by decide) (And.intro (by decide) (by decide))) ?_ | refine Or.inl (Exists.intro _ (And.intro rfl ?_)) | (dsimp only [gName]; first | with_reducible refine seqC ?_ | with_reducible refine asgC ?_))))
local macro_rules | `(tactic| walk_at "s") => `(tactic| (repeat (first | refine Exists.intro _ (And.intro rfl ?_) | refine And.intro rfl ?_ | refine Exists.intro _ (Exists.intro _ (And.intro rfl (And.intro rfl ?_))) | refine And.intro (by omega) ?_ | refine And.intro (Or.inl (And.intro (by omega) (by omega))) ?_ | refine And.intro (Or.inr (And.intro (by omega) (by omega))) ?_ | refine And.intro (And.intro (by omega) (by omega)) ?_ | refine And.intro (And.intro (by decide) (And.intro (by decide) (by decide))) ?_ | refine Or.inl (Exists.intro _ (And.intro rfl ?_)) | refine Exists.intro _ (Exists.intro _ (And.intro rfl ?_)) | (dsimp only [gName]; first | with_reducible refine seqC ?_ | with_reducible refine asgC ?_))))
section
variable {P : Program} {w : World} {K : PySem.W.Frag} {mg : Str → Option Value} {base : Heap}
/-- ~x of a form -/
def sp_inv (K : PySem.W.Frag) : Sp := fun vs H Q _ => ∃ (x : V) (d : PyData), vs = [x] ∧ Dp K H x d ∧ Fm d ∧ d.depth ≤ 60 ∧ wt d ≤ 12000000 ∧
  ∀ (v : V) (r : PyData) H', Fm r → val r = -val d - 1 → r.depth ≤ d.depth → wt r ≤ wt d + 1 → Dp K H' v r → Same H H' → Q v H'
theorem ok_inverted (T : Top K mg) {k : Nat} : FnOk P w K mg base CX0 (k + 1) T.f_inverted T.fd_inverted ["x"]  (sp_inv K) := by
  refine T.F_inverted.ok sc_inverted (fun vs H Q E h => ?_) (fun cdv Ar outer s H vs Q E hr h => ?_)
  · obtain ⟨x, d, rfl, _⟩ := h
    rfl
  · obtain ⟨x, d, rfl, hx, hF, hd, hw, q⟩ := h
    refine ⟨_, (pss_cons (ps_if (pt_val (pe_callB call_isi (by rfl) T.m_isinstance (by decide +kernel) (pa_cons (pv 0) (pa_cons (pe_bltn (v := .ty "int") (by rfl) T.m_int (by decide +kernel) rfl) pa_nil))) (fun _ => rfl))
      (pss_one (ps_ret (pe_op op_sub (pe_un un_neg (pv 0)) pe_int)))
      pss_nil)
    (pss_cons (ps_if (pt_cmpR (op_eqD hr.units) (pe_ix ix_tup (pv 0) pe_int (fun _ _ => rfl)) pe_int (nomark _))
      (pss_one (ps_ret (pe_slice sl_tupB (pv 0) (po_some pe_int) po_none)))
      pss_nil)
    (pss_one (ps_ret (pe_op op_catB (pe_tup (pa_cons pe_int pa_nil)) (pv 0)))))), ?_⟩
    rcases fm_cases hF with ⟨i, rfl⟩ | ⟨ds, rfl⟩
    · cases hx
      refine ⟨_, rfl, _, _, _, _, true, rfl, .ty "int", tyI _, k_ii, true, rfl, iteT ?_⟩
      walk_at "r"
      rw [fm_int] at hF
      rw [val_int, wt_int] at q
      exact q _ (.int (-i - 1)) H ((fm_int _).mpr (by omega)) (val_int _) (by rw [depth_int]; omega) (by rw [wt_int]; omega) (.int _) (Same.refl _)
    · have hF' := (fm_tuple _).mp hF
      rw [depth_tuple] at hd q
      rw [val_tuple] at q
      rw [wt_tuple] at q hw
      have hlw := len_wt ds
      cases hx with
      | @tup a xs _ h1 h2 =>
        refine ⟨_, rfl, _, _, _, _, false, rfl, .ty "int", tyT h1, k_ti, false, rfl, iteF ?_⟩
        cases ds with
        | nil => exact absurd rfl (fm_ne hF)
        | cons e0 er =>
          cases h2 with
          | @cons v0 vr _ _ g1 g2 =>
            have f0 := fmAll_mem hF'.1 e0 (by simp)
            have dep0 := dep_mem (ds := e0 :: er) (e := e0) (by simp)
            have lvr := dpAll_len g2
            refine ⟨_, rfl, a, _, _, v0, rfl, rfl, h1, atI_nat (j := 0) rfl, _, .int 0, g1, .int 0, shaped_fm f0.1 (by omega), shaped_fm ((fm_int 0).mpr (by decide)) (by rw [depth_int]; decide), _, rfl, ?_⟩
            rw [eqv_val f0.1 ((fm_int 0).mpr (by decide)), val_int]
            refine ifD (fun hz => ?_) (fun hz => ?_)
            · have e00 : e0 = .int 0 := fm_inj f0.1 ((fm_int 0).mpr (by decide)) (by rw [val_int]; exact hz)
              subst e00
              have fr := ((fmAll_cons _ _).mp hF'.1).2.2
              have ar : Asc (vals er) := by
                have := hF'.2.1
                rw [vals_cons] at this
                exact this.tail
              have fe : Fm (.tuple er) := by
                rw [fm_tuple]
                refine ⟨fr, ar, ?_⟩
                obtain ⟨t, ht, h64⟩ := hF'.2.2
                rw [vals_cons, val_int] at ht
                rcases List.mem_cons.mp ht with z | ht
                · simp at z
                  omega
                · exact ⟨t, ht, h64⟩
              refine ⟨_, rfl, _, rfl, a, _, rfl, h1, fun l1 H1 sm1 sl1 => ?_⟩
              rw [show (1 : Int) = ((1 : Nat) : Int) from rfl, cut_from] at sl1
              refine q _ (.tuple er) H1 fe ?_ ?_ ?_ (.tup sl1 (dpAll_tk (tk_same sm1) fr g2)) sm1
              · rw [val_tuple, tv_zero]
                omega
              · rw [depth_tuple, depthAll_cons, depth_int]
                omega
              · rw [wt_tuple, wtAll_cons, wt_int]
                omega
            · have pos : ∀ z ∈ e0 :: er, 0 < vl z := fun z hz' => by
                have h0 := f0.2
                have : 0 < vl e0 := by unfold vl; omega
                rcases List.mem_cons.mp hz' with rfl | hz'
                · exact this
                · have := hF'.2.1
                  rw [vals_cons] at this
                  have := Asc.lt this (vl z) (by rw [vals_map]; exact List.mem_map.mpr ⟨z, hz', rfl⟩)
                  unfold vl at *
                  omega
              refine ⟨by show 1 ≤ sizeLine; decide, fun t nt => ?_⟩
              have st := sm_upd (o := .tup [.int 0]) nt
              refine ⟨_, rfl, t, a, _, _, rfl, rfl, .inl (.inl upd_same), HX.Same.tup st h1, len_le (by rw [List.length_cons] at hlw; rw [List.length_singleton, List.length_cons]; omega), fun l4 H4 sm4 sl4 => ?_⟩
              refine q _ (.tuple (.int 0 :: e0 :: er)) H4 ?_ ?_ ?_ ?_ (.tup sl4 (.cons (.int 0) (dpAll_tk (tk_same (st.trans sm4)) hF'.1 (.cons g1 g2)))) (st.trans sm4)
              · rw [fm_tuple]
                obtain ⟨t, ht, h64⟩ := hF'.2.2
                exact ⟨fmAll_zero hF'.1, asc_zero hF'.2.1 pos, t, by rw [vals_cons]; simp [ht], h64⟩
              · rw [val_tuple, tv_zero]
                omega
              · rw [depth_tuple, depthAll_cons (.int 0), depth_int]
                omega
              · rw [wt_tuple, wtAll_cons (.int 0), wt_int]
                omega
def sp_ngt (K : PySem.W.Frag) (n : Nat) : Sp := fun vs H Q _ => ∃ (x : V) (d : PyData), vs = [x] ∧ Dp K H x d ∧ Fm d ∧ d.depth ≤ n ∧ n ≤ 50 ∧ wt d ≤ 900000 ∧
  ∀ (v : V) (r : PyData) H', Fm r → val r = -val d → r.depth ≤ n + 1 → wt r ≤ (n + 1) * (wt d + 1) + 4 → Dp K H' v r → Same H H' → Q v H'
end
end K45
set_option Elab.async false
set_option linter.all false
set_option maxRecDepth 100000
set_option pp.deepTerms false
set_option pp.maxSteps 1500
namespace K45
open PySem PySem.Spec PyProof.Rows L2 HX TV FM DX FB FC PM
local macro_rules | `(tactic| walk_at "r") => `(tactic| (repeat (first | refine Exists.intro _ (And.intro rfl ?_) | refine And.intro rfl ?_ | refine Exists.intro _ (Exists.intro _ (And.intro rfl (And.intro rfl ?_))) | refine And.intro (by omega) ?_ | refine And.intro (Or.inl (And.intro (by omega) (by omega))) ?_ | refine And.intro (Or.inr (And.intro (by omega) (by omega))) ?_ | refine And.intro (And.intro (by omega) (by omega)) ?_ | refine And.intro (And.intro (by decide) (And.intro (by decide) (by decide))) ?_ | refine Or.inl (Exists.intro _ (And.intro rfl ?_)) | (dsimp only [gName]; first | with_reducible refine seqC ?_ | with_reducible refine asgC ?_))))
local macro_rules | `(tactic| walk_at "s") => `(tactic| (repeat (first | refine Exists.intro _ (And.intro rfl ?_) | refine And.intro rfl ?_ | refine Exists.intro _ (Exists.intro _ (And.intro rfl (And.intro rfl ?_))) | refine And.intro (by omega) ?_ | refine And.intro (Or.inl (And.intro (by omega) (by omega))) ?_ | refine And.intro (Or.inr (And.intro (by omega) (by omega))) ?_ | refine And.intro (And.intro (by omega) (by omega)) ?_ | refine And.intro (And.intro (by decide) (And.intro (by decide) (by decide))) ?_ | refine Or.inl (Exists.intro _ (And.intro rfl ?_)) | refine Exists.intro _ (Exists.intro _ (And.intro rfl ?_)) | (dsimp only [gName]; first | with_reducible refine seqC ?_ | with_reducible refine asgC ?_))))
section
variable {P : Program} {w : World} {K : PySem.W.Frag} {mg : Str → Option Value} {base : Heap}
/-- x + y + carry -/
def sp_tot (K : PySem.W.Frag) (n : Nat) : Sp := fun vs H Q _ => ∃ (x y : V) (d e : PyData) (c : Nat), vs = [x, y, .int (c : Nat)] ∧ c ≤ 1 ∧ Dp K H x d ∧ Dp K H y e ∧ Fm d ∧ Fm e ∧ d.depth ≤ n + 1 ∧ e.depth ≤ n + 1 ∧ n ≤ 40 ∧ wt d + wt e ≤ 7900000 ∧
  ∀ (v : V) (r : PyData) H', Fm r → val r = val d + val e + c → r.depth ≤ n + 2 → wt r ≤ (n + 6) * (wt d + wt e + 140) → Dp K H' v r → Same H H' → Q v H'
theorem fm_row0 : Fm (.int 0) := (fm_int 0).mpr (by decide)
theorem ok_total (T : Top K mg) (n : Nat) : FnOk P w K mg base CX0 (n + 6) T.f_total T.fd_total ["x", "y", "carry"]  (sp_tot K n) := by
  have G_merged : FnOk P w K mg base CX0 (n + 4) T.f_merged T.fd_merged ["ours", "theirs"]  (sp_mrg K n) := ok_merged T n
  have G_plus_one : FnOk P w K mg base CX0 (n + 5) T.f_plus_one T.fd_plus_one ["x"]  (sp_p1 K n) := ok_plus_one T n
  have G_turns : FnOk P w K mg base CX0 (2) T.f_turns T.fd_turns ["x"]  (sp_trn K) := ok_turns T
  have G_made : FnOk P w K mg base CX0 (1) T.f_made T.fd_made ["found"]  (sp_made K) := ok_made T
  have G_of_int : FnOk P w K mg base CX0 (2) T.f_of_int T.fd_of_int ["number"]  (sp_ofint K) := ok_of_int T
  refine T.F_total.ok sc_total (fun vs H Q E h => ?_) (fun cdv Ar outer s H vs Q E hr h => ?_)
  · obtain ⟨x, y, d, e, c, rfl, _⟩ := h
    rfl
  · obtain ⟨x, y, d, e, c, rfl, hc, hx, hy, hd, he, hdd, hde, hn, hw, q⟩ := h
    refine ⟨_, (pss_cons (ps_if (PW.pt (pw_and (pt_val (pe_callB call_isi (by rfl) T.m_isinstance (by decide +kernel) (pa_cons (pv 0) (pa_cons (pe_bltn (v := .ty "int") (by rfl) T.m_int (by decide +kernel) rfl) pa_nil))) (fun _ => rfl)) (pw_and1 (pt_val (pe_callB call_isi (by rfl) T.m_isinstance (by decide +kernel) (pa_cons (pv 1) (pa_cons (pe_bltn (v := .ty "int") (by rfl) T.m_int (by decide +kernel) rfl) pa_nil))) (fun _ => rfl)))))
      (pss_one (ps_ret (pe_call G_of_int (hr.mono (by omega)) (by rfl) T.g_of_int T.F_of_int.kp T.b_of_int .nil pass0 (pa_cons (pe_op op_add (pe_op op_add (pv 0) (pv 1)) (pv 2)) pa_nil))))
      pss_nil)
    (pss_cons (ps_set (i := 3) sc_total.nd rfl (Or.inl rfl) (pe_call G_merged (hr.mono (by omega)) (by rfl) T.g_merged T.F_merged.kp T.b_merged .nil pass0 (pa_cons (pe_call G_turns (hr.mono (by omega)) (by rfl) T.g_turns T.F_turns.kp T.b_turns .nil pass0 (pa_cons (pv 0) pa_nil)) (pa_cons (pe_call G_turns (hr.mono (by omega)) (by rfl) T.g_turns T.F_turns.kp T.b_turns .nil pass0 (pa_cons (pv 1) pa_nil)) pa_nil))))
    (pss_cons (ps_if (PW.pt (pw_and (pt_cmpR op_eq (pv 2) pe_int (nomark _)) (pw_and1 (pt_cmpR (op_neD hr.units) (pe_ix ix_tup (pe_ix ix_list (pv 3) pe_int (fun _ _ => rfl)) pe_int (fun _ _ => rfl)) pe_int (nomark _)))))
      (pss_one (ps_set (i := 3) sc_total.nd rfl (Or.inl rfl) (pe_op op_cat (pe_lst (pa_cons (pe_tup (pa_cons pe_int (pa_cons pe_int (pa_cons pe_int pa_nil)))) pa_nil)) (pv 3))))
      pss_nil)
    (pss_cons (ps_set (i := 4) sc_total.nd rfl (Or.inl rfl) (pe_lst pa_nil))
    (pss_cons (ps_set (i := 5) sc_total.nd rfl (Or.inl rfl) pe_int)
    (pss_cons (ps_set (i := 6) sc_total.nd rfl (Or.inl rfl) pe_int)
    (pss_cons (ps_set (i := 7) sc_total.nd rfl (Or.inl rfl) pe_int)
    (pss_cons (ps_for PassesOwn.never rfl (pi_enum (by rfl) T.m_enumerate (pa_cons (pv 3) pa_nil)) (pg_tup rfl (pgs_cons (pg_name (i := 8) sc_total.nd rfl (Or.inl rfl)) (pgs_cons (pg_tup rfl (pgs_cons (pg_name (i := 9) sc_total.nd rfl (Or.inl rfl)) (pgs_cons (pg_name (i := 10) sc_total.nd rfl (Or.inl rfl)) (pgs_cons (pg_name (i := 11) sc_total.nd rfl (Or.inl rfl)) pgs_nil)))) pgs_nil)))
      (pss_cons (ps_set (i := 5) sc_total.nd rfl (Or.inl rfl) (pe_op op_xor (pv 5) (pv 10)))
      (pss_cons (ps_set (i := 6) sc_total.nd rfl (Or.inl rfl) (pe_op op_xor (pv 6) (pv 11)))
      (pss_cons (ps_set (i := 12) sc_total.nd rfl (Or.inl rfl) (pe_op op_and (pe_op op_add (pe_op op_add (pv 5) (pv 6)) (pv 2)) pe_int))
      (pss_cons (ps_set (i := 2) sc_total.nd rfl (Or.inl rfl) (pe_op op_shr (pe_op op_add (pe_op op_add (pv 5) (pv 6)) (pv 2)) pe_int))
      (pss_cons (ps_if (pt_cmpR op_ne (pv 12) (pv 7) (nomark _))
        (pss_one (ps_expr (pe_bm PySem.F.plainAttrs_list PySem.F.slot_list_append PySem.F.type_list_append mt_append (pv 4) (pa_cons (pv 9) pa_nil))))
        pss_nil)
      (pss_cons (ps_set (i := 7) sc_total.nd rfl (Or.inl rfl) (pv 12))
      (pss_cons (ps_set (i := 13) sc_total.nd rfl (Or.inl rfl) (pe_op op_and (pe_op op_add (pe_op op_add (pv 5) (pv 6)) (pv 2)) pe_int))
      (pss_one (ps_if (pt_cmpR op_ne (pv 13) (pv 12) (nomark _))
        (pss_cons (ps_set (i := 14) sc_total.nd rfl (Or.inl rfl) (pe_call G_plus_one (hr.mono (by omega)) (by rfl) T.g_plus_one T.F_plus_one.kp T.b_plus_one .nil pass0 (pa_cons (pv 9) pa_nil)))
        (pss_one (ps_if (PW.pt (pw_or (pt_cmpR op_eq (pe_op op_add (pv 8) pe_int) (pe_callB call_len_seq (by rfl) T.m_len PySem.boot_len (pa_cons (pv 3) pa_nil)) (nomark _)) (pw_or1 (pt_cmpR (op_neD hr.units) (pe_ix ix_tup (pe_ix ix_list (pv 3) (pe_op op_add (pv 8) pe_int) (fun _ _ => rfl)) pe_int (fun _ _ => rfl)) (pv 14) (nomark _)))))
          (pss_cons (ps_expr (pe_bm PySem.F.plainAttrs_list PySem.F.slot_list_append PySem.F.type_list_append mt_append (pv 4) (pa_cons (pv 14) pa_nil)))
          (pss_one (ps_set (i := 7) sc_total.nd rfl (Or.inl rfl) (pv 13))))
          pss_nil)))
        pss_nil))))))))))
    (pss_one (ps_ret (pe_call G_made (hr.mono (by omega)) (by rfl) T.g_made T.F_made.kp T.b_made .nil pass0 (pa_cons (pv 4) pa_nil)))))))))))), ?_⟩
    refine ⟨_, rfl, _, _, _, _, isI d, rfl, .ty "int", ty_f hx hd, kit_fi hd, _, rfl, ?_⟩
    by_cases hii : isI d = true ∧ isI e = true
    · obtain ⟨i, rfl⟩ := fm_isI hd hii.1
      obtain ⟨j, rfl⟩ := fm_isI he hii.2
      cases hx
      cases hy
      refine iteT ⟨_, rfl, _, _, _, _, true, rfl, .ty "int", tyI _, k_ii, true, rfl, iteT ?_⟩
      rw [fm_int] at hd he
      rw [val_int, val_int, wt_int, wt_int] at q
      walk_at "r"
      refine ⟨_, 66, rfl, by decide, by omega, by omega, fun v r H' k1 k2 k3 k4 k5 sm => ?_⟩
      exact q v r H' k1 k2 (by omega) (by omega) k5 sm
    refine ifB ?_ (fun h1 rest => ?_)
    case refine_2 =>
      refine ⟨_, rfl, _, _, _, _, isI e, rfl, .ty "int", ty_f hy he, kit_fi he, _, rfl, ifBD (fun h2 => absurd ⟨h1, h2⟩ hii) (fun h2 => rest)⟩
    refine ⟨_, rfl, x, d, rfl, hx, hd, fun aO uO A H1 fA hA vA sO dO depA wA iA sm1 => ?_⟩
    refine ⟨_, rfl, y, e, rfl, dp_tk (tk_same sm1) he hy, he, fun aT uT B H2 fB hB vB sT dT depB wB iB sm2 => ?_⟩
    have lwA := len_wt A
    have lwB := len_wt B
    refine ⟨aO, aT, uO, uT, A, B, rfl, HX.Same.tup sm2 sO, sT, dpAll_tk (tk_same sm2) fA dO, dT, fA, fB, hA, hB, by omega, by omega, by omega, by omega, fun lr us R H3 nlr hlr hD M hR sm3 => ?_⟩
    have sm03 := (sm1.trans sm2).trans sm3
    have Rne : R ≠ [] := fun z => by
      have a0 : A = [] := by rw [← M.a, z]; rfl
      have b0 : B = [] := by rw [← M.b, z]; rfl
      have zero : ∀ {f : PyData}, Fm f → val f = 0 → isI f = true := fun {f} hf hv => by
        rw [fm_plain hf (by omega) (by omega)]
        rfl
      refine hii ⟨zero hd ?_, zero he ?_⟩
      · rw [← vA, a0, vals_nil, tv_nil]
      · rw [← vB, b0, vals_nil, tv_nil]
    obtain ⟨r, Rr, eR⟩ : ∃ r Rr, R = r :: Rr := by
      cases R with
      | nil => exact absurd rfl Rne
      | cons r Rr => exact ⟨r, Rr, rfl⟩
    have hr0 : R[0]? = some r := by rw [eR]; rfl
    have fr := fmAll_mem M.fm r.1 (by rw [eR]; simp [pR])
    have imR := im_rows M.fm
    dsimp only [gName]
    refine cut (fun σ H4 => ∃ (l : Addr) (us' : List V) (R' : List PM.Row), σ = [some x, some y, some (.int (c : Nat)), some (.ref l), none, none, none, none, none, none, none, none, none, none, none] ∧
      H4 l = some (.lst us') ∧ DpAll K H4 us' (R'.map rowD) ∧ Rs A B R' c ∧ Same H H4) (fun D J => ?_) ?_
    · have stay : (c = 1 → val r.1 = 0) → D.nx [some x, some y, some (.int (c : Nat)), some (.ref lr), none, none, none, none, none, none, none, none, none, none, none] H3 := fun h0 =>
        J.nx _ _ ⟨lr, us, R, rfl, hlr, hD, M.rs hR fun z => ⟨by
          rw [nxt_some hr0]
          unfold vl
          rw [h0 z]
          rfl, by rw [eR]; simp⟩, sm03⟩
      refine ⟨_, rfl, rfl, _, rfl, ?_⟩
      refine ifE (fun hc1 => ?_) (fun hc1 => iteF (stay (fun z => absurd (by rw [z]; rfl) hc1)))
      have hc1 : c = 1 := by omega
      obtain ⟨v0, hv0, hv0'⟩ := dpAll_at (d := rowD r) (i := 0) hD (by rw [List.getElem?_map, hr0]; rfl)
      cases hv0' with
      | @tup T0 xs0 _ g1 g2 =>
        cases g2 with
        | @cons vp _ _ _ g2 g3 =>
          refine ⟨_, rfl, lr, us, _, _, rfl, rfl, .inl (.inl hlr), atI_nat (j := 0) hv0, T0, _, _, vp, rfl, rfl, g1, atI_nat (j := 0) rfl, _, .int 0, g2, .int 0, ?_, shaped_fm fm_row0 (by rw [depth_int]; decide), _, rfl, ?_⟩
          · refine shaped_fm fr.1 ?_
            rcases M.mem r.1 (by rw [eR]; simp [pR]) with z | z
            · have := dep_mem z
              omega
            · have := dep_mem z
              omega
          rw [eqv_val fr.1 fm_row0, val_int]
          refine ifN (fun h0 => ?_) (fun h0 => stay fun _ => h0)
          refine ⟨by show 3 ≤ sizeLine; decide, fun t nt => ?_⟩
          have s5 := sm_upd (o := .tup [.int 0, .int 0, .int 0]) nt
          refine ⟨by show 1 ≤ sizeLine; decide, fun l1 nl1 => ?_⟩
          have s6 := sm_upd (o := .lst [.ref t]) nl1
          have s56 := s5.trans s6
          refine ⟨_, rfl, l1, lr, _, _, rfl, rfl, upd_same, s56 _ _ hlr, ?_, fun l2 nl2 => ?_⟩
          · have := dpAll_len hD
            rw [List.length_map] at this
            exact len_le (by rw [List.length_singleton]; omega)
          have s7 := sm_upd (o := .lst ([.ref t] ++ us)) nl2
          have s57 := s56.trans s7
          dsimp only [gName]
          refine J.nx _ _ ⟨l2, [.ref t] ++ us, (.int 0, false, false) :: R, rfl, upd_same, ?_, M.rs0 hR hr0 h0, sm03.trans s57⟩
          refine .cons (.tup (.inl (.inl ((s6.trans s7) _ _ upd_same))) (.cons (.int 0) (.cons (.int 0) (.cons (.int 0) .nil)))) (dpAll_im (tk_same s57) imR hD)
    · rintro σ H4 ⟨l, us', R', rfl, hl, hD', S, sm4⟩
      have imS := im_rows S.fm
      refine ⟨Nat.zero_le _, fun lf nlf => ?_⟩
      walk_at "r"
      have s5 := sm_upd (o := .lst []) nlf
      have hlf := upd_at (o := .lst []) nlf
      have sm5 := sm4.trans s5
      have lne : l ≠ lf := ne_of_none hl nlf
      have nf : H lf = none := by
        cases z : H lf with
        | none => rfl
        | some o => rw [sm4 _ _ z] at nlf; cases nlf
      replace hl := s5 _ _ hl
      replace hD' := dpAll_im (tk_same s5) imS hD'
      revert hlf sm5 hl hD'
      generalize upd H4 lf (.lst []) = H5
      intro hlf sm5 hl hD'
      have mu : Mut (H5 lf) := by
        rw [hlf]
        trivial
      have lus := dpAll_len hD'
      rw [List.length_map] at lus
      refine ⟨l, us', rfl, .inl (.inl hl), flE (xs := us') (fun i σ H' => ∃ (o t k b : Nat) (z8 z9 z10 z11 z12 z13 z14 : Option V) (uf : List V) (F : List PyData), σ = [some x, some y, some (.int (k : Nat)), some (.ref l), some (.ref lf), some (.int (o : Nat)), some (.int (t : Nat)), some (.int (b : Nat)), z8, z9, z10, z11, z12, z13, z14] ∧
        Ad R' i c F o t k b ∧ H' lf = some (.lst uf) ∧ DpAll K H' uf F ∧ But lf H5 H' ∧ wtAll F ≤ (n + 6) * wtAll (pR (R'.take i)) ∧ PyData.depthAll F ≤ n + 1)
        ⟨0, 0, c, 0, none, none, none, none, none, none, none, [], [], rfl, .start hc S.st, hlf, .nil, But.refl _, by rw [wtAll_nil]; exact Nat.zero_le _, by rw [depthAll_nil]; exact Nat.zero_le _⟩ ?_ ?_ ?_⟩
      · rintro i σ H' _ ⟨o, t, k, b, z8, z9, z10, z11, z12, z13, z14, uf, F, _, _, _, _, bt, _⟩
        exact .inl (.inl (bt _ _ lne hl))
      · rintro i v σ H' hv ⟨o, t, k, b, z8, z9, z10, z11, z12, z13, z14, uf, F, rfl, Sd, hlf', hF, bt, hwF, hdF⟩ Tt nT D' B'
        obtain ⟨d', hd', hv'⟩ := dpAll_get hD' hv
        rw [List.getElem?_map] at hd'
        cases er : R'[i]? with
        | none =>
          rw [er] at hd'
          cases hd'
        | some r =>
        rw [er] at hd'
        cases hd'
        obtain ⟨p, m, n'⟩ := r
        have hi := (List.getElem?_eq_some_iff.mp er).1
        have pm : p ∈ pR R' := List.mem_map.mpr ⟨_, List.mem_of_getElem? er, rfl⟩
        have fp := fmAll_mem S.fm p pm
        have wp := wt_mem pm
        have depp : p.depth ≤ n := by
          rcases S.mem p pm with z | z | z
          · have := dep_mem z
            omega
          · have := dep_mem z
            omega
          · rw [z, depth_int]
            exact Nat.zero_le _
        have tk : Tk H5 H' := tk_but bt mu
        have sT := sm_upd (o := .tup [.int (i : Nat), v]) nT
        have hv2 := dp_im (tk.trans (tk_same sT)) (im_row (r := (p, m, n')) fp.1) hv'
        cases hv2 with
        | @tup Tr xr _ h1 h2 =>
        cases h2 with
        | @cons vp _ _ _ gp g2 =>
        cases g2 with
        | cons g2 g3 =>
        cases g2
        cases g3 with
        | cons g3 g4 =>
        cases g3
        cases g4
        refine ⟨Tt, _, rfl, .inl (.inl upd_same), rfl, _, _, rfl, _, _, rfl, Tr, _, rfl, h1, rfl, _, _, rfl, _, _, rfl, _, _, rfl, rfl, rfl, ?_⟩
        replace hlf' := sT _ _ hlf'
        replace hF := dpAll_tk (tk_same sT) Sd.fm hF
        replace bt := bt.trans (But.of sT)
        revert hlf' hF bt gp
        generalize upd H' Tt (.tup [.int (i : Nat), .ref Tr]) = H7
        intro gp hlf' hF bt
        have ho1 : o ≤ 1 := by have := Sd.po; omega
        have ht1 : t ≤ 1 := by have := Sd.pt; omega
        obtain ⟨o', eo⟩ : ∃ o', o' = (o + bn m) % 2 := ⟨_, rfl⟩
        obtain ⟨t', et⟩ : ∃ t', t' = (t + bn n') % 2 := ⟨_, rfl⟩
        obtain ⟨h, e1⟩ : ∃ h, h = (o' + t' + k) % 2 := ⟨_, rfl⟩
        obtain ⟨k', e2⟩ : ∃ k', k' = (o' + t' + k) / 2 := ⟨_, rfl⟩
        obtain ⟨r', e3⟩ : ∃ r', r' = (o' + t' + k') % 2 := ⟨_, rfl⟩
        refine cut (fun σ H2 => H7 = H2 ∧ σ = [some x, some y, some (.int (k : Nat)), some (.ref l), some (.ref lf), some (.int (o' : Nat)), some (.int (t : Nat)), some (.int (b : Nat)), some (.int (i : Nat)), some vp, some (.int (bi m)), some (.int (bi n')), z12, z13, z14]) (fun D J => ?_) ?_
        · walk_at "r"
          refine J.nx _ _ ⟨rfl, ?_⟩
          rw [eo, ← xor_n ho1]
          rfl
        rintro _ _ ⟨rfl, rfl⟩
        refine cut (fun σ H2 => H7 = H2 ∧ σ = [some x, some y, some (.int (k : Nat)), some (.ref l), some (.ref lf), some (.int (o' : Nat)), some (.int (t' : Nat)), some (.int (b : Nat)), some (.int (i : Nat)), some vp, some (.int (bi m)), some (.int (bi n')), z12, z13, z14]) (fun D J => ?_) ?_
        · walk_at "r"
          refine J.nx _ _ ⟨rfl, ?_⟩
          rw [et, ← xor_n ht1]
          rfl
        rintro _ _ ⟨rfl, rfl⟩
        refine cut (fun σ H2 => H7 = H2 ∧ σ = [some x, some y, some (.int (k : Nat)), some (.ref l), some (.ref lf), some (.int (o' : Nat)), some (.int (t' : Nat)), some (.int (b : Nat)), some (.int (i : Nat)), some vp, some (.int (bi m)), some (.int (bi n')), some (.int (h : Nat)), z13, z14]) (fun D J => ?_) ?_
        · walk_at "r"
          refine J.nx _ _ ⟨rfl, ?_⟩
          rw [e1, ← and_n]
          rfl
        rintro _ _ ⟨rfl, rfl⟩
        refine cut (fun σ H2 => H7 = H2 ∧ σ = [some x, some y, some (.int (k' : Nat)), some (.ref l), some (.ref lf), some (.int (o' : Nat)), some (.int (t' : Nat)), some (.int (b : Nat)), some (.int (i : Nat)), some vp, some (.int (bi m)), some (.int (bi n')), some (.int (h : Nat)), z13, z14]) (fun D J => ?_) ?_
        · walk_at "r"
          refine J.nx _ _ ⟨rfl, ?_⟩
          rw [e2]
          rfl
        rintro _ _ ⟨rfl, rfl⟩
        obtain ⟨F1, eF1⟩ : ∃ F1, F1 = if h = b then F else F ++ [p] := ⟨_, rfl⟩
        have St := Sd.step S.asc S.fm er eo et e1 e2 e3 eF1
        have lenF := dpAll_len hF
        have hln := Sd.ln
        have hln2 := S.ln
        have hwR := S.wt
        have fF1 : FmAll F1 := by
          rw [eF1]
          split
          · exact Sd.fm
          · exact fmAll_snoc Sd.fm fp.1 fp.2
        have wF1 : wtAll F1 ≤ (n + 6) * wtAll (pR (R'.take i)) + wt p := by
          rw [eF1]
          split
          · omega
          · rw [wtAll_app, wtAll_cons, wtAll_nil]
            omega
        have dF1 : PyData.depthAll F1 ≤ n + 1 := by
          rw [eF1]
          split
          · exact hdF
          · refine depthAll_le.mpr fun z hz => ?_
            rcases List.mem_append.mp hz with hz | hz
            · have := dep_mem hz
              omega
            · rw [List.mem_singleton.mp hz]
              omega
        have tkw : wtAll (pR (R'.take (i + 1))) = wtAll (pR (R'.take i)) + wt p := by
          rw [List.take_add_one, er, pR_app, wtAll_app]
          show _ + wtAll [p] = _
          rw [wtAll_cons, wtAll_nil]
          omega
        have mulw : (n + 6) * wtAll (pR (R'.take (i + 1))) = (n + 6) * wtAll (pR (R'.take i)) + (n + 6) * wt p := by rw [tkw, Nat.mul_add]
        have wpp := wt_pos p
        have six : (n + 6) * wt p = (n + 1) * wt p + 5 * wt p := by rw [← Nat.add_mul]
        refine cut (fun σ H2 => ∃ uf1 : List V, σ = [some x, some y, some (.int (k' : Nat)), some (.ref l), some (.ref lf), some (.int (o' : Nat)), some (.int (t' : Nat)), some (.int (b : Nat)), some (.int (i : Nat)), some vp, some (.int (bi m)), some (.int (bi n')), some (.int (h : Nat)), z13, z14] ∧ H2 lf = some (.lst uf1) ∧ DpAll K H2 uf1 F1 ∧ But lf H5 H2 ∧ Dp K H2 vp p) (fun D J => ?_) ?_
        · walk_at "r"
          refine ifNE (fun hc => ?_) (fun hc => ?_)
          · have hne : h ≠ b := by omega
            refine ⟨_, rfl, .inl ⟨rfl, _, .inl (.inl hlf')⟩, _, rfl, lf, uf, _, rfl, rfl, hlf', len_lt (by omega), ?_⟩
            have mu' : Mut (H7 lf) := by
              rw [hlf']
              trivial
            have tk2 : Tk H7 (upd H7 lf (.lst (uf ++ [vp]))) := tk_mut mu'
            refine J.nx _ _ ⟨uf ++ [vp], rfl, upd_same, ?_, bt.upd, dp_tk tk2 fp.1 gp⟩
            rw [eF1, if_neg hne]
            exact dpAll_app (dpAll_tk tk2 Sd.fm hF) (.cons (dp_tk tk2 fp.1 gp) .nil)
          · have hne : h = b := by omega
            refine J.nx _ _ ⟨uf, rfl, hlf', ?_, bt, gp⟩
            rw [eF1, if_pos hne]
            exact hF
        rintro σ H8 ⟨uf1, rfl, hlf1, hF1, bt1, gp1⟩
        refine cut (fun σ H2 => H8 = H2 ∧ σ = [some x, some y, some (.int (k' : Nat)), some (.ref l), some (.ref lf), some (.int (o' : Nat)), some (.int (t' : Nat)), some (.int (h : Nat)), some (.int (i : Nat)), some vp, some (.int (bi m)), some (.int (bi n')), some (.int (h : Nat)), z13, z14]) (fun D J => ?_) ?_
        · walk_at "r"
          exact J.nx _ _ ⟨rfl, rfl⟩
        rintro _ _ ⟨rfl, rfl⟩
        refine cut (fun σ H2 => H8 = H2 ∧ σ = [some x, some y, some (.int (k' : Nat)), some (.ref l), some (.ref lf), some (.int (o' : Nat)), some (.int (t' : Nat)), some (.int (h : Nat)), some (.int (i : Nat)), some vp, some (.int (bi m)), some (.int (bi n')), some (.int (h : Nat)), some (.int (r' : Nat)), z14]) (fun D J => ?_) ?_
        · walk_at "r"
          refine J.nx _ _ ⟨rfl, ?_⟩
          rw [e3, ← and_n]
          rfl
        rintro _ _ ⟨rfl, rfl⟩
        walk_at "r"
        refine ifNE (fun hc => ?_) (fun hc => ?_)
        case refine_2 =>
          have hrh : r' = h := by omega
          refine B'.nx _ _ ⟨o', t', k', h, _, _, _, _, _, _, _, uf1, F1, rfl, St.1 hrh, hlf1, hF1, bt1, ?_, dF1⟩
          omega
        have hrh : r' ≠ h := by omega
        refine ⟨_, rfl, vp, p, rfl, gp1, fp.1, depp, by omega, by omega, fun vf f H9 ff vvf depf wf dpf sm9 => ?_⟩
        dsimp only [gName]
        have hlf9 := sm9 _ _ hlf1
        have hF9 := dpAll_tk (tk_same sm9) fF1 hF1
        have bt9 := bt1.trans (But.of sm9)
        have hl9 := bt9 _ _ lne hl
        have vlf : vl f = vl p + 1 := by
          have := fp.2
          unfold vl
          omega
        have lenF1 := dpAll_len hF9
        have add : (i + 1 = R'.length ∨ ∃ s, R'[i + 1]? = some s ∧ vl s.1 ≠ vl f) → ∀ D : Ends, (∀ σ' H'', (∃ (o t k b : Nat) (z8 z9 z10 z11 z12 z13 z14 : Option V) (uf : List V) (F : List PyData), σ' = [some x, some y, some (.int (k : Nat)), some (.ref l), some (.ref lf), some (.int (o : Nat)), some (.int (t : Nat)), some (.int (b : Nat)), z8, z9, z10, z11, z12, z13, z14] ∧
            Ad R' (i + 1) c F o t k b ∧ H'' lf = some (.lst uf) ∧ DpAll K H'' uf F ∧ But lf H5 H'' ∧ wtAll F ≤ (n + 6) * wtAll (pR (R'.take (i + 1))) ∧ PyData.depthAll F ≤ n + 1) → D.nx σ' H'') → ∀ z13 z14,
            D.nx [some x, some y, some (.int (k' : Nat)), some (.ref l), some (.ref lf), some (.int (o' : Nat)), some (.int (t' : Nat)), some (.int (r' : Nat)), some (.int (i : Nat)), some vp, some (.int (bi m)), some (.int (bi n')), some (.int (h : Nat)), z13, z14] (upd H9 lf (.lst (uf1 ++ [vf]))) := fun hn2 D hD z13 z14 => by
          have mu' : Mut (H9 lf) := by
            rw [hlf9]
            trivial
          have tk2 : Tk H9 (upd H9 lf (.lst (uf1 ++ [vf]))) := tk_mut mu'
          refine hD _ _ ⟨o', t', k', r', _, _, _, _, _, _, _, uf1 ++ [vf], F1 ++ [f], rfl, St.2.1 hrh f ff vvf hn2, upd_same, dpAll_app (dpAll_tk tk2 fF1 hF9) (.cons (dp_tk tk2 ff dpf) .nil), bt9.upd, ?_, ?_⟩
          · clear hn2
            rw [wtAll_app, wtAll_cons, wtAll_nil]
            omega
          · refine depthAll_le.mpr fun z hz => ?_
            rcases List.mem_append.mp hz with hz | hz
            · have := dep_mem hz
              omega
            · rw [List.mem_singleton.mp hz]
              exact depf
        have szl : uf1.length < sizeLine := by
          refine len_lt ?_
          have : F1.length ≤ F.length + 1 := by
            rw [eF1]
            split
            · omega
            · rw [List.length_append, List.length_singleton]
              exact Nat.le_refl _
          omega
        refine ⟨_, rfl, _, _, rfl, rfl, _, rfl, l, us', rfl, .inl (.inl (.inl hl9)), rfl, _, rfl, ?_⟩
        rw [lus]
        by_cases hlast : i + 1 = R'.length
        · refine ifE (fun _ => iteT ?_) (fun z => absurd (by omega) z)
          refine ⟨_, rfl, .inl ⟨rfl, _, .inl (.inl hlf9)⟩, _, rfl, lf, uf1, _, rfl, rfl, hlf9, szl, ?_⟩
          walk_at "r"
          exact add (.inl hlast) D' (fun σ' H'' z => B'.nx σ' H'' z) _ _
        · refine ifE (fun z => absurd (by omega) hlast) (fun _ => ?_)
          obtain ⟨s', hs'⟩ : ∃ s', R'[i + 1]? = some s' := ⟨R'[i + 1]'(by omega), by simp [show i + 1 < R'.length by omega]⟩
          have sm' : s'.1 ∈ pR R' := List.mem_map.mpr ⟨_, List.mem_of_getElem? hs', rfl⟩
          have fs' := fmAll_mem S.fm s'.1 sm'
          have deps : s'.1.depth ≤ n := by
            rcases S.mem s'.1 sm' with z | z | z
            · have := dep_mem z
              omega
            · have := dep_mem z
              omega
            · rw [z, depth_int]
              exact Nat.zero_le _
          have tk9 : Tk H5 H9 := tk_but bt9 mu
          obtain ⟨v9, hv9, hv9'⟩ := dpAll_at (d := rowD s') (i := i + 1) (dpAll_im tk9 imS hD') (by rw [List.getElem?_map, hs']; rfl)
          cases hv9' with
          | @tup T9 x9 _ g1 g2 =>
          cases g2 with
          | @cons v10 _ _ _ g2 g3 =>
          refine ⟨_, rfl, _, rfl, _, _, rfl, rfl, l, us', _, _, rfl, rfl, .inl (.inl hl9), atI_at (n := i + 1) hv9 (by omega), T9, _, _, v10, rfl, rfl, g1, atI_nat (j := 0) rfl, _, rfl, _, _, g2, dpf, shaped_fm fs'.1 (by omega), shaped_fm ff (by omega), _, rfl, ?_⟩
          rw [eqv_val fs'.1 ff]
          refine ifN (fun h0 => ?_) (fun h0 => ?_)
          · refine ⟨_, rfl, .inl ⟨rfl, _, .inl (.inl hlf9)⟩, _, rfl, lf, uf1, _, rfl, rfl, hlf9, szl, ?_⟩
            walk_at "r"
            exact add (.inr ⟨s', hs', fun z => h0 (by have := fs'.2; have := fp.2; unfold vl at z; omega)⟩) D' (fun σ' H'' z => B'.nx σ' H'' z) _ _
          · refine B'.nx _ _ ⟨o', t', k', h, _, _, _, _, _, _, _, uf1, F1, rfl, St.2.2 hrh ⟨s', hs', by rw [← vlf]; unfold vl; rw [h0]⟩, hlf9, hF9, bt9, ?_, dF1⟩
            omega
      · rintro σ H' ⟨o, t, k, b, z8, z9, z10, z11, z12, z13, z14, uf, F, rfl, Sd, hlf', hF, bt, hwF, hdF⟩
        walk_at "r"
        rw [lus] at Sd
        have hwR := S.wt
        rw [lus, List.take_length] at hwF
        refine ⟨lf, uf, F, rfl, .inl (.inl (.inl hlf')), hF, Sd.fm, Sd.asc, fun v r H6 k1 k2 k3 k4 k5 sm6 => ?_⟩
        refine q v r H6 k1 ?_ (by omega) ?_ k5 ((But.same sm5 nf bt).trans sm6)
        · rw [k2, S.sum Sd, vA, vB]
        · have h1 : (n + 6) * wtAll (pR R') ≤ (n + 6) * (wt d + wt e + 131) := Nat.mul_le_mul_left _ (by omega)
          have h2 : (n + 6) * (wt d + wt e + 140) = (n + 6) * (wt d + wt e + 131) + (n + 6) * 9 := by
            rw [← Nat.mul_add]
          omega
end
end K45
set_option Elab.async false
set_option linter.all false
set_option maxRecDepth 100000
set_option pp.deepTerms false
set_option pp.maxSteps 1500
namespace K45
open PySem PySem.Spec PyProof.Rows L2 HX TV FM DX FB FC PM
local macro_rules | `(tactic| walk_at "r") => `(tactic| (repeat (first | refine Exists.intro _ (And.intro rfl ?_) | refine And.intro rfl ?_ | refine Exists.intro _ (Exists.intro _ (And.intro rfl (And.intro rfl ?_))) | refine And.intro (by omega) ?_ | refine And.intro (Or.inl (And.intro (by omega) (by omega))) ?_ | refine And.intro (Or.inr (And.intro (by omega) (by omega))) ?_ | refine And.intro (And.intro (by omega) (by omega)) ?_ | refine And.intro (And.intro (by decide) (And.intro (by decide) (by decide))) ?_ | refine Or.inl (Exists.intro _ (And.intro rfl ?_)) | (dsimp only [gName]; first | with_reducible refine seqC ?_ | with_reducible refine asgC ?_))))
local macro_rules | `(tactic| walk_at "s") => `(tactic| (repeat (first | refine Exists.intro _ (And.intro rfl ?_) | refine And.intro rfl ?_ | refine Exists.intro _ (Exists.intro _ (And.intro rfl (And.intro rfl ?_))) | refine And.intro (by omega) ?_ | refine And.intro (Or.inl (And.intro (by omega) (by omega))) ?_ | refine And.intro (Or.inr (And.intro (by omega) (by omega))) ?_ | refine And.intro (And.intro (by omega) (by omega)) ?_ | refine And.intro (And.intro (by decide) (And.intro (by decide) (by decide))) ?_ | refine Or.inl (Exists.intro _ (And.intro rfl ?_)) | refine Exists.intro _ (Exists.intro _ (And.intro rfl ?_)) | (dsimp only [gName]; first | with_reducible refine seqC ?_ | with_reducible refine asgC ?_))))
section
variable {P : Program} {w : World} {K : PySem.W.Frag} {mg : Str → Option Value} {base : Heap}
/-- of a form of depth at most n: its size -/
def sp_size (K : PySem.W.Frag) (n : Nat) : Sp := fun vs H Q _ => ∃ (v : V) (d : PyData), vs = [v] ∧ Dp K H v d ∧ Fm d ∧ d.depth ≤ n ∧ wt d ≤ 12000000 ∧ ∀ H', Same H H' → Q (.int (wt d : Nat)) H'
def sp_height (K : PySem.W.Frag) (n : Nat) : Sp := fun vs H Q _ => ∃ (v : V) (d : PyData), vs = [v] ∧ Dp K H v d ∧ Fm d ∧ d.depth ≤ n ∧ wt d ≤ 12000000 ∧ ∀ H', Same H H' → Q (.int (d.depth : Nat)) H'
theorem sum_nat : ∀ l : List Nat, (l.map fun n => ((n : Nat) : Int)).sum = ((l.sum : Nat) : Int)
  | [] => rfl
  | a :: r => by
    rw [List.map_cons, List.sum_cons, sum_nat r, List.sum_cons]
    omega
theorem wtAll_sum : ∀ ds : List PyData, wtAll ds = (ds.map wt).sum
  | [] => by simp [wtAll]
  | d :: r => by rw [wtAll_cons, wtAll_sum r, List.map_cons, List.sum_cons]
/-- reading a list of sizes -/
theorem nvn (l : List Nat) : nv l = (l.map fun n => ((n : Nat) : Int)).map V.int := by
  unfold nv
  rw [List.map_map]
  rfl
theorem ok_size (T : Top K mg) : ∀ n, FnOk P w K mg base CX0 (n + 1) T.f_size T.fd_size ["x"]  (sp_size K n) := by
  intro n
  induction n with
  | zero =>
    refine T.F_size.ok sc_size (fun vs H Q E h => ?_) (fun cdv A outer s H vs Q E hr h => ?_)
    · obtain ⟨v, d, rfl, _⟩ := h
      rfl
    · obtain ⟨v, d, rfl, hD, hF, hd, hw, q⟩ := h
      refine ⟨_, (pss_cons (ps_if (pt_val (pe_callB call_isi (by rfl) T.m_isinstance (by decide +kernel) (pa_cons (pv 0) (pa_cons (pe_bltn (v := .ty "int") (by rfl) T.m_int (by decide +kernel) rfl) pa_nil))) (fun _ => rfl))
      (pss_one (ps_ret pe_int))
      pss_nil)
    (pss_one ps_never)), ?_⟩
      rcases fm_cases hF with ⟨i, rfl⟩ | ⟨ds, rfl⟩
      · cases hD
        refine ⟨_, rfl, _, _, _, _, true, rfl, .ty "int", tyI _, k_ii, true, rfl, iteT ?_⟩
        have := q H (Same.refl _)
        rw [wt_int] at this
        exact this
      · rw [depth_tuple] at hd
        omega
  | succ n ih =>
    have G_size : FnOk P w K mg base CX0 (n + 1) T.f_size T.fd_size ["x"]  (sp_size K n) := ih
    refine T.F_size.ok sc_size (fun vs H Q E h => ?_) (fun cdv A outer s H vs Q E hr h => ?_)
    · obtain ⟨v, d, rfl, _⟩ := h
      rfl
    · obtain ⟨v, d, rfl, hD, hF, hd, hw, q⟩ := h
      refine ⟨_, (pss_cons (ps_if (pt_val (pe_callB call_isi (by rfl) T.m_isinstance (by decide +kernel) (pa_cons (pv 0) (pa_cons (pe_bltn (v := .ty "int") (by rfl) T.m_int (by decide +kernel) rfl) pa_nil))) (fun _ => rfl))
      (pss_one (ps_ret pe_int))
      pss_nil)
    (pss_one (ps_ret (pe_op op_add pe_int (pe_callB (cr_sum rfl) (by rfl) T.m_sum (by decide +kernel) (pa_cons (pe_lc (own := [("turn", 1)]) (g := gName 1) (by rfl) sc_size.nd (pi_tup (pv 0)) (blkOk_by (own := [("turn", 1)]) (N := ["x", "turn"]) (sc := defScope s_size) (by decide +kernel)) (fun _ _ _ _ _ => (pg_name (i := 1) sc_size.nd rfl (Or.inl rfl))) (fun _ _ _ _ _ => pts_nil) (fun _ _ _ _ _ => (pe_call G_size (hr.mono (by omega)) (by rfl) T.g_size T.F_size.kp T.b_size .nil pass0 (pa_cons (pv 1) pa_nil)))) pa_nil)))))), ?_⟩
      rcases fm_cases hF with ⟨i, rfl⟩ | ⟨ds, rfl⟩
      · cases hD
        refine ⟨_, rfl, _, _, _, _, true, rfl, .ty "int", tyI _, k_ii, true, rfl, iteT ?_⟩
        have := q H (Same.refl _)
        rw [wt_int] at this
        exact this
      · have hFa := ((fm_tuple _).mp hF).1
        rw [depth_tuple] at hd
        cases hD with
        | @tup a xs _ h1 h2 =>
          have hlx := dpAll_len h2
          refine ⟨_, rfl, _, _, _, _, false, rfl, .ty "int", tyT h1, k_ti, false, rfl, iteF ?_⟩
          refine ⟨_, rfl, a, rfl, ⟨_, h1⟩, fun D nD => lc_tup (xs := xs) (fun i H' => Same H H' ∧ H' D = some (.lst (nv ((ds.take i).map wt)))) ⟨sm_upd nD, by rw [upd_same]; rfl⟩ ?_ ?_ ?_⟩
          · rintro i H' _ ⟨sm, _⟩
            exact HX.Same.tup sm h1
          · rintro i x H' hx ⟨sm, eD⟩
            obtain ⟨e, he, hDe⟩ := dpAll_get h2 hx
            have hFe := (fmAll_mem hFa e (List.mem_of_getElem? he)).1
            have hi := (List.getElem?_eq_some_iff.mp hx).1
            refine ⟨rfl, ?_⟩
            have hwe := wt_mem (List.mem_of_getElem? he)
            have hll := len_wt ds
            rw [wt_tuple] at hw
            refine ⟨_, rfl, x, e, rfl, dp_tk (tk_same sm) hFe hDe, hFe, ?_, by omega, fun H2 sm2 => ?_⟩
            · have := depthAll_le.mp (Nat.le_refl _) e (List.mem_of_getElem? he)
              omega
            refine ⟨_, sm2 _ _ eD, ?_, sm_mut (sm.trans sm2) nD, ?_⟩
            · rw [nv_len]
              simp
              exact len_lt (by omega)
            · rw [upd_same, List.take_add_one, he, ← nv_app]
              simp
          · rintro H2 ⟨sm, eD⟩
            rw [hlx, List.take_length, nvn] at eD
            refine ⟨D, _, rfl, .inl (.inl eD), ?_⟩
            walk_at "r"
            rw [sum_nat, ← wtAll_sum]
            have := q H2 sm
            rw [wt_tuple] at this
            show Q (.int ((1 : Int) + ((wtAll ds : Nat) : Int))) H2
            rw [show (1 : Int) + ((wtAll ds : Nat) : Int) = ((1 + wtAll ds : Nat) : Int) by omega]
            exact this
theorem ok_height (T : Top K mg) : ∀ n, FnOk P w K mg base CX0 (n + 1) T.f_height T.fd_height ["x"]  (sp_height K n) := by
  intro n
  induction n with
  | zero =>
    refine T.F_height.ok sc_height (fun vs H Q E h => ?_) (fun cdv A outer s H vs Q E hr h => ?_)
    · obtain ⟨v, d, rfl, _⟩ := h
      rfl
    · obtain ⟨v, d, rfl, hD, hF, hd, hw, q⟩ := h
      refine ⟨_, (pss_cons (ps_if (pt_val (pe_callB call_isi (by rfl) T.m_isinstance (by decide +kernel) (pa_cons (pv 0) (pa_cons (pe_bltn (v := .ty "int") (by rfl) T.m_int (by decide +kernel) rfl) pa_nil))) (fun _ => rfl)) (pss_one (ps_ret pe_int)) pss_nil) pss_never), ?_⟩
      rcases fm_cases hF with ⟨i, rfl⟩ | ⟨ds, rfl⟩
      · cases hD
        refine ⟨_, rfl, _, _, _, _, true, rfl, .ty "int", tyI _, k_ii, true, rfl, iteT ?_⟩
        have := q H (Same.refl _)
        rw [depth_int] at this
        exact this
      · rw [depth_tuple] at hd
        omega
  | succ n ih =>
    have G_height : FnOk P w K mg base CX0 (n + 1) T.f_height T.fd_height ["x"]  (sp_height K n) := ih
    refine T.F_height.ok sc_height (fun vs H Q E h => ?_) (fun cdv A outer s H vs Q E hr h => ?_)
    · obtain ⟨v, d, rfl, _⟩ := h
      rfl
    · obtain ⟨v, d, rfl, hD, hF, hd, hw, q⟩ := h
      refine ⟨_, (pss_cons (ps_if (pt_val (pe_callB call_isi (by rfl) T.m_isinstance (by decide +kernel) (pa_cons (pv 0) (pa_cons (pe_bltn (v := .ty "int") (by rfl) T.m_int (by decide +kernel) rfl) pa_nil))) (fun _ => rfl))
      (pss_one (ps_ret pe_int))
      pss_nil)
    (pss_cons (ps_set (i := 1) sc_height.nd rfl (Or.inl rfl) pe_int)
    (pss_cons (ps_for PassesOwn.never rfl (pi_tup (pv 0)) (pg_name (i := 2) sc_height.nd rfl (Or.inl rfl))
      (pss_one (ps_set (i := 1) sc_height.nd rfl (Or.inl rfl) (pe_callB (call_max2 rfl) (by rfl) T.m_max (by decide +kernel) (pa_cons (pv 1) (pa_cons (pe_callTy call_int1 (by rfl) T.m_int (by decide +kernel) (pa_cons (pe_call G_height (hr.mono (by omega)) (by rfl) T.g_height T.F_height.kp T.b_height .nil pass0 (pa_cons (pv 2) pa_nil)) pa_nil)) pa_nil))))))
    (pss_one (ps_ret (pe_op op_add (pv 1) pe_int)))))), ?_⟩
      rcases fm_cases hF with ⟨i, rfl⟩ | ⟨ds, rfl⟩
      · cases hD
        refine ⟨_, rfl, _, _, _, _, true, rfl, .ty "int", tyI _, k_ii, true, rfl, iteT ?_⟩
        have := q H (Same.refl _)
        rw [depth_int] at this
        exact this
      · have hFa := ((fm_tuple _).mp hF).1
        rw [depth_tuple] at hd
        rw [wt_tuple] at hw
        cases hD with
        | @tup a xs _ h1 h2 =>
          have hlx := dpAll_len h2
          refine ⟨_, rfl, _, _, _, _, false, rfl, .ty "int", tyT h1, k_ti, false, rfl, iteF ?_⟩
          refine ⟨_, rfl, a, rfl, ⟨_, h1⟩, flT (xs := xs) (fun i σ H' => ∃ z, σ = [some (.ref a), some (.int (PyData.depthAll (ds.take i) : Nat)), z] ∧ Same H H') ⟨none, by rw [List.take_zero, depthAll_nil]; rfl, Same.refl _⟩ ?_ ?_ ?_⟩
          · rintro i σ H' _ ⟨z, _, sm⟩
            exact HX.Same.tup sm h1
          · rintro i x σ H' hx ⟨z, rfl, sm⟩ D' B
            obtain ⟨e, he, hDe⟩ := dpAll_get h2 hx
            have hFe := (fmAll_mem hFa e (List.mem_of_getElem? he)).1
            have hwe := wt_mem (List.mem_of_getElem? he)
            walk_at "r"
            refine ⟨x, e, rfl, dp_tk (tk_same sm) hFe hDe, hFe, ?_, by omega, fun H2 sm2 => ?_⟩
            · have := depthAll_le.mp (Nat.le_refl _) e (List.mem_of_getElem? he)
              omega
            walk_at "s"
            refine B.nx _ _ ⟨some x, ?_, sm.trans sm2⟩
            rw [List.take_add_one, he]
            have emax : PyData.depthAll (ds.take i ++ [e]) = max (PyData.depthAll (ds.take i)) e.depth := by
              apply Nat.le_antisymm
              · refine depthAll_le.mpr fun y hy => ?_
                rcases List.mem_append.mp hy with hy | hy
                · have := depthAll_le.mp (Nat.le_refl _) y hy
                  omega
                · simp at hy
                  subst hy
                  omega
              · have h5 := depthAll_le.mp (Nat.le_refl (PyData.depthAll (ds.take i ++ [e])))
                have h6 := depthAll_le.mpr fun y hy => h5 y (List.mem_append_left _ hy)
                have h7 := h5 e (by simp)
                omega
            show [some (V.ref a), some (V.int (if ((e.depth : Nat) : Int) > ((PyData.depthAll (ds.take i) : Nat) : Int) then ((e.depth : Nat) : Int) else ((PyData.depthAll (ds.take i) : Nat) : Int))), some x] = [some (V.ref a), some (V.int ((PyData.depthAll (ds.take i ++ [e]) : Nat) : Int)), some x]
            rw [emax]
            congr 4
            split <;> omega
          · rintro σ H' ⟨z, rfl, sm⟩
            rw [hlx, List.take_length]
            walk_at "r"
            have := q H' sm
            rw [depth_tuple] at this
            exact this
end
end K45
set_option Elab.async false
set_option linter.all false
set_option maxRecDepth 100000
set_option pp.deepTerms false
set_option pp.maxSteps 1500
namespace K45
open PySem PySem.Spec PyProof.Rows L2 HX TV FM DX FB FC PM
local macro_rules | `(tactic| walk_at "r") => `(tactic| (repeat (first | refine Exists.intro _ (And.intro rfl ?_) | refine And.intro rfl ?_ | refine Exists.intro _ (Exists.intro _ (And.intro rfl (And.intro rfl ?_))) | refine And.intro (by omega) ?_ | refine And.intro (Or.inl (And.intro (by omega) (by omega))) ?_ | refine And.intro (Or.inr (And.intro (by omega) (by omega))) ?_ | refine And.intro (And.intro (by omega) (by omega)) ?_ | refine And.intro (And.intro (by decide) (And.intro (by decide) (by decide))) ?_ | refine Or.inl (Exists.intro _ (And.intro rfl ?_)) | (dsimp only [gName]; first | with_reducible refine seqC ?_ | with_reducible refine asgC ?_))))
local macro_rules | `(tactic| walk_at "s") => `(tactic| (repeat (first | refine Exists.intro _ (And.intro rfl ?_) | refine And.intro rfl ?_ | refine Exists.intro _ (Exists.intro _ (And.intro rfl (And.intro rfl ?_))) | refine And.intro (by omega) ?_ | refine And.intro (Or.inl (And.intro (by omega) (by omega))) ?_ | refine And.intro (Or.inr (And.intro (by omega) (by omega))) ?_ | refine And.intro (And.intro (by omega) (by omega)) ?_ | refine And.intro (And.intro (by decide) (And.intro (by decide) (by decide))) ?_ | refine Or.inl (Exists.intro _ (And.intro rfl ?_)) | refine Exists.intro _ (Exists.intro _ (And.intro rfl ?_)) | (dsimp only [gName]; first | with_reducible refine seqC ?_ | with_reducible refine asgC ?_))))
section
variable {P : Program} {w : World} {K : PySem.W.Frag} {mg : Str → Option Value} {base : Heap}
/-- x - y -/
def sp_min (K : PySem.W.Frag) (n : Nat) : Sp := fun vs H Q _ => ∃ (x y : V) (d e : PyData), vs = [x, y] ∧ Dp K H x d ∧ Dp K H y e ∧ Fm d ∧ Fm e ∧ d.depth ≤ n + 1 ∧ e.depth ≤ n + 1 ∧ n ≤ 40 ∧ wt d + wt e ≤ 7850000 ∧
  ∀ (v : V) (r : PyData) H', Fm r → val r = val d - val e → r.depth ≤ n + 2 → wt r ≤ (n + 6) * (wt d + wt e + 141) → Dp K H' v r → Same H H' → Q v H'
theorem ok_minus (T : Top K mg) (n : Nat) : FnOk P w K mg base CX0 (n + 7) T.f_minus T.fd_minus ["x", "y"]  (sp_min K n) := by
  have G_total : FnOk P w K mg base CX0 (n + 6) T.f_total T.fd_total ["x", "y", "carry"]  (sp_tot K n) := ok_total T n
  have G_inverted : FnOk P w K mg base CX0 (1) T.f_inverted T.fd_inverted ["x"]  (sp_inv K) := ok_inverted T
  refine T.F_minus.ok sc_minus (fun vs H Q E h => ?_) (fun cdv Ar outer s H vs Q E hr h => ?_)
  · obtain ⟨x, y, d, e, rfl, _⟩ := h
    rfl
  · obtain ⟨x, y, d, e, rfl, hx, hy, hd, he, hdd, hde, hn, hw, q⟩ := h
    refine ⟨_, (pss_one (ps_ret (pe_call G_total (hr.mono (by omega)) (by rfl) T.g_total T.F_total.kp T.b_total .nil pass0 (pa_cons (pv 0) (pa_cons (pe_call G_inverted (hr.mono (by omega)) (by rfl) T.g_inverted T.F_inverted.kp T.b_inverted .nil pass0 (pa_cons (pv 1) pa_nil)) (pa_cons pe_int pa_nil)))))), ?_⟩
    refine ⟨_, rfl, _, rfl, y, e, rfl, hy, he, by omega, by omega, fun v r H1 k1 k2 k3 k4 k5 sm1 => ?_⟩
    refine ⟨x, v, d, r, 1, rfl, by decide, dp_tk (tk_same sm1) hd hx, k5, hd, k1, hdd, by omega, hn, by omega, fun v2 r2 H2 g1 g2 g3 g4 g5 sm2 => ?_⟩
    have : (n + 6) * (wt d + wt r + 140) ≤ (n + 6) * (wt d + wt e + 141) := Nat.mul_le_mul_left _ (by omega)
    exact q v2 r2 H2 g1 (by rw [g2, k2]; show _ + _ + (1 : Int) = _; omega) g3 (by omega) g5 (sm1.trans sm2)
/-- a form within the limits -/
def sp_kept (K : PySem.W.Frag) : Sp := fun vs H Q _ => ∃ (x : V) (d : PyData), vs = [x] ∧ Dp K H x d ∧ Fm d ∧ wt d ≤ 2000 ∧ d.depth ≤ 6 ∧ ∀ H', Same H H' → Q x H'
theorem ok_kept (T : Top K mg) {k : Nat} : FnOk P w K mg base CX0 (k + 8) T.f_kept T.fd_kept ["x"]  (sp_kept K) := by
  have G_size : FnOk P w K mg base CX0 (7) T.f_size T.fd_size ["x"]  (sp_size K 6) := ok_size T 6
  have G_height : FnOk P w K mg base CX0 (7) T.f_height T.fd_height ["x"]  (sp_height K 6) := ok_height T 6
  refine T.F_kept.ok sc_kept (fun vs H Q E h => ?_) (fun cdv Ar outer s H vs Q E hr h => ?_)
  · obtain ⟨x, d, rfl, _⟩ := h
    rfl
  · obtain ⟨x, d, rfl, hx, hd, hw, hdd, q⟩ := h
    refine ⟨_, (pss_cons (ps_if (pt_val (pe_callB call_isi (by rfl) T.m_isinstance (by decide +kernel) (pa_cons (pv 0) (pa_cons (pe_bltn (v := .ty "tuple") (by rfl) T.m_tuple (by decide +kernel) rfl) pa_nil))) (fun _ => rfl))
      (pss_cons (ps_set (i := 1) sc_kept.nd rfl (Or.inl rfl) (pe_call G_size (hr.mono (by omega)) (by rfl) T.g_size T.F_size.kp T.b_size .nil pass0 (pa_cons (pv 0) pa_nil)))
      (pss_cons (ps_set (i := 2) sc_kept.nd rfl (Or.inl rfl) (pe_call G_height (hr.mono (by omega)) (by rfl) T.g_height T.F_height.kp T.b_height .nil pass0 (pa_cons (pv 0) pa_nil)))
      (pss_one (ps_if (PW.pt (pw_or (pt_cmpR op_gt (pv 1) (pe_glob (v := .int (2000)) (by rfl) T.c_MOST_SIZE ⟨_, rfl⟩) (nomark _)) (pw_or1 (pt_cmpR op_gt (pv 2) (pe_glob (v := .int (6)) (by rfl) T.c_MOST_HEIGHT ⟨_, rfl⟩) (nomark _)))))
        (pss_one ps_never)
        pss_nil))))
      pss_nil)
    (pss_one (ps_ret (pv 0)))), ?_⟩
    refine ⟨_, rfl, _, _, _, _, !isI d, rfl, .ty "tuple", ty_f hx hd, kit_ft hd, _, rfl, ?_⟩
    refine ifBD (fun _ => ?_) (fun _ => ?_)
    · refine ⟨_, rfl, x, d, rfl, hx, hd, hdd, by omega, fun H1 sm1 => ?_⟩
      dsimp only [gName]
      refine ⟨_, rfl, x, d, rfl, dp_tk (tk_same sm1) hd hx, hd, hdd, by omega, fun H2 sm2 => ?_⟩
      walk_at "r"
      refine ifD (fun z => absurd z (by omega)) (fun _ => ?_)
      walk_at "r"
      refine ifD (fun z => absurd z (by omega)) (fun _ => ?_)
      walk_at "r"
      exact q H2 (sm1.trans sm2)
    · walk_at "r"
      exact q H (Same.refl _)
/-- a function of two forms, its result within the limits -/
def sp_f2 (K : PySem.W.Frag) (n : Nat) (f : Int → Int → Int → Prop) : Sp := fun vs H Q _ => ∃ (x y : V) (d e : PyData), vs = [x, y] ∧ Dp K H x d ∧ Dp K H y e ∧ Fm d ∧ Fm e ∧ d.depth ≤ n + 1 ∧ e.depth ≤ n + 1 ∧ n ≤ 30 ∧ wt d + wt e ≤ 90000 ∧
  (∀ r, Fm r → f (val d) (val e) (val r) → wt r ≤ 2000 ∧ r.depth ≤ 6) ∧ ∀ (v : V) (r : PyData) H', Fm r → f (val d) (val e) (val r) → wt r ≤ 2000 → r.depth ≤ 6 → Dp K H' v r → Same H H' → Q v H'
/-- a function of one form, its result within the limits -/
def sp_f1 (K : PySem.W.Frag) (n : Nat) (f : Int → Int) : Sp := fun vs H Q _ => ∃ (x : V) (d : PyData), vs = [x] ∧ Dp K H x d ∧ Fm d ∧ d.depth ≤ n + 1 ∧ n ≤ 30 ∧ wt d ≤ 90000 ∧
  (∀ r, Fm r → val r = f (val d) → wt r ≤ 2000 ∧ r.depth ≤ 6) ∧ ∀ (v : V) (r : PyData) H', Fm r → val r = f (val d) → wt r ≤ 2000 → r.depth ≤ 6 → Dp K H' v r → Same H H' → Q v H'
theorem ok_order_of (T : Top K mg) (n : Nat) : FnOk P w K mg base CX0 (n + 4) T.f_order_of T.fd_order_of ["x", "y"]  (sp_ord K n) := by
  have G_order : FnOk P w K mg base CX0 (n + 3) T.f_order T.fd_order ["x", "y"]  (sp_ord K n) := ok_order T n
  refine T.F_order_of.ok sc_order_of (fun vs H Q E h => ?_) (fun cdv Ar outer s H vs Q E hr h => ?_)
  · obtain ⟨x, y, d, e, rfl, _⟩ := h
    rfl
  · obtain ⟨x, y, d, e, rfl, h⟩ := h
    exact ⟨_, (pss_one (ps_ret (pe_call G_order (hr.mono (by omega)) (by rfl) T.g_order T.F_order.kp T.b_order .nil pass0 (pa_cons (pv 0) (pa_cons (pv 1) pa_nil))))), _, rfl, _, rfl, x, y, d, e, rfl, h⟩
end
end K45
set_option Elab.async false
set_option linter.all false
set_option maxRecDepth 100000
set_option pp.deepTerms false
set_option pp.maxSteps 1500
namespace K45
open PySem PySem.Spec PyProof.Rows L2 HX TV FM DX FB FC PM
local macro_rules | `(tactic| walk_at "r") => `(tactic| (repeat (first | refine Exists.intro _ (And.intro rfl ?_) | refine And.intro rfl ?_ | refine Exists.intro _ (Exists.intro _ (And.intro rfl (And.intro rfl ?_))) | refine And.intro (by omega) ?_ | refine And.intro (Or.inl (And.intro (by omega) (by omega))) ?_ | refine And.intro (Or.inr (And.intro (by omega) (by omega))) ?_ | refine And.intro (And.intro (by omega) (by omega)) ?_ | refine And.intro (And.intro (by decide) (And.intro (by decide) (by decide))) ?_ | refine Or.inl (Exists.intro _ (And.intro rfl ?_)) | (dsimp only [gName]; first | with_reducible refine seqC ?_ | with_reducible refine asgC ?_))))
local macro_rules | `(tactic| walk_at "s") => `(tactic| (repeat (first | refine Exists.intro _ (And.intro rfl ?_) | refine And.intro rfl ?_ | refine Exists.intro _ (Exists.intro _ (And.intro rfl (And.intro rfl ?_))) | refine And.intro (by omega) ?_ | refine And.intro (Or.inl (And.intro (by omega) (by omega))) ?_ | refine And.intro (Or.inr (And.intro (by omega) (by omega))) ?_ | refine And.intro (And.intro (by omega) (by omega)) ?_ | refine And.intro (And.intro (by decide) (And.intro (by decide) (by decide))) ?_ | refine Or.inl (Exists.intro _ (And.intro rfl ?_)) | refine Exists.intro _ (Exists.intro _ (And.intro rfl ?_)) | (dsimp only [gName]; first | with_reducible refine seqC ?_ | with_reducible refine asgC ?_))))
section
variable {P : Program} {w : World} {K : PySem.W.Frag} {mg : Str → Option Value} {base : Heap}
theorem tb_far {i : Int} (h1 : -(2 ^ 64) ≤ i) (h2 : i < 2 ^ 64) {p : Nat} (h : 64 ≤ p) : tb i p = decide (i < 0) := by
  have := (range_div (n := i) (k := 64)).mp ⟨h1, h2⟩ p h
  rw [this]
  unfold tb
  by_cases hi : i < 0
  · rw [decide_eq_true hi]
    have : i / 2 ^ 64 = -1 := by omega
    rw [this]
    decide
  · rw [decide_eq_false hi]
    have : i / 2 ^ 64 = 0 := by omega
    rw [this]
    decide
theorem asc_cnt {ts : List Nat} {p i : Nat} (hA : Asc ts) (h1 : ∀ t ∈ ts.take i, t ≤ p) (h2 : i = ts.length ∨ ∃ t, ts[i]? = some t ∧ p < t) (hi : i ≤ ts.length) : cnt ts p = i := by
  have e : cnt ts p = cnt (ts.take i) p + cnt (ts.drop i) p := by
    unfold TV.cnt
    rw [← List.countP_append, List.take_append_drop]
  have e1 : cnt (ts.take i) p = i := by
    rw [cnt_all h1, List.length_take]
    omega
  have e2 : cnt (ts.drop i) p = 0 := by
    refine cnt_zero fun t ht => ?_
    rcases h2 with h2 | ⟨u, hu, hpu⟩
    · rw [h2, List.drop_length] at ht
      exact absurd ht (by simp)
    · obtain ⟨hlt, hget⟩ := List.getElem?_eq_some_iff.mp hu
      rw [List.drop_eq_getElem_cons hlt, hget] at ht
      rcases List.mem_cons.mp ht with rfl | ht
      · exact hpu
      · have : Asc (u :: ts.drop (i + 1)) := by
          have := asc_pairwise.mp hA
          rw [← List.take_append_drop i ts, List.drop_eq_getElem_cons hlt, hget] at this
          exact asc_pairwise.mpr (List.pairwise_append.mp this).2.1
        have := this.lt t ht
        omega
  omega
/-- the bit of a form at a place -/
def sp_bit (K : PySem.W.Frag) (n : Nat) : Sp := fun vs H Q _ => ∃ (x y : V) (d e : PyData), vs = [x, y] ∧ Dp K H x d ∧ Dp K H y e ∧ Fm d ∧ Fm e ∧ 0 ≤ val e ∧ d.depth ≤ n + 1 ∧ e.depth ≤ n ∧ n ≤ 60 ∧ ∀ H', Same H H' → Q (.int (PM.bi (tb (val d) (vl e)))) H'
theorem ok_bit (T : Top K mg) (n : Nat) : FnOk P w K mg base CX0 (n + 4) T.f_bit T.fd_bit ["x", "place"]  (sp_bit K n) := by
  have G_order : FnOk P w K mg base CX0 (n + 3) T.f_order T.fd_order ["x", "y"]  (sp_ord K n) := ok_order T n
  refine T.F_bit.ok sc_bit (fun vs H Q E h => ?_) (fun cdv Ar outer s H vs Q E hr h => ?_)
  · obtain ⟨x, y, d, e, rfl, _⟩ := h
    rfl
  · obtain ⟨x, y, d, e, rfl, hx, hy, hd, he, h0, hdd, hde, hn, q⟩ := h
    refine ⟨_, (pss_cons (ps_if (pt_val (pe_callB call_isi (by rfl) T.m_isinstance (by decide +kernel) (pa_cons (pv 0) (pa_cons (pe_bltn (v := .ty "int") (by rfl) T.m_int (by decide +kernel) rfl) pa_nil))) (fun _ => rfl))
      (pss_cons (ps_if (PW.pt (pw_and (pt_val (pe_callB call_isi (by rfl) T.m_isinstance (by decide +kernel) (pa_cons (pv 1) (pa_cons (pe_bltn (v := .ty "int") (by rfl) T.m_int (by decide +kernel) rfl) pa_nil))) (fun _ => rfl)) (pw_and1 (pt_cmpR op_le (pv 1) (pe_glob (v := .int (64)) (by rfl) T.c_LAST_PLAIN_TURN ⟨_, rfl⟩) (nomark _)))))
        (pss_one (ps_ret (pe_op op_and (pe_op op_shr (pv 0) (pv 1)) pe_int)))
        pss_nil)
      (pss_one (ps_ret (pe_callTy call_int1 (by rfl) T.m_int (by decide +kernel) (pa_cons (pe_cmpR op_lt (pv 0) pe_int (nomark _)) pa_nil)))))
      pss_nil)
    (pss_cons (ps_set (i := 2) sc_bit.nd rfl (Or.inl rfl) pe_int)
    (pss_cons (ps_for PassesOwn.never rfl (pi_tup (pv 0)) (pg_name (i := 3) sc_bit.nd rfl (Or.inl rfl))
      (pss_cons (ps_if (pt_cmpR op_gt (pe_call G_order (hr.mono (by omega)) (by rfl) T.g_order T.F_order.kp T.b_order .nil pass0 (pa_cons (pv 3) (pa_cons (pv 1) pa_nil))) pe_int (nomark _))
        (pss_one ps_break)
        pss_nil)
      (pss_one (ps_aug (i := 2) sc_bit.nd rfl (Or.inl rfl) pe_int ip_add))))
    (pss_one (ps_ret (pe_op op_and (pv 2) pe_int)))))), ?_⟩
    rcases fm_cases hd with ⟨i, rfl⟩ | ⟨ds, rfl⟩
    · cases hx
      have hb := (fm_int i).mp hd
      have far : ¬ (∃ j, e = .int j ∧ j ≤ 64) → ∀ H', Same H H' → Q (.int (if decide (i < 0) = true then 1 else 0)) H' := fun hn H' sm => by
        have h64 : 64 ≤ vl e := by
          unfold vl
          apply Nat.le_of_not_lt
          intro hlt
          refine hn ⟨val e, fm_plain he (by omega) (by omega), by omega⟩
        have := q H' sm
        rw [val_int, tb_far hb.1 hb.2 h64] at this
        exact this
      refine ⟨_, rfl, _, _, _, _, true, rfl, .ty "int", tyI _, k_ii, true, rfl, iteT ?_⟩
      refine ⟨_, rfl, _, _, _, _, isI e, rfl, .ty "int", ty_f hy he, kit_fi he, _, rfl, ifBD (fun h1 => ?_) (fun h1 => ?_)⟩
      · obtain ⟨j, rfl⟩ := fm_isI he h1
        cases hy
        walk_at "r"
        refine ifD (fun h2 => ?_) (fun h2 => ?_)
        · rw [val_int] at h0
          walk_at "r"
          have := q H (Same.refl _)
          have e1 : PM.bi (tb (val (.int i)) (vl (.int j))) = Builtin.bitAnd (i / 2 ^ j.toNat) 1 := by
            rw [val_int, bitAnd_m1]
            unfold vl tb PM.bi
            rw [val_int]
            by_cases z : i / 2 ^ j.toNat % 2 = 1
            · rw [decide_eq_true z, z]
              rfl
            · rw [decide_eq_false z]
              show (0 : Int) = _
              omega
          rw [e1] at this
          exact this
        · walk_at "r"
          refine .inr ⟨_, rfl, ?_⟩
          exact far (fun ⟨j', e1, e2⟩ => h2 (by cases e1; exact e2)) H (Same.refl _)
      · walk_at "r"
        refine .inr ⟨_, rfl, ?_⟩
        refine far (fun ⟨j', e1, e2⟩ => ?_) H (Same.refl _)
        rw [e1] at h1
        exact Bool.noConfusion h1
    · obtain ⟨hFa, hA, _⟩ := (fm_tuple ds).mp hd
      rw [depth_tuple] at hdd
      cases hx with
      | @tup a xs _ h1 h2 =>
        have hlx := dpAll_len h2
        refine ⟨_, rfl, _, _, _, _, false, rfl, .ty "int", tyT h1, k_ti, false, rfl, iteF ?_⟩
        dsimp only [tNext]
        with_reducible refine seqC ?_
        with_reducible refine cut (fun σ H' => Same H H' ∧ ∃ (z : Option V) (i : Nat), σ = [some (.ref a), some y, some (.int (i : Nat)), z] ∧ i ≤ ds.length ∧ (∀ t ∈ (vals ds).take i, t ≤ vl e) ∧ (i = (vals ds).length ∨ ∃ t, (vals ds)[i]? = some t ∧ vl e < t)) (fun D J => ?_) ?_
        · refine ⟨_, rfl, a, rfl, ⟨_, h1⟩, ?_⟩
          refine flT (xs := xs) (fun i σ H' => Same H H' ∧ ∃ (z : Option V), σ = [some (.ref a), some y, some (.int (i : Nat)), z] ∧ ∀ t ∈ (vals ds).take i, t ≤ vl e) ⟨Same.refl _, none, rfl, by simp⟩ ?_ ?_ ?_
          · rintro i σ H' _ ⟨sm, _⟩
            exact HX.Same.tup sm h1
          · rintro i x σ H' hx ⟨sm, z, rfl, hz⟩ D' B
            obtain ⟨d, hed, hDd⟩ := dpAll_get h2 hx
            obtain ⟨hFd, h0d⟩ := fmAll_mem hFa d (List.mem_of_getElem? hed)
            have hi := (List.getElem?_eq_some_iff.mp hed).1
            have := dep_mem (List.mem_of_getElem? hed)
            refine ⟨_, rfl, _, rfl, x, y, d, e, rfl, dp_tk (tk_same sm) hFd hDd, dp_tk (tk_same sm) he hy, hFd, he, by omega, hde, hn, fun H2 sm2 => ?_⟩
            obtain ⟨w1, w2, w3⟩ := sg_ways hFd he h0d h0
            walk_at "r"
            refine ifD (fun hg => ?_) (fun hg => ?_)
            · exact B.bk _ _ (J.nx _ _ ⟨sm.trans sm2, _, i, rfl, by omega, hz, .inr ⟨_, vals_at hed, w2 hg⟩⟩)
            · walk_at "r"
              refine B.nx _ _ ⟨sm.trans sm2, _, rfl, fun t ht => ?_⟩
              rw [List.take_add_one, vals_at hed] at ht
              rcases List.mem_append.mp ht with ht | ht
              · exact hz t ht
              · have : t = vl d := by simpa using ht
                rw [this]
                apply Nat.le_of_not_lt
                intro hlt
                apply hg
                rw [sg_gt (by unfold vl at hlt; omega)]
                decide
          · rintro σ H' ⟨sm, z, rfl, hz⟩
            exact J.nx _ _ ⟨sm, z, xs.length, rfl, by omega, hz, .inl (by rw [vals_len]; omega)⟩
        · rintro σ H' ⟨sm, z, i, rfl, hi, hz, hz2⟩
          walk_at "r"
          have := q H' sm
          have e1 : PM.bi (tb (val (.tuple ds)) (vl e)) = Builtin.bitAnd ((i : Nat) : Int) 1 := by
            rw [val_tuple, tb_tv _ hA, asc_cnt hA hz hz2 (by rw [vals_len]; exact hi), and_n]
            unfold PM.bi
            by_cases z : i % 2 = 1
            · rw [decide_eq_true z, z]
              rfl
            · rw [decide_eq_false z]
              show (0 : Int) = _
              omega
          rw [e1] at this
          exact this
end
end K45
set_option Elab.async false
set_option linter.all false
set_option maxRecDepth 100000
set_option pp.deepTerms false
set_option pp.maxSteps 1500
set_option maxHeartbeats 1000000
namespace K45
open PySem PySem.Spec PyProof.Rows L2 HX TV FM DX FB FC PM MS
local macro_rules | `(tactic| walk_at "r") => `(tactic| (repeat (first | refine Exists.intro _ (And.intro rfl ?_) | refine And.intro rfl ?_ | refine Exists.intro _ (Exists.intro _ (And.intro rfl (And.intro rfl ?_))) | refine And.intro (by omega) ?_ | refine And.intro (Or.inl (And.intro (by omega) (by omega))) ?_ | refine And.intro (Or.inr (And.intro (by omega) (by omega))) ?_ | refine And.intro (And.intro (by omega) (by omega)) ?_ | refine And.intro (And.intro (by decide) (And.intro (by decide) (by decide))) ?_ | refine Or.inl (Exists.intro _ (And.intro rfl ?_)) | (dsimp only [gName]; first | with_reducible refine seqC ?_ | with_reducible refine asgC ?_))))
local macro_rules | `(tactic| walk_at "s") => `(tactic| (repeat (first | refine Exists.intro _ (And.intro rfl ?_) | refine And.intro rfl ?_ | refine Exists.intro _ (Exists.intro _ (And.intro rfl (And.intro rfl ?_))) | refine And.intro (by omega) ?_ | refine And.intro (Or.inl (And.intro (by omega) (by omega))) ?_ | refine And.intro (Or.inr (And.intro (by omega) (by omega))) ?_ | refine And.intro (And.intro (by omega) (by omega)) ?_ | refine And.intro (And.intro (by decide) (And.intro (by decide) (by decide))) ?_ | refine Or.inl (Exists.intro _ (And.intro rfl ?_)) | refine Exists.intro _ (Exists.intro _ (And.intro rfl ?_)) | (dsimp only [gName]; first | with_reducible refine seqC ?_ | with_reducible refine asgC ?_))))
section
variable {P : Program} {w : World} {K : PySem.W.Frag} {mg : Str → Option Value} {base : Heap}
def sp_shf (K : PySem.W.Frag) (n : Nat) : Sp := fun vs H Q _ => ∃ (x y : V) (d e : PyData), vs = [x, y] ∧ Dp K H x d ∧ Dp K H y e ∧ Fm d ∧ Fm e ∧ 0 ≤ val e ∧ d.depth ≤ n + 2 ∧ e.depth ≤ n + 1 ∧ n ≤ 40 ∧ wt d + wt e ≤ 80000 ∧
  ∀ (v : V) (r : PyData) H', Fm r → val r = val d * 2 ^ vl e → r.depth ≤ n + 3 → wt r ≤ (n + 6) * ((wt d + 65) * (wt e + 141)) + 1 → Dp K H' v r → Same H H' → Q v H'
theorem ok_shifted (T : Top K mg) (n : Nat) : FnOk P w K mg base CX0 (n + 7) T.f_shifted T.fd_shifted ["x", "amount"]  (sp_shf K n) := by
  have G_turns : FnOk P w K mg base CX0 (2) T.f_turns T.fd_turns ["x"]  (sp_trn K) := ok_turns T
  have G_made : FnOk P w K mg base CX0 (1) T.f_made T.fd_made ["found"]  (sp_made K) := ok_made T
  have G_total : FnOk P w K mg base CX0 (n + 6) T.f_total T.fd_total ["x", "y", "carry"]  (sp_tot K n) := ok_total T n
  refine T.F_shifted.ok sc_shifted (fun vs H Q E h => ?_) (fun cdv A outer s H vs Q E hr h => ?_)
  · obtain ⟨x, y, d, e, rfl, _⟩ := h
    rfl
  · obtain ⟨x, y, d, e, rfl, hx, hy, hd, he, h0, hdd, hde, hn, hw, q⟩ := h
    refine ⟨_, (pss_one (ps_ret (pe_call G_made (hr.mono (by omega)) (by rfl) T.g_made T.F_made.kp T.b_made .nil pass0 (pa_cons (pe_lc (own := [("turn", 2)]) (g := gName 2) (by rfl) sc_shifted.nd (pi_tup (pe_call G_turns (hr.mono (by omega)) (by rfl) T.g_turns T.F_turns.kp T.b_turns .nil pass0 (pa_cons (pv 0) pa_nil))) (blkOk_by (own := [("turn", 2)]) (N := ["x", "amount", "turn"]) (sc := defScope s_shifted) (by decide +kernel)) (fun _ _ _ _ _ => (pg_name (i := 2) sc_shifted.nd rfl (Or.inl rfl))) (fun _ _ _ _ _ => pts_nil) (fun _ _ _ _ _ => (pe_call G_total (hr.mono (by omega)) (by rfl) T.g_total T.F_total.kp T.b_total .nil pass0 (pa_cons (pv 2) (pa_cons (pv 1) (pa_cons pe_int pa_nil)))))) pa_nil)))), ?_⟩
    refine ⟨_, rfl, x, d, rfl, hx, hd, fun a us ds H1 fA hA ev hsq hD hdep hwt _ sm1 => ?_⟩
    have hy1 := dp_tk (tk_same sm1) he hy
    refine ⟨a, rfl, ⟨_, hsq⟩, fun D nD => lc_tup (xs := us) (fun i H' => Same H1 H' ∧ ∃ (vs : List V) (F : List PyData), H' D = some (.lst vs) ∧ DpAll K H' vs F ∧ FmAll F ∧ vals F = ((vals ds).take i).map (· + vl e) ∧ PyData.depthAll F ≤ n + 2 ∧ wtAll F ≤ (n + 6) * (wtAll (ds.take i) * (wt e + 141))) ⟨sm_upd nD, [], [], upd_same, .nil, fmAll_nil, by rw [vals_nil]; rfl, by rw [depthAll_nil]; omega, by rw [wtAll_nil]; exact Nat.zero_le _⟩ ?_ ?_ ?_⟩
    · rintro i H' _ ⟨sm, _⟩
      exact HX.Same.tup sm hsq
    · rintro i v H' hv ⟨sm, vs, F, hDl, dp, fF, hvF, hdF, hwF⟩
      obtain ⟨dt, hdt, hDt⟩ := dpAll_get hD hv
      have hm := List.mem_of_getElem? hdt
      obtain ⟨fdt, h0t⟩ := fmAll_mem fA dt hm
      have h1 := dep_mem hm
      have h2 := wt_mem hm
      have h3 := wt_pos dt
      refine ⟨rfl, ?_⟩
      refine ⟨_, rfl, _, rfl, v, y, dt, e, 0, rfl, by decide, dp_tk (tk_same sm) fdt hDt, dp_tk (tk_same sm) he hy1, fdt, he, by omega, hde, hn, by omega, fun v2 r H2 g1 g2 g3 g4 g5 sm2 => ?_⟩
      have g2' : val r = val dt + val e := by rw [g2]; show _ + (0 : Int) = _; omega
      have mD : Mut (H2 D) := by rw [sm2 _ _ hDl]; trivial
      have hlv := dpAll_len dp
      have hlF : F.length ≤ i := by
        have := congrArg List.length hvF
        rw [vals_len, List.length_map, List.length_take] at this
        omega
      have hil := (List.getElem?_eq_some_iff.mp hdt).1
      have hlw := len_wt ds
      refine ⟨vs, sm2 _ _ hDl, len_lt (by omega), sm_mut (sm.trans sm2) nD, vs ++ [v2], F ++ [r], upd_same, dpAll_app (dpAll_tk ((tk_same sm2).trans (tk_mut mD)) fF dp) (.cons (dp_tk (tk_mut mD) g1 g5) .nil), fmAll_snoc fF g1 (by omega), ?_, ?_, ?_⟩
      · rw [vals_app, hvF, take_snoc (vals_at hdt), List.map_append, vals_cons, vals_nil]
        congr 1
        show [(val r).toNat] = [vl dt + vl e]
        unfold vl
        rw [g2']
        congr 1
        omega
      · refine depthAll_le.mpr fun z hz => ?_
        rcases List.mem_append.mp hz with hz | hz
        · exact depthAll_le.mp hdF z hz
        · have : z = r := by simpa using hz
          rw [this]
          exact g3
      · rw [wtAll_app, take_one hdt, wtAll_app, wtAll_cons, wtAll_nil, wtAll_cons, wtAll_nil]
        exact row_wt hwF g4 h3
    · rintro H2 ⟨sm2, vs, F, hDl, dp, fF, hvF, hdF, hwF⟩
      have hl := dpAll_len hD
      rw [show us.length = (vals ds).length by rw [vals_len]; exact hl, List.take_length] at hvF
      rw [hl, List.take_length] at hwF
      refine ⟨D, vs, F, rfl, .inl (.inl (.inl hDl)), dp, fF, by rw [hvF]; exact asc_map_add _ hA, fun v r H3 k1 k2 k3 k4 k5 sm3 => ?_⟩
      refine q v r H3 k1 ?_ (by omega) ?_ k5 ((sm1.trans sm2).trans sm3)
      · rw [k2, hvF, tv_map_add, ev, Int.mul_comm]
      · have : (n + 6) * (wtAll ds * (wt e + 141)) ≤ (n + 6) * ((wt d + 65) * (wt e + 141)) := Nat.mul_le_mul_left _ (Nat.mul_le_mul_right _ hwt)
        omega
def sp_drp (K : PySem.W.Frag) (n : Nat) : Sp := fun vs H Q _ => ∃ (x y : V) (d e : PyData), vs = [x, y] ∧ Dp K H x d ∧ Dp K H y e ∧ Fm d ∧ Fm e ∧ 0 ≤ val e ∧ d.depth ≤ n + 2 ∧ e.depth ≤ n + 1 ∧ n ≤ 40 ∧ wt d + wt e ≤ 80000 ∧
  ∀ (v : V) (r : PyData) H', Fm r → val r = val d / 2 ^ vl e → r.depth ≤ n + 3 → wt r ≤ (n + 6) * ((wt d + 65) * (wt e + 142)) + 2 → Dp K H' v r → Same H H' → Q v H'
theorem keepD {ds : List PyData} {e : PyData} (fA : FmAll ds) (h0 : 0 ≤ val e) : vals (ds.filter fun z => decide (val e < val z)) = (vals ds).filter fun t => decide (vl e < t) := by
  induction ds with
  | nil => rfl
  | cons d r ih =>
    obtain ⟨_, hd, fr⟩ := (fmAll_cons d r).mp fA
    rw [vals_cons, List.filter_cons, List.filter_cons, ← ih fr]
    by_cases h : val e < val d
    · rw [if_pos (by simpa using h), if_pos (by unfold vl; simp; omega), vals_cons]
    · rw [if_neg (by simpa using h), if_neg (by unfold vl; simp; omega)]
theorem ok_dropped (T : Top K mg) (n : Nat) : FnOk P w K mg base CX0 (n + 8) T.f_dropped T.fd_dropped ["x", "amount"]  (sp_drp K n) := by
  have G_turns : FnOk P w K mg base CX0 (2) T.f_turns T.fd_turns ["x"]  (sp_trn K) := ok_turns T
  have G_made : FnOk P w K mg base CX0 (1) T.f_made T.fd_made ["found"]  (sp_made K) := ok_made T
  have G_order : FnOk P w K mg base CX0 (n + 1 + 3) T.f_order T.fd_order ["x", "y"]  (sp_ord K (n + 1)) := ok_order T (n + 1)
  have G_minus : FnOk P w K mg base CX0 (n + 7) T.f_minus T.fd_minus ["x", "y"]  (sp_min K n) := ok_minus T n
  refine T.F_dropped.ok sc_dropped (fun vs H Q E h => ?_) (fun cdv A outer s H vs Q E hr h => ?_)
  · obtain ⟨x, y, d, e, rfl, _⟩ := h
    rfl
  · obtain ⟨x, y, d, e, rfl, hx, hy, hd, he, h0, hdd, hde, hn, hw, q⟩ := h
    refine ⟨_, (pss_cons (ps_set (i := 2) sc_dropped.nd rfl (Or.inl rfl) (pe_call G_turns (hr.mono (by omega)) (by rfl) T.g_turns T.F_turns.kp T.b_turns .nil pass0 (pa_cons (pv 0) pa_nil)))
    (pss_cons (ps_setLc (i := 3) (own := [("turn", 4)]) (g := gName 4) (by rfl) sc_dropped.nd rfl rfl (sw_true rfl rfl rfl (by decide +kernel)) (pi_tup (pv 2)) (blkOk_by (own := [("turn", 4)]) (N := ["x", "amount", "every", "kept_turns", "turn", "found"]) (sc := defScope s_dropped) (by decide +kernel)) (fun _ _ _ _ _ => (pg_name (i := 4) sc_dropped.nd rfl (Or.inl rfl))) (fun _ _ _ _ _ => pts_one (pt_cmpR op_gt (pe_call G_order (hr.mono (by omega)) (by rfl) T.g_order T.F_order.kp T.b_order .nil pass0 (pa_cons (pv 4) (pa_cons (pv 1) pa_nil))) pe_int (nomark _))) (fun _ _ _ _ _ => (pv 4)))
    (pss_cons (ps_setLc (i := 5) (own := [("turn", 4)]) (g := gName 4) (by rfl) sc_dropped.nd rfl rfl (sw_true rfl rfl rfl (by decide +kernel)) (pi_list (pv 3)) (blkOk_by (own := [("turn", 4)]) (N := ["x", "amount", "every", "kept_turns", "turn", "found"]) (sc := defScope s_dropped) (by decide +kernel)) (fun _ _ _ _ _ => (pg_name (i := 4) sc_dropped.nd rfl (Or.inl rfl))) (fun _ _ _ _ _ => pts_nil) (fun _ _ _ _ _ => (pe_call G_minus (hr.mono (by omega)) (by rfl) T.g_minus T.F_minus.kp T.b_minus .nil pass0 (pa_cons (pv 4) (pa_cons (pv 1) pa_nil)))))
    (pss_cons (ps_if (pt_cmpR op_eq (pe_op op_and (pe_op op_sub (pe_callB call_len_seq (by rfl) T.m_len PySem.boot_len (pa_cons (pv 2) pa_nil)) (pe_callB call_len_seq (by rfl) T.m_len PySem.boot_len (pa_cons (pv 3) pa_nil))) pe_int) pe_int (nomark _))
      (pss_one (ps_set (i := 5) sc_dropped.nd rfl (Or.inl rfl) (pe_op op_cat (pe_lst (pa_cons pe_int pa_nil)) (pv 5))))
      pss_nil)
    (pss_one (ps_ret (pe_call G_made (hr.mono (by omega)) (by rfl) T.g_made T.F_made.kp T.b_made .nil pass0 (pa_cons (pv 5) pa_nil)))))))), ?_⟩
    refine ⟨_, rfl, x, d, rfl, hx, hd, fun a us ds H1 fA hA ev hsq hD hdep hwt _ sm1 => ?_⟩
    have hy1 := dp_tk (tk_same sm1) he hy
    have hlw := len_wt ds
    have hlu := dpAll_len hD
    have hlf := List.length_filter_le (fun z => decide (val e < val z)) ds
    dsimp only [gName]
    refine ⟨_, rfl, a, rfl, ⟨_, hsq⟩, fun D nD => lc_tup (xs := us) (fun i H' => Same H1 H' ∧ ∃ (vs : List V), H' D = some (.lst vs) ∧ DpAll K H' vs ((ds.take i).filter fun z => decide (val e < val z))) ⟨sm_upd nD, [], upd_same, .nil⟩ ?_ ?_ ?_⟩
    · rintro i H' _ ⟨sm, _⟩
      exact HX.Same.tup sm hsq
    · rintro i v H' hv ⟨sm, vs, hDl, dp⟩
      obtain ⟨dt, hdt, hDt⟩ := dpAll_get hD hv
      have hm := List.mem_of_getElem? hdt
      obtain ⟨fdt, h0t⟩ := fmAll_mem fA dt hm
      have h1 := dep_mem hm
      have hil := (List.getElem?_eq_some_iff.mp hdt).1
      refine ⟨rfl, ?_⟩
      refine ⟨_, rfl, _, rfl, v, y, dt, e, rfl, dp_tk (tk_same sm) fdt hDt, dp_tk (tk_same sm) he hy1, fdt, he, by omega, by omega, by omega, fun H2 sm2 => ?_⟩
      walk_at "r"
      have fk : FmAll ((ds.take i).filter fun z => decide (val e < val z)) := fmAll_sub (List.filter_sublist.trans (List.take_sublist _ _)) fA
      have ez : ∀ b : Bool, decide (val e < val dt) = b → (ds.take (i + 1)).filter (fun z => decide (val e < val z)) = (ds.take i).filter (fun z => decide (val e < val z)) ++ (if b then [dt] else []) := fun b hb => by
        rw [take_one hdt, List.filter_append, List.filter_cons, hb]
        rfl
      refine ifD (fun hz => ?_) (fun hz => ?_)
      · have hlt : val e < val dt := by
          apply Classical.byContradiction
          intro hc
          rcases Int.lt_trichotomy (val dt) (val e) with z | z | z
          · rw [sg_lt z] at hz; omega
          · rw [sg_eq z] at hz; omega
          · exact hc z
        have mD : Mut (H2 D) := by rw [sm2 _ _ hDl]; trivial
        have hlv := dpAll_len dp
        have := List.length_filter_le (fun z => decide (val e < val z)) (ds.take i)
        rw [List.length_take] at this
        refine ⟨v, rfl, vs, sm2 _ _ hDl, len_lt (by omega), sm_mut (sm.trans sm2) nD, vs ++ [v], upd_same, ?_⟩
        rw [ez true (decide_eq_true hlt)]
        exact dpAll_app (dpAll_tk ((tk_same sm2).trans (tk_mut mD)) fk dp) (.cons (dp_tk (((tk_same sm).trans (tk_same sm2)).trans (tk_mut mD)) fdt hDt) .nil)
      · have hlt : ¬ val e < val dt := fun hc => hz (by rw [sg_gt hc]; decide)
        refine ⟨sm.trans sm2, vs, sm2 _ _ hDl, ?_⟩
        rw [ez false (decide_eq_false hlt), if_neg (by decide), List.append_nil]
        exact dpAll_tk (tk_same sm2) fk dp
    rintro H2 ⟨sm2, ks, hDl, dpk⟩
    rw [hlu, List.take_length] at dpk
    obtain ⟨kd, ekd⟩ : ∃ kd, kd = ds.filter fun z => decide (val e < val z) := ⟨_, rfl⟩
    rw [← ekd] at dpk hlf
    have fkd : FmAll kd := by rw [ekd]; exact fmAll_sub List.filter_sublist fA
    have hkm : ∀ z ∈ kd, z ∈ ds ∧ val e < val z := fun z hz => by
      rw [ekd] at hz
      have := List.mem_filter.mp hz
      exact ⟨this.1, by simpa using this.2⟩
    have hvk : vals kd = (vals ds).filter fun t => decide (vl e < t) := by rw [ekd]; exact keepD fA h0
    have hwk : wtAll kd ≤ wtAll ds := by rw [ekd]; exact wtAll_sub List.filter_sublist
    have hlk := dpAll_len dpk
    have sm12 := sm1.trans sm2
    have hy2 := dp_tk (tk_same sm2) he hy1
    dsimp only [gName]
    refine ⟨_, rfl, D, rfl, ⟨_, .inl (.inl hDl)⟩, fun D2 nD2 => lc_list (xs := ks) (fun i H' => Same H2 H' ∧ ∃ (vs : List V) (F : List PyData), H' D2 = some (.lst vs) ∧ DpAll K H' vs F ∧ FmAll F ∧ vals F = ((vals kd).take i).map (· - vl e) ∧ PyData.depthAll F ≤ n + 2 ∧ wtAll F ≤ (n + 6) * (wtAll (kd.take i) * (wt e + 1 + 141))) ⟨sm_upd nD2, [], [], upd_same, .nil, fmAll_nil, by rw [vals_nil]; rfl, by rw [depthAll_nil]; omega, by rw [wtAll_nil]; exact Nat.zero_le _⟩ ?_ ?_ ?_⟩
    · rintro i H' _ ⟨sm, _⟩
      exact .inl (.inl (sm _ _ hDl))
    · rintro i v H' hv ⟨sm, vs, F, hDF, dp, fF, hvF, hdF, hwF⟩
      obtain ⟨dt, hdt, hDt⟩ := dpAll_get dpk hv
      have hm := List.mem_of_getElem? hdt
      obtain ⟨fdt, h0t⟩ := fmAll_mem fkd dt hm
      obtain ⟨hmd, hlt⟩ := hkm dt hm
      have h1 := dep_mem hmd
      have h2 := wt_mem hmd
      have h3 := wt_pos dt
      refine ⟨rfl, ?_⟩
      refine ⟨_, rfl, _, rfl, v, y, dt, e, rfl, dp_tk (tk_same sm) fdt hDt, dp_tk (tk_same sm) he hy2, fdt, he, by omega, hde, hn, by omega, fun v2 r H3 g1 g2 g3 g4 g5 sm3 => ?_⟩
      have mD : Mut (H3 D2) := by rw [sm3 _ _ hDF]; trivial
      have hlv := dpAll_len dp
      have hlF : F.length ≤ i := by
        have := congrArg List.length hvF
        rw [vals_len, List.length_map, List.length_take] at this
        omega
      have hil := (List.getElem?_eq_some_iff.mp hdt).1
      refine ⟨vs, sm3 _ _ hDF, len_lt (by omega), sm_mut (sm.trans sm3) nD2, vs ++ [v2], F ++ [r], upd_same, dpAll_app (dpAll_tk ((tk_same sm3).trans (tk_mut mD)) fF dp) (.cons (dp_tk (tk_mut mD) g1 g5) .nil), fmAll_snoc fF g1 (by omega), ?_, ?_, ?_⟩
      · rw [vals_app, hvF, take_snoc (vals_at hdt), List.map_append, vals_cons, vals_nil]
        congr 1
        show [(val r).toNat] = [vl dt - vl e]
        unfold vl
        rw [g2]
        congr 1
        omega
      · refine depthAll_le.mpr fun z hz => ?_
        rcases List.mem_append.mp hz with hz | hz
        · exact depthAll_le.mp hdF z hz
        · have : z = r := by simpa using hz
          rw [this]
          exact g3
      · rw [wtAll_app, take_one hdt, wtAll_app, wtAll_cons, wtAll_nil, wtAll_cons, wtAll_nil]
        exact row_wt hwF (Nat.le_trans g4 (Nat.mul_le_mul_left _ (by omega))) h3
    rintro H3 ⟨sm3, fv, F, hDF, dpF, fF, hvF, hdF, hwF⟩
    rw [show ks.length = (vals kd).length by rw [vals_len]; exact hlk, List.take_length] at hvF
    rw [hlk, List.take_length] at hwF
    have hwF2 : wtAll F ≤ (n + 6) * ((wt d + 65) * (wt e + 142)) := Nat.le_trans hwF (Nat.mul_le_mul_left _ (Nat.mul_le_mul (by omega) (by omega)))
    have hlF : F.length = kd.length := by
      have := congrArg List.length hvF
      rw [vals_len, List.length_map, vals_len] at this
      exact this
    have hlv := dpAll_len dpF
    have sm13 := sm12.trans sm3
    have hval := tv_drop (A := vl e) hA
    have hasc := drop_low (A := vl e) hA
    rw [← hvk, ← hvF, vals_len, vals_len, ev] at hval
    rw [← hvk, ← hvF] at hasc
    dsimp only [gName]
    with_reducible refine cut (fun σ H' => ∃ (z4 : Option V) (lf : Addr) (uf : List V) (G : List PyData), σ = [some x, some y, some (.ref a), some (.ref D), z4, some (.ref lf)] ∧ H' lf = some (.lst uf) ∧ DpAll K H' uf G ∧ FmAll G ∧ Asc (vals G) ∧ tv (vals G) = val d / 2 ^ vl e ∧ PyData.depthAll G ≤ n + 2 ∧ wtAll G ≤ wtAll F + 1 ∧ Same H H') (fun D0 J0 => ?_) ?_
    · refine ⟨_, rfl, a, _, rfl, .inr (HX.Same.tup (sm2.trans sm3) hsq), ?_⟩
      refine ⟨_, rfl, D, _, rfl, .inl (.inl (.inl (sm3 _ _ hDl))), ?_⟩
      walk_at "r"
      have eb : decide (V.int (Builtin.bitAnd ((us.length : Int) - (ks.length : Int)) 1) = V.int 1) = decide ((ds.length - kd.length) % 2 = 1) := by
        rw [show ((us.length : Int) - (ks.length : Int)) = ((ds.length - kd.length : Nat) : Int) by omega, and_n]
        by_cases hz : (ds.length - kd.length) % 2 = 1
        · rw [hz]
          rfl
        · rw [decide_eq_false hz, decide_eq_false fun z => hz (by have := V.int.inj z; omega)]
      show if decide (V.int (Builtin.bitAnd ((us.length : Int) - (ks.length : Int)) 1) = V.int 1) = true then _ else _
      rw [eb]
      refine ifD (fun hb => ?_) (fun hb => ?_)
      · rw [decide_eq_true hb] at hval
        refine ⟨len_le (by show 1 ≤ _; decide), fun l0 nl0 => ?_⟩
        have s4 := sm_upd (o := .lst [V.int 0]) nl0
        refine ⟨_, rfl, l0, D2, _, _, rfl, rfl, upd_same, s4 _ _ hDF, len_le (by show 1 + _ ≤ _; omega), fun lf nlf => ?_⟩
        have s5 := sm_upd (o := .lst ([V.int 0] ++ fv)) nlf
        refine J0.nx _ _ ⟨none, lf, [V.int 0] ++ fv, .int 0 :: F, rfl, upd_same, .cons (.int 0) (dpAll_tk (tk_same (s4.trans s5)) fF dpF), fmAll_zero fF, ?_, ?_, ?_, ?_, (sm13.trans s4).trans s5⟩
        · rw [vals_cons]
          exact hasc true
        · rw [vals_cons]
          exact hval
        · rw [depthAll_cons, depth_int]
          omega
        · rw [wtAll_cons, wt_int]
          omega
      · rw [decide_eq_false hb] at hval
        exact J0.nx _ _ ⟨none, D2, fv, F, rfl, hDF, dpF, fF, hasc false, hval, hdF, by omega, sm13⟩
    · rintro σ H4 ⟨z4, lf, uf, G, rfl, hlf4, dpG, fG, aG, vG, depG, wG, sm4⟩
      refine ⟨_, rfl, lf, uf, G, rfl, .inl (.inl (.inl hlf4)), dpG, fG, aG, fun v r H5 k1 k2 k3 k4 k5 sm5 => ?_⟩
      exact q v r H5 k1 (by rw [k2, vG]) (by omega) (by omega) k5 (sm4.trans sm5)
end
end K45
set_option Elab.async false
set_option linter.all false
set_option maxRecDepth 100000
set_option pp.deepTerms false
set_option pp.maxSteps 1500
/-! numbers: ints and Fars -/
namespace K45
open PySem PySem.Spec PyProof.Rows L2 HX TV FM DX FB FC PM
local macro_rules | `(tactic| walk_at "r") => `(tactic| (repeat (first | refine Exists.intro _ (And.intro rfl ?_) | refine And.intro rfl ?_ | refine Exists.intro _ (Exists.intro _ (And.intro rfl (And.intro rfl ?_))) | refine And.intro (by omega) ?_ | refine And.intro (Or.inl (And.intro (by omega) (by omega))) ?_ | refine And.intro (Or.inr (And.intro (by omega) (by omega))) ?_ | refine And.intro (And.intro (by omega) (by omega)) ?_ | refine And.intro (And.intro (by decide) (And.intro (by decide) (by decide))) ?_ | refine Or.inl (Exists.intro _ (And.intro rfl ?_)) | (dsimp only [gName]; first | with_reducible refine seqC ?_ | with_reducible refine asgC ?_))))
local macro_rules | `(tactic| walk_at "s") => `(tactic| (repeat (first | refine Exists.intro _ (And.intro rfl ?_) | refine And.intro rfl ?_ | refine Exists.intro _ (Exists.intro _ (And.intro rfl (And.intro rfl ?_))) | refine And.intro (by omega) ?_ | refine And.intro (Or.inl (And.intro (by omega) (by omega))) ?_ | refine And.intro (Or.inr (And.intro (by omega) (by omega))) ?_ | refine And.intro (And.intro (by omega) (by omega)) ?_ | refine And.intro (And.intro (by decide) (And.intro (by decide) (by decide))) ?_ | refine Or.inl (Exists.intro _ (And.intro rfl ?_)) | refine Exists.intro _ (Exists.intro _ (And.intro rfl ?_)) | (dsimp only [gName]; first | with_reducible refine seqC ?_ | with_reducible refine asgC ?_))))
section
variable {P : Program} {w : World} {K : PySem.W.Frag} {mg : Str → Option Value} {base : Heap}
/-- a Far with the form d at a -/
def FarAt (K : PySem.W.Frag) (C : Addr) (H : Hp) (a : Addr) (d : PyData) : Prop := ∃ dx v, H a = some (.ins C dx [(("own_form" : Str), v)]) ∧ Dp K H v d ∧ Fm d
/-- a number with the form d: an int, or a Far -/
def Num (K : PySem.W.Frag) (C : Addr) (H : Hp) (x : V) (d : PyData) : Prop := (∃ (i : Int) (k : Nat), x = .int i ∧ Fm d ∧ val d = i ∧ k ≤ 900000 ∧ -(2 ^ k) ≤ i ∧ i < 2 ^ k) ∨ ∃ a, x = .ref a ∧ FarAt K C H a d
theorem Num.fm {C : Addr} {H : Hp} {x : V} {d : PyData} (h : Num K C H x d) : Fm d := by
  rcases h with ⟨i, k, _, f, _⟩ | ⟨a, _, dx, v, _, _, f⟩
  · exact f
  · exact f
theorem FarAt.same {C : Addr} {H H' : Hp} {a : Addr} {d : PyData} (h : FarAt K C H a d) (e : Same H H') : FarAt K C H' a d := by
  obtain ⟨dx, v, h1, h2, h3⟩ := h
  exact ⟨dx, v, e _ _ h1, dp_tk (tk_same e) h3 h2, h3⟩
theorem Num.same {C : Addr} {H H' : Hp} {x : V} {d : PyData} (h : Num K C H x d) (e : Same H H') : Num K C H' x d := by
  rcases h with h | ⟨a, rfl, h⟩
  · exact .inl h
  · exact .inr ⟨a, rfl, h.same e⟩
theorem lk_own (v : V) : List.lookup ("own_form" : Str) [(("own_form" : Str), v)] = some v := by simp
theorem ty_far {C : Addr} {H : Hp} {a : Addr} {d : PyData} (I : IsiOwn K C) (c : Cls K C) (h : FarAt K C H a d) : TyX K H (.ref a) (.ref C) := by
  obtain ⟨dx, v, h1, _⟩ := h
  exact .base (.ins h1 c I.ca I.cn I.ct I.cm)
def sp_isint (K : PySem.W.Frag) (C : Addr) : Sp := fun vs H Q _ => ∃ x, vs = [x] ∧ ((∃ i, x = .int i ∧ Q (.bl true) H) ∨ ∃ a d, x = .ref a ∧ FarAt K C H a d ∧ Q (.bl false) H)
theorem ok_is_int (T : Top K mg) : FnOk P w K mg base CX0 (1) T.f_is_int T.fd_is_int ["value"]  (sp_isint K T.C_Far) := by
  refine T.F_is_int.ok sc_is_int (fun vs H Q E h => ?_) (fun cdv A outer s H vs Q E hr h => ?_)
  · obtain ⟨x, rfl, _⟩ := h
    rfl
  · obtain ⟨x, rfl, h⟩ := h
    refine ⟨_, (pss_one (ps_ret (pe_and (pe_callB call_isi (by rfl) T.m_isinstance (by decide +kernel) (pa_cons (pv 0) (pa_cons (pe_bltn (v := .ty "int") (by rfl) T.m_int (by decide +kernel) rfl) pa_nil))) (pe_one (pe_not (pe_callB call_isi (by rfl) T.m_isinstance (by decide +kernel) (pa_cons (pv 0) (pa_cons (pe_bltn (v := .ty "bool") (by rfl) T.m_bool (by decide +kernel) rfl) pa_nil)))))))), ?_⟩
    rcases h with ⟨i, rfl, q⟩ | ⟨a, d, rfl, hf, q⟩
    · refine ⟨_, rfl, _, _, _, _, true, rfl, .ty "int", tyI _, k_ii, ?_⟩
      refine ⟨_, rfl, iteT ?_⟩
      refine ⟨_, rfl, _, _, _, _, false, rfl, .ty "bool", tyI _, k_ib, ?_⟩
      exact ⟨_, rfl, q⟩
    · refine ⟨_, rfl, _, _, _, _, false, rfl, .ty "int", ty_far T.I_Far T.k_Far hf, T.I_Far.ki, ?_⟩
      exact ⟨_, rfl, iteF q⟩
/-- the form of a number -/
def sp_operand (K : PySem.W.Frag) (C : Addr) : Sp := fun vs H Q _ => ∃ x d, vs = [x] ∧ Num K C H x d ∧ ∀ v H', Dp K H' v d → Same H H' → Q v H'
theorem ok_operand (T : Top K mg) : FnOk P w K mg base CX0 (3) T.f_operand T.fd_operand ["value"]  (sp_operand K T.C_Far) := by
  have G_is_int : FnOk P w K mg base CX0 (1) T.f_is_int T.fd_is_int ["value"]  (sp_isint K T.C_Far) := ok_is_int T
  have G_of_int : FnOk P w K mg base CX0 (2) T.f_of_int T.fd_of_int ["number"]  (sp_ofint K) := ok_of_int T
  refine T.F_operand.ok sc_operand (fun vs H Q E h => ?_) (fun cdv A outer s H vs Q E hr h => ?_)
  · obtain ⟨x, d, rfl, _⟩ := h
    rfl
  · obtain ⟨x, d, rfl, hx, q⟩ := h
    refine ⟨_, (pss_cons (ps_if (pt_val (pe_callB call_isi (by rfl) T.m_isinstance (by decide +kernel) (pa_cons (pv 0) (pa_cons (pe_glob (v := .ref T.C_Far) (by rfl) T.g_Far rfl) pa_nil))) (fun _ => rfl))
      (pss_one (ps_ret (pe_fld (pv 0) rfl)))
      pss_nil)
    (pss_cons (ps_if (pt_val (pe_call G_is_int (hr.mono (by omega)) (by rfl) T.g_is_int T.F_is_int.kp T.b_is_int .nil pass0 (pa_cons (pv 0) pa_nil)) (fun _ => rfl))
      (pss_one (ps_ret (pe_call G_of_int (hr.mono (by omega)) (by rfl) T.g_of_int T.F_of_int.kp T.b_of_int .nil pass0 (pa_cons (pv 0) pa_nil))))
      pss_nil)
    (pss_one (ps_ret pe_non)))), ?_⟩
    rcases hx with ⟨i, k, rfl, fd, ed, hk, h1, h2⟩ | ⟨a, rfl, hf⟩
    · refine ⟨_, rfl, _, _, _, _, false, rfl, .own _, tyI _, T.I_Far.ik, ?_⟩
      refine ⟨_, rfl, iteF ?_⟩
      dsimp only [tNext]
      refine ⟨_, rfl, _, rfl, .inl ⟨i, rfl, ?_⟩⟩
      refine ⟨_, rfl, iteT ?_⟩
      refine ⟨_, rfl, i, k, rfl, hk, h1, h2, fun v r H1 g1 g2 g3 g4 D1 sm1 => ?_⟩
      have : r = d := fm_inj g1 fd (by rw [g2, ed])
      subst this
      exact q v H1 D1 sm1
    · refine ⟨_, rfl, _, _, _, _, true, rfl, .own _, ty_far T.I_Far T.k_Far hf, T.I_Far.ks, ?_⟩
      refine ⟨_, rfl, iteT ?_⟩
      obtain ⟨dx, v, h1, h2, h3⟩ := hf
      refine ⟨_, rfl, a, _, dx, _, v, rfl, h1, T.k_Far, T.n_Far, ?_, ?_⟩
      · exact lk_own v
      · exact q v H h2 (Same.refl _)
/-- the form of a number within the limits -/
def sp_given (K : PySem.W.Frag) (C : Addr) : Sp := fun vs H Q _ => ∃ x d, vs = [x] ∧ Num K C H x d ∧ wt d ≤ 2000 ∧ d.depth ≤ 6 ∧ ∀ v H', Dp K H' v d → Same H H' → Q v H'
theorem ok_given_form (T : Top K mg) : FnOk P w K mg base CX0 (9) T.f_given_form T.fd_given_form ["value"]  (sp_given K T.C_Far) := by
  have G_is_int : FnOk P w K mg base CX0 (1) T.f_is_int T.fd_is_int ["value"]  (sp_isint K T.C_Far) := ok_is_int T
  have G_of_int : FnOk P w K mg base CX0 (2) T.f_of_int T.fd_of_int ["number"]  (sp_ofint K) := ok_of_int T
  have G_kept : FnOk P w K mg base CX0 (0 + 8) T.f_kept T.fd_kept ["x"]  (sp_kept K) := ok_kept T
  refine T.F_given_form.ok sc_given_form (fun vs H Q E h => ?_) (fun cdv A outer s H vs Q E hr h => ?_)
  · obtain ⟨x, d, rfl, _⟩ := h
    rfl
  · obtain ⟨x, d, rfl, hx, hw, hdd, q⟩ := h
    refine ⟨_, (pss_cons (ps_if (pt_val (pe_callB call_isi (by rfl) T.m_isinstance (by decide +kernel) (pa_cons (pv 0) (pa_cons (pe_glob (v := .ref T.C_Far) (by rfl) T.g_Far rfl) pa_nil))) (fun _ => rfl))
      (pss_one (ps_ret (pe_fld (pv 0) rfl)))
      pss_nil)
    (pss_cons (ps_if (pt_val (pe_call G_is_int (hr.mono (by omega)) (by rfl) T.g_is_int T.F_is_int.kp T.b_is_int .nil pass0 (pa_cons (pv 0) pa_nil)) (fun _ => rfl))
      (pss_one (ps_ret (pe_call G_kept (hr.mono (by omega)) (by rfl) T.g_kept T.F_kept.kp T.b_kept .nil pass0 (pa_cons (pe_call G_of_int (hr.mono (by omega)) (by rfl) T.g_of_int T.F_of_int.kp T.b_of_int .nil pass0 (pa_cons (pv 0) pa_nil)) pa_nil))))
      pss_nil)
    (pss_cons ps_never
    (pss_one ps_never)))), ?_⟩
    rcases hx with ⟨i, k, rfl, fd, ed, hk, h1, h2⟩ | ⟨a, rfl, hf⟩
    · refine ⟨_, rfl, _, _, _, _, false, rfl, .own _, tyI _, T.I_Far.ik, ?_⟩
      refine ⟨_, rfl, iteF ?_⟩
      dsimp only [tNext]
      refine ⟨_, rfl, _, rfl, .inl ⟨i, rfl, ?_⟩⟩
      refine ⟨_, rfl, iteT ?_⟩
      refine ⟨_, rfl, i, k, rfl, hk, h1, h2, fun v r H1 g1 g2 g3 g4 D1 sm1 => ?_⟩
      have : r = d := fm_inj g1 fd (by rw [g2, ed])
      subst this
      exact ⟨v, r, rfl, D1, fd, hw, hdd, fun H2 sm2 => q v H2 (dp_tk (tk_same sm2) fd D1) (sm1.trans sm2)⟩
    · refine ⟨_, rfl, _, _, _, _, true, rfl, .own _, ty_far T.I_Far T.k_Far hf, T.I_Far.ks, ?_⟩
      refine ⟨_, rfl, iteT ?_⟩
      obtain ⟨dx, v, h1, h2, h3⟩ := hf
      exact ⟨_, rfl, a, _, dx, _, v, rfl, h1, T.k_Far, T.n_Far, lk_own v, q v H h2 (Same.refl _)⟩
/-- a new Far gets its form -/
def sp_init (K : PySem.W.Frag) (C : Addr) : Sp := fun vs H Q _ => ∃ (a dx : Addr) (x : V) (d : PyData), vs = [.ref a, x] ∧ H a = some (.ins C dx []) ∧ Num K C H x d ∧ wt d ≤ 2000 ∧ d.depth ≤ 6 ∧
  ∀ v H', H' a = some (.ins C dx [(("own_form" : Str), v)]) → Dp K H' v d → (∀ b o, b ≠ a → H b = some o → H' b = some o) → Q .non H'
theorem ok_Far___init__ (T : Top K mg) : FnOk P w K mg base CX0 10 T.f_Far___init__ T.fd_Far___init__ ["self", "value"] (sp_init K T.C_Far) := by
  have G_given_form : FnOk P w K mg base CX0 (9) T.f_given_form T.fd_given_form ["value"]  (sp_given K T.C_Far) := ok_given_form T
  refine funD_ok0 T.F_Far___init__ sc_Far___init__ (fun vs H Q E h => ?_) (fun cdv A outer s H vs Q E hr h => ?_)
  · obtain ⟨a, dx, x, d, rfl, _⟩ := h
    rfl
  · obtain ⟨a, dx, x, d, rfl, ha, hx, hw, hdd, q⟩ := h
    refine ⟨_, (pss_one (ps_fld (pv 0) (pe_call G_given_form (hr.mono (by omega)) (by rfl) T.g_given_form T.F_given_form.kp T.b_given_form .nil pass0 (pa_cons (pv 1) pa_nil)) rfl)), ?_⟩
    refine ⟨_, rfl, x, d, rfl, hx, hw, hdd, fun v H1 D1 sm1 => ?_⟩
    refine ⟨_, rfl, a, T.C_Far, dx, [], rfl, sm1 _ _ ha, T.k_Far, T.n_Far, by show 0 < 1000; decide, ?_⟩
    refine q v _ upd_same (dp_tk (tk_mut (p := a) ?_) hx.fm D1) (fun b o hb e => ?_)
    · rw [sm1 _ _ ha]
      trivial
    · rw [upd_ne hb]
      exact sm1 _ _ e
/-- a call of the class: a new Far -/
theorem new_far {C : Addr} {H : Hp} {x : V} {d : PyData} {Q : VK} {E : XK} (hx : Num K C H x d) (hw : wt d ≤ 2000) (hdd : d.depth ≤ 6) (q : ∀ a H', H a = none → FarAt K C H' a d → Same H H' → Q (.ref a) H') :
    ∀ a dx, H a = none → H dx = none → dx ≠ a → sp_init K C (.ref a :: ([x] ++ [])) (upd (upd H dx (.own a)) a (.ins C dx [])) (fun v H2 => v = .non ∧ Q (.ref a) H2) E := fun a dx na nd ne => by
  have s2 : Same H (upd (upd H dx (.own a)) a (.ins C dx [])) := fun b o e => by
    rw [upd_ne (ne_of_none e na), upd_ne (ne_of_none e nd)]
    exact e
  refine ⟨a, dx, x, d, rfl, upd_same, hx.same s2, hw, hdd, fun v H' h1 D e => ⟨rfl, q a H' na ⟨dx, v, h1, D, hx.fm⟩ fun b o z => e b o (ne_of_none z na) (s2 _ _ z)⟩⟩
def sp_numf (K : PySem.W.Frag) (C : Addr) : Sp := fun vs H Q _ => ∃ x d, vs = [x] ∧ Num K C H x d ∧ ∀ v H', Dp K H' v d → Same H H' → Q v H'
theorem ok_number_form (T : Top K mg) : FnOk P w K mg base CX0 (4) T.f_number_form T.fd_number_form ["value"]  (sp_numf K T.C_Far) := by
  have G_operand : FnOk P w K mg base CX0 (3) T.f_operand T.fd_operand ["value"]  (sp_operand K T.C_Far) := ok_operand T
  refine T.F_number_form.ok sc_number_form (fun vs H Q E h => ?_) (fun cdv A outer s H vs Q E hr h => ?_)
  · obtain ⟨x, d, rfl, _⟩ := h
    rfl
  · obtain ⟨x, d, rfl, hx, q⟩ := h
    refine ⟨_, (pss_cons (ps_set (i := 1) sc_number_form.nd rfl (Or.inl rfl) (pe_call G_operand (hr.mono (by omega)) (by rfl) T.g_operand T.F_operand.kp T.b_operand .nil pass0 (pa_cons (pv 0) pa_nil)))
    (pss_cons (ps_if (pt_cmpR op_isN (pv 1) pe_non (nomark _))
      (pss_one ps_never)
      pss_nil)
    (pss_one (ps_ret (pv 1))))), ?_⟩
    refine ⟨_, rfl, x, d, rfl, hx, fun v H1 D1 sm1 => ?_⟩
    walk_at "r"
    have hv : v ≠ .non := fun z => by
      subst z
      have := hx.fm
      cases D1
      simp [Fm] at this
    rw [decide_eq_false hv]
    refine iteF ?_
    exact ⟨_, rfl, q v H1 D1 sm1⟩
def sp_plcf (K : PySem.W.Frag) (C : Addr) : Sp := fun vs H Q _ => ∃ x d, vs = [x] ∧ Num K C H x d ∧ 0 ≤ val d ∧ ∀ v H', Dp K H' v d → Same H H' → Q v H'
theorem ok_place_form (T : Top K mg) : FnOk P w K mg base CX0 (5) T.f_place_form T.fd_place_form ["value"]  (sp_plcf K T.C_Far) := by
  have G_number_form : FnOk P w K mg base CX0 (4) T.f_number_form T.fd_number_form ["value"]  (sp_numf K T.C_Far) := ok_number_form T
  have G_negative : FnOk P w K mg base CX0 (1) T.f_negative T.fd_negative ["x"]  (sp_neg K) := ok_negative T
  refine T.F_place_form.ok sc_place_form (fun vs H Q E h => ?_) (fun cdv A outer s H vs Q E hr h => ?_)
  · obtain ⟨x, d, rfl, _⟩ := h
    rfl
  · obtain ⟨x, d, rfl, hx, h0, q⟩ := h
    refine ⟨_, (pss_cons (ps_set (i := 1) sc_place_form.nd rfl (Or.inl rfl) (pe_call G_number_form (hr.mono (by omega)) (by rfl) T.g_number_form T.F_number_form.kp T.b_number_form .nil pass0 (pa_cons (pv 0) pa_nil)))
    (pss_cons (ps_if (pt_truth (pe_call G_negative (hr.mono (by omega)) (by rfl) T.g_negative T.F_negative.kp T.b_negative .nil pass0 (pa_cons (pv 1) pa_nil)) (fun _ => rfl))
      (pss_one ps_never)
      pss_nil)
    (pss_one (ps_ret (pv 1))))), ?_⟩
    refine ⟨_, rfl, x, d, rfl, hx, fun v H1 D1 sm1 => ?_⟩
    dsimp only [gName]
    refine ⟨_, rfl, v, d, rfl, D1, hx.fm, ?_⟩
    refine ⟨_, rfl, ?_⟩
    rw [decide_eq_false (by omega)]
    refine iteF ?_
    exact ⟨_, rfl, q v H1 D1 sm1⟩
end
end K45
set_option Elab.async false
set_option linter.all false
set_option maxRecDepth 100000
set_option pp.deepTerms false
set_option pp.maxSteps 1500
/-! the functions of raw.py over ints with few bits: promises by the ints alone -/
namespace K45
open PySem PySem.Spec PyProof.Rows L2 HX TV FM DX FB FC PM FI
section
variable {P : Program} {w : World} {K : PySem.W.Frag} {mg : Str → Option Value} {base : Heap}
def sp_trnI (K : PySem.W.Frag) : Sp := fun vs H Q _ => ∃ (v : V) (n : Int) (k : Nat), vs = [v] ∧ DI K H v n ∧ Bw k n ∧ k ≤ 900000 ∧ ∀ a H', SqT K H' a (nv (turnsOf n)) → Same H H' → Q (.ref a) H'
theorem okI_turns (T : Top K mg) {k : Nat} : FnOk P w K mg base CX0 (k + 2) T.f_turns T.fd_turns ["x"]  (sp_trnI K) := (ok_turns T).imp fun vs H Q E h => by
  obtain ⟨v, n, k, rfl, hv, hb, hk, q⟩ := h
  refine ⟨v, fo n, rfl, hv, fo_fm n, fun a us ds H' fA hA ev sq hD _ _ _ sm => ?_⟩
  rw [val_fo] at ev
  have e := turnsOf_is hA ev
  have eu := plain_nv hD fA fun t ht => by have := hb.turns t (by rw [e]; exact ht); omega
  rw [eu, ← e] at sq
  exact q a H' sq sm
def sp_ordI (K : PySem.W.Frag) : Sp := fun vs H Q _ => ∃ (x y : V) (n m : Int) (k : Nat), vs = [x, y] ∧ DI K H x n ∧ DI K H y m ∧ Bw k n ∧ Bw k m ∧ k ≤ 900000 ∧ ∀ H', Same H H' → Q (.int (sg n m)) H'
theorem okI_order (T : Top K mg) : FnOk P w K mg base CX0 (4) T.f_order T.fd_order ["x", "y"]  (sp_ordI K) := (ok_order T 1).imp fun vs H Q E h => by
  obtain ⟨x, y, n, m, k, rfl, hx, hy, h1, h2, hk, q⟩ := h
  refine ⟨x, y, fo n, fo m, rfl, hx, hy, fo_fm n, fo_fm m, (fo_lim hk h1).2, (fo_lim hk h2).2, by decide, fun H' sm => ?_⟩
  rw [val_fo, val_fo]
  exact q H' sm
def sp_negI (K : PySem.W.Frag) : Sp := fun vs H Q _ => ∃ (v : V) (n : Int), vs = [v] ∧ DI K H v n ∧ Q (.bl (decide (n < 0))) H
theorem okI_negative (T : Top K mg) {k : Nat} : FnOk P w K mg base CX0 (k + 1) T.f_negative T.fd_negative ["x"]  (sp_negI K) := (ok_negative T).imp fun vs H Q E h => by
  obtain ⟨v, n, rfl, hv, q⟩ := h
  exact ⟨v, fo n, rfl, hv, fo_fm n, by rw [val_fo]; exact q⟩
def sp_madeI (K : PySem.W.Frag) : Sp := fun vs H Q _ => ∃ (a : Addr) (ts : List Nat), vs = [.ref a] ∧ (SqL K H a (nv ts) ∨ SqT K H a (nv ts)) ∧ Asc ts ∧ (∀ t ∈ ts, t < 2 ^ 64) ∧
  ∀ v H', DI K H' v (tv ts) → Same H H' → Q v H'
theorem okI_made (T : Top K mg) {k : Nat} : FnOk P w K mg base CX0 (k + 1) T.f_made T.fd_made ["found"]  (sp_madeI K) := (ok_made T).imp fun vs H Q E h => by
  obtain ⟨a, ts, rfl, hS, hA, hb, q⟩ := h
  refine ⟨a, nv ts, iD ts, rfl, hS, dp_nv ts, fmAll_iD hb, by rw [vals_iD]; exact hA, fun v d H' f e _ _ D sm => q v H' (DI.of f (by rw [e, vals_iD]) D) sm⟩
def sp_ofintI (K : PySem.W.Frag) : Sp := fun vs H Q _ => ∃ (n : Int) (k : Nat), vs = [.int n] ∧ k ≤ 900000 ∧ Bw k n ∧ ∀ v H', DI K H' v n → Same H H' → Q v H'
theorem okI_of_int (T : Top K mg) {k : Nat} : FnOk P w K mg base CX0 (k + 2) T.f_of_int T.fd_of_int ["number"]  (sp_ofintI K) := (ok_of_int T).imp fun vs H Q E h => by
  obtain ⟨n, k, rfl, hk, hb, q⟩ := h
  exact ⟨n, k, rfl, hk, hb.1, hb.2, fun v d H' f e _ _ D sm => q v H' (DI.of f e D) sm⟩
def sp_p1I (K : PySem.W.Frag) : Sp := fun vs H Q _ => ∃ (x : V) (n : Int) (k : Nat), vs = [x] ∧ DI K H x n ∧ Bw k n ∧ k ≤ 900000 ∧ ∀ v H', DI K H' v (n + 1) → Same H H' → Q v H'
theorem okI_plus_one (T : Top K mg) : FnOk P w K mg base CX0 (6) T.f_plus_one T.fd_plus_one ["x"]  (sp_p1I K) := (ok_plus_one T 1).imp fun vs H Q E h => by
  obtain ⟨x, n, k, rfl, hx, hb, hk, q⟩ := h
  have l := fo_lim hk hb
  exact ⟨x, fo n, rfl, hx, fo_fm n, l.2, by decide, by omega, fun v r H' f e _ _ D sm => q v H' (DI.of f (by rw [e, val_fo]) D) sm⟩
def sp_invI (K : PySem.W.Frag) : Sp := fun vs H Q _ => ∃ (x : V) (n : Int) (k : Nat), vs = [x] ∧ DI K H x n ∧ Bw k n ∧ k ≤ 900000 ∧ ∀ v H', DI K H' v (-n - 1) → Same H H' → Q v H'
theorem okI_inverted (T : Top K mg) {k : Nat} : FnOk P w K mg base CX0 (k + 1) T.f_inverted T.fd_inverted ["x"]  (sp_invI K) := (ok_inverted T).imp fun vs H Q E h => by
  obtain ⟨x, n, k, rfl, hx, hb, hk, q⟩ := h
  have l := fo_lim hk hb
  exact ⟨x, fo n, rfl, hx, fo_fm n, by omega, by omega, fun v r H' f e _ _ D sm => q v H' (DI.of f (by rw [e, val_fo]) D) sm⟩
def sp_totI (K : PySem.W.Frag) : Sp := fun vs H Q _ => ∃ (x y : V) (n m : Int) (c k : Nat), vs = [x, y, .int (c : Nat)] ∧ c ≤ 1 ∧ DI K H x n ∧ DI K H y m ∧ Bw k n ∧ Bw k m ∧ k ≤ 40000 ∧ ∀ v H', DI K H' v (n + m + c) → Same H H' → Q v H'
theorem okI_total (T : Top K mg) : FnOk P w K mg base CX0 (6) T.f_total T.fd_total ["x", "y", "carry"]  (sp_totI K) := (ok_total T 0).imp fun vs H Q E h => by
  obtain ⟨x, y, n, m, c, k, rfl, hc, hx, hy, h1, h2, hk, q⟩ := h
  have l1 := fo_lim (by omega) h1
  have l2 := fo_lim (by omega) h2
  exact ⟨x, y, fo n, fo m, c, rfl, hc, hx, hy, fo_fm n, fo_fm m, l1.2, l2.2, by decide, by omega, fun v r H' f e _ _ D sm => q v H' (DI.of f (by rw [e, val_fo, val_fo]) D) sm⟩
def sp_minI (K : PySem.W.Frag) : Sp := fun vs H Q _ => ∃ (x y : V) (n m : Int) (k : Nat), vs = [x, y] ∧ DI K H x n ∧ DI K H y m ∧ Bw k n ∧ Bw k m ∧ k ≤ 40000 ∧ ∀ v H', DI K H' v (n - m) → Same H H' → Q v H'
theorem okI_minus (T : Top K mg) : FnOk P w K mg base CX0 (7) T.f_minus T.fd_minus ["x", "y"]  (sp_minI K) := (ok_minus T 0).imp fun vs H Q E h => by
  obtain ⟨x, y, n, m, k, rfl, hx, hy, h1, h2, hk, q⟩ := h
  have l1 := fo_lim (by omega) h1
  have l2 := fo_lim (by omega) h2
  exact ⟨x, y, fo n, fo m, rfl, hx, hy, fo_fm n, fo_fm m, l1.2, l2.2, by decide, by omega, fun v r H' f e _ _ D sm => q v H' (DI.of f (by rw [e, val_fo, val_fo]) D) sm⟩
def sp_cmbI (K : PySem.W.Frag) : Sp := fun vs H Q _ => ∃ (x y : V) (n m r : Int) (t : Addr) (f : Bool → Bool → Bool) (k : Nat), vs = [x, y, .ref t] ∧ DI K H x n ∧ DI K H y m ∧ Bw k n ∧ Bw k m ∧ k ≤ 400000 ∧
  (∀ H', SqT K H' t (tabV f)) ∧ f false false = false ∧ (∀ q, tb r q = f (tb n q) (tb m q)) ∧ ∀ v H', DI K H' v r → Same H H' → Q v H'
theorem okI_combined (T : Top K mg) : FnOk P w K mg base CX0 (5) T.f_combined T.fd_combined ["x", "y", "table"]  (sp_cmbI K) := (ok_combined T 0).imp fun vs H Q E h => by
  obtain ⟨x, y, n, m, r, t, f, k, rfl, hx, hy, h1, h2, hk, hT, hf, hr, q⟩ := h
  have l1 := fo_lim (by omega) h1
  have l2 := fo_lim (by omega) h2
  refine ⟨x, y, fo n, fo m, t, f, rfl, hx, hy, fo_fm n, fo_fm m, l1.2, l2.2, by decide, by omega, hT, hf, fun v r' H' fr e _ _ D sm => q v H' (DI.of fr (tb_ext fun p => ?_) D) sm⟩
  rw [e p, hr p, val_fo, val_fo]
def sp_keptI (K : PySem.W.Frag) : Sp := fun vs H Q _ => ∃ (x : V) (n : Int) (k : Nat), vs = [x] ∧ DI K H x n ∧ Bw k n ∧ k ≤ 1900 ∧ ∀ H', Same H H' → Q x H'
theorem okI_kept (T : Top K mg) : FnOk P w K mg base CX0 (0 + 8) T.f_kept T.fd_kept ["x"]  (sp_keptI K) := (ok_kept T).imp fun vs H Q E h => by
  obtain ⟨x, n, k, rfl, hx, hb, hk, q⟩ := h
  have l := fo_lim (by omega) hb
  exact ⟨x, fo n, rfl, hx, fo_fm n, by omega, by omega, q⟩
/-- a Far, a number, of the int n -/
abbrev FarI (K : PySem.W.Frag) (C : Addr) (H : Hp) (a : Addr) (n : Int) : Prop := FarAt K C H a (fo n)
abbrev NumI (K : PySem.W.Frag) (C : Addr) (H : Hp) (x : V) (n : Int) : Prop := Num K C H x (fo n)
theorem numI_int {C : Addr} {H : Hp} {n : Int} {k : Nat} (hk : k ≤ 900000) (h : Bw k n) : NumI K C H (.int n) n := .inl ⟨n, k, rfl, fo_fm n, val_fo n, hk, h.1, h.2⟩
end
end K45
set_option Elab.async false
set_option linter.all false
set_option maxRecDepth 100000
set_option pp.deepTerms false
set_option pp.maxSteps 1500
namespace K45
open PySem PySem.Spec PyProof.Rows L2 HX TV FM DX FB FC PM FI
local macro_rules | `(tactic| walk_at "r") => `(tactic| (repeat (first | refine Exists.intro _ (And.intro rfl ?_) | refine And.intro rfl ?_ | refine Exists.intro _ (Exists.intro _ (And.intro rfl (And.intro rfl ?_))) | refine And.intro (by omega) ?_ | refine And.intro (Or.inl (And.intro (by omega) (by omega))) ?_ | refine And.intro (Or.inr (And.intro (by omega) (by omega))) ?_ | refine And.intro (And.intro (by omega) (by omega)) ?_ | refine And.intro (And.intro (by decide) (And.intro (by decide) (by decide))) ?_ | refine Or.inl (Exists.intro _ (And.intro rfl ?_)) | (dsimp only [gName]; first | with_reducible refine seqC ?_ | with_reducible refine asgC ?_))))
local macro_rules | `(tactic| walk_at "s") => `(tactic| (repeat (first | refine Exists.intro _ (And.intro rfl ?_) | refine And.intro rfl ?_ | refine Exists.intro _ (Exists.intro _ (And.intro rfl (And.intro rfl ?_))) | refine And.intro (by omega) ?_ | refine And.intro (Or.inl (And.intro (by omega) (by omega))) ?_ | refine And.intro (Or.inr (And.intro (by omega) (by omega))) ?_ | refine And.intro (And.intro (by omega) (by omega)) ?_ | refine And.intro (And.intro (by decide) (And.intro (by decide) (by decide))) ?_ | refine Or.inl (Exists.intro _ (And.intro rfl ?_)) | refine Exists.intro _ (Exists.intro _ (And.intro rfl ?_)) | (dsimp only [gName]; first | with_reducible refine seqC ?_ | with_reducible refine asgC ?_))))
section
variable {P : Program} {w : World} {K : PySem.W.Frag} {mg : Str → Option Value} {base : Heap}
def sp_shfI (K : PySem.W.Frag) : Sp := fun vs H Q _ => ∃ (x y : V) (n : Int) (p k : Nat), vs = [x, y] ∧ DI K H x n ∧ DI K H y (p : Nat) ∧ Bw k n ∧ k ≤ 30000 ∧ p ≤ 30000 ∧ ∀ v H', DI K H' v (n * 2 ^ p) → Same H H' → Q v H'
theorem okI_shifted (T : Top K mg) : FnOk P w K mg base CX0 (7) T.f_shifted T.fd_shifted ["x", "amount"]  (sp_shfI K) := (ok_shifted T 0).imp fun vs H Q E h => by
  obtain ⟨x, y, n, p, k, rfl, hx, hy, hb, hk, hp, q⟩ := h
  have l := fo_lim (by omega) hb
  have l2 := fo_lim (n := (p : Nat)) (k := 20) (by decide) (bw_nat (by omega))
  refine ⟨x, y, fo n, fo (p : Nat), rfl, hx, hy, fo_fm _, fo_fm _, by rw [val_fo]; omega, by omega, by omega, by decide, by omega, fun v r H' f e _ _ D sm => q v H' (DI.of f ?_ D) sm⟩
  rw [e, val_fo, vl_fo]
def sp_drpI (K : PySem.W.Frag) : Sp := fun vs H Q _ => ∃ (x y : V) (n : Int) (p k : Nat), vs = [x, y] ∧ DI K H x n ∧ DI K H y (p : Nat) ∧ Bw k n ∧ k ≤ 30000 ∧ p ≤ 30000 ∧ ∀ v H', DI K H' v (n / 2 ^ p) → Same H H' → Q v H'
theorem okI_dropped (T : Top K mg) : FnOk P w K mg base CX0 (8) T.f_dropped T.fd_dropped ["x", "amount"]  (sp_drpI K) := (ok_dropped T 0).imp fun vs H Q E h => by
  obtain ⟨x, y, n, p, k, rfl, hx, hy, hb, hk, hp, q⟩ := h
  have l := fo_lim (by omega) hb
  have l2 := fo_lim (n := (p : Nat)) (k := 20) (by decide) (bw_nat (by omega))
  refine ⟨x, y, fo n, fo (p : Nat), rfl, hx, hy, fo_fm _, fo_fm _, by rw [val_fo]; omega, by omega, by omega, by decide, by omega, fun v r H' f e _ _ D sm => q v H' (DI.of f ?_ D) sm⟩
  rw [e, val_fo, vl_fo]
def sp_powI (K : PySem.W.Frag) : Sp := fun vs H Q _ => ∃ (y : V) (p : Nat), vs = [y] ∧ DI K H y (p : Nat) ∧ p ≤ 2000000000 ∧ ∀ v H', DI K H' v (2 ^ p) → Same H H' → Q v H'
theorem tv_pow (p : Nat) : tv [p, p + 1] = 2 ^ p := by
  rw [tv_cons, tv_cons, tv_nil, Int.pow_succ]
  omega
theorem okI_power_of_two (T : Top K mg) : FnOk P w K mg base CX0 (7) T.f_power_of_two T.fd_power_of_two ["place"]  (sp_powI K) := by
  have G_plus_one : FnOk P w K mg base CX0 (6) T.f_plus_one T.fd_plus_one ["x"]  (sp_p1I K) := okI_plus_one T
  have G_made : FnOk P w K mg base CX0 (1) T.f_made T.fd_made ["found"]  (sp_madeI K) := okI_made T
  refine T.F_power_of_two.ok sc_power_of_two (fun vs H Q E h => ?_) (fun cdv A outer s H vs Q E hr h => ?_)
  · obtain ⟨y, p, rfl, _⟩ := h
    rfl
  · obtain ⟨y, p, rfl, hy, hp, q⟩ := h
    have ey := hy.int (by omega)
    subst ey
    refine ⟨_, (pss_one (ps_ret (pe_call G_made (hr.mono (by omega)) (by rfl) T.g_made T.F_made.kp T.b_made .nil pass0 (pa_cons (pe_lst (pa_cons (pv 0) (pa_cons (pe_call G_plus_one (hr.mono (by omega)) (by rfl) T.g_plus_one T.F_plus_one.kp T.b_plus_one .nil pass0 (pa_cons (pv 0) pa_nil)) pa_nil))) pa_nil)))), ?_⟩
    refine ⟨_, rfl, _, rfl, _, (p : Nat), 31, rfl, hy, bw_nat (by omega), by decide, fun v H1 D1 sm1 => ?_⟩
    have ev := D1.int (by omega)
    subst ev
    refine ⟨len_le (Nat.le_of_ble_eq_true rfl), fun l nl => ?_⟩
    generalize eH2 : upd H1 l _ = H2
    obtain ⟨sl, hl⟩ := new_step nl eH2
    clear eH2
    refine ⟨l, [p, p + 1], rfl, .inl (.inl (.inl hl)), ⟨Nat.lt_succ_self p, trivial⟩, ?_, fun v H3 D3 sm3 => ?_⟩
    · intro t ht
      have : t = p ∨ t = p + 1 := by simpa using ht
      omega
    · rw [tv_pow] at D3
      exact q v H3 D3 ((sm1.trans sl).trans sm3)
def sp_runI (K : PySem.W.Frag) : Sp := fun vs H Q _ => ∃ (x y : V) (a b : Nat), vs = [x, y] ∧ DI K H x (a : Nat) ∧ DI K H y (b : Nat) ∧ a ≤ b ∧ b ≤ 800000 ∧ ∀ v H', DI K H' v (2 ^ b - 2 ^ a) → Same H H' → Q v H'
theorem okI_run_of (T : Top K mg) : FnOk P w K mg base CX0 (2) T.f_run_of T.fd_run_of ["start", "stop"]  (sp_runI K) := by
  have G_made : FnOk P w K mg base CX0 (1) T.f_made T.fd_made ["found"]  (sp_madeI K) := okI_made T
  refine T.F_run_of.ok sc_run_of (fun vs H Q E h => ?_) (fun cdv A outer s H vs Q E hr h => ?_)
  · obtain ⟨x, y, a, b, rfl, _⟩ := h
    rfl
  · obtain ⟨x, y, a, b, rfl, hx, hy, hab, hb, q⟩ := h
    have ex := hx.int (by omega)
    have ey := hy.int (by omega)
    subst ex ey
    refine ⟨_, (pss_cons (ps_if (pt_cmpR op_eq (pv 0) (pv 1) (nomark _))
      (pss_one (ps_ret pe_int))
      pss_nil)
    (pss_one (ps_ret (pe_call G_made (hr.mono (by omega)) (by rfl) T.g_made T.F_made.kp T.b_made .nil pass0 (pa_cons (pe_lst (pa_cons (pv 0) (pa_cons (pv 1) pa_nil))) pa_nil))))), ?_⟩
    refine ⟨_, rfl, _, rfl, rfl, _, rfl, ?_⟩
    refine ifE (fun e => ?_) (fun e => ?_)
    · have : a = b := by omega
      subst this
      have := q (.int 0) H (by rw [Int.sub_self]; exact di_int (by decide)) (Same.refl _)
      exact this
    · dsimp only [tNext]
      refine ⟨_, rfl, ?_⟩
      refine ⟨_, rfl, Nat.le_of_ble_eq_true rfl, fun l nl => ?_⟩
      refine ⟨l, [a, b], rfl, .inl (.inl (.inl upd_same)), ⟨by omega, trivial⟩, ?_, fun v H3 D3 sm3 => ?_⟩
      · intro t ht
        have : t = a ∨ t = b := by simpa using ht
        omega
      · have e2 : tv [a, b] = 2 ^ b - 2 ^ a := by
          rw [tv_cons, tv_cons, tv_nil]
          omega
        rw [e2] at D3
        exact q v H3 D3 ((sm_upd nl).trans sm3)
end
end K45
set_option Elab.async false
set_option linter.all false
set_option maxRecDepth 100000
set_option pp.deepTerms false
set_option pp.maxSteps 1500
/-! forms given to Far: given_form, row_form -/
namespace K45
open PySem PySem.Spec PyProof.Rows L2 HX TV FM DX FB FC PM FI
local macro_rules | `(tactic| walk_at "r") => `(tactic| (repeat (first | refine Exists.intro _ (And.intro rfl ?_) | refine And.intro rfl ?_ | refine Exists.intro _ (Exists.intro _ (And.intro rfl (And.intro rfl ?_))) | refine And.intro (by omega) ?_ | refine And.intro (Or.inl (And.intro (by omega) (by omega))) ?_ | refine And.intro (Or.inr (And.intro (by omega) (by omega))) ?_ | refine And.intro (And.intro (by omega) (by omega)) ?_ | refine And.intro (And.intro (by decide) (And.intro (by decide) (by decide))) ?_ | refine Or.inl (Exists.intro _ (And.intro rfl ?_)) | (dsimp only [gName]; first | with_reducible refine seqC ?_ | with_reducible refine asgC ?_))))
local macro_rules | `(tactic| walk_at "s") => `(tactic| (repeat (first | refine Exists.intro _ (And.intro rfl ?_) | refine And.intro rfl ?_ | refine Exists.intro _ (Exists.intro _ (And.intro rfl (And.intro rfl ?_))) | refine And.intro (by omega) ?_ | refine And.intro (Or.inl (And.intro (by omega) (by omega))) ?_ | refine And.intro (Or.inr (And.intro (by omega) (by omega))) ?_ | refine And.intro (And.intro (by omega) (by omega)) ?_ | refine And.intro (And.intro (by decide) (And.intro (by decide) (by decide))) ?_ | refine Or.inl (Exists.intro _ (And.intro rfl ?_)) | refine Exists.intro _ (Exists.intro _ (And.intro rfl ?_)) | (dsimp only [gName]; first | with_reducible refine seqC ?_ | with_reducible refine asgC ?_))))
section
variable {P : Program} {w : World} {K : PySem.W.Frag} {mg : Str → Option Value} {base : Heap}
/-- of a value of a built-in type -/
def sp_isintO (K : PySem.W.Frag) (C : Addr) : Sp := fun vs H Q _ => ∃ (x : V) (t : String) (b : Bool), vs = [x] ∧ TyX K H x (.type t) ∧ (kitB t "int" = some false ∧ b = false ∨ kitB t "int" = some true ∧ kitB t "bool" = some (!b)) ∧ Q (.bl b) H
theorem ok_is_intO (T : Top K mg) : FnOk P w K mg base CX0 (1) T.f_is_int T.fd_is_int ["value"]  (sp_isintO K T.C_Far) := by
  refine T.F_is_int.ok sc_is_int (fun vs H Q E h => ?_) (fun cdv A outer s H vs Q E hr h => ?_)
  · obtain ⟨x, t, b, rfl, _⟩ := h
    rfl
  · obtain ⟨x, t, b, rfl, ht, hk, q⟩ := h
    refine ⟨_, (pss_one (ps_ret (pe_and (pe_callB call_isi (by rfl) T.m_isinstance (by decide +kernel) (pa_cons (pv 0) (pa_cons (pe_bltn (v := .ty "int") (by rfl) T.m_int (by decide +kernel) rfl) pa_nil))) (pe_one (pe_not (pe_callB call_isi (by rfl) T.m_isinstance (by decide +kernel) (pa_cons (pv 0) (pa_cons (pe_bltn (v := .ty "bool") (by rfl) T.m_bool (by decide +kernel) rfl) pa_nil)))))))), ?_⟩
    rcases hk with ⟨h1, rfl⟩ | ⟨h1, h2⟩
    · refine ⟨_, rfl, _, _, _, _, false, rfl, .ty "int", ht, kit_ty h1, ?_⟩
      exact ⟨_, rfl, iteF q⟩
    · refine ⟨_, rfl, _, _, _, _, true, rfl, .ty "int", ht, kit_ty h1, ?_⟩
      refine ⟨_, rfl, iteT ?_⟩
      refine ⟨_, rfl, _, _, _, _, !b, rfl, .ty "bool", ht, kit_ty h2, ?_⟩
      refine ⟨_, rfl, ?_⟩
      rw [Bool.not_not]
      exact q
theorem ok_or {k : Nat} {f : Addr} {fd : FuncData} {ps : List Str} {sp sp' : Sp} {CX : CXT} (F : FnOk P w K mg base CX k f fd ps sp) (G : FnOk P w K mg base CX k f fd ps sp') : FnOk P w K mg base CX k f fd ps (fun vs H Q E => sp vs H Q E ∨ sp' vs H Q E) :=
  ⟨fun vs H Q E h => h.elim (F.len vs H Q E) (G.len vs H Q E), fun A outer s H args us vs Q E hr he hb hv h => h.elim (F.run A outer s H args us vs Q E hr he hb hv) (G.run A outer s H args us vs Q E hr he hb hv)⟩
theorem none_ofSI {H H' : Hp} {a : Addr} (e : Same H H') (h : H' a = none) : H a = none := by
  cases q : H a with
  | none => rfl
  | some o => rw [e _ _ q] at h; cases h
/-- a number, or a form -/
def NumF (K : PySem.W.Frag) (C : Addr) (H : Hp) (x : V) (d : PyData) : Prop := Num K C H x d ∨ (Dp K H x d ∧ Fm d)
theorem NumF.fm {C : Addr} {H : Hp} {x : V} {d : PyData} (h : NumF K C H x d) : Fm d := h.elim Num.fm fun z => z.2
theorem NumF.same {C : Addr} {H H' : Hp} {x : V} {d : PyData} (h : NumF K C H x d) (e : Same H H') : NumF K C H' x d := h.elim (fun z => .inl (z.same e)) fun z => .inr ⟨dp_tk (tk_same e) z.2 z.1, z.2⟩
theorem numF_di {C : Addr} {H : Hp} {x : V} {n : Int} (h : DI K H x n) : NumF K C H x (fo n) := .inr ⟨h, fo_fm n⟩
def sp_givenF (K : PySem.W.Frag) (C : Addr) (n : Nat) : Sp := fun vs H Q _ => ∃ x d, vs = [x] ∧ NumF K C H x d ∧ wt d ≤ 2000 ∧ d.depth ≤ n ∧ n ≤ 6 ∧ ∀ v H', Dp K H' v d → Same H H' → Q v H'
def sp_rowF (K : PySem.W.Frag) (n : Nat) : Sp := fun vs H Q _ => ∃ x d, vs = [x] ∧ Dp K H x d ∧ Fm d ∧ isI d = false ∧ wt d ≤ 2000 ∧ d.depth ≤ n + 1 ∧ n ≤ 5 ∧ ∀ v H', Dp K H' v d → Same H H' → Q v H'
theorem row_formF (T : Top K mg) (n : Nat) (G_given_form : FnOk P w K mg base CX0 (2 * n + 11) T.f_given_form T.fd_given_form ["value"]  (sp_givenF K T.C_Far n)) : FnOk P w K mg base CX0 (2 * n + 12) T.f_row_form T.fd_row_form ["members"]  (sp_rowF K n) := by
  have G_negative : FnOk P w K mg base CX0 (1) T.f_negative T.fd_negative ["x"]  (sp_neg K) := ok_negative T
  have G_order : FnOk P w K mg base CX0 (n + 3) T.f_order T.fd_order ["x", "y"]  (sp_ord K n) := ok_order T n
  have G_made : FnOk P w K mg base CX0 (1) T.f_made T.fd_made ["found"]  (sp_made K) := ok_made T
  have G_kept : FnOk P w K mg base CX0 (0 + 8) T.f_kept T.fd_kept ["x"]  (sp_kept K) := ok_kept T
  refine T.F_row_form.ok sc_row_form (fun vs H Q E h => ?_) (fun cdv Ar outer s H vs Q E hr h => ?_)
  · obtain ⟨x, d, rfl, _⟩ := h
    rfl
  · obtain ⟨x, d, rfl, hx, fd, hi, hw, hdd, hn, q⟩ := h
    obtain ⟨ds, rfl⟩ := fm_isT fd hi
    have fd0 := fd
    obtain ⟨fA, hA, _⟩ := (fm_tuple ds).mp fd
    rw [depth_tuple] at hdd
    rw [wt_tuple] at hw
    have hul := len_wt ds
    cases hx with
    | @tup a us _ hsq hD =>
      have hll := dpAll_len hD
      refine ⟨_, (pss_cons (ps_set (i := 1) sc_row_form.nd rfl (Or.inl rfl) (pe_lst pa_nil))
    (pss_cons (ps_for PassesOwn.never rfl (pi_enumT (by rfl) T.m_enumerate (pa_cons (pv 0) pa_nil)) (pg_tup rfl (pgs_cons (pg_name (i := 2) sc_row_form.nd rfl (Or.inl rfl)) (pgs_cons (pg_name (i := 3) sc_row_form.nd rfl (Or.inl rfl)) pgs_nil)))
      (pss_cons (ps_set (i := 4) sc_row_form.nd rfl (Or.inl rfl) (pe_call G_given_form (hr.mono (by omega)) (by rfl) T.g_given_form T.F_given_form.kp T.b_given_form .nil pass0 (pa_cons (pv 3) pa_nil)))
      (pss_cons (ps_if (PW.pt (pw_or (pt_val (pe_call G_negative (hr.mono (by omega)) (by rfl) T.g_negative T.F_negative.kp T.b_negative .nil pass0 (pa_cons (pv 4) pa_nil)) (fun _ => rfl)) (pw_or1 (PW.pt (pw_and (pt_cmpR op_gt (pv 2) pe_int (nomark _)) (pw_and1 (pt_cmpR op_ge (pe_call G_order (hr.mono (by omega)) (by rfl) T.g_order T.F_order.kp T.b_order .nil pass0 (pa_cons (pe_ix ix_list (pv 1) (pe_un un_neg pe_int) (fun _ _ => rfl)) (pa_cons (pv 4) pa_nil))) pe_int (nomark _))))))))
        (pss_one ps_never)
        pss_nil)
      (pss_one (ps_expr (pe_bm PySem.F.plainAttrs_list PySem.F.slot_list_append PySem.F.type_list_append mt_append (pv 1) (pa_cons (pv 4) pa_nil)))))))
    (pss_one (ps_ret (pe_call G_kept (hr.mono (by omega)) (by rfl) T.g_kept T.F_kept.kp T.b_kept .nil pass0 (pa_cons (pe_call G_made (hr.mono (by omega)) (by rfl) T.g_made T.F_made.kp T.b_made .nil pass0 (pa_cons (pv 1) pa_nil)) pa_nil)))))), ?_⟩
      refine ⟨len_le (Nat.le_of_ble_eq_true rfl), fun l nl => ?_⟩
      generalize eH1 : upd H l _ = H1
      obtain ⟨sl, hl⟩ := new_step nl eH1
      clear eH1
      have hsq1 := HX.Same.tup sl hsq
      have hD1 := dpAll_tk (tk_same sl) fA hD
      dsimp only [gName]
      have mu : ∀ {H'' : Hp} {zs : List V}, H'' l = some (.lst zs) → Mut (H'' l) := fun z => by
        rw [z]
        trivial
      refine ⟨_, rfl, a, us, rfl, hsq1, flET (xs := us) (fun i σ H' => ∃ (z2 z3 z4 : Option V) (zs : List V), σ = [some (.ref a), some (.ref l), z2, z3, z4] ∧ H' l = some (.lst zs) ∧ DpAll K H' zs (ds.take i) ∧ But l H1 H')
        ⟨none, none, none, [], rfl, hl, .nil, But.refl _⟩ ?_ ?_ ?_⟩
      · rintro i σ H' _ ⟨_, _, _, zs, _, _, _, bt⟩
        exact tk_tup (tk_but bt (mu hl)) hsq1
      · rintro i x σ H' hx ⟨z2, z3, z4, zs, rfl, hl', hZ, bt⟩ Tt nT D' B
        obtain ⟨e, he, _⟩ := dpAll_get hD1 hx
        have hx' : Dp K H' x e := by
          obtain ⟨e', he', z⟩ := dpAll_get (dpAll_tk (tk_but bt (mu hl)) fA hD1) hx
          cases he.symm.trans he'
          exact z
        have hil := (List.getElem?_eq_some_iff.mp he).1
        have hme := List.mem_of_getElem? he
        have fe := fmAll_mem fA e hme
        have wte := wt_mem hme
        have dpe := dep_mem hme
        have sT := sm_upd (o := .tup [.int (i : Nat), x]) nT
        refine ⟨Tt, _, rfl, .inl (.inl upd_same), rfl, _, _, rfl, _, _, rfl, rfl, ?_⟩
        revert sT
        generalize upd H' Tt (.tup [.int (i : Nat), x]) = H2
        intro sT
        have hl2 := sT _ _ hl'
        have hZ2 := dpAll_tk (tk_same sT) (fmAll_sub (List.take_sublist i ds) fA) hZ
        have bt2 := bt.trans (But.of sT)
        walk_at "r"
        refine ⟨x, e, rfl, .inr ⟨dp_tk (tk_same sT) fe.1 hx', fe.1⟩, by omega, by omega, by omega, fun v H3 D3 sm3 => ?_⟩
        have hl3 := sm3 _ _ hl2
        have hZ3 := dpAll_tk (tk_same sm3) (fmAll_sub (List.take_sublist i ds) fA) hZ2
        have bt3 := bt2.trans (But.of sm3)
        have lzs := dpAll_len hZ3
        rw [List.length_take] at lzs
        dsimp only [gName]
        refine ⟨_, rfl, v, e, rfl, D3, fe.1, ?_⟩
        rw [decide_eq_false (by omega)]
        refine ⟨_, rfl, iteF ?_⟩
        have fin : ∀ H4, Same H3 H4 → D'.nx [some (.ref a), some (.ref l), some (.int (i : Nat)), some x, some v] (upd H4 l (.lst (zs ++ [v]))) := fun H4 sm4 => by
          refine B.nx _ _ ⟨_, _, _, zs ++ [v], rfl, upd_same, ?_, ?_⟩
          · have z4 : DpAll K H4 (zs ++ [v]) (ds.take (i + 1)) := by
              rw [List.take_add_one, he]
              exact dpAll_app (dpAll_tk (tk_same sm4) (fmAll_sub (List.take_sublist i ds) fA) hZ3) (.cons (dp_tk (tk_same sm4) fe.1 D3) .nil)
            exact dpAll_tk (tk_mut (mu (sm4 _ _ hl3))) (fmAll_sub (List.take_sublist (i + 1) ds) fA) z4
          · exact (bt3.trans (But.of sm4)).upd
        walk_at "r"
        refine ifD (fun hz => ?_) (fun hz => ?_)
        · obtain ⟨j, rfl⟩ : ∃ j, i = j + 1 := ⟨i - 1, by omega⟩
          obtain ⟨p, hp⟩ : ∃ p, ds[j]? = some p := ⟨ds[j], List.getElem?_eq_getElem (by omega)⟩
          have fp := fmAll_mem fA p (List.mem_of_getElem? hp)
          have hpt : (ds.take (j + 1))[j]? = some p := by rw [List.getElem?_take, if_pos (by omega)]; exact hp
          obtain ⟨vp, hvp, Dpp⟩ := dpAll_at hZ3 hpt
          have hlt : val p < val e := by
            have h1 := vals_at hp
            have h2 := vals_at he
            have := asc_pairwise.mp hA
            rw [List.pairwise_iff_getElem] at this
            obtain ⟨q1, q2⟩ := List.getElem?_eq_some_iff.mp h1
            obtain ⟨q3, q4⟩ := List.getElem?_eq_some_iff.mp h2
            have := this j (j + 1) q1 q3 (by omega)
            rw [q2, q4] at this
            show val p < val e
            have e1 : vl p = (val p).toNat := rfl
            have e2 : vl e = (val e).toNat := rfl
            omega
          walk_at "r"
          refine ⟨l, zs, -1, vp, rfl, rfl, .inl (.inl hl3), atI_neg1 (by rw [show zs.length - 1 = j by omega]; exact hvp), ?_⟩
          have dpp := dep_mem (List.mem_of_getElem? hp)
          walk_at "r"
          refine ⟨vp, v, p, e, rfl, Dpp, D3, fp.1, fe.1, by omega, by omega, by omega, fun H4 sm4 => ?_⟩
          rw [sg_lt hlt]
          walk_at "r"
          refine ⟨.inl ⟨rfl, _, .inl (.inl (sm4 _ _ hl3))⟩, _, rfl, l, _, _, rfl, rfl, sm4 _ _ hl3, len_lt (by omega), fin H4 sm4⟩
        · dsimp only [tNext]
          refine ⟨_, rfl, .inl ⟨rfl, _, .inl (.inl hl3)⟩, _, rfl, l, _, _, rfl, rfl, hl3, len_lt (by omega), fin H3 (Same.refl _)⟩
      · rintro σ H' ⟨z2, z3, z4, zs, rfl, hl', hZ, bt⟩
        rw [hll, List.take_length] at hZ
        walk_at "r"
        refine ⟨l, zs, ds, rfl, .inl (.inl (.inl hl')), hZ, fA, hA, fun v d2 H2 f2 e2 dp2 w2 D2 sm2 => ?_⟩
        have ed : d2 = .tuple ds := fm_inj f2 fd0 (by rw [e2, val_tuple])
        subst ed
        refine ⟨v, _, rfl, D2, fd0, by rw [wt_tuple]; omega, by rw [depth_tuple]; omega, fun H3 sm3 => ?_⟩
        refine q v H3 (dp_tk (tk_same sm3) fd0 D2) (fun b o z => ?_)
        exact sm3 _ _ (sm2 _ _ (bt b o (ne_of_none z nl) (sl _ _ z)))
theorem given_formT (T : Top K mg) (n : Nat) (h0 : n = 0 ∨ FnOk P w K mg base CX0 (2 * n + 10) T.f_row_form T.fd_row_form ["members"]  (sp_rowF K (n - 1))) : FnOk P w K mg base CX0 (2 * n + 11) T.f_given_form T.fd_given_form ["value"]  (sp_givenF K T.C_Far n) := by
  have G_row_form : FnOk P w K mg base CX0 (2 * n + 10) T.f_row_form T.fd_row_form ["members"]  (fun vs H Q E => n ≠ 0 ∧ sp_rowF K (n - 1) vs H Q E) := by
    rcases h0 with h | h
    · exact ⟨fun vs H Q E z => absurd h z.1, fun A outer s H args us vs Q E _ _ _ _ z => absurd h z.1⟩
    · exact h.imp fun vs H Q E z => z.2
  have G_is_int : FnOk P w K mg base CX0 (1) T.f_is_int T.fd_is_int ["value"]  (fun vs H Q E => sp_isint K T.C_Far vs H Q E ∨ sp_isintO K T.C_Far vs H Q E) := ok_or (ok_is_int T) (ok_is_intO T)
  have G_of_int : FnOk P w K mg base CX0 (2) T.f_of_int T.fd_of_int ["number"]  (sp_ofint K) := ok_of_int T
  have G_kept : FnOk P w K mg base CX0 (0 + 8) T.f_kept T.fd_kept ["x"]  (sp_kept K) := ok_kept T
  refine T.F_given_form.ok sc_given_form (fun vs H Q E h => ?_) (fun cdv A outer s H vs Q E hr h => ?_)
  · obtain ⟨x, d, rfl, _⟩ := h
    rfl
  · obtain ⟨x, d, rfl, hx, hw, hdd, hn, q⟩ := h
    refine ⟨_, (pss_cons (ps_if (pt_val (pe_callB call_isi (by rfl) T.m_isinstance (by decide +kernel) (pa_cons (pv 0) (pa_cons (pe_glob (v := .ref T.C_Far) (by rfl) T.g_Far rfl) pa_nil))) (fun _ => rfl))
      (pss_one (ps_ret (pe_fld (pv 0) rfl)))
      pss_nil)
    (pss_cons (ps_if (pt_val (pe_call G_is_int (hr.mono (by omega)) (by rfl) T.g_is_int T.F_is_int.kp T.b_is_int .nil pass0 (pa_cons (pv 0) pa_nil)) (fun _ => rfl))
      (pss_one (ps_ret (pe_call G_kept (hr.mono (by omega)) (by rfl) T.g_kept T.F_kept.kp T.b_kept .nil pass0 (pa_cons (pe_call G_of_int (hr.mono (by omega)) (by rfl) T.g_of_int T.F_of_int.kp T.b_of_int .nil pass0 (pa_cons (pv 0) pa_nil)) pa_nil))))
      pss_nil)
    (pss_cons (ps_if (pt_val (pe_callB call_isiT (by rfl) T.m_isinstance (by decide +kernel) (pa_cons (pv 0) (pa_cons (pe_tup (pa_cons (pe_bltn (v := .ty "list") (by rfl) T.m_list (by decide +kernel) rfl) (pa_cons (pe_bltn (v := .ty "tuple") (by rfl) T.m_tuple (by decide +kernel) rfl) pa_nil))) pa_nil))) (fun _ => rfl))
      (pss_one (ps_ret (pe_call G_row_form (hr.mono (by omega)) (by rfl) T.g_row_form T.F_row_form.kp T.b_row_form .nil pass0 (pa_cons (pv 0) pa_nil))))
      pss_nil)
    (pss_one ps_never)))), ?_⟩
    have int : ∀ (i : Int) (k : Nat), x = .int i → val d = i → k ≤ 900000 → -(2 ^ k) ≤ i → i < 2 ^ k → Fm d → Num K T.C_Far H x d := fun i k e ed hk h1 h2 fd => .inl ⟨i, k, e, fd, ed, hk, h1, h2⟩
    have hx2 : Num K T.C_Far H x d ∨ ∃ (a : Addr) (us : List V), x = .ref a ∧ SqT K H a us ∧ Dp K H x d ∧ Fm d ∧ isI d = false := by
      rcases hx with h | ⟨h, f⟩
      · exact .inl h
      · rcases fm_cases f with ⟨i, rfl⟩ | ⟨ds, rfl⟩
        · cases h
          have hb := (fm_int i).mp f
          exact .inl (int i 64 rfl (val_int i) (by decide) hb.1 hb.2 f)
        · have h' := h
          cases h with
          | tup g1 g2 => exact .inr ⟨_, _, rfl, g1, h', f, rfl⟩
    rcases hx2 with (⟨i, k, rfl, fd, ed, hk, h1, h2⟩ | ⟨a, rfl, hf⟩) | ⟨a, us, rfl, hsq, hD, fd, hi⟩
    · refine ⟨_, rfl, _, _, _, _, false, rfl, .own _, tyI _, T.I_Far.ik, ?_⟩
      refine ⟨_, rfl, iteF ?_⟩
      dsimp only [tNext]
      refine ⟨_, rfl, .inl ⟨_, rfl, .inl ⟨i, rfl, ?_⟩⟩⟩
      refine ⟨_, rfl, iteT ?_⟩
      refine ⟨_, rfl, i, k, rfl, hk, h1, h2, fun v r H1 g1 g2 g3 g4 D1 sm1 => ?_⟩
      have : r = d := fm_inj g1 fd (by rw [g2, ed])
      subst this
      exact ⟨v, r, rfl, D1, fd, hw, by omega, fun H2 sm2 => q v H2 (dp_tk (tk_same sm2) fd D1) (sm1.trans sm2)⟩
    · refine ⟨_, rfl, _, _, _, _, true, rfl, .own _, ty_far T.I_Far T.k_Far hf, T.I_Far.ks, ?_⟩
      refine ⟨_, rfl, iteT ?_⟩
      obtain ⟨dx, v, h1, h2, h3⟩ := hf
      exact ⟨_, rfl, a, _, dx, _, v, rfl, h1, T.k_Far, T.n_Far, lk_own v, q v H h2 (Same.refl _)⟩
    · refine ⟨_, rfl, _, _, _, _, false, rfl, .own _, tyT hsq, T.I_Far.tk, ?_⟩
      refine ⟨_, rfl, iteF ?_⟩
      dsimp only [tNext]
      refine ⟨_, rfl, .inr ⟨_, "tuple", false, rfl, tyT hsq, .inl ⟨k_ti, rfl⟩, ?_⟩⟩
      refine ⟨_, rfl, iteF ?_⟩
      dsimp only [tNext]
      obtain ⟨ds, rfl⟩ := fm_isT fd hi
      have hn0 : n ≠ 0 := fun z => by
        rw [depth_tuple] at hdd
        omega
      refine ⟨_, rfl, by show 2 ≤ sizeLine; decide, fun t nt => ?_⟩
      have st := sm_upd (o := .tup [.ty "list", .ty "tuple"]) nt
      refine ⟨_, _, _, _, _, true, rfl, upd_same, .cons (.ty "list") (.cons (.ty "tuple") .nil), tyT (HX.Same.tup st hsq), ?_, ?_⟩
      · exact kitAny_cons (kit_ty (by decide +kernel : kitB "tuple" "list" = some false)) (fun _ => kitAny_cons (kit_ty k_tt) (fun z => absurd z (by decide)) fun _ => rfl) (fun z => absurd z (by decide))
      refine ⟨_, rfl, iteT ?_⟩
      refine ⟨_, rfl, hn0, _, _, rfl, dp_tk (tk_same st) fd hD, fd, hi, hw, by omega, by omega, fun v H' D sm => ?_⟩
      exact q v H' D (st.trans sm)
theorem ok_given_formF (T : Top K mg) : ∀ n, FnOk P w K mg base CX0 (2 * n + 11) T.f_given_form T.fd_given_form ["value"]  (sp_givenF K T.C_Far n)
  | 0 => given_formT T 0 (.inl rfl)
  | n + 1 => given_formT T (n + 1) (.inr (row_formF T n (ok_given_formF T n)))
/-- a new Far gets its form, or the form of a number -/
def sp_initF (K : PySem.W.Frag) (C : Addr) (n : Nat) : Sp := fun vs H Q _ => ∃ (a dx : Addr) (x : V) (d : PyData), vs = [.ref a, x] ∧ H a = some (.ins C dx []) ∧ NumF K C H x d ∧ wt d ≤ 2000 ∧ d.depth ≤ n ∧ n ≤ 6 ∧
  ∀ v H', H' a = some (.ins C dx [(("own_form" : Str), v)]) → Dp K H' v d → (∀ b o, b ≠ a → H b = some o → H' b = some o) → Q .non H'
theorem ok_Far___init__F (T : Top K mg) (n : Nat) : FnOk P w K mg base CX0 (2 * n + 12) T.f_Far___init__ T.fd_Far___init__ ["self", "value"] (sp_initF K T.C_Far n) := by
  have G_given_form : FnOk P w K mg base CX0 (2 * n + 11) T.f_given_form T.fd_given_form ["value"]  (sp_givenF K T.C_Far n) := ok_given_formF T n
  refine funD_ok0 T.F_Far___init__ sc_Far___init__ (fun vs H Q E h => ?_) (fun cdv A outer s H vs Q E hr h => ?_)
  · obtain ⟨a, dx, x, d, rfl, _⟩ := h
    rfl
  · obtain ⟨a, dx, x, d, rfl, ha, hx, hw, hdd, hn, q⟩ := h
    refine ⟨_, (pss_one (ps_fld (pv 0) (pe_call G_given_form (hr.mono (by omega)) (by rfl) T.g_given_form T.F_given_form.kp T.b_given_form .nil pass0 (pa_cons (pv 1) pa_nil)) rfl)), ?_⟩
    refine ⟨_, rfl, x, d, rfl, hx, hw, hdd, hn, fun v H1 D1 sm1 => ?_⟩
    refine ⟨_, rfl, a, T.C_Far, dx, [], rfl, sm1 _ _ ha, T.k_Far, T.n_Far, by show 0 < 1000; decide, ?_⟩
    refine q v _ upd_same (dp_tk (tk_mut (p := a) ?_) hx.fm D1) (fun b o hb e => ?_)
    · rw [sm1 _ _ ha]
      trivial
    · rw [upd_ne hb]
      exact sm1 _ _ e
/-- a call of the class: a new Far -/
theorem new_farF {C : Addr} {H : Hp} {x : V} {d : PyData} {n : Nat} {Q : VK} {E : XK} (hx : NumF K C H x d) (hw : wt d ≤ 2000) (hdd : d.depth ≤ n) (hn : n ≤ 6) (q : ∀ a H', H a = none → FarAt K C H' a d → Same H H' → Q (.ref a) H') :
    ∀ a dx, H a = none → H dx = none → dx ≠ a → sp_initF K C n (.ref a :: ([x] ++ [])) (upd (upd H dx (.own a)) a (.ins C dx [])) (fun v H2 => v = .non ∧ Q (.ref a) H2) E := fun a dx na nd ne => by
  have s2 : Same H (upd (upd H dx (.own a)) a (.ins C dx [])) := fun b o e => by
    rw [upd_ne (ne_of_none e na), upd_ne (ne_of_none e nd)]
    exact e
  refine ⟨a, dx, x, d, rfl, upd_same, hx.same s2, hw, hdd, hn, fun v H' h1 D e => ⟨rfl, q a H' na ⟨dx, v, h1, D, hx.fm⟩ fun b o z => e b o (ne_of_none z na) (s2 _ _ z)⟩⟩
/-- .. of an int with few bits -/
theorem new_farI {C : Addr} {H : Hp} {x : V} {m : Int} {k : Nat} {Q : VK} {E : XK} (hx : NumF K C H x (fo m)) (hb : Bw k m) (hk : k ≤ 1900) (q : ∀ a H', H a = none → FarI K C H' a m → Same H H' → Q (.ref a) H') :
    ∀ a dx, H a = none → H dx = none → dx ≠ a → sp_initF K C 1 (.ref a :: ([x] ++ [])) (upd (upd H dx (.own a)) a (.ins C dx [])) (fun v H2 => v = .non ∧ Q (.ref a) H2) E := by
  have l := fo_lim (by omega) hb
  exact new_farF hx (by omega) l.2 (by decide) q
/-- .. where what follows is not known by name -/
theorem init_farI {C : Addr} {H : Hp} {a dx : Addr} {x : V} {m : Int} {k : Nat} {E : XK} {G : Hp → Prop} (na : H a = none) (nd : H dx = none) (ne : dx ≠ a) (hx : NumF K C H x (fo m)) (hb : Bw k m) (hk : k ≤ 1900) (q : ∀ H', FarI K C H' a m → Same H H' → G H') :
    sp_initF K C 1 [.ref a, x] (upd (upd H dx (.own a)) a (.ins C dx [])) (fun v H2 => v = .non ∧ G H2) E := by
  have l := fo_lim (by omega) hb
  have s2 : Same H (upd (upd H dx (.own a)) a (.ins C dx [])) := fun b o e => by
    rw [upd_ne (ne_of_none e na), upd_ne (ne_of_none e nd)]
    exact e
  refine ⟨a, dx, x, fo m, rfl, upd_same, hx.same s2, by omega, l.2, by decide, fun v H' h1 D e => ⟨rfl, q H' ⟨dx, v, h1, D, hx.fm⟩ fun b o z => e b o (ne_of_none z na) (s2 _ _ z)⟩⟩
end
end K45
set_option Elab.async false
set_option linter.all false
set_option maxRecDepth 100000
set_option pp.deepTerms false
set_option pp.maxSteps 1500
/-! the last turn, whole numbers, equality of Fars -/
namespace K45
open PySem PySem.Spec PyProof.Rows L2 HX TV FM DX FB FC PM FI
local macro_rules | `(tactic| walk_at "r") => `(tactic| (repeat (first | refine Exists.intro _ (And.intro rfl ?_) | refine And.intro rfl ?_ | refine Exists.intro _ (Exists.intro _ (And.intro rfl (And.intro rfl ?_))) | refine And.intro (by omega) ?_ | refine And.intro (Or.inl (And.intro (by omega) (by omega))) ?_ | refine And.intro (Or.inr (And.intro (by omega) (by omega))) ?_ | refine And.intro (And.intro (by omega) (by omega)) ?_ | refine And.intro (And.intro (by decide) (And.intro (by decide) (by decide))) ?_ | refine Or.inl (Exists.intro _ (And.intro rfl ?_)) | (dsimp only [gName]; first | with_reducible refine seqC ?_ | with_reducible refine asgC ?_))))
local macro_rules | `(tactic| walk_at "s") => `(tactic| (repeat (first | refine Exists.intro _ (And.intro rfl ?_) | refine And.intro rfl ?_ | refine Exists.intro _ (Exists.intro _ (And.intro rfl (And.intro rfl ?_))) | refine And.intro (by omega) ?_ | refine And.intro (Or.inl (And.intro (by omega) (by omega))) ?_ | refine And.intro (Or.inr (And.intro (by omega) (by omega))) ?_ | refine And.intro (And.intro (by omega) (by omega)) ?_ | refine And.intro (And.intro (by decide) (And.intro (by decide) (by decide))) ?_ | refine Or.inl (Exists.intro _ (And.intro rfl ?_)) | refine Exists.intro _ (Exists.intro _ (And.intro rfl ?_)) | (dsimp only [gName]; first | with_reducible refine seqC ?_ | with_reducible refine asgC ?_))))
section
variable {P : Program} {w : World} {K : PySem.W.Frag} {mg : Str → Option Value} {base : Heap}
def sp_lastI (K : PySem.W.Frag) : Sp := fun vs H Q _ => ∃ v n k, vs = [v] ∧ DI K H v n ∧ Bw k n ∧ k ≤ 900000 ∧ ∀ H', Same H H' → (turnsOf n = [] → Q .non H') ∧ ∀ t : Nat, (turnsOf n).getLast? = some t → t ≤ k → Q (.int (t : Nat)) H'
theorem okI_last_turn (T : Top K mg) : FnOk P w K mg base CX0 (3) T.f_last_turn T.fd_last_turn ["x"]  (sp_lastI K) := by
  have G_turns : FnOk P w K mg base CX0 (2) T.f_turns T.fd_turns ["x"]  (sp_trnI K) := okI_turns T
  refine T.F_last_turn.ok sc_last_turn (fun vs H Q E h => ?_) (fun cdv A outer s H vs Q E hr h => ?_)
  · obtain ⟨v, n, k, rfl, _⟩ := h
    rfl
  · obtain ⟨v, n, k, rfl, hv, hb, hk, q⟩ := h
    refine ⟨_, (pss_cons (ps_set (i := 1) sc_last_turn.nd rfl (Or.inl rfl) (pe_call G_turns (hr.mono (by omega)) (by rfl) T.g_turns T.F_turns.kp T.b_turns .nil pass0 (pa_cons (pv 0) pa_nil)))
    (pss_one (ps_ret (pe_ifExp (pt_cmpR op_gt (pe_callB call_len_seq (by rfl) T.m_len PySem.boot_len (pa_cons (pv 1) pa_nil)) pe_int (nomark _)) (pe_ix ix_tup (pv 1) (pe_un un_neg pe_int) (fun _ _ => rfl)) pe_non)))), ?_⟩
    refine ⟨_, rfl, v, n, k, rfl, hv, hb, hk, fun a H1 hsq sm1 => ?_⟩
    dsimp only [gName]
    refine ⟨_, rfl, a, _, rfl, .inr hsq, ?_⟩
    rw [nv_len]
    walk_at "r"
    have hl := hb.turns
    obtain ⟨q1, q2⟩ := q H1 sm1
    revert hsq q1 q2 hl
    generalize turnsOf n = ts
    intro hsq hl q1 q2
    refine ifD (fun z => ?_) (fun z => ?_)
    · have hne : ts ≠ [] := fun e => by rw [e] at z; exact absurd z (by decide)
      have hlp := List.length_pos_iff.mpr hne
      have hg : ts[ts.length - 1]? = some (ts.getLast hne) := by
        rw [List.getLast_eq_getElem, List.getElem?_eq_getElem]
      have h64 := hl _ (List.getLast_mem hne)
      refine ⟨_, rfl, 1, rfl, a, _, -1, .int ((ts.getLast hne : Nat) : Int), rfl, rfl, hsq, atI_neg1 ?_, q2 _ (List.getLast?_eq_some_getLast hne) h64⟩
      rw [nv_len]
      unfold nv
      rw [List.getElem?_map, hg]
      rfl
    · walk_at "r"
      exact q1 (by cases ts with
        | nil => rfl
        | cons t r => exact absurd (show (0 : Int) < ((t :: r).length : Nat) by simp) z)
/-- an equal integer -/
def sp_fareqI (K : PySem.W.Frag) (C : Addr) : Sp := fun vs H Q _ => ∃ a n x m k, vs = [.ref a, x] ∧ FarI K C H a n ∧ NumI K C H x m ∧ Bw k n ∧ Bw k m ∧ k ≤ 900000 ∧ ∀ H', Same H H' → Q (.bl (decide (n = m))) H'
theorem okI_Far___eq__ (T : Top K mg) : FnOk P w K mg base CX0 (4) T.f_Far___eq__ T.fd_Far___eq__ ["self", "other"]  (sp_fareqI K T.C_Far) := by
  have G_operand : FnOk P w K mg base CX0 (3) T.f_operand T.fd_operand ["value"]  (sp_operand K T.C_Far) := ok_operand T
  refine T.F_Far___eq__.ok sc_Far___eq__ (fun vs H Q E h => ?_) (fun cdv A outer s H vs Q E hr h => ?_)
  · obtain ⟨a, n, x, m, k, rfl, _⟩ := h
    rfl
  · obtain ⟨a, n, x, m, k, rfl, hf, hx, hn, hm, hk, q⟩ := h
    have l1 := fo_lim hk hn
    have l2 := fo_lim hk hm
    refine ⟨_, (pss_cons (ps_set (i := 2) sc_Far___eq__.nd rfl (Or.inl rfl) (pe_call G_operand (hr.mono (by omega)) (by rfl) T.g_operand T.F_operand.kp T.b_operand .nil pass0 (pa_cons (pv 1) pa_nil)))
    (pss_one (ps_ret (pe_and (pe_cmpR op_notN (pv 2) pe_non (nomark _)) (pe_one (pe_cmpR (op_eqD hr.units) (pe_fld (pv 0) rfl) (pv 2) (nomark _))))))), ?_⟩
    refine ⟨_, rfl, x, fo m, rfl, hx, fun v H1 D1 sm1 => ?_⟩
    dsimp only [gName]
    walk_at "r"
    rw [decide_eq_false (DI.not_none D1)]
    refine iteT ?_
    obtain ⟨dx, vd, h1, h2, h3⟩ := hf
    refine ⟨_, rfl, a, _, dx, _, vd, rfl, sm1 _ _ h1, T.k_Far, T.n_Far, lk_own _, _, rfl, fo n, fo m, dp_tk (tk_same sm1) h3 h2, D1, shaped_fm h3 (by omega), shaped_fm (fo_fm m) (by omega), ?_⟩
    rw [eqv_val h3 (fo_fm m), val_fo, val_fo]
    exact q H1 sm1
end
end K45
set_option Elab.async false
set_option linter.all false
set_option maxRecDepth 100000
set_option pp.deepTerms false
set_option pp.maxSteps 1500
/-! counts of ones below a plain place, of integers whose turns are plain -/
namespace K45
open PySem PySem.Spec PyProof.Rows L2 HX TV FM DX FB FC PM MP MS
local macro_rules | `(tactic| walk_at "r") => `(tactic| (repeat (first | refine Exists.intro _ (And.intro rfl ?_) | refine And.intro rfl ?_ | refine Exists.intro _ (Exists.intro _ (And.intro rfl (And.intro rfl ?_))) | refine And.intro (by omega) ?_ | refine And.intro (Or.inl (And.intro (by omega) (by omega))) ?_ | refine And.intro (Or.inr (And.intro (by omega) (by omega))) ?_ | refine And.intro (And.intro (by omega) (by omega)) ?_ | refine And.intro (And.intro (by decide) (And.intro (by decide) (by decide))) ?_ | refine Or.inl (Exists.intro _ (And.intro rfl ?_)) | (dsimp only [gName]; first | with_reducible refine seqC ?_ | with_reducible refine asgC ?_))))
local macro_rules | `(tactic| walk_at "s") => `(tactic| (repeat (first | refine Exists.intro _ (And.intro rfl ?_) | refine And.intro rfl ?_ | refine Exists.intro _ (Exists.intro _ (And.intro rfl (And.intro rfl ?_))) | refine And.intro (by omega) ?_ | refine And.intro (Or.inl (And.intro (by omega) (by omega))) ?_ | refine And.intro (Or.inr (And.intro (by omega) (by omega))) ?_ | refine And.intro (And.intro (by omega) (by omega)) ?_ | refine And.intro (And.intro (by decide) (And.intro (by decide) (by decide))) ?_ | refine Or.inl (Exists.intro _ (And.intro rfl ?_)) | refine Exists.intro _ (Exists.intro _ (And.intro rfl ?_)) | (dsimp only [gName]; first | with_reducible refine seqC ?_ | with_reducible refine asgC ?_))))
section
variable {P : Program} {w : World} {K : PySem.W.Frag} {mg : Str → Option Value} {base : Heap}
theorem none_ofS {H H' : Hp} {a : Addr} (e : Same H H') (h : H' a = none) : H a = none := by
  cases q : H a with
  | none => rfl
  | some o => rw [e _ _ q] at h; cases h
theorem alt_bound : ∀ (ts : List Nat) (s : Int), s.natAbs = 1 → (∀ t ∈ ts, t ≤ 1000000) → (alt s ts).natAbs ≤ 1000000 * ts.length
  | [], s, _, _ => Nat.le_refl _
  | t :: r, s, hs, h => by
    have h1 := alt_bound r (-s) (by omega) fun x hx => h x (by simp [hx])
    have h2 := h t (by simp)
    show (s * t + alt (-s) r).natAbs ≤ 1000000 * (r.length + 1)
    have : s = 1 ∨ s = -1 := by omega
    rcases this with rfl | rfl <;> omega
theorem alt_take {ts : List Nat} {i t : Nat} (h : ts[i]? = some t) : alt (-1) (ts.take (i + 1)) = alt (-1) (ts.take i) + (if i % 2 = 0 then -(t : Int) else (t : Int)) := by
  have hi := (List.getElem?_eq_some_iff.mp h).1
  rw [List.take_add_one, h]
  show alt (-1) (ts.take i ++ [t]) = _
  rw [alt_snoc, List.length_take, Nat.min_eq_left (by omega)]
  split <;> omega
theorem plain_us {H : Hp} : ∀ {ds : List PyData} {us : List V}, DpAll K H us ds → FmAll ds → (∀ t ∈ vals ds, t < 2 ^ 64) → us = nv (vals ds)
  | [], us, h, _, _ => by
    cases h
    rw [vals_nil]
    rfl
  | d :: r, us, h, f, hb => by
    rw [fmAll_cons] at f
    rw [vals_cons] at hb ⊢
    have h0 := hb (val d).toNat (by simp)
    have e : d = .int (val d) := fm_inj f.1 ((fm_int _).mpr (by omega)) (by rw [val_int])
    cases h with
    | cons h1 h2 =>
      rw [plain_us h2 f.2.2 fun t ht => hb t (by simp [ht])]
      rw [e] at h1
      cases h1
      show _ = V.int ((val d).toNat : Nat) :: nv (vals r)
      rw [Int.toNat_of_nonneg f.2.1]
theorem plain_not {d r : PyData} (h : ∀ t ∈ turnsOf (val d), t ≤ 1000000) (e : val r = -val d - 1) : ∀ t ∈ turnsOf (val r), t ≤ 1000000 := by
  have h1 := (tv_range (turnsOf_asc (val d))).mp h
  rw [turnsOf_tv] at h1
  refine (tv_range (turnsOf_asc (val r))).mpr ?_
  rw [turnsOf_tv, e]
  generalize (2 : Int) ^ 1000000 = z at h1 ⊢
  omega
def sp_soo (K : PySem.W.Frag) : Sp := fun vs H Q _ => ∃ (a : Addr) (ts : List Nat), vs = [.ref a] ∧ H a = some (.lst (nv ts)) ∧ (∀ t ∈ ts, t ≤ 1000000) ∧ ts.length ≤ 1000000 ∧ ∀ H', Same H H' → Q (.int (alt (-1) ts)) H'
theorem ok_sum_of_ones (T : Top K mg) : FnOk P w K mg base CX0 (8) T.f_sum_of_ones T.fd_sum_of_ones ["rows"]  (sp_soo K) := by
  have G_total : FnOk P w K mg base CX0 (0 + 6) T.f_total T.fd_total ["x", "y", "carry"]  (sp_tot K 0) := ok_total T 0
  have G_minus : FnOk P w K mg base CX0 (0 + 7) T.f_minus T.fd_minus ["x", "y"]  (sp_min K 0) := ok_minus T 0
  refine T.F_sum_of_ones.ok sc_sum_of_ones (fun vs H Q E h => ?_) (fun cdv A outer s H vs Q E hr h => ?_)
  · obtain ⟨a, ts, rfl, _⟩ := h
    rfl
  · obtain ⟨a, ts, rfl, ha, hb, hl, q⟩ := h
    refine ⟨_, (pss_cons (ps_set (i := 1) sc_sum_of_ones.nd rfl (Or.inl rfl) pe_int)
    (pss_cons (ps_for PassesOwn.never rfl (pi_enum (by rfl) T.m_enumerate (pa_cons (pv 0) pa_nil)) (pg_tup rfl (pgs_cons (pg_name (i := 2) sc_sum_of_ones.nd rfl (Or.inl rfl)) (pgs_cons (pg_name (i := 3) sc_sum_of_ones.nd rfl (Or.inl rfl)) pgs_nil)))
      (pss_one (ps_if (pt_cmpR op_eq (pe_op op_and (pv 2) pe_int) pe_int (nomark _))
        (pss_one (ps_set (i := 1) sc_sum_of_ones.nd rfl (Or.inl rfl) (pe_call G_total (hr.mono (by omega)) (by rfl) T.g_total T.F_total.kp T.b_total .nil pass0 (pa_cons (pv 1) (pa_cons (pv 3) (pa_cons pe_int pa_nil))))))
        (pss_one (ps_set (i := 1) sc_sum_of_ones.nd rfl (Or.inl rfl) (pe_call G_minus (hr.mono (by omega)) (by rfl) T.g_minus T.F_minus.kp T.b_minus .nil pass0 (pa_cons (pv 1) (pa_cons (pv 3) pa_nil))))))))
    (pss_one (ps_ret (pv 1))))), ?_⟩
    walk_at "r"
    refine ⟨a, nv ts, rfl, .inl (.inl ha), flE (xs := nv ts) (fun i σ H' => ∃ (z2 z3 : Option V), σ = [some (.ref a), some (.int (alt (-1) (ts.take i))), z2, z3] ∧ Same H H') ⟨none, none, rfl, Same.refl _⟩ ?_ ?_ ?_⟩
    · rintro i σ H' _ ⟨_, _, _, sm⟩
      exact .inl (.inl (sm _ _ ha))
    · rintro i x σ H' hx ⟨z2, z3, rfl, sm⟩ Tt nT D' B
      obtain ⟨t, ht, rfl⟩ := nv_get hx
      have hil := (List.getElem?_eq_some_iff.mp ht).1
      have hbt := hb t (List.mem_of_getElem? ht)
      have sT := sm_upd (o := .tup [.int (i : Nat), .int (t : Nat)]) nT
      have hst := alt_take ht
      have bnd := alt_bound (ts.take i) (-1) (by decide) fun x hx => hb x (List.mem_of_mem_take hx)
      have bnd2 := alt_bound (ts.take (i + 1)) (-1) (by decide) fun x hx => hb x (List.mem_of_mem_take hx)
      rw [List.length_take] at bnd bnd2
      have hmul : 1000000 * min i ts.length ≤ 1000000 * 1000000 := Nat.mul_le_mul_left _ (by omega)
      have hmul2 : 1000000 * min (i + 1) ts.length ≤ 1000000 * 1000000 := Nat.mul_le_mul_left _ (by omega)
      generalize alt (-1) (ts.take i) = c at hst bnd ⊢
      have fc : Fm (.int c) := (fm_int c).mpr (by omega)
      have ft : Fm (.int (t : Nat)) := (fm_int _).mpr (by omega)
      refine ⟨Tt, _, rfl, .inl (.inl upd_same), rfl, _, _, rfl, _, _, rfl, rfl, ?_⟩
      walk_at "r"
      refine ifE (fun z => ?_) (fun z => ?_)
      · rw [bitAnd_m1] at z
        rw [if_neg (by omega)] at hst
        walk_at "r"
        refine ⟨.int c, .int (t : Nat), .int c, .int (t : Nat), 0, rfl, by decide, .int _, .int _, fc, ft, by rw [depth_int]; decide, by rw [depth_int]; decide, by decide, by rw [wt_int, wt_int]; decide, fun v r H5 k1 k2 k3 k4 k5 sm5 => ?_⟩
        have er : r = .int (c + (t : Nat)) := fm_inj k1 ((fm_int _).mpr (by omega)) (by rw [k2, val_int, val_int, val_int]; show _ + (0 : Int) = _; omega)
        subst er
        cases k5
        exact B.nx _ _ ⟨_, _, by rw [hst]; rfl, (sm.trans sT).trans sm5⟩
      · rw [bitAnd_m1] at z
        rw [if_pos (by omega)] at hst
        walk_at "r"
        refine ⟨.int c, .int (t : Nat), .int c, .int (t : Nat), rfl, .int _, .int _, fc, ft, by rw [depth_int]; decide, by rw [depth_int]; decide, by decide, by rw [wt_int, wt_int]; decide, fun v r H5 k1 k2 k3 k4 k5 sm5 => ?_⟩
        have er : r = .int (c - (t : Nat)) := fm_inj k1 ((fm_int _).mpr (by omega)) (by rw [k2, val_int, val_int, val_int])
        subst er
        cases k5
        exact B.nx _ _ ⟨_, _, by rw [hst, ← Int.sub_eq_add_neg]; rfl, (sm.trans sT).trans sm5⟩
    · rintro σ H' ⟨z2, z3, rfl, sm⟩
      walk_at "r"
      rw [nv_len, List.take_length]
      exact q H' sm
/-- the last turn of a plain integer, or None -/
def sp_lastp (K : PySem.W.Frag) : Sp := fun vs H Q _ => ∃ i, vs = [.int i] ∧ -(2 ^ 64) ≤ i ∧ i < 2 ^ 64 ∧ ∀ H', Same H H' → Q .non H' ∧ ∀ t : Nat, t ≤ 64 → Q (.int (t : Nat)) H'
theorem ok_last_turn (T : Top K mg) : FnOk P w K mg base CX0 (3) T.f_last_turn T.fd_last_turn ["x"]  (sp_lastp K) := by
  have G_turns : FnOk P w K mg base CX0 (2) T.f_turns T.fd_turns ["x"]  (sp_trn K) := ok_turns T
  refine T.F_last_turn.ok sc_last_turn (fun vs H Q E h => ?_) (fun cdv A outer s H vs Q E hr h => ?_)
  · obtain ⟨i, rfl, _⟩ := h
    rfl
  · obtain ⟨i, rfl, h1, h2, q⟩ := h
    refine ⟨_, (pss_cons (ps_set (i := 1) sc_last_turn.nd rfl (Or.inl rfl) (pe_call G_turns (hr.mono (by omega)) (by rfl) T.g_turns T.F_turns.kp T.b_turns .nil pass0 (pa_cons (pv 0) pa_nil)))
    (pss_one (ps_ret (pe_ifExp (pt_cmpR op_gt (pe_callB call_len_seq (by rfl) T.m_len PySem.boot_len (pa_cons (pv 1) pa_nil)) pe_int (nomark _)) (pe_ix ix_tup (pv 1) (pe_un un_neg pe_int) (fun _ _ => rfl)) pe_non)))), ?_⟩
    refine ⟨_, rfl, .int i, .int i, rfl, .int _, (fm_int i).mpr ⟨h1, h2⟩, fun a us ds H1 fA hA ev hsq hD hdep hwt hh sm1 => ?_⟩
    have hb := hh ⟨i, rfl⟩
    have eus := plain_us hD fA fun t ht => by have := hb t ht; omega
    subst eus
    dsimp only [gName]
    refine ⟨_, rfl, a, _, rfl, .inr hsq, ?_⟩
    rw [nv_len]
    walk_at "r"
    refine ifD (fun z => ?_) (fun z => ?_)
    · have hne : vals ds ≠ [] := fun e => by rw [e] at z; exact absurd z (by decide)
      have hlp := List.length_pos_iff.mpr hne
      have hl : (vals ds)[(vals ds).length - 1]? = some ((vals ds).getLast hne) := by
        rw [List.getLast_eq_getElem, List.getElem?_eq_getElem]
      have h64 := hb _ (List.getLast_mem hne)
      refine ⟨_, rfl, 1, rfl, a, _, -1, .int (((vals ds).getLast hne : Nat) : Int), rfl, rfl, hsq, atI_neg1 ?_, (q H1 sm1).2 _ h64⟩
      rw [nv_len]
      unfold nv
      rw [List.getElem?_map, hl]
      rfl
    · walk_at "r"
      exact (q H1 sm1).1
/-- an equal integer -/
def sp_fareq (K : PySem.W.Frag) (C : Addr) : Sp := fun vs H Q _ => ∃ a d x e, vs = [.ref a, x] ∧ FarAt K C H a d ∧ Num K C H x e ∧ d.depth ≤ 6 ∧ e.depth ≤ 6 ∧ ∀ H', Same H H' → Q (.bl (decide (val d = val e))) H'
theorem ok_Far___eq__ (T : Top K mg) : FnOk P w K mg base CX0 (4) T.f_Far___eq__ T.fd_Far___eq__ ["self", "other"]  (sp_fareq K T.C_Far) := by
  have G_operand : FnOk P w K mg base CX0 (3) T.f_operand T.fd_operand ["value"]  (sp_operand K T.C_Far) := ok_operand T
  refine T.F_Far___eq__.ok sc_Far___eq__ (fun vs H Q E h => ?_) (fun cdv A outer s H vs Q E hr h => ?_)
  · obtain ⟨a, d, x, e, rfl, _⟩ := h
    rfl
  · obtain ⟨a, d, x, e, rfl, hf, hx, hdd, hde, q⟩ := h
    refine ⟨_, (pss_cons (ps_set (i := 2) sc_Far___eq__.nd rfl (Or.inl rfl) (pe_call G_operand (hr.mono (by omega)) (by rfl) T.g_operand T.F_operand.kp T.b_operand .nil pass0 (pa_cons (pv 1) pa_nil)))
    (pss_one (ps_ret (pe_and (pe_cmpR op_notN (pv 2) pe_non (nomark _)) (pe_one (pe_cmpR (op_eqD hr.units) (pe_fld (pv 0) rfl) (pv 2) (nomark _))))))), ?_⟩
    refine ⟨_, rfl, x, e, rfl, hx, fun v H1 D1 sm1 => ?_⟩
    dsimp only [gName]
    walk_at "r"
    have hv : v ≠ .non := fun z => by
      subst z
      have := hx.fm
      cases D1
      simp [Fm] at this
    rw [decide_eq_false hv]
    refine iteT ?_
    obtain ⟨dx, vd, h1, h2, h3⟩ := hf
    refine ⟨_, rfl, a, _, dx, _, vd, rfl, sm1 _ _ h1, T.k_Far, T.n_Far, lk_own _, _, rfl, d, e, dp_tk (tk_same sm1) h3 h2, D1, shaped_fm h3 (by omega), shaped_fm hx.fm (by omega), ?_⟩
    rw [eqv_val h3 hx.fm]
    exact q H1 sm1
end
end K45
set_option Elab.async false
set_option linter.all false
set_option maxRecDepth 100000
set_option pp.deepTerms false
set_option pp.maxSteps 1500
/-! the sum of the ones of a row -/
namespace K45
open PySem PySem.Spec PyProof.Rows L2 HX TV FM DX FB FC PM FI MP
local macro_rules | `(tactic| walk_at "r") => `(tactic| (repeat (first | refine Exists.intro _ (And.intro rfl ?_) | refine And.intro rfl ?_ | refine Exists.intro _ (Exists.intro _ (And.intro rfl (And.intro rfl ?_))) | refine And.intro (by omega) ?_ | refine And.intro (Or.inl (And.intro (by omega) (by omega))) ?_ | refine And.intro (Or.inr (And.intro (by omega) (by omega))) ?_ | refine And.intro (And.intro (by omega) (by omega)) ?_ | refine And.intro (And.intro (by decide) (And.intro (by decide) (by decide))) ?_ | refine Or.inl (Exists.intro _ (And.intro rfl ?_)) | (dsimp only [gName]; first | with_reducible refine seqC ?_ | with_reducible refine asgC ?_))))
local macro_rules | `(tactic| walk_at "s") => `(tactic| (repeat (first | refine Exists.intro _ (And.intro rfl ?_) | refine And.intro rfl ?_ | refine Exists.intro _ (Exists.intro _ (And.intro rfl (And.intro rfl ?_))) | refine And.intro (by omega) ?_ | refine And.intro (Or.inl (And.intro (by omega) (by omega))) ?_ | refine And.intro (Or.inr (And.intro (by omega) (by omega))) ?_ | refine And.intro (And.intro (by omega) (by omega)) ?_ | refine And.intro (And.intro (by decide) (And.intro (by decide) (by decide))) ?_ | refine Or.inl (Exists.intro _ (And.intro rfl ?_)) | refine Exists.intro _ (Exists.intro _ (And.intro rfl ?_)) | (dsimp only [gName]; first | with_reducible refine seqC ?_ | with_reducible refine asgC ?_))))
section
variable {P : Program} {w : World} {K : PySem.W.Frag} {mg : Str → Option Value} {base : Heap}
def sp_sooT (K : PySem.W.Frag) : Sp := fun vs H Q _ => ∃ (a : Addr) (ts : List Nat), vs = [.ref a] ∧ SqT K H a (nv ts) ∧ (∀ t ∈ ts, t ≤ 1000000) ∧ ts.length ≤ 1000000 ∧ ∀ H', Same H H' → Q (.int (alt (-1) ts)) H'
theorem okT_sum_of_ones (T : Top K mg) : FnOk P w K mg base CX0 (8) T.f_sum_of_ones T.fd_sum_of_ones ["rows"]  (sp_sooT K) := by
  have G_total : FnOk P w K mg base CX0 (6) T.f_total T.fd_total ["x", "y", "carry"]  (sp_totI K) := okI_total T
  have G_minus : FnOk P w K mg base CX0 (7) T.f_minus T.fd_minus ["x", "y"]  (sp_minI K) := okI_minus T
  refine T.F_sum_of_ones.ok sc_sum_of_ones (fun vs H Q E h => ?_) (fun cdv A outer s H vs Q E hr h => ?_)
  · obtain ⟨a, ts, rfl, _⟩ := h
    rfl
  · obtain ⟨a, ts, rfl, ha, hb, hl, q⟩ := h
    refine ⟨_, (pss_cons (ps_set (i := 1) sc_sum_of_ones.nd rfl (Or.inl rfl) pe_int)
    (pss_cons (ps_for PassesOwn.never rfl (pi_enumT (by rfl) T.m_enumerate (pa_cons (pv 0) pa_nil)) (pg_tup rfl (pgs_cons (pg_name (i := 2) sc_sum_of_ones.nd rfl (Or.inl rfl)) (pgs_cons (pg_name (i := 3) sc_sum_of_ones.nd rfl (Or.inl rfl)) pgs_nil)))
      (pss_one (ps_if (pt_cmpR op_eq (pe_op op_and (pv 2) pe_int) pe_int (nomark _))
        (pss_one (ps_set (i := 1) sc_sum_of_ones.nd rfl (Or.inl rfl) (pe_call G_total (hr.mono (by omega)) (by rfl) T.g_total T.F_total.kp T.b_total .nil pass0 (pa_cons (pv 1) (pa_cons (pv 3) (pa_cons pe_int pa_nil))))))
        (pss_one (ps_set (i := 1) sc_sum_of_ones.nd rfl (Or.inl rfl) (pe_call G_minus (hr.mono (by omega)) (by rfl) T.g_minus T.F_minus.kp T.b_minus .nil pass0 (pa_cons (pv 1) (pa_cons (pv 3) pa_nil))))))))
    (pss_one (ps_ret (pv 1))))), ?_⟩
    walk_at "r"
    refine ⟨a, nv ts, rfl, ha, flET (xs := nv ts) (fun i σ H' => ∃ (z2 z3 : Option V), σ = [some (.ref a), some (.int (alt (-1) (ts.take i))), z2, z3] ∧ Same H H') ⟨none, none, rfl, Same.refl _⟩ ?_ ?_ ?_⟩
    · rintro i σ H' _ ⟨_, _, _, sm⟩
      exact HX.Same.tup sm ha
    · rintro i x σ H' hx ⟨z2, z3, rfl, sm⟩ Tt nT D' B
      obtain ⟨t, ht, rfl⟩ := nv_get hx
      have hil := (List.getElem?_eq_some_iff.mp ht).1
      have hbt := hb t (List.mem_of_getElem? ht)
      have sT := sm_upd (o := .tup [.int (i : Nat), .int (t : Nat)]) nT
      have hst := alt_take ht
      have bnd := alt_bound (ts.take i) (-1) (by decide) fun x hx => hb x (List.mem_of_mem_take hx)
      have bnd2 := alt_bound (ts.take (i + 1)) (-1) (by decide) fun x hx => hb x (List.mem_of_mem_take hx)
      rw [List.length_take] at bnd bnd2
      have hmul : 1000000 * min i ts.length ≤ 1000000 * 1000000 := Nat.mul_le_mul_left _ (by omega)
      have hmul2 : 1000000 * min (i + 1) ts.length ≤ 1000000 * 1000000 := Nat.mul_le_mul_left _ (by omega)
      generalize alt (-1) (ts.take i) = c at hst bnd ⊢
      have bc : Bw 60 c := bw_of_abs (by omega)
      have btt : Bw 60 (t : Nat) := bw_nat (by omega)
      refine ⟨Tt, _, rfl, .inl (.inl upd_same), rfl, _, _, rfl, _, _, rfl, rfl, ?_⟩
      walk_at "r"
      refine ifE (fun z => ?_) (fun z => ?_)
      · rw [bitAnd_m1] at z
        rw [if_neg (by omega)] at hst
        walk_at "r"
        refine ⟨.int c, .int (t : Nat), c, (t : Nat), 0, 60, rfl, by decide, di_int (by omega), di_nat (by omega), bc, btt, by decide, fun v H5 D5 sm5 => ?_⟩
        have ev := D5.int (by omega)
        subst ev
        rw [show c + (t : Nat) + (0 : Nat) = c + (t : Nat) by omega, ← hst]
        exact B.nx _ _ ⟨_, _, rfl, (sm.trans sT).trans sm5⟩
      · rw [bitAnd_m1] at z
        rw [if_pos (by omega)] at hst
        walk_at "r"
        refine ⟨.int c, .int (t : Nat), c, (t : Nat), 60, rfl, di_int (by omega), di_nat (by omega), bc, btt, by decide, fun v H5 D5 sm5 => ?_⟩
        have ev := D5.int (by omega)
        subst ev
        rw [Int.sub_eq_add_neg, ← hst]
        exact B.nx _ _ ⟨_, _, rfl, (sm.trans sT).trans sm5⟩
    · rintro σ H' ⟨z2, z3, rfl, sm⟩
      walk_at "r"
      rw [nv_len, List.take_length]
      exact q H' sm
end
end K45
set_option Elab.async false
set_option linter.all false
set_option maxRecDepth 100000
set_option pp.deepTerms false
set_option pp.maxSteps 1500
/-! the one with a number (law k25) -/
namespace K45
open PySem PySem.Spec PyProof.Rows L2 HX TV FM DX FB FC PM FI MP MK
local macro_rules | `(tactic| walk_at "r") => `(tactic| (repeat (first | refine Exists.intro _ (And.intro rfl ?_) | refine And.intro rfl ?_ | refine Exists.intro _ (Exists.intro _ (And.intro rfl (And.intro rfl ?_))) | refine And.intro (by omega) ?_ | refine And.intro (Or.inl (And.intro (by omega) (by omega))) ?_ | refine And.intro (Or.inr (And.intro (by omega) (by omega))) ?_ | refine And.intro (And.intro (by omega) (by omega)) ?_ | refine And.intro (And.intro (by decide) (And.intro (by decide) (by decide))) ?_ | refine Or.inl (Exists.intro _ (And.intro rfl ?_)) | (dsimp only [gName]; first | with_reducible refine seqC ?_ | with_reducible refine asgC ?_))))
local macro_rules | `(tactic| walk_at "s") => `(tactic| (repeat (first | refine Exists.intro _ (And.intro rfl ?_) | refine And.intro rfl ?_ | refine Exists.intro _ (Exists.intro _ (And.intro rfl (And.intro rfl ?_))) | refine And.intro (by omega) ?_ | refine And.intro (Or.inl (And.intro (by omega) (by omega))) ?_ | refine And.intro (Or.inr (And.intro (by omega) (by omega))) ?_ | refine And.intro (And.intro (by omega) (by omega)) ?_ | refine And.intro (And.intro (by decide) (And.intro (by decide) (by decide))) ?_ | refine Or.inl (Exists.intro _ (And.intro rfl ?_)) | refine Exists.intro _ (Exists.intro _ (And.intro rfl ?_)) | (dsimp only [gName]; first | with_reducible refine seqC ?_ | with_reducible refine asgC ?_))))
section
variable {P : Program} {w : World} {K : PySem.W.Frag} {mg : Str → Option Value} {base : Heap}
def sp_rnk (K : PySem.W.Frag) : Sp := fun vs H Q _ => ∃ (x y : V) (n r : Int) (k : Nat), vs = [x, y] ∧ DI K H x n ∧ DI K H y r ∧ Bw k n ∧ Bw k r ∧ 20 ≤ k ∧ k ≤ 30000 ∧ r ≤ 100000 ∧
  ∀ H', Same H H' → (∀ (r' q : Nat), r = (r' : Nat) → Kth n r' q → q ≤ 200000 → Q (.int (q : Nat)) H') ∧ ((∀ (r' q : Nat), r = (r' : Nat) → ¬ Kth n r' q) → Q .non H')
theorem ok_ranked (T : Top K mg) : FnOk P w K mg base CX0 (8) T.f_ranked T.fd_ranked ["x", "rank"]  (sp_rnk K) := by
  have G_negative : FnOk P w K mg base CX0 (1) T.f_negative T.fd_negative ["x"]  (sp_negI K) := okI_negative T
  have G_turns : FnOk P w K mg base CX0 (2) T.f_turns T.fd_turns ["x"]  (sp_trnI K) := okI_turns T
  have G_order : FnOk P w K mg base CX0 (4) T.f_order T.fd_order ["x", "y"]  (sp_ordI K) := okI_order T
  have G_total : FnOk P w K mg base CX0 (6) T.f_total T.fd_total ["x", "y", "carry"]  (sp_totI K) := okI_total T
  have G_minus : FnOk P w K mg base CX0 (7) T.f_minus T.fd_minus ["x", "y"]  (sp_minI K) := okI_minus T
  refine T.F_ranked.ok sc_ranked (fun vs H Q E h => ?_) (fun cdv A outer s H vs Q E hr h => ?_)
  · obtain ⟨x, y, n, r, k, rfl, _⟩ := h
    rfl
  · obtain ⟨x, y, n, r, k, rfl, hx, hy, hb, hbr, hk1, hk, hr1, q⟩ := h
    refine ⟨_, (pss_cons (ps_if (pt_val (pe_call G_negative (hr.mono (by omega)) (by rfl) T.g_negative T.F_negative.kp T.b_negative .nil pass0 (pa_cons (pv 1) pa_nil)) (fun _ => rfl))
      (pss_one (ps_ret pe_non))
      pss_nil)
    (pss_cons (ps_set (i := 2) sc_ranked.nd rfl (Or.inl rfl) (pv 1))
    (pss_cons (ps_set (i := 3) sc_ranked.nd rfl (Or.inl rfl) (pe_call G_turns (hr.mono (by omega)) (by rfl) T.g_turns T.F_turns.kp T.b_turns .nil pass0 (pa_cons (pv 0) pa_nil)))
    (pss_cons (ps_for PassesOwn.never rfl (pi_range3 (by rfl) T.m_range (pa_cons pe_int (pa_cons (pe_callB call_len_seq (by rfl) T.m_len PySem.boot_len (pa_cons (pv 3) pa_nil)) (pa_cons pe_int pa_nil)))) (pg_name (i := 4) sc_ranked.nd rfl (Or.inl rfl))
      (pss_cons (ps_if (pt_cmpR op_eq (pe_op op_add (pv 4) pe_int) (pe_callB call_len_seq (by rfl) T.m_len PySem.boot_len (pa_cons (pv 3) pa_nil)) (nomark _))
        (pss_one (ps_ret (pe_call G_total (hr.mono (by omega)) (by rfl) T.g_total T.F_total.kp T.b_total .nil pass0 (pa_cons (pe_ix ix_tup (pv 3) (pv 4) (fun _ _ => rfl)) (pa_cons (pv 2) (pa_cons pe_int pa_nil))))))
        pss_nil)
      (pss_cons (ps_set (i := 5) sc_ranked.nd rfl (Or.inl rfl) (pe_call G_minus (hr.mono (by omega)) (by rfl) T.g_minus T.F_minus.kp T.b_minus .nil pass0 (pa_cons (pe_ix ix_tup (pv 3) (pe_op op_add (pv 4) pe_int) (fun _ _ => rfl)) (pa_cons (pe_ix ix_tup (pv 3) (pv 4) (fun _ _ => rfl)) pa_nil))))
      (pss_cons (ps_if (pt_cmpR op_lt (pe_call G_order (hr.mono (by omega)) (by rfl) T.g_order T.F_order.kp T.b_order .nil pass0 (pa_cons (pv 2) (pa_cons (pv 5) pa_nil))) pe_int (nomark _))
        (pss_one (ps_ret (pe_call G_total (hr.mono (by omega)) (by rfl) T.g_total T.F_total.kp T.b_total .nil pass0 (pa_cons (pe_ix ix_tup (pv 3) (pv 4) (fun _ _ => rfl)) (pa_cons (pv 2) (pa_cons pe_int pa_nil))))))
        pss_nil)
      (pss_one (ps_set (i := 2) sc_ranked.nd rfl (Or.inl rfl) (pe_call G_minus (hr.mono (by omega)) (by rfl) T.g_minus T.F_minus.kp T.b_minus .nil pass0 (pa_cons (pv 2) (pa_cons (pv 5) pa_nil)))))))))
    (pss_one (ps_ret pe_non)))))), ?_⟩
    refine ⟨_, rfl, y, r, rfl, hy, _, rfl, ?_⟩
    refine ifD (fun h0 => ?_) (fun h0 => ?_)
    · exact (q H (Same.refl _)).2 fun r' q' e => by omega
    dsimp only [tNext]
    obtain ⟨r', rfl⟩ : ∃ r' : Nat, r = (r' : Nat) := ⟨r.toNat, by omega⟩
    have ey := hy.int (by omega)
    subst ey
    refine ⟨_, rfl, ?_⟩
    dsimp only [gName]
    refine ⟨_, rfl, x, n, k, rfl, hx, hb, by omega, fun a H1 hsq sm1 => ?_⟩
    have hl := hb.turns
    have hlen := hb.len
    have hM : ∀ t ∈ turnsOf n, t < 1000000 := fun t ht => by have := hl t ht; omega
    dsimp only [gName]
    refine ⟨_, rfl, a, _, rfl, .inr hsq, ?_⟩
    rw [nv_len]
    have sqa : ∀ {H' : Hp} {i t : Nat}, Same H1 H' → (turnsOf n)[i]? = some t → ∀ Q' : VK, Q' (.int (t : Nat)) H' → (rIxT K) (.ref a) (.int ((i : Nat) : Int)) H' Q' := fun {H' i t} sm ht Q' q' => by
      refine ⟨a, _, _, .int (t : Nat), rfl, rfl, HX.Same.tup sm hsq, atI_nat ?_, q'⟩
      unfold nv
      rw [List.getElem?_map, ht]
      rfl
    refine ⟨0, _, 2, ((turnsOf n).length + 1) / 2, rfl, rgc2 (by omega), flC (fun j σ H' => ∃ (l : Nat) (z4 z5 : Option V), σ = [some x, some (.int (r' : Nat)), some (.int (l : Nat)), some (.ref a), z4, z5] ∧ Same H1 H' ∧ wOf n 1000000 (2 * j) + l = r' ∧ 2 * j ≤ (turnsOf n).length) ⟨r', none, none, rfl, Same.refl _, by rw [w_zero]; omega, Nat.zero_le _⟩ ?_ ?_⟩
    · rintro j σ H' hj ⟨l, z4, z5, rfl, sm, hw, hj2⟩ D' B
      have hi : 2 * j < (turnsOf n).length := by omega
      obtain ⟨p, hp⟩ : ∃ p, (turnsOf n)[2 * j]? = some p := ⟨_, List.getElem?_eq_getElem hi⟩
      have hpk := hl p (List.mem_of_getElem? hp)
      have sm1' := sm1.trans sm
      have ej : (0 : Int) + (j : Nat) * 2 = ((2 * j : Nat) : Int) := by omega
      dsimp only [gName]
      rw [ej]
      have give : ∀ (H2 : Hp), Same H1 H2 → (∀ b, (turnsOf n)[2 * j + 1]? = some b → p + l < b) → ∀ v H3, DI K H3 v ((p : Nat) + (l : Nat) + (0 : Nat)) → Same H2 H3 → D'.rt v H3 := fun H2 sm2 hb2 v H3 D3 sm3 => by
        have ev := D3.int (by omega)
        subst ev
        have := (q H3 ((sm1.trans sm2).trans sm3)).1 r' (p + l) rfl (kth_here (by omega) hp hb2 hw) (by omega)
        refine B.rt _ _ ?_
        rw [show ((p : Nat) : Int) + (l : Nat) + (0 : Nat) = ((p + l : Nat) : Int) by omega]
        exact this
      have bp : Bw k (p : Nat) := (bw_nat (k := 20) (by omega)).mono hk1
      have bl : Bw k (l : Nat) := (bw_nat (k := 20) (by omega)).mono hk1
      refine ⟨_, rfl, _, _, rfl, rfl, _, rfl, a, _, rfl, .inr (HX.Same.tup sm hsq), ?_⟩
      rw [nv_len]
      refine ⟨rfl, _, rfl, ?_⟩
      refine ifE (fun he => ?_) (fun he => ?_)
      · refine ⟨_, rfl, _, rfl, sqa sm hp _ ?_⟩
        refine ⟨_, rfl, .int (p : Nat), .int (l : Nat), (p : Nat), (l : Nat), 0, k, rfl, by decide, di_nat (by omega), di_nat (by omega), bp, bl, by omega, fun v H3 D3 sm3 => ?_⟩
        exact give H' sm (fun b hb2 => by rw [List.getElem?_eq_none (by omega)] at hb2; cases hb2) v H3 D3 sm3
      dsimp only [tNext]
      obtain ⟨b, hb2⟩ : ∃ b, (turnsOf n)[2 * j + 1]? = some b := ⟨_, List.getElem?_eq_getElem (by omega)⟩
      have hbk := hl b (List.mem_of_getElem? hb2)
      have hpb := asc_ltt (turnsOf_asc n) (Nat.lt_succ_self (2 * j)) hp hb2
      have bb : Bw k (b : Nat) := (bw_nat (k := 20) (by omega)).mono hk1
      refine ⟨_, rfl, _, rfl, _, _, rfl, rfl, ?_⟩
      refine sqa (i := 2 * j + 1) sm hb2 _ ?_
      refine ⟨_, rfl, _, rfl, sqa sm hp _ ?_⟩
      refine ⟨.int (b : Nat), .int (p : Nat), (b : Nat), (p : Nat), k, rfl, di_nat (by omega), di_nat (by omega), bb, bp, by omega, fun v2 H2 D2 sm2 => ?_⟩
      have e2 := D2.int (by omega)
      subst e2
      have bm : Bw k ((b : Nat) - (p : Nat) : Int) := by
        have := (bw_nat (k := 20) (n := b - p) (by omega)).mono hk1
        rw [show ((b - p : Nat) : Int) = (b : Nat) - (p : Nat) by omega] at this
        exact this
      dsimp only [gName]
      refine ⟨_, rfl, _, rfl, .int (l : Nat), .int ((b : Nat) - (p : Nat)), (l : Nat), _, k, rfl, di_nat (by omega), D2, bl, bm, by omega, fun H3 sm3 => ?_⟩
      refine ⟨_, _, rfl, rfl, _, rfl, ?_⟩
      have sm23 := (sm.trans sm2).trans sm3
      by_cases hlt : (l : Int) < (b : Nat) - (p : Nat)
      · rw [sg_lt hlt]
        refine iteT ⟨_, rfl, _, rfl, sqa sm23 hp _ ?_⟩
        refine ⟨_, rfl, .int (p : Nat), .int (l : Nat), (p : Nat), (l : Nat), 0, k, rfl, by decide, di_nat (by omega), di_nat (by omega), bp, bl, by omega, fun v H4 D4 sm4 => ?_⟩
        exact give H3 sm23 (fun c hc => by cases hb2.symm.trans hc; omega) v H4 D4 sm4
      · have hs : ¬ (sg ((l : Nat) : Int) ((b : Nat) - (p : Nat)) < 0) := by
          unfold sg
          rw [if_neg hlt]
          split <;> decide
        rw [decide_eq_false hs]
        refine iteF ?_
        dsimp only [tNext]
        refine ⟨_, rfl, _, rfl, .int (l : Nat), .int ((b : Nat) - (p : Nat)), (l : Nat), _, k, rfl, di_nat (by omega), di_int (by omega), bl, bm, by omega, fun v4 H4 D4 sm4 => ?_⟩
        have e4 := D4.int (by omega)
        subst e4
        obtain ⟨l', hl'⟩ : ∃ l' : Nat, (l' : Int) = (l : Nat) - ((b : Nat) - (p : Nat)) := ⟨l - (b - p), by omega⟩
        rw [← hl']
        refine B.nx _ _ ⟨l', _, _, rfl, sm23.trans sm4, ?_, by omega⟩
        rw [show 2 * (j + 1) = 2 * j + 2 by omega, w_step hM (by omega) hp hb2]
        omega
    · rintro σ H' ⟨l, z4, z5, rfl, sm, hw, hj2⟩
      refine (q H' (sm1.trans sm)).2 fun r2 q' e => ?_
      have : r2 = r' := by omega
      subst this
      exact kth_none hM (i := 2 * (((turnsOf n).length + 1) / 2)) (by omega) (by omega) hw q'
/-- the place of a one, or a refusal -/
def sp_kth (K : PySem.W.Frag) (C CN : Addr) (g : Int → Int) : Sp := fun vs H Q E => ∃ (x y : V) (n r : Int) (k : Nat), vs = [x, y] ∧ NumI K C H x n ∧ NumI K C H y r ∧ Bw k n ∧ Bw k r ∧ 20 ≤ k ∧ k ≤ 30000 ∧ r ≤ 100000 ∧
  (∀ (r' q : Nat), r = (r' : Nat) → Kth (g n) r' q → q ≤ 200000 → ∀ a H', H a = none → FarI K C H' a (q : Nat) → Same H H' → Q (.ref a) H') ∧
  ((∀ (r' q : Nat), r = (r' : Nat) → ¬ Kth (g n) r' q) → ∀ dd H', H dd = none → Same H H' → H' dd = some (.xd [("rank", y)]) → E (.ref CN) (some dd) H')
end
end K45
set_option Elab.async false
set_option linter.all false
set_option maxRecDepth 100000
set_option pp.deepTerms false
set_option pp.maxSteps 1500
set_option maxHeartbeats 1000000
/-! blocks.py by natural numbers (laws k42, k43) -/
namespace K45
open PySem PySem.Spec PyProof.Rows L2 HX TV FM DX FB FC PM FI MS MP MD MV
local macro_rules | `(tactic| walk_at "r") => `(tactic| (repeat (first | refine Exists.intro _ (And.intro rfl ?_) | refine And.intro rfl ?_ | refine Exists.intro _ (Exists.intro _ (And.intro rfl (And.intro rfl ?_))) | refine And.intro (by omega) ?_ | refine And.intro (Or.inl (And.intro (by omega) (by omega))) ?_ | refine And.intro (Or.inr (And.intro (by omega) (by omega))) ?_ | refine And.intro (And.intro (by omega) (by omega)) ?_ | refine And.intro (And.intro (by decide) (And.intro (by decide) (by decide))) ?_ | refine Or.inl (Exists.intro _ (And.intro rfl ?_)) | (dsimp only [gName]; first | with_reducible refine seqC ?_ | with_reducible refine asgC ?_))))
local macro_rules | `(tactic| walk_at "s") => `(tactic| (repeat (first | refine Exists.intro _ (And.intro rfl ?_) | refine And.intro rfl ?_ | refine Exists.intro _ (Exists.intro _ (And.intro rfl (And.intro rfl ?_))) | refine And.intro (by omega) ?_ | refine And.intro (Or.inl (And.intro (by omega) (by omega))) ?_ | refine And.intro (Or.inr (And.intro (by omega) (by omega))) ?_ | refine And.intro (And.intro (by omega) (by omega)) ?_ | refine And.intro (And.intro (by decide) (And.intro (by decide) (by decide))) ?_ | refine Or.inl (Exists.intro _ (And.intro rfl ?_)) | refine Exists.intro _ (Exists.intro _ (And.intro rfl ?_)) | (dsimp only [gName]; first | with_reducible refine seqC ?_ | with_reducible refine asgC ?_))))
section
variable {P : Program} {w : World} {K : PySem.W.Frag} {mg : Str → Option Value} {base : Heap}
abbrev DN (K : PySem.W.Frag) (H : Hp) (v : V) (n : Nat) : Prop := DI K H v ((n : Nat) : Int)
theorem bwn {n k : Nat} (h : n < 2 ^ k) : Bw k ((n : Nat) : Int) := bw_nat h
theorem pow_le {i j : Nat} (h : i ≤ j) : 2 ^ i ≤ 2 ^ j := Nat.pow_le_pow_right (by decide) h
theorem e2p (k : Nat) : ((2 ^ k : Nat) : Int) = 2 ^ k := by norm_cast
def sp_less (K : PySem.W.Frag) : Sp := fun vs H Q _ => ∃ (x y : V) (n m : Nat), vs = [x, y] ∧ DN K H x n ∧ DN K H y m ∧ n < 2 ^ 4000 ∧ m < 2 ^ 4000 ∧ ∀ H', Same H H' → Q (.bl (decide (n < m))) H'
theorem ok_less (T : Top K mg) : FnOk P w K mg base CX0 (5) T.f_less T.fd_less ["x", "y"]  (sp_less K) := by
  have G_order : FnOk P w K mg base CX0 (4) T.f_order T.fd_order ["x", "y"]  (sp_ordI K) := okI_order T
  refine T.F_less.ok sc_less (fun vs H Q E h => ?_) (fun cdv A outer s H vs Q E hr h => ?_)
  · obtain ⟨x, y, n, m, rfl, _⟩ := h
    rfl
  · obtain ⟨x, y, n, m, rfl, hx, hy, h1, h2, q⟩ := h
    refine ⟨_, (pss_one (ps_ret (pe_cmpR op_lt (pe_call G_order (hr.mono (by omega)) (by rfl) T.g_order T.F_order.kp T.b_order .nil pass0 (pa_cons (pv 0) (pa_cons (pv 1) pa_nil))) pe_int (nomark _)))), ?_⟩
    refine ⟨_, rfl, _, rfl, x, y, (n : Nat), (m : Nat), 4000, rfl, hx, hy, bwn h1, bwn h2, by decide, fun H1 s1 => ?_⟩
    walk_at "r"
    have e : decide (sg ((n : Nat) : Int) ((m : Nat) : Int) < 0) = decide (n < m) := by
      by_cases h : n < m
      · rw [decide_eq_true h, sg_lt (by omega)]
        rfl
      · rw [decide_eq_false h]
        refine decide_eq_false fun z => ?_
        unfold sg at z
        rw [if_neg (by omega)] at z
        split at z <;> omega
    have := q H1 s1
    rw [← e] at this
    exact this
def sp_low (K : PySem.W.Frag) : Sp := fun vs H Q _ => ∃ (x y : V) (n p : Nat), vs = [x, y] ∧ DN K H x n ∧ DN K H y p ∧ n < 2 ^ 4000 ∧ p ≤ 4000 ∧ ∀ v H', DN K H' v (n % 2 ^ p) → Same H H' → Q v H'
theorem ok_low_part (T : Top K mg) : FnOk P w K mg base CX0 (6) T.f_low_part T.fd_low_part ["x", "place"]  (sp_low K) := by
  have G_run_of : FnOk P w K mg base CX0 (2) T.f_run_of T.fd_run_of ["start", "stop"]  (sp_runI K) := okI_run_of T
  have G_combined : FnOk P w K mg base CX0 (5) T.f_combined T.fd_combined ["x", "y", "table"]  (sp_cmbI K) := okI_combined T
  refine T.F_low_part.ok sc_low_part (fun vs H Q E h => ?_) (fun cdv A outer s H vs Q E hr h => ?_)
  · obtain ⟨x, y, n, p, rfl, _⟩ := h
    rfl
  · obtain ⟨x, y, n, p, rfl, hx, hy, h1, h2, q⟩ := h
    refine ⟨_, (pss_one (ps_ret (pe_call G_combined (hr.mono (by omega)) (by rfl) T.g_combined T.F_combined.kp T.b_combined .nil pass0 (pa_cons (pv 0) (pa_cons (pe_call G_run_of (hr.mono (by omega)) (by rfl) T.g_run_of T.F_run_of.kp T.b_run_of .nil pass0 (pa_cons pe_int (pa_cons (pv 1) pa_nil))) (pa_cons (pe_glob (v := .ref T.a_AND) (by rfl) T.c_AND rfl) pa_nil)))))), ?_⟩
    refine ⟨_, rfl, _, rfl, .int 0, y, 0, p, rfl, di_nat (i := 0) (by decide), hy, by omega, by omega, fun v1 H1 D1 s1 => ?_⟩
    have e1 : (2 : Int) ^ p - 2 ^ 0 = 2 ^ p - 1 := rfl
    have hm : n % 2 ^ p < 2 ^ 4000 := Nat.lt_of_le_of_lt (Nat.mod_le _ _) h1
    have hp := pow_le h2
    have hp0 := Nat.two_pow_pos p
    refine ⟨x, v1, (n : Nat), 2 ^ p - 2 ^ 0, ((n % 2 ^ p : Nat) : Int), T.a_AND, (fun a b => a && b), 4001, rfl, hx.same s1, D1, bwn (by rw [Nat.pow_succ]; omega), by
      rw [e1, ← e2p]
      exact bw_iff.mpr ⟨by omega, by rw [Nat.pow_succ]; omega⟩, by decide, fun H' => T.q_AND H', rfl, fun j => by rw [e1, ← and_mask, tb_and], fun v3 H3 D3 s3 => ?_⟩
    exact q v3 H3 D3 (s1.trans s3)
def sp_high_part (K : PySem.W.Frag) : Sp := fun vs H Q _ => ∃ (x y : V) (n p : Nat), vs = [x, y] ∧ DN K H x n ∧ DN K H y p ∧ n < 2 ^ 4000 ∧ p ≤ 4000 ∧ ∀ v H', DN K H' v (n / 2 ^ p * 2 ^ p) → Same H H' → Q v H'
theorem ok_high_part (T : Top K mg) : FnOk P w K mg base CX0 (9) T.f_high_part T.fd_high_part ["x", "place"]  (sp_high_part K) := by
  have G_dropped : FnOk P w K mg base CX0 (8) T.f_dropped T.fd_dropped ["x", "amount"]  (sp_drpI K) := okI_dropped T
  have G_shifted : FnOk P w K mg base CX0 (7) T.f_shifted T.fd_shifted ["x", "amount"]  (sp_shfI K) := okI_shifted T
  refine T.F_high_part.ok sc_high_part (fun vs H Q E h => ?_) (fun cdv A outer s H vs Q E hr h => ?_)
  · obtain ⟨x, y, n, p, rfl, _⟩ := h
    rfl
  · obtain ⟨x, y, n, p, rfl, hx, hy, h1, h2, q⟩ := h
    refine ⟨_, (pss_one (ps_ret (pe_call G_shifted (hr.mono (by omega)) (by rfl) T.g_shifted T.F_shifted.kp T.b_shifted .nil pass0 (pa_cons (pe_call G_dropped (hr.mono (by omega)) (by rfl) T.g_dropped T.F_dropped.kp T.b_dropped .nil pass0 (pa_cons (pv 0) (pa_cons (pv 1) pa_nil))) (pa_cons (pv 1) pa_nil))))), ?_⟩
    refine ⟨_, rfl, _, rfl, x, y, (n : Nat), p, 4000, rfl, hx, hy, bwn h1, by decide, by omega, fun v1 H1 D1 s1 => ?_⟩
    have e1 : ((n : Nat) : Int) / 2 ^ p = ((n / 2 ^ p : Nat) : Int) := by rw [← e2p, ← Int.natCast_ediv]
    have hm : n / 2 ^ p < 2 ^ 4000 := Nat.lt_of_le_of_lt (Nat.div_le_self _ _) h1
    refine ⟨_, rfl, v1, y, ((n / 2 ^ p : Nat) : Int), p, 4000, rfl, e1 ▸ D1, hy.same s1, bwn hm, by decide, by omega, fun v2 H2 D2 s2 => ?_⟩
    refine q v2 H2 (D2.eq ?_) (s1.trans s2)
    rw [← e2p, ← Int.natCast_mul]
def sp_onesof (K : PySem.W.Frag) : Sp := fun vs H Q _ => ∃ (x : V) (n : Nat), vs = [x] ∧ DN K H x n ∧ n < 2 ^ 4000 ∧ ∀ H', Same H H' → Q (.int ((bits n 4001).length : Nat)) H'
theorem ok_ones_of (T : Top K mg) : FnOk P w K mg base CX0 (9) T.f_ones_of T.fd_ones_of ["x"]  (sp_onesof K) := by
  have G_turns : FnOk P w K mg base CX0 (2) T.f_turns T.fd_turns ["x"]  (sp_trnI K) := okI_turns T
  have G_sum_of_ones : FnOk P w K mg base CX0 (8) T.f_sum_of_ones T.fd_sum_of_ones ["rows"]  (sp_sooT K) := okT_sum_of_ones T
  refine T.F_ones_of.ok sc_ones_of (fun vs H Q E h => ?_) (fun cdv A outer s H vs Q E hr h => ?_)
  · obtain ⟨x, n, rfl, _⟩ := h
    rfl
  · obtain ⟨x, n, rfl, hx, h1, q⟩ := h
    refine ⟨_, (pss_one (ps_ret (pe_call G_sum_of_ones (hr.mono (by omega)) (by rfl) T.g_sum_of_ones T.F_sum_of_ones.kp T.b_sum_of_ones .nil pass0 (pa_cons (pe_call G_turns (hr.mono (by omega)) (by rfl) T.g_turns T.F_turns.kp T.b_turns .nil pass0 (pa_cons (pv 0) pa_nil)) pa_nil)))), ?_⟩
    refine ⟨_, rfl, x, (n : Nat), 4000, rfl, hx, bwn h1, by decide, fun a H1 hsq s1 => ?_⟩
    have hb : ∀ t ∈ turnsOf ((n : Nat) : Int), t ≤ 4000 := turns_small (k := 4000) (by omega) (by rw [← e2p]; omega)
    have hl := asc_len (k := 4000) (a := 0) (turnsOf_asc ((n : Nat) : Int)) fun t ht => ⟨Nat.zero_le _, hb t ht⟩
    refine ⟨a, _, rfl, hsq, fun t ht => by have := hb t ht; omega, by omega, fun H2 s2 => ?_⟩
    rw [sum_all (M := 4001) (by omega) fun t ht => by have := hb t ht; omega, ones_bits]
    exact q H2 (s1.trans s2)
def sp_topp (K : PySem.W.Frag) : Sp := fun vs H Q _ => ∃ (x : V) (n : Nat), vs = [x] ∧ DN K H x n ∧ 0 < n ∧ n < 2 ^ 4000 ∧ ∀ v t H', DN K H' v t → 2 ^ t ≤ n → n < 2 ^ (t + 1) → t < 4000 → Same H H' → Q v H'
theorem ok_top_place (T : Top K mg) : FnOk P w K mg base CX0 (8) T.f_top_place T.fd_top_place ["x"]  (sp_topp K) := by
  have G_last_turn : FnOk P w K mg base CX0 (3) T.f_last_turn T.fd_last_turn ["x"]  (sp_lastI K) := okI_last_turn T
  have G_minus : FnOk P w K mg base CX0 (7) T.f_minus T.fd_minus ["x", "y"]  (sp_minI K) := okI_minus T
  refine T.F_top_place.ok sc_top_place (fun vs H Q E h => ?_) (fun cdv A outer s H vs Q E hr h => ?_)
  · obtain ⟨x, n, rfl, _⟩ := h
    rfl
  · obtain ⟨x, n, rfl, hx, h0, h1, q⟩ := h
    refine ⟨_, (pss_one (ps_ret (pe_call G_minus (hr.mono (by omega)) (by rfl) T.g_minus T.F_minus.kp T.b_minus .nil pass0 (pa_cons (pe_call G_last_turn (hr.mono (by omega)) (by rfl) T.g_last_turn T.F_last_turn.kp T.b_last_turn .nil pass0 (pa_cons (pv 0) pa_nil)) (pa_cons pe_int pa_nil))))), ?_⟩
    refine ⟨_, rfl, x, (n : Nat), 4000, rfl, hx, bwn h1, by decide, fun H2 s2 => ⟨fun hn => ?_, fun t ht htk => ?_⟩⟩
    · have := no_turns.mp hn
      omega
    · obtain ⟨g0, g1, g2, g3⟩ := top_turn ht
      refine ⟨.int (t : Nat), .int 1, (t : Nat), 1, 20, rfl, di_nat (by omega), di_int (by decide), bw_nat (by omega), bw_nat (n := 1) (by decide), by decide, fun v3 H3 D3 s3 => ?_⟩
      refine q v3 (t - 1) H3 (D3.eq (by omega)) g1 (by rw [show t - 1 + 1 = t by omega]; exact g2) (by omega) (s2.trans s3)
def sp_bstop (K : PySem.W.Frag) : Sp := fun vs H Q _ => ∃ (x y : V) (n p : Nat), vs = [x, y] ∧ DN K H x n ∧ DN K H y p ∧ n < 2 ^ 4000 ∧ p ≤ 4000 ∧ ∀ v H', DN K H' v (n + 2 ^ p) → Same H H' → Q v H'
theorem ok_block_stop (T : Top K mg) : FnOk P w K mg base CX0 (8) T.f_block_stop T.fd_block_stop ["first", "level"]  (sp_bstop K) := by
  have G_power_of_two : FnOk P w K mg base CX0 (7) T.f_power_of_two T.fd_power_of_two ["place"]  (sp_powI K) := okI_power_of_two T
  have G_total : FnOk P w K mg base CX0 (6) T.f_total T.fd_total ["x", "y", "carry"]  (sp_totI K) := okI_total T
  refine T.F_block_stop.ok sc_block_stop (fun vs H Q E h => ?_) (fun cdv A outer s H vs Q E hr h => ?_)
  · obtain ⟨x, y, n, p, rfl, _⟩ := h
    rfl
  · obtain ⟨x, y, n, p, rfl, hx, hy, h1, h2, q⟩ := h
    refine ⟨_, (pss_one (ps_ret (pe_call G_total (hr.mono (by omega)) (by rfl) T.g_total T.F_total.kp T.b_total .nil pass0 (pa_cons (pv 0) (pa_cons (pe_call G_power_of_two (hr.mono (by omega)) (by rfl) T.g_power_of_two T.F_power_of_two.kp T.b_power_of_two .nil pass0 (pa_cons (pv 1) pa_nil)) (pa_cons pe_int pa_nil)))))), ?_⟩
    refine ⟨_, rfl, _, rfl, y, p, rfl, hy, by omega, fun v1 H1 D1 s1 => ?_⟩
    have hp := pow_le h2
    refine ⟨x, v1, (n : Nat), 2 ^ p, 0, 4001, rfl, by decide, hx.same s1, D1, bwn (by rw [Nat.pow_succ]; omega), by rw [← e2p]; exact bwn (by rw [Nat.pow_succ]; omega), by decide, fun v2 H2 D2 s2 => ?_⟩
    refine q v2 H2 (D2.eq ?_) (s1.trans s2)
    rw [← e2p]
    show _ + (0 : Int) = _
    omega
/-- middle, left and right part of a range -/
inductive Pts (b f : Nat) : Nat → Nat → Nat → Prop
  | eq (h : b = f) : Pts b f b 0 0
  | rng (t : Nat) (ht : t < 4000) (R : Rng b f t) : Pts b f (mid f t) (mid f t - b) (f - mid f t)
def sp_parted (K : PySem.W.Frag) : Sp := fun vs H Q _ => ∃ (x y : V) (b f : Nat), vs = [x, y] ∧ DN K H x b ∧ DN K H y f ∧ b ≤ f ∧ f < 2 ^ 4000 ∧
  ∀ (u : Addr) (vm vl vr : V) (M l r : Nat) H', Pts b f M l r → H' u = some (.tup [vm, vl, vr]) → DN K H' vm M → DN K H' vl l → DN K H' vr r → Same H H' → Q (.ref u) H'
theorem rng_of {b f t : Nat} (hbf : b < f) (h1 : 2 ^ t ≤ b ^^^ f) (h2 : b ^^^ f < 2 ^ (t + 1)) : Rng b f t := by
  have hx : ∀ j, (b ^^^ f).testBit j = (b.testBit j ^^ f.testBit j) := fun j => Nat.testBit_xor ..
  have high : ∀ j, t + 1 ≤ j → b.testBit j = f.testBit j := fun j hj => by
    have e : (b ^^^ f).testBit j = false := Nat.testBit_lt_two_pow (Nat.lt_of_lt_of_le h2 (pow_le hj))
    rw [hx j] at e
    revert e
    cases b.testBit j <;> cases f.testBit j <;> simp
  have same : b / 2 ^ (t + 1) = f / 2 ^ (t + 1) := by
    apply Nat.eq_of_testBit_eq
    intro j
    rw [Nat.testBit_div_two_pow, Nat.testBit_div_two_pow]
    exact high _ (by omega)
  have e : (b ^^^ f).testBit t = true := by
    rw [Nat.testBit_eq_decide_div_mod_eq]
    have : (b ^^^ f) / 2 ^ t = 1 := by
      have p := Nat.two_pow_pos t
      have h3 : (b ^^^ f) / 2 ^ t < 2 := Nat.div_lt_of_lt_mul (by rw [Nat.pow_succ] at h2; omega)
      have h4 : 1 ≤ (b ^^^ f) / 2 ^ t := (Nat.le_div_iff_mul_le p).mpr (by omega)
      omega
    rw [this]
    rfl
  rw [hx t] at e
  have eb : b / 2 ^ (t + 1) = b / 2 ^ t / 2 := by rw [Nat.pow_succ, Nat.div_div_eq_div_mul]
  have ef : f / 2 ^ (t + 1) = f / 2 ^ t / 2 := by rw [Nat.pow_succ, Nat.div_div_eq_div_mul]
  have db := div_mul b t
  have df := div_mul f t
  have lb := Nat.mod_lt b (Nat.two_pow_pos t)
  have lf := Nat.mod_lt f (Nat.two_pow_pos t)
  rw [Nat.testBit_eq_decide_div_mod_eq, Nat.testBit_eq_decide_div_mod_eq] at e
  have hne : b / 2 ^ t % 2 ≠ f / 2 ^ t % 2 := fun z => by
    rw [z] at e
    simp at e
  have hle : b / 2 ^ t ≤ f / 2 ^ t := Nat.div_le_div_right (Nat.le_of_lt hbf)
  exact ⟨by omega, by omega, same⟩
theorem ok_parted (T : Top K mg) : FnOk P w K mg base CX0 (10) T.f_parted T.fd_parted ["start", "stop"]  (sp_parted K) := by
  have G_high_part : FnOk P w K mg base CX0 (9) T.f_high_part T.fd_high_part ["x", "place"]  (sp_high_part K) := ok_high_part T
  have G_top_place : FnOk P w K mg base CX0 (8) T.f_top_place T.fd_top_place ["x"]  (sp_topp K) := ok_top_place T
  have G_combined : FnOk P w K mg base CX0 (5) T.f_combined T.fd_combined ["x", "y", "table"]  (sp_cmbI K) := okI_combined T
  have G_minus : FnOk P w K mg base CX0 (7) T.f_minus T.fd_minus ["x", "y"]  (sp_minI K) := okI_minus T
  refine T.F_parted.ok sc_parted (fun vs H Q E h => ?_) (fun cdv A outer s H vs Q E hr h => ?_)
  · obtain ⟨x, y, b, f, rfl, _⟩ := h
    rfl
  · obtain ⟨x, y, b, f, rfl, hx, hy, hbf, hf, q⟩ := h
    refine ⟨_, (pss_cons (ps_if (pt_cmpR (op_eqD hr.units) (pv 0) (pv 1) (nomark _))
      (pss_one (ps_ret (pe_tup (pa_cons (pv 0) (pa_cons pe_int (pa_cons pe_int pa_nil))))))
      pss_nil)
    (pss_cons (ps_set (i := 2) sc_parted.nd rfl (Or.inl rfl) (pe_call G_high_part (hr.mono (by omega)) (by rfl) T.g_high_part T.F_high_part.kp T.b_high_part .nil pass0 (pa_cons (pv 1) (pa_cons (pe_call G_top_place (hr.mono (by omega)) (by rfl) T.g_top_place T.F_top_place.kp T.b_top_place .nil pass0 (pa_cons (pe_call G_combined (hr.mono (by omega)) (by rfl) T.g_combined T.F_combined.kp T.b_combined .nil pass0 (pa_cons (pv 0) (pa_cons (pv 1) (pa_cons (pe_glob (v := .ref T.a_XOR) (by rfl) T.c_XOR rfl) pa_nil)))) pa_nil)) pa_nil))))
    (pss_one (ps_ret (pe_tup (pa_cons (pv 2) (pa_cons (pe_call G_minus (hr.mono (by omega)) (by rfl) T.g_minus T.F_minus.kp T.b_minus .nil pass0 (pa_cons (pv 2) (pa_cons (pv 0) pa_nil))) (pa_cons (pe_call G_minus (hr.mono (by omega)) (by rfl) T.g_minus T.F_minus.kp T.b_minus .nil pass0 (pa_cons (pv 1) (pa_cons (pv 2) pa_nil))) pa_nil)))))))), ?_⟩
    have bb : Bw 4000 ((b : Nat) : Int) := bwn (by omega)
    have bf : Bw 4000 ((f : Nat) : Int) := bwn hf
    have l1 := (fo_lim (by decide) bb).2
    have l2 := (fo_lim (by decide) bf).2
    refine ⟨_, rfl, _, rfl, _, _, hx, hy, shaped_fm (fo_fm _) (by omega), shaped_fm (fo_fm _) (by omega), _, rfl, ?_⟩
    rw [eqv_val (fo_fm _) (fo_fm _), val_fo, val_fo]
    refine ifD (fun z => ?_) (fun z => ?_)
    · have e : b = f := by omega
      refine ⟨_, rfl, ?_⟩
      refine ⟨len_le (Nat.le_of_ble_eq_true rfl), fun u nu => ?_⟩
      generalize eH1 : upd H u _ = H1
      obtain ⟨su, hu⟩ := new_step nu eH1
      clear eH1
      exact q u x (.int 0) (.int 0) b 0 0 H1 (.eq e) hu (DI.same hx su) (di_nat (i := 0) (by decide)) (di_nat (i := 0) (by decide)) su
    · have hlt : b < f := by omega
      dsimp only [tNext]
      have hxl : b ^^^ f < 2 ^ 4000 := Nat.xor_lt_two_pow (by omega) hf
      have hx0 : 0 < b ^^^ f := Nat.pos_of_ne_zero fun e => by
        have : b = f := Nat.eq_of_testBit_eq fun j => by
          have h3 := congrArg (fun n => Nat.testBit n j) e
          simp only [Nat.testBit_xor, Nat.zero_testBit] at h3
          revert h3
          cases b.testBit j <;> cases f.testBit j <;> simp
        omega
      refine ⟨_, rfl, _, rfl, _, rfl, x, y, ((b : Nat) : Int), ((f : Nat) : Int), ((b ^^^ f : Nat) : Int), T.a_XOR, (fun a b => a ^^ b), 4000, rfl, hx, hy, bb, bf, by decide, fun H' => T.q_XOR H', rfl, fun j => by rw [tb_nat, tb_nat, tb_nat, Nat.testBit_xor], fun v1 H1 D1 s1 => ?_⟩
      refine ⟨v1, b ^^^ f, rfl, D1, hx0, hxl, fun v2 t H2 D2 t1 t2 t3 s2 => ?_⟩
      have R := rng_of hlt t1 t2
      obtain ⟨g1, g2, g3, g4, _⟩ := R.facts
      have s12 := s1.trans s2
      refine ⟨y, v2, f, t, rfl, DI.same hy s12, D2, hf, by omega, fun v3 H3 D3 s3 => ?_⟩
      dsimp only [gName]
      have s13 := s12.trans s3
      have bm : Bw 4000 ((mid f t : Nat) : Int) := bwn (by omega)
      refine ⟨_, rfl, _, rfl, _, rfl, v3, x, ((mid f t : Nat) : Int), ((b : Nat) : Int), 4000, rfl, D3, DI.same hx s13, bm, bb, by decide, fun v4 H4 D4 s4 => ?_⟩
      refine ⟨_, rfl, _, rfl, y, v3, ((f : Nat) : Int), ((mid f t : Nat) : Int), 4000, rfl, DI.same hy (s13.trans s4), DI.same D3 s4, bf, bm, by decide, fun v5 H5 D5 s5 => ?_⟩
      refine ⟨len_le (Nat.le_of_ble_eq_true rfl), fun u nu => ?_⟩
      generalize eH6 : upd H5 u _ = H6
      obtain ⟨su, hu⟩ := new_step nu eH6
      clear eH6
      exact q u v3 v4 v5 _ _ _ H6 (.rng t t3 R) hu (DI.same D3 ((s4.trans s5).trans su)) ((DI.same D4 (s5.trans su)).eq (by omega)) ((DI.same D5 su).eq (by omega)) (((s13.trans s4).trans s5).trans su)
def sp_lfirst (K : PySem.W.Frag) : Sp := fun vs H Q _ => ∃ (x y z : V) (b l p : Nat), vs = [x, y, z] ∧ DN K H x b ∧ DN K H y l ∧ DN K H z p ∧ b < 2 ^ 4000 ∧ l < 2 ^ 4000 ∧ p ≤ 4000 ∧ ∀ v H', DN K H' v (b + l % 2 ^ p) → Same H H' → Q v H'
theorem ok_left_first (T : Top K mg) : FnOk P w K mg base CX0 (7) T.f_left_first T.fd_left_first ["start", "left", "level"]  (sp_lfirst K) := by
  have G_low_part : FnOk P w K mg base CX0 (6) T.f_low_part T.fd_low_part ["x", "place"]  (sp_low K) := ok_low_part T
  have G_total : FnOk P w K mg base CX0 (6) T.f_total T.fd_total ["x", "y", "carry"]  (sp_totI K) := okI_total T
  refine T.F_left_first.ok sc_left_first (fun vs H Q E h => ?_) (fun cdv A outer s H vs Q E hr h => ?_)
  · obtain ⟨x, y, z, b, l, p, rfl, _⟩ := h
    rfl
  · obtain ⟨x, y, z, b, l, p, rfl, hx, hy, hz, h1, h2, h3, q⟩ := h
    refine ⟨_, (pss_one (ps_ret (pe_call G_total (hr.mono (by omega)) (by rfl) T.g_total T.F_total.kp T.b_total .nil pass0 (pa_cons (pv 0) (pa_cons (pe_call G_low_part (hr.mono (by omega)) (by rfl) T.g_low_part T.F_low_part.kp T.b_low_part .nil pass0 (pa_cons (pv 1) (pa_cons (pv 2) pa_nil))) (pa_cons pe_int pa_nil)))))), ?_⟩
    refine ⟨_, rfl, _, rfl, _, rfl, y, z, l, p, rfl, hy, hz, h2, h3, fun v1 H1 D1 s1 => ?_⟩
    have hm : l % 2 ^ p < 2 ^ 4000 := Nat.lt_of_le_of_lt (Nat.mod_le _ _) h2
    refine ⟨x, v1, ((b : Nat) : Int), ((l % 2 ^ p : Nat) : Int), 0, 4000, rfl, by decide, DI.same hx s1, D1, bwn h1, bwn hm, by decide, fun v2 H2 D2 s2 => ?_⟩
    exact q v2 H2 (D2.eq (by show _ + (0 : Int) = _; omega)) (s1.trans s2)
def sp_rfirst (K : PySem.W.Frag) : Sp := fun vs H Q _ => ∃ (x y z : V) (m r p : Nat), vs = [x, y, z] ∧ DN K H x m ∧ DN K H y r ∧ DN K H z p ∧ m < 2 ^ 4000 ∧ r < 2 ^ 4000 ∧ p < 4000 ∧ ∀ v H', DN K H' v (m + r / 2 ^ (p + 1) * 2 ^ (p + 1)) → Same H H' → Q v H'
theorem ok_right_first (T : Top K mg) : FnOk P w K mg base CX0 (10) T.f_right_first T.fd_right_first ["middle", "right", "level"]  (sp_rfirst K) := by
  have G_plus_one : FnOk P w K mg base CX0 (6) T.f_plus_one T.fd_plus_one ["x"]  (sp_p1I K) := okI_plus_one T
  have G_high_part : FnOk P w K mg base CX0 (9) T.f_high_part T.fd_high_part ["x", "place"]  (sp_high_part K) := ok_high_part T
  have G_total : FnOk P w K mg base CX0 (6) T.f_total T.fd_total ["x", "y", "carry"]  (sp_totI K) := okI_total T
  refine T.F_right_first.ok sc_right_first (fun vs H Q E h => ?_) (fun cdv A outer s H vs Q E hr h => ?_)
  · obtain ⟨x, y, z, m, r, p, rfl, _⟩ := h
    rfl
  · obtain ⟨x, y, z, m, r, p, rfl, hx, hy, hz, h1, h2, h3, q⟩ := h
    refine ⟨_, (pss_one (ps_ret (pe_call G_total (hr.mono (by omega)) (by rfl) T.g_total T.F_total.kp T.b_total .nil pass0 (pa_cons (pv 0) (pa_cons (pe_call G_high_part (hr.mono (by omega)) (by rfl) T.g_high_part T.F_high_part.kp T.b_high_part .nil pass0 (pa_cons (pv 1) (pa_cons (pe_call G_plus_one (hr.mono (by omega)) (by rfl) T.g_plus_one T.F_plus_one.kp T.b_plus_one .nil pass0 (pa_cons (pv 2) pa_nil)) pa_nil))) (pa_cons pe_int pa_nil)))))), ?_⟩
    refine ⟨_, rfl, _, rfl, _, rfl, z, ((p : Nat) : Int), 20, rfl, hz, bw_nat (by omega), by decide, fun v1 H1 D1 s1 => ?_⟩
    refine ⟨y, v1, r, p + 1, rfl, DI.same hy s1, D1.eq (by omega), h2, by omega, fun v2 H2 D2 s2 => ?_⟩
    have hm : r / 2 ^ (p + 1) * 2 ^ (p + 1) < 2 ^ 4000 := Nat.lt_of_le_of_lt (Nat.div_mul_le_self _ _) h2
    refine ⟨x, v2, ((m : Nat) : Int), ((r / 2 ^ (p + 1) * 2 ^ (p + 1) : Nat) : Int), 0, 4000, rfl, by decide, DI.same hx (s1.trans s2), D2, bwn h1, bwn hm, by decide, fun v3 H3 D3 s3 => ?_⟩
    exact q v3 H3 (D3.eq (by show _ + (0 : Int) = _; omega)) ((s1.trans s2).trans s3)
end
end K45
set_option Elab.async false
set_option linter.all false
set_option maxRecDepth 100000
set_option pp.deepTerms false
set_option pp.maxSteps 1500
set_option maxHeartbeats 1000000
/-! covers.py by natural numbers (laws k42, k43) -/
namespace K45
open PySem PySem.Spec PyProof.Rows L2 HX TV FM DX FB FC PM FI MS MP MK MD MV
local macro_rules | `(tactic| walk_at "r") => `(tactic| (repeat (first | refine Exists.intro _ (And.intro rfl ?_) | refine And.intro rfl ?_ | refine Exists.intro _ (Exists.intro _ (And.intro rfl (And.intro rfl ?_))) | refine And.intro (by omega) ?_ | refine And.intro (Or.inl (And.intro (by omega) (by omega))) ?_ | refine And.intro (Or.inr (And.intro (by omega) (by omega))) ?_ | refine And.intro (And.intro (by omega) (by omega)) ?_ | refine And.intro (And.intro (by decide) (And.intro (by decide) (by decide))) ?_ | refine Or.inl (Exists.intro _ (And.intro rfl ?_)) | (dsimp only [gName]; first | with_reducible refine seqC ?_ | with_reducible refine asgC ?_))))
local macro_rules | `(tactic| walk_at "s") => `(tactic| (repeat (first | refine Exists.intro _ (And.intro rfl ?_) | refine And.intro rfl ?_ | refine Exists.intro _ (Exists.intro _ (And.intro rfl (And.intro rfl ?_))) | refine And.intro (by omega) ?_ | refine And.intro (Or.inl (And.intro (by omega) (by omega))) ?_ | refine And.intro (Or.inr (And.intro (by omega) (by omega))) ?_ | refine And.intro (And.intro (by omega) (by omega)) ?_ | refine And.intro (And.intro (by decide) (And.intro (by decide) (by decide))) ?_ | refine Or.inl (Exists.intro _ (And.intro rfl ?_)) | refine Exists.intro _ (Exists.intro _ (And.intro rfl ?_)) | (dsimp only [gName]; first | with_reducible refine seqC ?_ | with_reducible refine asgC ?_))))
section
variable {P : Program} {w : World} {K : PySem.W.Frag} {mg : Str → Option Value} {base : Heap}
abbrev NN (K : PySem.W.Frag) (C : Addr) (H : Hp) (x : V) (n : Nat) : Prop := NumI K C H x ((n : Nat) : Int)
abbrev FN (K : PySem.W.Frag) (C : Addr) (H : Hp) (a : Addr) (n : Nat) : Prop := FarI K C H a ((n : Nat) : Int)
theorem kth_bits {l k q : Nat} (h : (bits l 4001)[k]? = some q) : Kth ((l : Nat) : Int) k q := by
  obtain ⟨_, h2, h3⟩ := bits_at h
  exact ⟨by rw [tb_nat]; exact h2, by rw [ones_bits]; exact h3⟩
theorem bits_le (n : Nat) : ∀ K, (bits n K).length ≤ K
  | 0 => Nat.le_refl _
  | K + 1 => by
    rw [bits_succ, List.length_append]
    have := bits_le n K
    split
    · show _ + 1 ≤ _
      omega
    · show _ + 0 ≤ _
      omega
theorem Pts.lt {b f M l r : Nat} (h : Pts b f M l r) (hbf : b ≤ f) : M ≤ f ∧ b ≤ M ∧ l ≤ f ∧ r ≤ f ∧ M = b + l ∧ f = M + r := by
  cases h with
  | eq e => omega
  | rng t ht R =>
    obtain ⟨g1, g2, g3, g4, _⟩ := R.facts
    omega
theorem pts_ex {b f : Nat} (h : b ≤ f) (hf : f < 2 ^ 4000) : ∃ M l r, Pts b f M l r := by
  by_cases e : b = f
  · exact ⟨_, _, _, .eq e⟩
  · have hlt : b ^^^ f < 2 ^ 4000 := Nat.xor_lt_two_pow (by omega) hf
    have h0 : b ^^^ f ≠ 0 := fun z => e (Nat.eq_of_testBit_eq fun j => by
      have h3 := congrArg (fun n => Nat.testBit n j) z
      simp only [Nat.testBit_xor, Nat.zero_testBit] at h3
      revert h3
      cases b.testBit j <;> cases f.testBit j <;> simp)
    have h1 := Nat.log2_self_le h0
    have h2 := Nat.lt_log2_self (n := b ^^^ f)
    have h3 : Nat.log2 (b ^^^ f) < 4000 := by
      apply Nat.lt_of_not_le
      intro hle
      have := pow_le hle
      omega
    exact ⟨_, _, _, .rng _ h3 (rng_of (by omega) h1 h2)⟩
theorem pts_uniq {b f M l r M' l' r' : Nat} (h : Pts b f M l r) (h' : Pts b f M' l' r') : M = M' ∧ l = l' ∧ r = r' := by
  cases h with
  | eq e =>
    cases h' with
    | eq => exact ⟨rfl, rfl, rfl⟩
    | rng t ht R =>
      have := R.facts
      omega
  | rng t ht R =>
    cases h' with
    | eq e =>
      have := R.facts
      omega
    | rng u hu S =>
      have := rng_uniq R S
      subst this
      exact ⟨rfl, rfl, rfl⟩
theorem cov_cases {b f M l r k s q : Nat} (hP : Pts b f M l r) (hbf : b ≤ f) (hf : f < 2 ^ 3999) (h : (cov b M l r)[k]? = some (s, s + 2 ^ q)) :
    q < 4000 ∧ Lvl b f s q ∧ ((s < M ∧ (bits l 4001)[k]? = some q) ∨ (M ≤ s ∧ ∃ i, (bits r 4001)[i]? = some q ∧ k = (bits l 4001).length + ((bits r 4001).length - 1 - i))) := by
  have pw : (2 : Nat) ^ 3999 < 2 ^ 4000 := by decide
  obtain ⟨p1, p2, p3, p4, p5, p6⟩ := hP.lt hbf
  have small : ∀ {n q : Nat}, n < 2 ^ 4000 → n.testBit q = true → q < 4000 := fun {n q} hn ht => by
    have := Nat.ge_two_pow_of_testBit ht
    apply Nat.lt_of_not_le
    intro hle
    have := pow_le hle
    omega
  have same : ∀ {x : Nat} {j : Nat}, (x, x + 2 ^ j) = (s, s + 2 ^ q) → x = s ∧ j = q := fun {x j} e => by
    have h1 := congrArg Prod.fst e
    have h2 := congrArg Prod.snd e
    simp only at h1 h2
    subst h1
    exact ⟨rfl, pow_inj2.mp (by omega)⟩
  by_cases hk : k < (bits l 4001).length
  · have hg : (bits l 4001)[k]? = some ((bits l 4001)[k]'hk) := List.getElem?_eq_getElem _
    have hc := cov_up (b := b) (M := M) (r := r) hg
    rw [h] at hc
    obtain ⟨e1, e2⟩ := same (Option.some.inj hc).symm
    rw [e2] at hg e1
    obtain ⟨_, hb, _⟩ := bits_at hg
    obtain ⟨m1, _⟩ := bit_mod hb
    have hlm := Nat.mod_lt l (Nat.two_pow_pos q)
    refine ⟨small (by omega) hb, ?_, .inl ⟨by have := Nat.two_pow_pos q; omega, hg⟩⟩
    cases hP with
    | eq e => simp at hb
    | rng t ht R =>
      have F := R.fits_up hb
      rw [e1] at F
      exact lvl_of F (by omega) (.inl (by omega))
  · have hlen := (List.getElem?_eq_some_iff.mp h).1
    rw [cov_len] at hlen
    have hi : (bits r 4001).length - 1 - (k - (bits l 4001).length) < (bits r 4001).length := by omega
    have hg : (bits r 4001)[(bits r 4001).length - 1 - (k - (bits l 4001).length)]? = some ((bits r 4001)[(bits r 4001).length - 1 - (k - (bits l 4001).length)]'hi) := List.getElem?_eq_getElem _
    have hc := cov_dn (b := b) (M := M) (l := l) hg
    rw [show (bits l 4001).length + ((bits r 4001).length - 1 - ((bits r 4001).length - 1 - (k - (bits l 4001).length))) = k by omega, h] at hc
    obtain ⟨e1, e2⟩ := same (Option.some.inj hc).symm
    rw [e2] at hg e1
    obtain ⟨_, hb, _⟩ := bits_at hg
    obtain ⟨_, m2⟩ := bit_mod hb
    refine ⟨small (by omega) hb, ?_, .inr ⟨by omega, _, hg, by omega⟩⟩
    cases hP with
    | eq e => simp at hb
    | rng t ht R =>
      obtain ⟨g1, g2, g3, g4, v, hv⟩ := R.facts
      have hqt : q < t := by
        have := Nat.ge_two_pow_of_testBit hb
        apply Nat.lt_of_not_le
        intro hle
        have := pow_le hle
        omega
      have F := R.fits_dn (i := q) (j := q + 1) (by omega) (by omega) (Nat.mod_lt _ (Nat.two_pow_pos _)) m2
      rw [e1] at F
      refine lvl_of F (by omega) (.inr ?_)
      rw [← e1]
      refine Nat.dvd_add ?_ ⟨_, Nat.mul_comm _ _⟩
      rw [hv]
      exact Nat.dvd_trans (Nat.pow_dvd_pow 2 (by omega)) ⟨_, rfl⟩
def sp_rangeN (K : PySem.W.Frag) (C : Addr) : Sp := fun vs H Q _ => ∃ (x y : V) (b f : Nat), vs = [x, y] ∧ NN K C H x b ∧ NN K C H y f ∧ b ≤ f ∧ f < 2 ^ 4000 ∧
  ∀ (u : Addr) v1 v2 H', H' u = some (.tup [v1, v2]) → DN K H' v1 b → DN K H' v2 f → Same H H' → Q (.ref u) H'
theorem ok_range_forms (T : Top K mg) : FnOk P w K mg base CX0 (5) T.f_range_forms T.fd_range_forms ["start", "stop"]  (sp_rangeN K T.C_Far) := by
  have G_number_form : FnOk P w K mg base CX0 (4) T.f_number_form T.fd_number_form ["value"]  (sp_numf K T.C_Far) := ok_number_form T
  have G_negative : FnOk P w K mg base CX0 (1) T.f_negative T.fd_negative ["x"]  (sp_negI K) := okI_negative T
  have G_order : FnOk P w K mg base CX0 (4) T.f_order T.fd_order ["x", "y"]  (sp_ordI K) := okI_order T
  refine T.F_range_forms.ok sc_range_forms (fun vs H Q E h => ?_) (fun cdv A outer s H vs Q E hr h => ?_)
  · obtain ⟨x, y, b, f, rfl, _⟩ := h
    rfl
  · obtain ⟨x, y, b, f, rfl, hx, hy, hbf, hf, q⟩ := h
    refine ⟨_, (pss_cons (ps_set (i := 2) sc_range_forms.nd rfl (Or.inl rfl) (pe_call G_number_form (hr.mono (by omega)) (by rfl) T.g_number_form T.F_number_form.kp T.b_number_form .nil pass0 (pa_cons (pv 0) pa_nil)))
    (pss_cons (ps_set (i := 3) sc_range_forms.nd rfl (Or.inl rfl) (pe_call G_number_form (hr.mono (by omega)) (by rfl) T.g_number_form T.F_number_form.kp T.b_number_form .nil pass0 (pa_cons (pv 1) pa_nil)))
    (pss_cons (ps_if (PW.pt (pw_or (pt_val (pe_call G_negative (hr.mono (by omega)) (by rfl) T.g_negative T.F_negative.kp T.b_negative .nil pass0 (pa_cons (pv 2) pa_nil)) (fun _ => rfl)) (pw_or1 (pt_cmpR op_gt (pe_call G_order (hr.mono (by omega)) (by rfl) T.g_order T.F_order.kp T.b_order .nil pass0 (pa_cons (pv 2) (pa_cons (pv 3) pa_nil))) pe_int (nomark _)))))
      (pss_one ps_never)
      pss_nil)
    (pss_one (ps_ret (pe_tup (pa_cons (pv 2) (pa_cons (pv 3) pa_nil)))))))), ?_⟩
    refine ⟨_, rfl, x, fo ((b : Nat) : Int), rfl, hx, fun v1 H1 D1 s1 => ?_⟩
    dsimp only [gName]
    refine ⟨_, rfl, y, fo ((f : Nat) : Int), rfl, hy.same s1, fun v2 H2 D2 s2 => ?_⟩
    dsimp only [gName]
    replace D1 := DI.same D1 s2
    refine ⟨_, rfl, v1, ((b : Nat) : Int), rfl, D1, ?_⟩
    rw [decide_eq_false (by omega)]
    refine ⟨_, rfl, iteF ?_⟩
    refine ⟨_, rfl, _, rfl, v1, v2, ((b : Nat) : Int), ((f : Nat) : Int), 4000, rfl, D1, D2, bwn (by omega), bwn hf, by decide, fun H3 s3 => ?_⟩
    walk_at "r"
    refine ifD (fun z => ?_) (fun z => ?_)
    · exfalso
      unfold sg at z
      split at z
      · omega
      · split at z <;> omega
    · dsimp only [tNext]
      refine ⟨_, rfl, _, rfl, ?_⟩
      refine ⟨len_le (Nat.le_of_ble_eq_true rfl), fun u nu => ?_⟩
      generalize eH4 : upd H3 u _ = H4
      obtain ⟨su, hu⟩ := new_step nu eH4
      clear eH4
      exact q u v1 v2 H4 hu (DI.same D1 (s3.trans su)) (DI.same D2 (s3.trans su)) (((s1.trans s2).trans s3).trans su)
def sp_member (K : PySem.W.Frag) : Sp := fun vs H Q _ => ∃ (x y z : V) (b f k : Nat), vs = [x, y, z] ∧ DN K H x b ∧ DN K H y f ∧ DN K H z k ∧ b ≤ f ∧ f < 2 ^ 3999 ∧ (∀ M l r, Pts b f M l r → k < (cov b M l r).length) ∧
  ∀ (M l r s q : Nat) (u : Addr) v1 v2 H', Pts b f M l r → (cov b M l r)[k]? = some (s, s + 2 ^ q) → q < 4001 → s < 2 ^ 4000 → H' u = some (.tup [v1, v2]) → DN K H' v1 s → DN K H' v2 q → Same H H' → Q (.ref u) H'
theorem ok_cover_member (T : Top K mg) : FnOk P w K mg base CX0 (11) T.f_cover_member T.fd_cover_member ["start", "stop", "rank"]  (sp_member K) := by
  have G_parted : FnOk P w K mg base CX0 (10) T.f_parted T.fd_parted ["start", "stop"]  (sp_parted K) := ok_parted T
  have G_ones_of : FnOk P w K mg base CX0 (9) T.f_ones_of T.fd_ones_of ["x"]  (sp_onesof K) := ok_ones_of T
  have G_less : FnOk P w K mg base CX0 (5) T.f_less T.fd_less ["x", "y"]  (sp_less K) := ok_less T
  have G_ranked : FnOk P w K mg base CX0 (8) T.f_ranked T.fd_ranked ["x", "rank"]  (sp_rnk K) := ok_ranked T
  have G_left_first : FnOk P w K mg base CX0 (7) T.f_left_first T.fd_left_first ["start", "left", "level"]  (sp_lfirst K) := ok_left_first T
  have G_right_first : FnOk P w K mg base CX0 (10) T.f_right_first T.fd_right_first ["middle", "right", "level"]  (sp_rfirst K) := ok_right_first T
  have G_minus : FnOk P w K mg base CX0 (7) T.f_minus T.fd_minus ["x", "y"]  (sp_minI K) := okI_minus T
  have G_total : FnOk P w K mg base CX0 (6) T.f_total T.fd_total ["x", "y", "carry"]  (sp_totI K) := okI_total T
  have G_plus_one : FnOk P w K mg base CX0 (6) T.f_plus_one T.fd_plus_one ["x"]  (sp_p1I K) := okI_plus_one T
  have G_negative : FnOk P w K mg base CX0 (1) T.f_negative T.fd_negative ["x"]  (sp_negI K) := okI_negative T
  refine T.F_cover_member.ok sc_cover_member (fun vs H Q E h => ?_) (fun cdv A outer s H vs Q E hr h => ?_)
  · obtain ⟨x, y, z, b, f, k, rfl, _⟩ := h
    rfl
  · obtain ⟨x, y, z, b, f, k, rfl, hx, hy, hz, hbf, hf, hk, q⟩ := h
    refine ⟨_, (pss_cons (ps_asg (pe_call G_parted (hr.mono (by omega)) (by rfl) T.g_parted T.F_parted.kp T.b_parted .nil pass0 (pa_cons (pv 0) (pa_cons (pv 1) pa_nil))) (pg_tup rfl (pgs_cons (pg_name (i := 3) sc_cover_member.nd rfl (Or.inl rfl)) (pgs_cons (pg_name (i := 4) sc_cover_member.nd rfl (Or.inl rfl)) (pgs_cons (pg_name (i := 5) sc_cover_member.nd rfl (Or.inl rfl)) pgs_nil)))))
    (pss_cons (ps_set (i := 6) sc_cover_member.nd rfl (Or.inl rfl) (pe_call G_ones_of (hr.mono (by omega)) (by rfl) T.g_ones_of T.F_ones_of.kp T.b_ones_of .nil pass0 (pa_cons (pv 4) pa_nil)))
    (pss_cons (ps_if (pt_val (pe_call G_less (hr.mono (by omega)) (by rfl) T.g_less T.F_less.kp T.b_less .nil pass0 (pa_cons (pv 2) (pa_cons (pv 6) pa_nil))) (fun _ => rfl))
      (pss_cons (ps_set (i := 7) sc_cover_member.nd rfl (Or.inl rfl) (pe_call G_ranked (hr.mono (by omega)) (by rfl) T.g_ranked T.F_ranked.kp T.b_ranked .nil pass0 (pa_cons (pv 4) (pa_cons (pv 2) pa_nil))))
      (pss_one (ps_ret (pe_tup (pa_cons (pe_call G_left_first (hr.mono (by omega)) (by rfl) T.g_left_first T.F_left_first.kp T.b_left_first .nil pass0 (pa_cons (pv 0) (pa_cons (pv 4) (pa_cons (pv 7) pa_nil)))) (pa_cons (pv 7) pa_nil))))))
      pss_nil)
    (pss_cons (ps_set (i := 8) sc_cover_member.nd rfl (Or.inl rfl) (pe_call G_minus (hr.mono (by omega)) (by rfl) T.g_minus T.F_minus.kp T.b_minus .nil pass0 (pa_cons (pe_call G_total (hr.mono (by omega)) (by rfl) T.g_total T.F_total.kp T.b_total .nil pass0 (pa_cons (pv 6) (pa_cons (pe_call G_ones_of (hr.mono (by omega)) (by rfl) T.g_ones_of T.F_ones_of.kp T.b_ones_of .nil pass0 (pa_cons (pv 5) pa_nil)) (pa_cons pe_int pa_nil)))) (pa_cons (pe_call G_plus_one (hr.mono (by omega)) (by rfl) T.g_plus_one T.F_plus_one.kp T.b_plus_one .nil pass0 (pa_cons (pv 2) pa_nil)) pa_nil))))
    (pss_cons (ps_if (pt_val (pe_call G_negative (hr.mono (by omega)) (by rfl) T.g_negative T.F_negative.kp T.b_negative .nil pass0 (pa_cons (pv 8) pa_nil)) (fun _ => rfl))
      (pss_one (ps_ret pe_non))
      pss_nil)
    (pss_cons (ps_set (i := 7) sc_cover_member.nd rfl (Or.inl rfl) (pe_call G_ranked (hr.mono (by omega)) (by rfl) T.g_ranked T.F_ranked.kp T.b_ranked .nil pass0 (pa_cons (pv 5) (pa_cons (pv 8) pa_nil))))
    (pss_one (ps_ret (pe_tup (pa_cons (pe_call G_right_first (hr.mono (by omega)) (by rfl) T.g_right_first T.F_right_first.kp T.b_right_first .nil pass0 (pa_cons (pv 3) (pa_cons (pv 5) (pa_cons (pv 7) pa_nil)))) (pa_cons (pv 7) pa_nil))))))))))), ?_⟩
    have pw : (2 : Nat) ^ 3999 < 2 ^ 4000 := by decide
    refine ⟨_, rfl, _, rfl, x, y, b, f, rfl, hx, hy, hbf, by omega, fun u vm vl vr M l r H1 hP hu Dm Dl Dr s1 => ?_⟩
    obtain ⟨p1, p2, p3, p4, p5, p6⟩ := hP.lt hbf
    have hkl := hk M l r hP
    rw [cov_len] at hkl
    have bl1 := bits_le l 4001
    have bl2 := bits_le r 4001
    refine ⟨u, _, rfl, .inl (.inl hu), rfl, _, _, rfl, _, _, rfl, _, _, rfl, rfl, ?_⟩
    dsimp only [gName]
    refine ⟨_, rfl, vl, l, rfl, Dl, by omega, fun H2 s2 => ?_⟩
    dsimp only [gName]
    have s12 := s1.trans s2
    have hx2 := DI.same hx s12
    have hz2 := DI.same hz s12
    have ez := hz2.int (by omega)
    subst ez
    refine ⟨_, rfl, _, rfl, .int (k : Nat), .int ((bits l 4001).length : Nat), k, (bits l 4001).length, rfl, hz2, di_nat (by omega), by omega, by omega, fun H3 s3 => ?_⟩
    refine ⟨_, rfl, ?_⟩
    have s13 := s12.trans s3
    have s23 := s2.trans s3
    have bl : ∀ {n : Nat}, n < 2 ^ 4000 → Bw 4000 ((n : Nat) : Int) := fun h => bwn h
    have kth_get : ∀ {n k' q' : Nat}, n < 2 ^ 4000 → Kth ((n : Nat) : Int) k' q' → q' < 4000 ∧ (bits n 4001)[k']? = some q' := fun {n k' q'} hn hK => by
      obtain ⟨h1, h2⟩ := hK
      rw [tb_nat] at h1
      rw [ones_bits] at h2
      have hge := Nat.ge_two_pow_of_testBit h1
      have hq : q' < 4000 := by
        apply Nat.lt_of_not_le
        intro hle
        have := pow_le hle
        omega
      have := bits_get (K := 4001) (by omega) h1
      rw [h2] at this
      exact ⟨hq, this⟩
    refine ifD (fun z => ?_) (fun z => ?_)
    · refine ⟨_, rfl, _, rfl, vl, .int (k : Nat), ((l : Nat) : Int), ((k : Nat) : Int), 4000, rfl, DI.same Dl s23, di_nat (by omega), bl (by omega), bl (by omega), by decide, by decide, by omega, fun H4 s4 => ⟨fun r' q' er hK hq => ?_, fun hno => ?_⟩⟩
      · have er' : k = r' := by omega
        subst er'
        obtain ⟨hq3, hg⟩ := kth_get (by omega) hK
        dsimp only [gName]
        refine ⟨_, rfl, _, rfl, _, rfl, x, vl, .int (q' : Nat), b, l, q', rfl, DI.same hx2 (s23.trans s4 |> fun s => (s3.trans s4)), DI.same Dl (s23.trans s4), di_nat (by omega), by omega, by omega, by omega, fun v5 H5 D5 s5 => ?_⟩
        refine ⟨_, rfl, ?_⟩
        refine ⟨len_le (Nat.le_of_ble_eq_true rfl), fun w5 nw5 => ?_⟩
        generalize eH6 : upd H5 w5 _ = H6
        obtain ⟨sw5, hw5⟩ := new_step nw5 eH6
        clear eH6
        have hc := cov_up (b := b) (M := M) (r := r) hg
        have hm : l % 2 ^ q' ≤ l := Nat.mod_le _ _
        exact q M l r _ q' w5 v5 (.int (q' : Nat)) H6 hP hc (by omega) (by omega) hw5 (DI.same D5 sw5) (di_nat (by omega)) (((s13.trans s4).trans s5).trans sw5)
      · exfalso
        have hg : (bits l 4001)[k]? = some ((bits l 4001)[k]'(by omega)) := List.getElem?_eq_getElem _
        exact hno k _ rfl (kth_bits hg)
    · dsimp only [tNext]
      refine ⟨_, rfl, _, rfl, vr, r, rfl, DI.same Dr s23, by omega, fun H4 s4 => ?_⟩
      refine ⟨.int ((bits l 4001).length : Nat), .int ((bits r 4001).length : Nat), ((bits l 4001).length : Nat), ((bits r 4001).length : Nat), 0, 20, rfl, by decide, di_nat (by omega), di_nat (by omega), bw_nat (by omega), bw_nat (by omega), by decide, fun v5 H5 D5 s5 => ?_⟩
      refine ⟨_, rfl, .int (k : Nat), ((k : Nat) : Int), 20, rfl, di_nat (by omega), bw_nat (by omega), by decide, fun v6 H6 D6 s6 => ?_⟩
      refine ⟨v5, v6, ((bits l 4001).length + (bits r 4001).length : Nat), ((k + 1 : Nat) : Int), 20, rfl, (DI.same D5 s6).eq (by show _ + (0 : Int) = _; omega), D6.eq (by omega), bw_nat (by omega), bw_nat (by omega), by decide, fun v7 H7 D7 s7 => ?_⟩
      obtain ⟨kb, ekb⟩ : ∃ kb, (bits l 4001).length + (bits r 4001).length = k + 1 + kb := ⟨(bits l 4001).length + (bits r 4001).length - (k + 1), by omega⟩
      have D7' : DN K H7 v7 kb := D7.eq (by omega)
      have e7 := D7'.int (by omega)
      subst e7
      dsimp only [gName]
      refine ⟨_, rfl, .int (kb : Nat), ((kb : Nat) : Int), rfl, D7', ?_⟩
      rw [decide_eq_false (by omega)]
      refine ⟨_, rfl, iteF ?_⟩
      dsimp only [tNext]
      have s37 := ((s4.trans s5).trans s6).trans s7
      have s27 := s23.trans s37
      refine ⟨_, rfl, _, rfl, vr, .int (kb : Nat), ((r : Nat) : Int), ((kb : Nat) : Int), 4000, rfl, DI.same Dr s27, D7', bl (by omega), bl (by omega), by decide, by decide, by omega, fun H8 s8 => ⟨fun r' q' er hK hq => ?_, fun hno => ?_⟩⟩
      · have er' : kb = r' := by omega
        subst er'
        obtain ⟨hq3, hg⟩ := kth_get (by omega) hK
        dsimp only [gName]
        have s28 := s27.trans s8
        refine ⟨_, rfl, _, rfl, _, rfl, vm, vr, .int (q' : Nat), M, r, q', rfl, DI.same Dm s28, DI.same Dr s28, di_nat (by omega), by omega, by omega, by omega, fun v5 H9 D9 s9 => ?_⟩
        refine ⟨_, rfl, ?_⟩
        refine ⟨len_le (Nat.le_of_ble_eq_true rfl), fun w5 nw5 => ?_⟩
        generalize eH10 : upd H9 w5 _ = H10
        obtain ⟨sw5, hw5⟩ := new_step nw5 eH10
        clear eH10
        have hc := cov_dn (b := b) (M := M) (l := l) hg
        rw [show (bits l 4001).length + ((bits r 4001).length - 1 - kb) = k by omega] at hc
        have hm : r / 2 ^ (q' + 1) * 2 ^ (q' + 1) ≤ r := Nat.div_mul_le_self _ _
        exact q M l r _ q' w5 v5 (.int (q' : Nat)) H10 hP hc (by omega) (by omega) hw5 (DI.same D9 sw5) (di_nat (by omega)) (((s1.trans s28).trans s9).trans sw5)
      · exfalso
        have hg : (bits r 4001)[kb]? = some ((bits r 4001)[kb]'(by omega)) := List.getElem?_eq_getElem _
        exact hno kb _ rfl (kth_bits hg)
def sp_around (K : PySem.W.Frag) : Sp := fun vs H Q _ => ∃ (x y z : V) (b f p s q : Nat), vs = [x, y, z] ∧ DN K H x b ∧ DN K H y f ∧ DN K H z p ∧ Lvl b f s q ∧ s ≤ p ∧ p < s + 2 ^ q ∧ f < 2 ^ 3999 ∧
  ∀ (u : Addr) v1 v2 H', q < 4000 → H' u = some (.tup [v1, v2]) → DN K H' v1 s → DN K H' v2 q → Same H H' → Q (.ref u) H'
theorem ok_block_around (T : Top K mg) : FnOk P w K mg base CX0 (10) T.f_block_around T.fd_block_around ["start", "stop", "place"]  (sp_around K) := by
  have G_combined : FnOk P w K mg base CX0 (5) T.f_combined T.fd_combined ["x", "y", "table"]  (sp_cmbI K) := okI_combined T
  have G_top_place : FnOk P w K mg base CX0 (8) T.f_top_place T.fd_top_place ["x"]  (sp_topp K) := ok_top_place T
  have G_minus : FnOk P w K mg base CX0 (7) T.f_minus T.fd_minus ["x", "y"]  (sp_minI K) := okI_minus T
  have G_less : FnOk P w K mg base CX0 (5) T.f_less T.fd_less ["x", "y"]  (sp_less K) := ok_less T
  have G_high_part : FnOk P w K mg base CX0 (9) T.f_high_part T.fd_high_part ["x", "place"]  (sp_high_part K) := ok_high_part T
  refine T.F_block_around.ok sc_block_around (fun vs H Q E h => ?_) (fun cdv A outer s H vs Q E hr h => ?_)
  · obtain ⟨x, y, z, b, f, p, s, q, rfl, _⟩ := h
    rfl
  · obtain ⟨x, y, z, b, f, p, s0, q0, rfl, hx, hy, hz, L, hp1, hp2, hf, q⟩ := h
    refine ⟨_, (pss_cons (ps_set (i := 3) sc_block_around.nd rfl (Or.inl rfl) (pe_call G_top_place (hr.mono (by omega)) (by rfl) T.g_top_place T.F_top_place.kp T.b_top_place .nil pass0 (pa_cons (pe_call G_combined (hr.mono (by omega)) (by rfl) T.g_combined T.F_combined.kp T.b_combined .nil pass0 (pa_cons (pv 2) (pa_cons (pv 1) (pa_cons (pe_glob (v := .ref T.a_XOR) (by rfl) T.c_XOR rfl) pa_nil)))) pa_nil)))
    (pss_cons (ps_if (pt_cmpR (op_neD hr.units) (pv 0) pe_int (nomark _))
      (pss_cons (ps_set (i := 4) sc_block_around.nd rfl (Or.inl rfl) (pe_call G_top_place (hr.mono (by omega)) (by rfl) T.g_top_place T.F_top_place.kp T.b_top_place .nil pass0 (pa_cons (pe_call G_combined (hr.mono (by omega)) (by rfl) T.g_combined T.F_combined.kp T.b_combined .nil pass0 (pa_cons (pv 2) (pa_cons (pe_call G_minus (hr.mono (by omega)) (by rfl) T.g_minus T.F_minus.kp T.b_minus .nil pass0 (pa_cons (pv 0) (pa_cons pe_int pa_nil))) (pa_cons (pe_glob (v := .ref T.a_XOR) (by rfl) T.c_XOR rfl) pa_nil)))) pa_nil)))
      (pss_one (ps_if (pt_val (pe_call G_less (hr.mono (by omega)) (by rfl) T.g_less T.F_less.kp T.b_less .nil pass0 (pa_cons (pv 4) (pa_cons (pv 3) pa_nil))) (fun _ => rfl))
        (pss_one (ps_set (i := 3) sc_block_around.nd rfl (Or.inl rfl) (pv 4)))
        pss_nil)))
      pss_nil)
    (pss_one (ps_ret (pe_tup (pa_cons (pe_call G_high_part (hr.mono (by omega)) (by rfl) T.g_high_part T.F_high_part.kp T.b_high_part .nil pass0 (pa_cons (pv 2) (pa_cons (pv 3) pa_nil))) (pa_cons (pv 3) pa_nil))))))), ?_⟩
    have pw : (2 : Nat) ^ 3999 < 2 ^ 4000 := by decide
    obtain ⟨es, g1, g2, g3⟩ := around L hp1 hp2
    have hlo := L.lo
    have hhi := L.hi
    have xor0 : ∀ {n m : Nat}, n ≠ m → 0 < n ^^^ m := fun {n m} hne => Nat.pos_of_ne_zero fun e => hne (Nat.eq_of_testBit_eq fun j => by
      have h3 := congrArg (fun n => Nat.testBit n j) e
      simp only [Nat.testBit_xor, Nat.zero_testBit] at h3
      revert h3
      cases n.testBit j <;> cases m.testBit j <;> simp)
    have bp : Bw 4000 ((p : Nat) : Int) := bwn (by omega)
    have bf : Bw 4000 ((f : Nat) : Int) := bwn (by omega)
    have bb : Bw 4000 ((b : Nat) : Int) := bwn (by omega)
    refine ⟨_, rfl, _, rfl, z, y, ((p : Nat) : Int), ((f : Nat) : Int), ((p ^^^ f : Nat) : Int), T.a_XOR, (fun a b => a ^^ b), 4000, rfl, hz, hy, bp, bf, by decide, fun H' => T.q_XOR H', rfl, fun j => by rw [tb_nat, tb_nat, tb_nat, Nat.testBit_xor], fun v1 H1 D1 s1 => ?_⟩
    refine ⟨v1, p ^^^ f, rfl, D1, xor0 (by omega), Nat.xor_lt_two_pow (by omega) (by omega), fun v2 t H2 D2 t1 t2 t3 s2 => ?_⟩
    have R1 := rng_of (by omega) t1 t2
    have q1 := g1 _ R1
    have e2 := D2.int (by omega)
    subst e2
    have s12 := s1.trans s2
    dsimp only [gName]
    have fin : ∀ {H' : Hp} {σ : L2.St} {tl : Nat}, True := fun {_ _ _} => trivial
    with_reducible refine cut (fun σ H' => ∃ (z5 : Option V), σ = [some x, some y, some z, some (.int (q0 : Nat)), z5] ∧ Same H H') (fun J0 J => ?_) ?_
    · have l1 := (fo_lim (by decide) bb).2
      refine ⟨_, rfl, fo ((b : Nat) : Int), .int 0, DI.same hx s12, .int 0, shaped_fm (fo_fm _) (by omega), shaped_fm ((fm_int 0).mpr (by decide)) (by rw [depth_int]; decide), _, rfl, ?_⟩
      rw [eqv_val (fo_fm _) ((fm_int 0).mpr (by decide)), val_fo, val_int]
      by_cases hb0 : b = 0
      · rw [decide_eq_true (by omega)]
        refine iteF ?_
        dsimp only [tNext]
        have et : t = q0 := by
          rcases g3 with h | ⟨h, _⟩
          · have := h t R1
            omega
          · exact absurd hb0 h
        subst et
        exact J.nx _ _ ⟨none, rfl, s12⟩
      · rw [decide_eq_false (by omega)]
        refine iteT ?_
        refine ⟨_, rfl, _, rfl, x, .int 1, ((b : Nat) : Int), 1, 4000, rfl, DI.same hx s12, di_int (by decide), bb, bw_nat (n := 1) (by decide), by decide, fun v3 H3 D3 s3 => ?_⟩
        have D3' : DN K H3 v3 (b - 1) := D3.eq (by omega)
        refine ⟨z, v3, ((p : Nat) : Int), ((b - 1 : Nat) : Int), (((b - 1) ^^^ p : Nat) : Int), T.a_XOR, (fun a b => a ^^ b), 4000, rfl, DI.same hz (s12.trans s3), D3', bp, bwn (by omega), by decide, fun H' => T.q_XOR H', rfl, fun j => by rw [tb_nat, tb_nat, tb_nat, Nat.testBit_xor, Bool.xor_comm], fun v4 H4 D4 s4 => ?_⟩
        refine ⟨v4, (b - 1) ^^^ p, rfl, D4, xor0 (by omega), Nat.xor_lt_two_pow (by omega) (by omega), fun v5 t' H5 D5 u1 u2 u3 s5 => ?_⟩
        have R2 := rng_of (by omega) u1 u2
        have q2 := g2 _ hb0 R2
        have e5 := D5.int (by omega)
        subst e5
        have s15 := ((s12.trans s3).trans s4).trans s5
        dsimp only [gName]
        refine ⟨_, rfl, _, rfl, .int (t' : Nat), .int (t : Nat), t', t, rfl, di_nat (by omega), di_nat (by omega), by omega, by omega, fun H6 s6 => ?_⟩
        refine ⟨_, rfl, ?_⟩
        refine ifD (fun z => ?_) (fun z => ?_)
        · have et : t' = q0 := by
            rcases g3 with h | ⟨_, h⟩
            · have := h t R1
              omega
            · have := h t' R2
              omega
          subst et
          walk_at "r"
          exact J.nx _ _ ⟨_, rfl, s15.trans s6⟩
        · have et : t = q0 := by
            rcases g3 with h | ⟨_, h⟩
            · have := h t R1
              omega
            · have := h t' R2
              omega
          subst et
          exact J.nx _ _ ⟨_, rfl, s15.trans s6⟩
    · rintro σ H' ⟨z5, rfl, sm⟩
      have hq0 : q0 < 4000 := by
        apply Nat.lt_of_not_le
        intro hle
        have := pow_le hle
        omega
      refine ⟨_, rfl, _, rfl, z, .int (q0 : Nat), p, q0, rfl, DI.same hz sm, di_nat (by omega), by omega, by omega, fun v6 H6 D6 s6 => ?_⟩
      refine ⟨_, rfl, ?_⟩
      refine ⟨len_le (Nat.le_of_ble_eq_true rfl), fun u nu => ?_⟩
      generalize eH7 : upd H6 u _ = H7
      obtain ⟨su, hu⟩ := new_step nu eH7
      clear eH7
      rw [es] at D6
      exact q u v6 (.int (q0 : Nat)) H7 hq0 hu (DI.same D6 su) (di_nat (by omega)) ((sm.trans s6).trans su)
def sp_farof (K : PySem.W.Frag) (C : Addr) : Sp := fun vs H Q _ => ∃ (x : V) (n : Nat), vs = [x] ∧ DN K H x n ∧ n < 2 ^ 4001 ∧ Fw n ∧ ∀ a H', H a = none → FN K C H' a n → Same H H' → Q (.ref a) H'
theorem ok_far_of (T : Top K mg) : FnOk P w K mg base CX0 (16) T.f_far_of T.fd_far_of ["form"]  (sp_farof K T.C_Far) := by
  have G_kept : FnOk P w K mg base CX0 (0 + 8) T.f_kept T.fd_kept ["x"]  (sp_kept K) := ok_kept T
  have G_Far___init__ : FnOk P w K mg base CX0 14 T.f_Far___init__ T.fd_Far___init__ ["self", "value"] (sp_initF K T.C_Far 1) := ok_Far___init__F T 1
  refine T.F_far_of.ok sc_far_of (fun vs H Q E h => ?_) (fun cdv A outer s H vs Q E hr h => ?_)
  · obtain ⟨x, n, rfl, _⟩ := h
    rfl
  · obtain ⟨x, n, rfl, hx, hn, hw, q⟩ := h
    refine ⟨_, (pss_one (ps_ret (pe_make T.Mk_Far G_Far___init__ (hr.mono (by omega)) (by rfl) T.g_Far T.b_Far___init__ .nil pass0 (pa_cons (pe_call G_kept (hr.mono (by omega)) (by rfl) T.g_kept T.F_kept.kp T.b_kept .nil pass0 (pa_cons (pv 0) pa_nil)) pa_nil)))), ?_⟩
    obtain ⟨w1, w2⟩ := fw_wt hw hn
    refine ⟨_, rfl, x, fo ((n : Nat) : Int), rfl, hx, fo_fm _, w1, by omega, fun H1 s1 => ?_⟩
    exact new_farF (n := 1) (numF_di (DI.same hx s1)) w1 w2 (by decide) fun a H2 na fa s2 => q a H2 (none_ofSI s1 na) fa (s1.trans s2)
def sp_asr (K : PySem.W.Frag) (C : Addr) : Sp := fun vs H Q _ => ∃ (x y : V) (n p : Nat), vs = [x, y] ∧ DN K H x n ∧ DN K H y p ∧ n < 2 ^ 4000 ∧ p < 4000 ∧ Fw n ∧ Fw (n + 2 ^ p) ∧
  ∀ (u a1 a2 : Addr) H', H' u = some (.tup [.ref a1, .ref a2]) → FN K C H' a1 n → FN K C H' a2 (n + 2 ^ p) → Same H H' → Q (.ref u) H'
theorem ok_as_range (T : Top K mg) : FnOk P w K mg base CX0 (17) T.f_as_range T.fd_as_range ["first", "level"]  (sp_asr K T.C_Far) := by
  have G_far_of : FnOk P w K mg base CX0 (16) T.f_far_of T.fd_far_of ["form"]  (sp_farof K T.C_Far) := ok_far_of T
  have G_block_stop : FnOk P w K mg base CX0 (8) T.f_block_stop T.fd_block_stop ["first", "level"]  (sp_bstop K) := ok_block_stop T
  refine T.F_as_range.ok sc_as_range (fun vs H Q E h => ?_) (fun cdv A outer s H vs Q E hr h => ?_)
  · obtain ⟨x, y, n, p, rfl, _⟩ := h
    rfl
  · obtain ⟨x, y, n, p, rfl, hx, hy, hn, hp, fn1, fn2, q⟩ := h
    refine ⟨_, (pss_one (ps_ret (pe_tup (pa_cons (pe_call G_far_of (hr.mono (by omega)) (by rfl) T.g_far_of T.F_far_of.kp T.b_far_of .nil pass0 (pa_cons (pv 0) pa_nil)) (pa_cons (pe_call G_far_of (hr.mono (by omega)) (by rfl) T.g_far_of T.F_far_of.kp T.b_far_of .nil pass0 (pa_cons (pe_call G_block_stop (hr.mono (by omega)) (by rfl) T.g_block_stop T.F_block_stop.kp T.b_block_stop .nil pass0 (pa_cons (pv 0) (pa_cons (pv 1) pa_nil))) pa_nil)) pa_nil))))), ?_⟩
    have h301 : (2 : Nat) ^ 4001 = 2 ^ 4000 + 2 ^ 4000 := by decide
    have hpp := pow_le (show p ≤ 4000 by omega)
    refine ⟨_, rfl, x, n, rfl, hx, by omega, fn1, fun a1 H1 n1 f1 s1 => ?_⟩
    refine ⟨_, rfl, _, rfl, x, y, n, p, rfl, DI.same hx s1, DI.same hy s1, hn, by omega, fun v2 H2 D2 s2 => ?_⟩
    refine ⟨v2, n + 2 ^ p, rfl, D2, by omega, fn2, fun a2 H3 n2 f2 s3 => ?_⟩
    refine ⟨len_le (Nat.le_of_ble_eq_true rfl), fun u nu => ?_⟩
    generalize eH4 : upd H3 u _ = H4
    obtain ⟨su, hu⟩ := new_step nu eH4
    clear eH4
    exact q u a1 a2 H4 hu (f1.same ((s2.trans s3).trans su)) (f2.same su) (((s1.trans s2).trans s3).trans su)
def sp_cblock (K : PySem.W.Frag) (C : Addr) : Sp := fun vs H Q _ => ∃ (x y z : V) (b f k : Nat), vs = [x, y, z] ∧ NN K C H x b ∧ NN K C H y f ∧ NN K C H z k ∧ b ≤ f ∧ f < 2 ^ 3999 ∧ tau ((b : Nat) : Int) ≤ 1000 ∧ tau ((f : Nat) : Int) ≤ 1000 ∧ (∀ M l r, Pts b f M l r → k < (cov b M l r).length) ∧
  ∀ (M l r s q : Nat) (u a1 a2 : Addr) H', Pts b f M l r → (cov b M l r)[k]? = some (s, s + 2 ^ q) → H' u = some (.tup [.ref a1, .ref a2]) → FN K C H' a1 s → FN K C H' a2 (s + 2 ^ q) → Same H H' → Q (.ref u) H'
theorem ok_cover_block (T : Top K mg) : FnOk P w K mg base CX0 (18) T.f_cover_block T.fd_cover_block ["start", "stop", "k"]  (sp_cblock K T.C_Far) := by
  have G_range_forms : FnOk P w K mg base CX0 (5) T.f_range_forms T.fd_range_forms ["start", "stop"]  (sp_rangeN K T.C_Far) := ok_range_forms T
  have G_number_form : FnOk P w K mg base CX0 (4) T.f_number_form T.fd_number_form ["value"]  (sp_numf K T.C_Far) := ok_number_form T
  have G_negative : FnOk P w K mg base CX0 (1) T.f_negative T.fd_negative ["x"]  (sp_negI K) := okI_negative T
  have G_cover_member : FnOk P w K mg base CX0 (11) T.f_cover_member T.fd_cover_member ["start", "stop", "rank"]  (sp_member K) := ok_cover_member T
  have G_as_range : FnOk P w K mg base CX0 (17) T.f_as_range T.fd_as_range ["first", "level"]  (sp_asr K T.C_Far) := ok_as_range T
  refine T.F_cover_block.ok sc_cover_block (fun vs H Q E h => ?_) (fun cdv A outer s H vs Q E hr h => ?_)
  · obtain ⟨x, y, z, b, f, k, rfl, _⟩ := h
    rfl
  · obtain ⟨x, y, z, b, f, k, rfl, hx, hy, hz, hbf, hf, tb1, tf1, hk, q⟩ := h
    refine ⟨_, (pss_cons (ps_asg (pe_call G_range_forms (hr.mono (by omega)) (by rfl) T.g_range_forms T.F_range_forms.kp T.b_range_forms .nil pass0 (pa_cons (pv 0) (pa_cons (pv 1) pa_nil))) (pg_tup rfl (pgs_cons (pg_name (i := 3) sc_cover_block.nd rfl (Or.inl rfl)) (pgs_cons (pg_name (i := 4) sc_cover_block.nd rfl (Or.inl rfl)) pgs_nil))))
    (pss_cons (ps_set (i := 5) sc_cover_block.nd rfl (Or.inl rfl) (pe_call G_number_form (hr.mono (by omega)) (by rfl) T.g_number_form T.F_number_form.kp T.b_number_form .nil pass0 (pa_cons (pv 2) pa_nil)))
    (pss_cons (ps_if (pt_val (pe_call G_negative (hr.mono (by omega)) (by rfl) T.g_negative T.F_negative.kp T.b_negative .nil pass0 (pa_cons (pv 5) pa_nil)) (fun _ => rfl))
      (pss_one ps_never)
      pss_nil)
    (pss_cons (ps_set (i := 6) sc_cover_block.nd rfl (Or.inl rfl) (pe_call G_cover_member (hr.mono (by omega)) (by rfl) T.g_cover_member T.F_cover_member.kp T.b_cover_member .nil pass0 (pa_cons (pv 3) (pa_cons (pv 4) (pa_cons (pv 5) pa_nil)))))
    (pss_cons (ps_if (pt_cmpR op_isN (pv 6) pe_non (nomark _))
      (pss_one ps_never)
      pss_nil)
    (pss_one (ps_ret (pe_call G_as_range (hr.mono (by omega)) (by rfl) T.g_as_range T.F_as_range.kp T.b_as_range .nil pass0 (pa_cons (pe_ix ix_tup (pv 6) pe_int (fun _ _ => rfl)) (pa_cons (pe_ix ix_tup (pv 6) pe_int (fun _ _ => rfl)) pa_nil)))))))))), ?_⟩
    have pw : (2 : Nat) ^ 3999 < 2 ^ 4000 := by decide
    refine ⟨_, rfl, _, rfl, x, y, b, f, rfl, hx, hy, hbf, by omega, fun u v1 v2 H1 hu D1 D2 s1 => ?_⟩
    refine ⟨u, _, rfl, .inl (.inl hu), rfl, _, _, rfl, _, _, rfl, rfl, ?_⟩
    dsimp only [gName]
    refine ⟨_, rfl, z, fo ((k : Nat) : Int), rfl, hz.same s1, fun v3 H2 D3 s2 => ?_⟩
    dsimp only [gName]
    refine ⟨_, rfl, v3, ((k : Nat) : Int), rfl, D3, ?_⟩
    rw [decide_eq_false (by omega)]
    refine ⟨_, rfl, iteF ?_⟩
    dsimp only [tNext]
    refine ⟨_, rfl, _, rfl, _, rfl, v1, v2, v3, b, f, k, rfl, DI.same D1 s2, DI.same D2 s2, D3, hbf, hf, hk, fun M l r s0 q0 w5 v5 v6 H3 hP hc hq hs hw D5 D6 s3 => ?_⟩
    obtain ⟨hq3, Lv, _⟩ := cov_cases hP hbf hf hc
    obtain ⟨fw1, fw2⟩ := lvl_few Lv tb1 tf1
    dsimp only [gName]
    refine ⟨_, rfl, rfl, _, rfl, iteF ?_⟩
    dsimp only [tNext]
    refine ⟨_, rfl, w5, _, _, v5, rfl, rfl, .inl (.inl hw), at_of (j := 0) rfl rfl, ?_⟩
    refine ⟨_, rfl, w5, _, _, v6, rfl, rfl, .inl (.inl hw), at_of (j := 1) rfl rfl, ?_⟩
    refine ⟨v5, v6, s0, q0, rfl, D5, D6, hs, hq3, fw1, fw2, fun u7 a1 a2 H4 hu7 f1 f2 s4 => ?_⟩
    exact q M l r s0 q0 u7 a1 a2 H4 hP hc hu7 f1 f2 (((s1.trans s2).trans s3).trans s4)
def sp_cat (K : PySem.W.Frag) (C : Addr) : Sp := fun vs H Q _ => ∃ (x y z : V) (b f p M l r k s q : Nat), vs = [x, y, z] ∧ NN K C H x b ∧ NN K C H y f ∧ NN K C H z p ∧ b ≤ f ∧ f < 2 ^ 3999 ∧ tau ((b : Nat) : Int) ≤ 1000 ∧ tau ((f : Nat) : Int) ≤ 1000 ∧ Pts b f M l r ∧ (cov b M l r)[k]? = some (s, s + 2 ^ q) ∧ s ≤ p ∧ p < s + 2 ^ q ∧
  ∀ (u a0 a1 a2 : Addr) H', H' u = some (.tup [.ref a0, .ref a1, .ref a2]) → FN K C H' a0 k → FN K C H' a1 s → FN K C H' a2 (s + 2 ^ q) → Same H H' → Q (.ref u) H'
theorem ok_cover_at (T : Top K mg) : FnOk P w K mg base CX0 (18) T.f_cover_at T.fd_cover_at ["start", "stop", "address"]  (sp_cat K T.C_Far) := by
  have G_range_forms : FnOk P w K mg base CX0 (5) T.f_range_forms T.fd_range_forms ["start", "stop"]  (sp_rangeN K T.C_Far) := ok_range_forms T
  have G_number_form : FnOk P w K mg base CX0 (4) T.f_number_form T.fd_number_form ["value"]  (sp_numf K T.C_Far) := ok_number_form T
  have G_less : FnOk P w K mg base CX0 (5) T.f_less T.fd_less ["x", "y"]  (sp_less K) := ok_less T
  have G_block_around : FnOk P w K mg base CX0 (10) T.f_block_around T.fd_block_around ["start", "stop", "place"]  (sp_around K) := ok_block_around T
  have G_parted : FnOk P w K mg base CX0 (10) T.f_parted T.fd_parted ["start", "stop"]  (sp_parted K) := ok_parted T
  have G_ones_of : FnOk P w K mg base CX0 (9) T.f_ones_of T.fd_ones_of ["x"]  (sp_onesof K) := ok_ones_of T
  have G_low_part : FnOk P w K mg base CX0 (6) T.f_low_part T.fd_low_part ["x", "place"]  (sp_low K) := ok_low_part T
  have G_total : FnOk P w K mg base CX0 (6) T.f_total T.fd_total ["x", "y", "carry"]  (sp_totI K) := okI_total T
  have G_dropped : FnOk P w K mg base CX0 (8) T.f_dropped T.fd_dropped ["x", "amount"]  (sp_drpI K) := okI_dropped T
  have G_plus_one : FnOk P w K mg base CX0 (6) T.f_plus_one T.fd_plus_one ["x"]  (sp_p1I K) := okI_plus_one T
  have G_far_of : FnOk P w K mg base CX0 (16) T.f_far_of T.fd_far_of ["form"]  (sp_farof K T.C_Far) := ok_far_of T
  have G_block_stop : FnOk P w K mg base CX0 (8) T.f_block_stop T.fd_block_stop ["first", "level"]  (sp_bstop K) := ok_block_stop T
  refine T.F_cover_at.ok sc_cover_at (fun vs H Q E h => ?_) (fun cdv A outer s H vs Q E hr h => ?_)
  · obtain ⟨x, y, z, b, f, p, M, l, r, k, s0, q0, rfl, _⟩ := h
    rfl
  · obtain ⟨x, y, z, b, f, p, M, l, r, k, s0, q0, rfl, hx, hy, hz, hbf, hf, tb1, tf1, hP, hc, hp1, hp2, q⟩ := h
    refine ⟨_, (pss_cons (ps_asg (pe_call G_range_forms (hr.mono (by omega)) (by rfl) T.g_range_forms T.F_range_forms.kp T.b_range_forms .nil pass0 (pa_cons (pv 0) (pa_cons (pv 1) pa_nil))) (pg_tup rfl (pgs_cons (pg_name (i := 3) sc_cover_at.nd rfl (Or.inl rfl)) (pgs_cons (pg_name (i := 4) sc_cover_at.nd rfl (Or.inl rfl)) pgs_nil))))
    (pss_cons (ps_set (i := 5) sc_cover_at.nd rfl (Or.inl rfl) (pe_call G_number_form (hr.mono (by omega)) (by rfl) T.g_number_form T.F_number_form.kp T.b_number_form .nil pass0 (pa_cons (pv 2) pa_nil)))
    (pss_cons (ps_if (PW.pt (pw_or (pt_val (pe_call G_less (hr.mono (by omega)) (by rfl) T.g_less T.F_less.kp T.b_less .nil pass0 (pa_cons (pv 5) (pa_cons (pv 3) pa_nil))) (fun _ => rfl)) (pw_or1 (pt_not (pt_val (pe_call G_less (hr.mono (by omega)) (by rfl) T.g_less T.F_less.kp T.b_less .nil pass0 (pa_cons (pv 5) (pa_cons (pv 4) pa_nil))) (fun _ => rfl))))))
      (pss_one ps_never)
      pss_nil)
    (pss_cons (ps_asg (pe_call G_block_around (hr.mono (by omega)) (by rfl) T.g_block_around T.F_block_around.kp T.b_block_around .nil pass0 (pa_cons (pv 3) (pa_cons (pv 4) (pa_cons (pv 5) pa_nil)))) (pg_tup rfl (pgs_cons (pg_name (i := 6) sc_cover_at.nd rfl (Or.inl rfl)) (pgs_cons (pg_name (i := 7) sc_cover_at.nd rfl (Or.inl rfl)) pgs_nil))))
    (pss_cons (ps_asg (pe_call G_parted (hr.mono (by omega)) (by rfl) T.g_parted T.F_parted.kp T.b_parted .nil pass0 (pa_cons (pv 3) (pa_cons (pv 4) pa_nil))) (pg_tup rfl (pgs_cons (pg_name (i := 8) sc_cover_at.nd rfl (Or.inl rfl)) (pgs_cons (pg_name (i := 9) sc_cover_at.nd rfl (Or.inl rfl)) (pgs_cons (pg_name (i := 10) sc_cover_at.nd rfl (Or.inl rfl)) pgs_nil)))))
    (pss_cons (ps_if (pt_val (pe_call G_less (hr.mono (by omega)) (by rfl) T.g_less T.F_less.kp T.b_less .nil pass0 (pa_cons (pv 6) (pa_cons (pv 8) pa_nil))) (fun _ => rfl))
      (pss_one (ps_set (i := 11) sc_cover_at.nd rfl (Or.inl rfl) (pe_call G_ones_of (hr.mono (by omega)) (by rfl) T.g_ones_of T.F_ones_of.kp T.b_ones_of .nil pass0 (pa_cons (pe_call G_low_part (hr.mono (by omega)) (by rfl) T.g_low_part T.F_low_part.kp T.b_low_part .nil pass0 (pa_cons (pv 9) (pa_cons (pv 7) pa_nil))) pa_nil))))
      (pss_one (ps_set (i := 11) sc_cover_at.nd rfl (Or.inl rfl) (pe_call G_total (hr.mono (by omega)) (by rfl) T.g_total T.F_total.kp T.b_total .nil pass0 (pa_cons (pe_call G_ones_of (hr.mono (by omega)) (by rfl) T.g_ones_of T.F_ones_of.kp T.b_ones_of .nil pass0 (pa_cons (pv 9) pa_nil)) (pa_cons (pe_call G_ones_of (hr.mono (by omega)) (by rfl) T.g_ones_of T.F_ones_of.kp T.b_ones_of .nil pass0 (pa_cons (pe_call G_dropped (hr.mono (by omega)) (by rfl) T.g_dropped T.F_dropped.kp T.b_dropped .nil pass0 (pa_cons (pv 10) (pa_cons (pe_call G_plus_one (hr.mono (by omega)) (by rfl) T.g_plus_one T.F_plus_one.kp T.b_plus_one .nil pass0 (pa_cons (pv 7) pa_nil)) pa_nil))) pa_nil)) (pa_cons pe_int pa_nil)))))))
    (pss_one (ps_ret (pe_tup (pa_cons (pe_call G_far_of (hr.mono (by omega)) (by rfl) T.g_far_of T.F_far_of.kp T.b_far_of .nil pass0 (pa_cons (pv 11) pa_nil)) (pa_cons (pe_call G_far_of (hr.mono (by omega)) (by rfl) T.g_far_of T.F_far_of.kp T.b_far_of .nil pass0 (pa_cons (pv 6) pa_nil)) (pa_cons (pe_call G_far_of (hr.mono (by omega)) (by rfl) T.g_far_of T.F_far_of.kp T.b_far_of .nil pass0 (pa_cons (pe_call G_block_stop (hr.mono (by omega)) (by rfl) T.g_block_stop T.F_block_stop.kp T.b_block_stop .nil pass0 (pa_cons (pv 6) (pa_cons (pv 7) pa_nil))) pa_nil)) pa_nil)))))))))))), ?_⟩
    have pw : (2 : Nat) ^ 3999 < 2 ^ 4000 := by decide
    obtain ⟨hq3, L, hcase⟩ := cov_cases hP hbf hf hc
    obtain ⟨fw1, fw2⟩ := lvl_few L tb1 tf1
    have hlo := L.lo
    have hhi := L.hi
    refine ⟨_, rfl, _, rfl, x, y, b, f, rfl, hx, hy, hbf, by omega, fun u v1 v2 H1 hu D1 D2 s1 => ?_⟩
    refine ⟨u, _, rfl, .inl (.inl hu), rfl, _, _, rfl, _, _, rfl, rfl, ?_⟩
    dsimp only [gName]
    refine ⟨_, rfl, z, fo ((p : Nat) : Int), rfl, hz.same s1, fun v3 H2 D3 s2 => ?_⟩
    dsimp only [gName]
    have D1a := DI.same D1 s2
    have D2a := DI.same D2 s2
    refine ⟨_, rfl, _, rfl, v3, v1, p, b, rfl, D3, D1a, by omega, by omega, fun H3 s3 => ?_⟩
    refine ⟨_, rfl, ?_⟩
    rw [decide_eq_false (by omega)]
    refine iteF ?_
    refine ⟨_, rfl, _, rfl, v3, v2, p, f, rfl, DI.same D3 s3, DI.same D2a s3, by omega, by omega, fun H4 s4 => ?_⟩
    refine ⟨_, rfl, ?_⟩
    rw [decide_eq_true (by omega)]
    refine iteF ?_
    dsimp only [tNext]
    have s24 := s3.trans s4
    refine ⟨_, rfl, _, rfl, _, rfl, v1, v2, v3, b, f, p, s0, q0, rfl, DI.same D1a s24, DI.same D2a s24, DI.same D3 s24, L, hp1, hp2, hf, fun w5 v5 v6 H5 hq hw5 D5 D6 s5 => ?_⟩
    refine ⟨w5, _, rfl, .inl (.inl hw5), rfl, _, _, rfl, _, _, rfl, rfl, ?_⟩
    dsimp only [gName]
    have s25 := s24.trans s5
    refine ⟨_, rfl, _, rfl, v1, v2, b, f, rfl, DI.same D1a s25, DI.same D2a s25, hbf, by omega, fun w6 vm vl vr M' l' r' H6 hP' hw6 Dm Dl Dr s6 => ?_⟩
    obtain ⟨rfl, rfl, rfl⟩ := pts_uniq hP hP'
    obtain ⟨p1, p2, p3, p4, p5, p6⟩ := hP.lt hbf
    have bl1 := bits_le l 4001
    have bl2 := bits_le r 4001
    have lk := (List.getElem?_eq_some_iff.mp hc).1
    rw [cov_len] at lk
    refine ⟨w6, _, rfl, .inl (.inl hw6), rfl, _, _, rfl, _, _, rfl, _, _, rfl, rfl, ?_⟩
    dsimp only [gName]
    have D5a := DI.same D5 s6
    have D6a := DI.same D6 s6
    have e6 := D6a.int (by omega)
    subst e6
    have s16 := (s1.trans s2).trans (s25.trans s6)
    with_reducible refine cut (fun σ H' => ∃ (vk : V), σ = [some x, some y, some z, some v1, some v2, some v3, some v5, some (.int (q0 : Nat)), some vm, some vl, some vr, some vk] ∧ DN K H' vk k ∧ Same H6 H') (fun J0 J => ?_) ?_
    · refine ⟨_, rfl, _, rfl, v5, vm, s0, M, rfl, D5a, Dm, by omega, by omega, fun H7 s7 => ?_⟩
      refine ⟨_, rfl, ?_⟩
      refine ifD (fun hsm => ?_) (fun hsm => ?_)
      · have hg : (bits l 4001)[k]? = some q0 := by
          rcases hcase with h | h
          · exact h.2
          · omega
        obtain ⟨_, _, hk⟩ := bits_at hg
        refine ⟨_, rfl, _, rfl, vl, .int (q0 : Nat), l, q0, rfl, DI.same Dl s7, di_nat (by omega), by omega, by omega, fun v7 H8 D7 s8 => ?_⟩
        have hm : l % 2 ^ q0 ≤ l := Nat.mod_le _ _
        refine ⟨v7, l % 2 ^ q0, rfl, D7, by omega, fun H9 s9 => ?_⟩
        have e9 := bits_mod l q0 (4001 - q0)
        rw [show q0 + (4001 - q0) = 4001 by omega, hk] at e9
        rw [e9]
        exact J.nx _ _ ⟨_, rfl, di_nat (by omega), (s7.trans s8).trans s9⟩
      · obtain ⟨i, hg, hk⟩ : ∃ i, (bits r 4001)[i]? = some q0 ∧ k = (bits l 4001).length + ((bits r 4001).length - 1 - i) := by
          rcases hcase with h | h
          · omega
          · exact h.2
        obtain ⟨_, hbit, hi⟩ := bits_at hg
        refine ⟨_, rfl, vl, l, rfl, DI.same Dl s7, by omega, fun H8 s8 => ?_⟩
        refine ⟨_, rfl, _, rfl, .int (q0 : Nat), ((q0 : Nat) : Int), 20, rfl, di_nat (by omega), bw_nat (by omega), by decide, fun v7 H9 D7 s9 => ?_⟩
        refine ⟨vr, v7, ((r : Nat) : Int), q0 + 1, 4000, rfl, DI.same Dr ((s7.trans s8).trans s9), D7.eq (by omega), bwn (by omega), by decide, by omega, fun v8 H10 D8 s10 => ?_⟩
        have e1 : ((r : Nat) : Int) / 2 ^ (q0 + 1) = ((r / 2 ^ (q0 + 1) : Nat) : Int) := by rw [← e2p, ← Int.natCast_ediv]
        rw [e1] at D8
        have hm : r / 2 ^ (q0 + 1) ≤ r := Nat.div_le_self _ _
        refine ⟨v8, r / 2 ^ (q0 + 1), rfl, D8, by omega, fun H11 s11 => ?_⟩
        have e9 := bits_div r (q0 + 1) (4000 - q0)
        have e11 := bits_succ r q0
        rw [if_pos hbit] at e11
        rw [show q0 + 1 + (4000 - q0) = 4001 by omega, e11, List.length_append, hi] at e9
        have e10 := bits_top (n := r / 2 ^ (q0 + 1)) (K := 4000 - q0) (d := q0 + 1) (by
          refine Nat.div_lt_of_lt_mul ?_
          rw [← Nat.pow_add, show q0 + 1 + (4000 - q0) = 4001 by omega]
          have : (2 : Nat) ^ 4000 < 2 ^ 4001 := by decide
          omega)
        rw [show 4000 - q0 + (q0 + 1) = 4001 by omega] at e10
        simp only [List.length_singleton] at e9
        refine ⟨.int ((bits l 4001).length : Nat), .int ((bits (r / 2 ^ (q0 + 1)) 4001).length : Nat), ((bits l 4001).length : Nat), ((bits (r / 2 ^ (q0 + 1)) 4001).length : Nat), 0, 20, rfl, by decide, di_nat (by omega), di_nat (by omega), bw_nat (by omega), bw_nat (by omega), by decide, fun v9 H12 D9 s12 => ?_⟩
        exact J.nx _ _ ⟨_, rfl, D9.eq (by show _ + (0 : Int) = _; omega), (((((s7.trans s8).trans s9).trans s10).trans s11).trans s12)⟩
    · rintro σ H7 ⟨vk, rfl, Dk, s7⟩
      have h301 : (2 : Nat) ^ 4001 = 2 ^ 4000 + 2 ^ 4000 := by decide
      have hpp := pow_le (show q0 ≤ 4000 by omega)
      have fwk : Fw k := fw_small (by omega)
      refine ⟨_, rfl, vk, k, rfl, Dk, by omega, fwk, fun a0 H8 n0 f0 s8 => ?_⟩
      refine ⟨_, rfl, v5, s0, rfl, DI.same D5a (s7.trans s8), by omega, fw1, fun a1 H9 n1 f1 s9 => ?_⟩
      refine ⟨_, rfl, _, rfl, v5, .int (q0 : Nat), s0, q0, rfl, DI.same D5a ((s7.trans s8).trans s9), di_nat (by omega), by omega, by omega, fun v10 H10 D10 s10 => ?_⟩
      refine ⟨v10, s0 + 2 ^ q0, rfl, D10, by omega, fw2, fun a2 H11 n2 f2 s11 => ?_⟩
      refine ⟨len_le (Nat.le_of_ble_eq_true rfl), fun u12 nu12 => ?_⟩
      generalize eH12 : upd H11 u12 _ = H12
      obtain ⟨su12, hu12⟩ := new_step nu12 eH12
      clear eH12
      exact q u12 a0 a1 a2 H12 hu12 (f0.same (((s9.trans s10).trans s11).trans su12)) (f1.same ((s10.trans s11).trans su12)) (f2.same su12) ((((((s16.trans s7).trans s8).trans s9).trans s10).trans s11).trans su12)
end
end K45
set_option Elab.async false
set_option linter.all false
set_option maxRecDepth 100000
set_option pp.deepTerms false
set_option pp.maxSteps 1500
set_option maxHeartbeats 1000000
/-! how many blocks a cover has, and its blocks of an order (laws k42, k45) -/
namespace K45
open PySem PySem.Spec PyProof.Rows L2 HX TV FM DX FB FC PM FI MS MP MK MD MV
local macro_rules | `(tactic| walk_at "r") => `(tactic| (repeat (first | refine Exists.intro _ (And.intro rfl ?_) | refine And.intro rfl ?_ | refine Exists.intro _ (Exists.intro _ (And.intro rfl (And.intro rfl ?_))) | refine And.intro (by omega) ?_ | refine And.intro (Or.inl (And.intro (by omega) (by omega))) ?_ | refine And.intro (Or.inr (And.intro (by omega) (by omega))) ?_ | refine And.intro (And.intro (by omega) (by omega)) ?_ | refine And.intro (And.intro (by decide) (And.intro (by decide) (by decide))) ?_ | refine Or.inl (Exists.intro _ (And.intro rfl ?_)) | (dsimp only [gName]; first | with_reducible refine seqC ?_ | with_reducible refine asgC ?_))))
local macro_rules | `(tactic| walk_at "s") => `(tactic| (repeat (first | refine Exists.intro _ (And.intro rfl ?_) | refine And.intro rfl ?_ | refine Exists.intro _ (Exists.intro _ (And.intro rfl (And.intro rfl ?_))) | refine And.intro (by omega) ?_ | refine And.intro (Or.inl (And.intro (by omega) (by omega))) ?_ | refine And.intro (Or.inr (And.intro (by omega) (by omega))) ?_ | refine And.intro (And.intro (by omega) (by omega)) ?_ | refine And.intro (And.intro (by decide) (And.intro (by decide) (by decide))) ?_ | refine Or.inl (Exists.intro _ (And.intro rfl ?_)) | refine Exists.intro _ (Exists.intro _ (And.intro rfl ?_)) | (dsimp only [gName]; first | with_reducible refine seqC ?_ | with_reducible refine asgC ?_))))
section
variable {P : Program} {w : World} {K : PySem.W.Frag} {mg : Str → Option Value} {base : Heap}
/-- the form of a far power -/
theorem fo_pow {p : Nat} (h1 : 64 ≤ p) (h2 : p ≤ 2000000000) : fo (2 ^ p) = .tuple [.int (p : Nat), .int ((p + 1 : Nat) : Nat)] := by
  have ev : vals [PyData.int ((p : Nat) : Int), .int ((p + 1 : Nat) : Int)] = [p, p + 1] := by
    rw [vals_cons, vals_cons, vals_nil, val_int, val_int, Int.toNat_natCast, Int.toNat_natCast]
  refine (fo_is ((fm_tuple _).mpr ⟨?_, ?_, ?_⟩) ?_).symm
  · rw [fmAll_cons, fmAll_cons, fm_int, fm_int, val_int, val_int]
    exact ⟨by omega, by omega, by omega, by omega, fmAll_nil⟩
  · rw [ev]
    exact ⟨Nat.lt_succ_self p, trivial⟩
  · rw [ev]
    exact ⟨p + 1, by simp, by omega⟩
  · rw [val_tuple, ev, tv_pow]
theorem pow_lim {p : Nat} (h1 : 64 ≤ p) (h2 : p ≤ 2000000000) : wt (fo (2 ^ p)) ≤ 2000 ∧ (fo (2 ^ p)).depth ≤ 1 := by
  rw [fo_pow h1 h2]
  constructor
  · rw [wt_tuple]
    simp [wtAll, wt]
  · rw [depth_tuple]
    simp [PyData.depthAll, PyData.depth]
def sp_csize (K : PySem.W.Frag) : Sp := fun vs H Q _ => ∃ (x y : V) (b f : Nat), vs = [x, y] ∧ DN K H x b ∧ DN K H y f ∧ b ≤ f ∧ f < 2 ^ 3999 ∧
  ∀ v H', (∀ M l r, Pts b f M l r → DN K H' v (cov b M l r).length) → Same H H' → Q v H'
theorem ok_cover_size (T : Top K mg) : FnOk P w K mg base CX0 (11) T.f_cover_size T.fd_cover_size ["start", "stop"]  (sp_csize K) := by
  have G_parted : FnOk P w K mg base CX0 (10) T.f_parted T.fd_parted ["start", "stop"]  (sp_parted K) := ok_parted T
  have G_ones_of : FnOk P w K mg base CX0 (9) T.f_ones_of T.fd_ones_of ["x"]  (sp_onesof K) := ok_ones_of T
  have G_total : FnOk P w K mg base CX0 (6) T.f_total T.fd_total ["x", "y", "carry"]  (sp_totI K) := okI_total T
  refine T.F_cover_size.ok sc_cover_size (fun vs H Q E h => ?_) (fun cdv A outer s H vs Q E hr h => ?_)
  · obtain ⟨x, y, b, f, rfl, _⟩ := h
    rfl
  · obtain ⟨x, y, b, f, rfl, hx, hy, hbf, hf, q⟩ := h
    refine ⟨_, (pss_cons (ps_asg (pe_call G_parted (hr.mono (by omega)) (by rfl) T.g_parted T.F_parted.kp T.b_parted .nil pass0 (pa_cons (pv 0) (pa_cons (pv 1) pa_nil))) (pg_tup rfl (pgs_cons (pg_name (i := 2) sc_cover_size.nd rfl (Or.inl rfl)) (pgs_cons (pg_name (i := 3) sc_cover_size.nd rfl (Or.inl rfl)) (pgs_cons (pg_name (i := 4) sc_cover_size.nd rfl (Or.inl rfl)) pgs_nil)))))
    (pss_one (ps_ret (pe_call G_total (hr.mono (by omega)) (by rfl) T.g_total T.F_total.kp T.b_total .nil pass0 (pa_cons (pe_call G_ones_of (hr.mono (by omega)) (by rfl) T.g_ones_of T.F_ones_of.kp T.b_ones_of .nil pass0 (pa_cons (pv 3) pa_nil)) (pa_cons (pe_call G_ones_of (hr.mono (by omega)) (by rfl) T.g_ones_of T.F_ones_of.kp T.b_ones_of .nil pass0 (pa_cons (pv 4) pa_nil)) (pa_cons pe_int pa_nil))))))), ?_⟩
    have pw : (2 : Nat) ^ 3999 < 2 ^ 4000 := by decide
    refine ⟨_, rfl, _, rfl, x, y, b, f, rfl, hx, hy, hbf, by omega, fun u vm vl vr M l r H1 hP hu Dm Dl Dr s1 => ?_⟩
    obtain ⟨p1, p2, p3, p4, p5, p6⟩ := hP.lt hbf
    have bl1 := bits_le l 4001
    have bl2 := bits_le r 4001
    refine ⟨u, _, rfl, .inl (.inl hu), rfl, _, _, rfl, _, _, rfl, _, _, rfl, rfl, ?_⟩
    dsimp only [gName]
    refine ⟨_, rfl, vl, l, rfl, Dl, by omega, fun H2 s2 => ?_⟩
    refine ⟨_, rfl, vr, r, rfl, DI.same Dr s2, by omega, fun H3 s3 => ?_⟩
    refine ⟨_, _, ((bits l 4001).length : Nat), ((bits r 4001).length : Nat), 0, 20, rfl, by decide, di_nat (by omega), di_nat (by omega), bw_nat (by omega), bw_nat (by omega), by decide, fun v4 H4 D4 s4 => ?_⟩
    refine q v4 H4 (fun M' l' r' hP' => ?_) (((s1.trans s2).trans s3).trans s4)
    obtain ⟨rfl, rfl, rfl⟩ := pts_uniq hP hP'
    rw [cov_len]
    exact D4.eq (by show _ + (0 : Int) = _; omega)
def sp_ccount (K : PySem.W.Frag) (C : Addr) : Sp := fun vs H Q _ => ∃ (x y : V) (b f : Nat), vs = [x, y] ∧ NN K C H x b ∧ NN K C H y f ∧ b ≤ f ∧ f < 2 ^ 3999 ∧
  ∀ a H', H a = none → (∀ M l r, Pts b f M l r → FN K C H' a (cov b M l r).length) → Same H H' → Q (.ref a) H'
theorem ok_cover_count (T : Top K mg) : FnOk P w K mg base CX0 (17) T.f_cover_count T.fd_cover_count ["start", "stop"]  (sp_ccount K T.C_Far) := by
  have G_range_forms : FnOk P w K mg base CX0 (5) T.f_range_forms T.fd_range_forms ["start", "stop"]  (sp_rangeN K T.C_Far) := ok_range_forms T
  have G_cover_size : FnOk P w K mg base CX0 (11) T.f_cover_size T.fd_cover_size ["start", "stop"]  (sp_csize K) := ok_cover_size T
  have G_far_of : FnOk P w K mg base CX0 (16) T.f_far_of T.fd_far_of ["form"]  (sp_farof K T.C_Far) := ok_far_of T
  refine T.F_cover_count.ok sc_cover_count (fun vs H Q E h => ?_) (fun cdv A outer s H vs Q E hr h => ?_)
  · obtain ⟨x, y, b, f, rfl, _⟩ := h
    rfl
  · obtain ⟨x, y, b, f, rfl, hx, hy, hbf, hf, q⟩ := h
    refine ⟨_, (pss_cons (ps_asg (pe_call G_range_forms (hr.mono (by omega)) (by rfl) T.g_range_forms T.F_range_forms.kp T.b_range_forms .nil pass0 (pa_cons (pv 0) (pa_cons (pv 1) pa_nil))) (pg_tup rfl (pgs_cons (pg_name (i := 2) sc_cover_count.nd rfl (Or.inl rfl)) (pgs_cons (pg_name (i := 3) sc_cover_count.nd rfl (Or.inl rfl)) pgs_nil))))
    (pss_one (ps_ret (pe_call G_far_of (hr.mono (by omega)) (by rfl) T.g_far_of T.F_far_of.kp T.b_far_of .nil pass0 (pa_cons (pe_call G_cover_size (hr.mono (by omega)) (by rfl) T.g_cover_size T.F_cover_size.kp T.b_cover_size .nil pass0 (pa_cons (pv 2) (pa_cons (pv 3) pa_nil))) pa_nil))))), ?_⟩
    have pw : (2 : Nat) ^ 3999 < 2 ^ 4000 := by decide
    refine ⟨_, rfl, _, rfl, x, y, b, f, rfl, hx, hy, hbf, by omega, fun u v1 v2 H1 hu D1 D2 s1 => ?_⟩
    refine ⟨u, _, rfl, .inl (.inl hu), rfl, _, _, rfl, _, _, rfl, rfl, ?_⟩
    dsimp only [gName]
    refine ⟨_, rfl, _, rfl, v1, v2, b, f, rfl, D1, D2, hbf, hf, fun v3 H2 D3 s2 => ?_⟩
    obtain ⟨M, l, r, hP⟩ := pts_ex hbf (show f < 2 ^ 4000 by omega)
    have hc := cov_len b M l r
    have bl1 := bits_le l 4001
    have bl2 := bits_le r 4001
    have p11 : (2 : Nat) ^ 14 < 2 ^ 4001 := by decide
    refine ⟨v3, (cov b M l r).length, rfl, D3 M l r hP, by omega, fw_small (by omega), fun a H3 na fa s3 => ?_⟩
    refine q a H3 (none_ofSI (s1.trans s2) na) (fun M' l' r' hP' => ?_) ((s1.trans s2).trans s3)
    obtain ⟨rfl, rfl, rfl⟩ := pts_uniq hP hP'
    exact fa
/-- the blocks of an order -/
def lvB (b M l r p : Nat) : List Blk := (if l.testBit p = true then [upB b l p] else []) ++ (if r.testBit p = true then [dnB M r p] else [])
theorem small_bit {n q : Nat} (hn : n < 2 ^ 4000) (ht : n.testBit q = true) : q < 4000 := by
  have := Nat.ge_two_pow_of_testBit ht
  apply Nat.lt_of_not_le
  intro hle
  have := pow_le hle
  omega
theorem cov_level {b M l r p : Nat} (hl : l < 2 ^ 4000) (hr : r < 2 ^ 4000) : (cov b M l r).filter (ofSize p) = lvB b M l r p := by
  unfold cov lvB
  rw [List.filter_append, up_level, dn_level _ _ _ _ _ (Nat.le_refl _)]
  congr 1
  · by_cases h : l.testBit p = true
    · rw [if_pos h, if_pos ⟨by have := small_bit hl h; omega, h⟩]
    · rw [if_neg h, if_neg fun z => h z.2]
  · by_cases h : r.testBit p = true
    · rw [if_pos h, if_pos ⟨by omega, by have := small_bit hr h; omega, h⟩]
    · rw [if_neg h, if_neg fun z => h z.2.2]
theorem cov_formM {b M l r k : Nat} (h : k < (cov b M l r).length) : ∃ s q, (cov b M l r)[k]? = some (s, s + 2 ^ q) := by
  rw [cov_len] at h
  by_cases hk : k < (bits l 4001).length
  · exact ⟨_, _, cov_up (List.getElem?_eq_getElem hk)⟩
  · have hi : (bits r 4001).length - 1 - (k - (bits l 4001).length) < (bits r 4001).length := by omega
    have hc := cov_dn (b := b) (M := M) (l := l) (List.getElem?_eq_getElem hi)
    rw [show (bits l 4001).length + ((bits r 4001).length - 1 - ((bits r 4001).length - 1 - (k - (bits l 4001).length))) = k by omega] at hc
    exact ⟨_, _, hc⟩
theorem few_mem {b f M l r s e : Nat} (hP : Pts b f M l r) (hbf : b ≤ f) (hf : f < 2 ^ 3999) (h1 : tau ((b : Nat) : Int) ≤ 1000) (h2 : tau ((f : Nat) : Int) ≤ 1000) (h : (s, e) ∈ cov b M l r) : Fw s ∧ Fw e := by
  obtain ⟨k, hk⟩ := List.getElem?_of_mem h
  have hlt := (List.getElem?_eq_some_iff.mp hk).1
  obtain ⟨s', q, hc⟩ := cov_formM hlt
  obtain ⟨_, Lv, _⟩ := cov_cases hP hbf hf hc
  rw [hk] at hc
  cases Option.some.inj hc
  exact lvl_few Lv h1 h2
/-- blocks as pairs of Fars -/
inductive BlkF (K : PySem.W.Frag) (C : Addr) (H : Hp) : List V → List Blk → Prop
  | nil : BlkF K C H [] []
  | cons {u a1 a2 : Addr} {s e : Nat} {us : List V} {L : List Blk} : H u = some (.tup [.ref a1, .ref a2]) → FN K C H a1 s → FN K C H a2 e → BlkF K C H us L → BlkF K C H (.ref u :: us) ((s, e) :: L)
section
variable {C : Addr} {H H' : Hp} {us : List V} {L : List Blk}
theorem farI_but {a p : Addr} {n : Int} {ws : List V} (h : FarI K C H a n) (e : But p H H') (m : H p = some (.lst ws)) : FarI K C H' a n := by
  obtain ⟨dx, v, h1, h2, h3⟩ := h
  refine ⟨dx, v, e a _ (fun z => ?_) h1, dp_tk (tk_but e (by rw [m]; exact trivial)) h3 h2, h3⟩
  subst z
  rw [h1] at m
  cases m
theorem BlkF.same (h : BlkF K C H us L) (e : Same H H') : BlkF K C H' us L := by
  induction h with
  | nil => exact .nil
  | cons h1 h2 h3 _ ih => exact .cons (e _ _ h1) (h2.same e) (h3.same e) ih
theorem BlkF.but {p : Addr} {ws : List V} (h : BlkF K C H us L) (e : But p H H') (m : H p = some (.lst ws)) : BlkF K C H' us L := by
  induction h with
  | nil => exact .nil
  | cons h1 h2 h3 _ ih =>
    refine .cons (e _ _ (fun z => ?_) h1) (farI_but h2 e m) (farI_but h3 e m) ih
    subst z
    rw [h1] at m
    cases m
theorem BlkF.app {us2 : List V} {L2 : List Blk} (h : BlkF K C H us L) (g : BlkF K C H us2 L2) : BlkF K C H (us ++ us2) (L ++ L2) := by
  induction h with
  | nil => exact g
  | cons h1 h2 h3 _ ih => exact .cons h1 h2 h3 ih
theorem BlkF.len (h : BlkF K C H us L) : us.length = L.length := by
  induction h with
  | nil => rfl
  | cons _ _ _ _ ih => rw [List.length_cons, List.length_cons, ih]
theorem BlkF.get (h : BlkF K C H us L) : ∀ {i : Nat} {p : Blk}, L[i]? = some p → ∃ t a1 a2 : Addr, us[i]? = some (.ref t) ∧ H t = some (.tup [.ref a1, .ref a2]) ∧ FN K C H a1 p.1 ∧ FN K C H a2 p.2 := by
  induction h with
  | nil => intro i p e; simp at e
  | cons h1 h2 h3 _ ih =>
    intro i p e
    cases i with
    | zero =>
      cases e
      exact ⟨_, _, _, rfl, h1, h2, h3⟩
    | succ i => exact ih e
end
def sp_clevel (K : PySem.W.Frag) (C : Addr) : Sp := fun vs H Q _ => ∃ (x y z : V) (b f p : Nat), vs = [x, y, z] ∧ NN K C H x b ∧ NN K C H y f ∧ NN K C H z p ∧ (fo ((p : Nat) : Int)).depth ≤ 1 ∧ b ≤ f ∧ f < 2 ^ 3999 ∧ tau ((b : Nat) : Int) ≤ 1000 ∧ tau ((f : Nat) : Int) ≤ 1000 ∧
  ∀ (a : Addr) us H', H a = none → H' a = some (.lst us) → (∀ M l r, Pts b f M l r → BlkF K C H' us ((cov b M l r).filter (ofSize p))) → Same H H' → Q (.ref a) H'
theorem ok_cover_level (T : Top K mg) : FnOk P w K mg base CX0 (18) T.f_cover_level T.fd_cover_level ["start", "stop", "order"]  (sp_clevel K T.C_Far) := by
  have G_range_forms : FnOk P w K mg base CX0 (5) T.f_range_forms T.fd_range_forms ["start", "stop"]  (sp_rangeN K T.C_Far) := ok_range_forms T
  have G_place_form : FnOk P w K mg base CX0 (5) T.f_place_form T.fd_place_form ["value"]  (sp_plcf K T.C_Far) := ok_place_form T
  have G_parted : FnOk P w K mg base CX0 (10) T.f_parted T.fd_parted ["start", "stop"]  (sp_parted K) := ok_parted T
  have G_bit : FnOk P w K mg base CX0 (5) T.f_bit T.fd_bit ["x", "place"]  (sp_bit K 1) := ok_bit T 1
  have G_left_first : FnOk P w K mg base CX0 (7) T.f_left_first T.fd_left_first ["start", "left", "level"]  (sp_lfirst K) := ok_left_first T
  have G_right_first : FnOk P w K mg base CX0 (10) T.f_right_first T.fd_right_first ["middle", "right", "level"]  (sp_rfirst K) := ok_right_first T
  have G_as_range : FnOk P w K mg base CX0 (17) T.f_as_range T.fd_as_range ["first", "level"]  (sp_asr K T.C_Far) := ok_as_range T
  refine T.F_cover_level.ok sc_cover_level (fun vs H Q E h => ?_) (fun cdv A outer s H vs Q E hr h => ?_)
  · obtain ⟨x, y, z, b, f, p, rfl, _⟩ := h
    rfl
  · obtain ⟨x, y, z, b, f, p, rfl, hx, hy, hz, hdp, hbf, hf, tb1, tf1, q⟩ := h
    refine ⟨_, (pss_cons (ps_asg (pe_call G_range_forms (hr.mono (by omega)) (by rfl) T.g_range_forms T.F_range_forms.kp T.b_range_forms .nil pass0 (pa_cons (pv 0) (pa_cons (pv 1) pa_nil))) (pg_tup rfl (pgs_cons (pg_name (i := 3) sc_cover_level.nd rfl (Or.inl rfl)) (pgs_cons (pg_name (i := 4) sc_cover_level.nd rfl (Or.inl rfl)) pgs_nil))))
    (pss_cons (ps_set (i := 5) sc_cover_level.nd rfl (Or.inl rfl) (pe_call G_place_form (hr.mono (by omega)) (by rfl) T.g_place_form T.F_place_form.kp T.b_place_form .nil pass0 (pa_cons (pv 2) pa_nil)))
    (pss_cons (ps_asg (pe_call G_parted (hr.mono (by omega)) (by rfl) T.g_parted T.F_parted.kp T.b_parted .nil pass0 (pa_cons (pv 3) (pa_cons (pv 4) pa_nil))) (pg_tup rfl (pgs_cons (pg_name (i := 6) sc_cover_level.nd rfl (Or.inl rfl)) (pgs_cons (pg_name (i := 7) sc_cover_level.nd rfl (Or.inl rfl)) (pgs_cons (pg_name (i := 8) sc_cover_level.nd rfl (Or.inl rfl)) pgs_nil)))))
    (pss_cons (ps_set (i := 9) sc_cover_level.nd rfl (Or.inl rfl) (pe_lst pa_nil))
    (pss_cons (ps_if (pt_cmpR op_eq (pe_call G_bit (hr.mono (by omega)) (by rfl) T.g_bit T.F_bit.kp T.b_bit .nil pass0 (pa_cons (pv 7) (pa_cons (pv 5) pa_nil))) pe_int (nomark _))
      (pss_one (ps_expr (pe_bm PySem.F.plainAttrs_list PySem.F.slot_list_append PySem.F.type_list_append mt_append (pv 9) (pa_cons (pe_call G_as_range (hr.mono (by omega)) (by rfl) T.g_as_range T.F_as_range.kp T.b_as_range .nil pass0 (pa_cons (pe_call G_left_first (hr.mono (by omega)) (by rfl) T.g_left_first T.F_left_first.kp T.b_left_first .nil pass0 (pa_cons (pv 3) (pa_cons (pv 7) (pa_cons (pv 5) pa_nil)))) (pa_cons (pv 5) pa_nil))) pa_nil))))
      pss_nil)
    (pss_cons (ps_if (pt_cmpR op_eq (pe_call G_bit (hr.mono (by omega)) (by rfl) T.g_bit T.F_bit.kp T.b_bit .nil pass0 (pa_cons (pv 8) (pa_cons (pv 5) pa_nil))) pe_int (nomark _))
      (pss_one (ps_expr (pe_bm PySem.F.plainAttrs_list PySem.F.slot_list_append PySem.F.type_list_append mt_append (pv 9) (pa_cons (pe_call G_as_range (hr.mono (by omega)) (by rfl) T.g_as_range T.F_as_range.kp T.b_as_range .nil pass0 (pa_cons (pe_call G_right_first (hr.mono (by omega)) (by rfl) T.g_right_first T.F_right_first.kp T.b_right_first .nil pass0 (pa_cons (pv 6) (pa_cons (pv 8) (pa_cons (pv 5) pa_nil)))) (pa_cons (pv 5) pa_nil))) pa_nil))))
      pss_nil)
    (pss_one (ps_ret (pv 9))))))))), ?_⟩
    have pw : (2 : Nat) ^ 3999 < 2 ^ 4000 := by decide
    refine ⟨_, rfl, _, rfl, x, y, b, f, rfl, hx, hy, hbf, by omega, fun u v1 v2 H1 hu D1 D2 s1 => ?_⟩
    refine ⟨u, _, rfl, .inl (.inl hu), rfl, _, _, rfl, _, _, rfl, rfl, ?_⟩
    dsimp only [gName]
    refine ⟨_, rfl, z, fo ((p : Nat) : Int), rfl, hz.same s1, by rw [val_fo]; omega, fun v3 H2 D3 s2 => ?_⟩
    dsimp only [gName]
    refine ⟨_, rfl, _, rfl, v1, v2, b, f, rfl, DI.same D1 s2, DI.same D2 s2, hbf, by omega, fun u2 vm vl vr M l r H3 hP hu2 Dm Dl Dr s3 => ?_⟩
    obtain ⟨p1, p2, p3, p4, p5, p6⟩ := hP.lt hbf
    have few : ∀ {s e : Nat}, (s, e) ∈ lvB b M l r p → Fw s ∧ Fw e := fun {s e} hm => few_mem hP hbf hf tb1 tf1 (by rw [← cov_level (by omega) (by omega)] at hm; exact (List.mem_filter.mp hm).1)
    refine ⟨u2, _, rfl, .inl (.inl hu2), rfl, _, _, rfl, _, _, rfl, _, _, rfl, rfl, ?_⟩
    dsimp only [gName]
    have D1a := DI.same D1 (s2.trans s3)
    have D3a := DI.same D3 s3
    have s13 := (s1.trans s2).trans s3
    refine ⟨len_le (Nat.le_of_ble_eq_true rfl), fun a na => ?_⟩
    generalize eH4 : upd H3 a _ = H4
    obtain ⟨sa, ha⟩ := new_step na eH4
    clear eH4
    dsimp only [gName]
    have dl : (fo ((l : Nat) : Int)).depth ≤ 2 := by have := (fo_lim (k := 4000) (by decide) (bwn (show l < 2 ^ 4000 by omega))).2; omega
    have dr : (fo ((r : Nat) : Int)).depth ≤ 2 := by have := (fo_lim (k := 4000) (by decide) (bwn (show r < 2 ^ 4000 by omega))).2; omega
    have ebit : ∀ n : Nat, PM.bi (tb (val (fo ((n : Nat) : Int))) (PM.vl (fo ((p : Nat) : Int)))) = if n.testBit p = true then 1 else 0 := fun n => by
      rw [vl_fo, val_fo, tb_nat]
      rfl
    have i1 : ∀ {n : Nat}, decide (V.int (if n.testBit p = true then (1 : Int) else 0) = V.int 1) = n.testBit p := fun {n} => by
      cases n.testBit p <;> rfl
    with_reducible refine cut (fun σ H' => ∃ us, σ = [some x, some y, some z, some v1, some v2, some v3, some vm, some vl, some vr, some (.ref a)] ∧ H' a = some (.lst us) ∧ BlkF K T.C_Far H' us (if l.testBit p = true then [upB b l p] else []) ∧ Same H3 H') (fun J0 J => ?_) ?_
    · refine ⟨_, rfl, _, rfl, vl, v3, fo ((l : Nat) : Int), fo ((p : Nat) : Int), rfl, DI.same Dl sa, DI.same D3a sa, fo_fm _, fo_fm _, by rw [val_fo]; omega, dl, hdp, by decide, fun H5 s5 => ?_⟩
      rw [ebit]
      walk_at "r"
      rw [i1]
      refine ifBD (fun hb => ?_) (fun hb => ?_)
      · have hp3 := small_bit (show l < 2 ^ 4000 by omega) hb
        obtain rfl := D3a.int (by omega)
        have sA5 := sa.trans s5
        refine ⟨_, rfl, .inl ⟨rfl, _, .inl (.inl (s5 _ _ ha))⟩, ?_⟩
        have hm : l % 2 ^ p ≤ l := Nat.mod_le _ _
        refine ⟨_, rfl, _, rfl, _, rfl, v1, vl, .int (p : Nat), b, l, p, rfl, DI.same D1a sA5, DI.same Dl sA5, di_nat (by omega), by omega, by omega, by omega, fun v6 H6 D6 s6 => ?_⟩
        refine ⟨_, rfl, v6, .int (p : Nat), b + l % 2 ^ p, p, rfl, D6, di_nat (by omega), by omega, hp3, (few (s := b + l % 2 ^ p) (e := b + l % 2 ^ p + 2 ^ p) (by unfold lvB; rw [if_pos hb]; exact List.mem_append_left _ (List.mem_singleton.mpr rfl))).1, (few (s := b + l % 2 ^ p) (e := b + l % 2 ^ p + 2 ^ p) (by unfold lvB; rw [if_pos hb]; exact List.mem_append_left _ (List.mem_singleton.mpr rfl))).2, fun u8 a1 a2 H7 hu8 f1 f2 s7 => ?_⟩
        have e7 := s7 _ _ (s6 _ _ (s5 _ _ ha))
        refine ⟨a, _, _, rfl, rfl, e7, len_lt (by decide), ?_⟩
        have bt : But a H7 (upd H7 a (.lst ([] ++ [.ref u8]))) := (But.refl H7).upd
        have B7 : BlkF K T.C_Far H7 [.ref u8] [upB b l p] := .cons hu8 f1 f2 .nil
        refine J.nx _ _ ⟨[.ref u8], rfl, upd_same, ?_, sm_mut ((sA5.trans s6).trans s7) na⟩
        rw [if_pos hb]
        exact B7.but bt e7
      · refine J.nx _ _ ⟨[], rfl, s5 _ _ ha, ?_, sa.trans s5⟩
        rw [if_neg (by rw [hb]; decide)]
        exact .nil
    · rintro σ H' ⟨us, rfl, ha', B', s'⟩
      have hlen : us.length ≤ 1 := by
        rw [B'.len]
        split <;> simp
      with_reducible refine cut (fun σ H'' => ∃ us2, σ = [some x, some y, some z, some v1, some v2, some v3, some vm, some vl, some vr, some (.ref a)] ∧ H'' a = some (.lst us2) ∧ BlkF K T.C_Far H'' us2 (lvB b M l r p) ∧ Same H3 H'') (fun J0 J => ?_) ?_
      · refine ⟨_, rfl, _, rfl, vr, v3, fo ((r : Nat) : Int), fo ((p : Nat) : Int), rfl, DI.same Dr s', DI.same D3a s', fo_fm _, fo_fm _, by rw [val_fo]; omega, dr, hdp, by decide, fun H5 s5 => ?_⟩
        rw [ebit]
        walk_at "r"
        rw [i1]
        have sA5 := s'.trans s5
        refine ifBD (fun hb => ?_) (fun hb => ?_)
        · have hp3 := small_bit (show r < 2 ^ 4000 by omega) hb
          obtain rfl := D3a.int (by omega)
          refine ⟨_, rfl, .inl ⟨rfl, _, .inl (.inl (s5 _ _ ha'))⟩, ?_⟩
          have hm : r / 2 ^ (p + 1) * 2 ^ (p + 1) ≤ r := Nat.div_mul_le_self _ _
          refine ⟨_, rfl, _, rfl, _, rfl, vm, vr, .int (p : Nat), M, r, p, rfl, DI.same Dm sA5, DI.same Dr sA5, di_nat (by omega), by omega, by omega, hp3, fun v6 H6 D6 s6 => ?_⟩
          refine ⟨_, rfl, v6, .int (p : Nat), M + r / 2 ^ (p + 1) * 2 ^ (p + 1), p, rfl, D6, di_nat (by omega), by omega, hp3, (few (s := M + r / 2 ^ (p + 1) * 2 ^ (p + 1)) (e := M + r / 2 ^ (p + 1) * 2 ^ (p + 1) + 2 ^ p) (by unfold lvB; rw [if_pos (c := r.testBit p = true) hb]; exact List.mem_append_right _ (List.mem_singleton.mpr rfl))).1, (few (s := M + r / 2 ^ (p + 1) * 2 ^ (p + 1)) (e := M + r / 2 ^ (p + 1) * 2 ^ (p + 1) + 2 ^ p) (by unfold lvB; rw [if_pos (c := r.testBit p = true) hb]; exact List.mem_append_right _ (List.mem_singleton.mpr rfl))).2, fun u8 a1 a2 H7 hu8 f1 f2 s7 => ?_⟩
          have e7 := s7 _ _ (s6 _ _ (s5 _ _ ha'))
          refine ⟨a, _, _, rfl, rfl, e7, len_lt (by omega), ?_⟩
          have bt : But a H7 (upd H7 a (.lst (us ++ [.ref u8]))) := (But.refl H7).upd
          have B7 : BlkF K T.C_Far H7 (us ++ [.ref u8]) (lvB b M l r p) := by
            unfold lvB
            rw [if_pos hb]
            exact (B'.same ((s5.trans s6).trans s7)).app (.cons hu8 f1 f2 .nil)
          exact J.nx _ _ ⟨_, rfl, upd_same, B7.but bt e7, sm_mut ((sA5.trans s6).trans s7) na⟩
        · refine J.nx _ _ ⟨us, rfl, s5 _ _ ha', ?_, sA5⟩
          unfold lvB
          rw [show (if r.testBit p = true then [dnB M r p] else []) = [] from if_neg (by rw [hb]; decide), List.append_nil]
          exact B'.same s5
      · rintro σ H'' ⟨us2, rfl, ha2, B2, s2'⟩
        refine ⟨_, rfl, ?_⟩
        refine q a us2 H'' (none_ofSI s13 na) ha2 (fun M' l' r' hP' => ?_) (s13.trans s2')
        obtain ⟨rfl, rfl, rfl⟩ := pts_uniq hP hP'
        rw [cov_level (by omega) (by omega)]
        exact B2
end
end K45
set_option Elab.async false
set_option linter.all false
set_option maxRecDepth 100000
set_option pp.deepTerms false
set_option pp.maxSteps 1500
/-! the pen: what is drawn from the script (laws k42 to k48) -/
namespace K45
open PySem PySem.Spec PyProof.Rows L2 HX TV FM
local macro_rules | `(tactic| walk_at "r") => `(tactic| (repeat (first | refine Exists.intro _ (And.intro rfl ?_) | refine And.intro rfl ?_ | refine Exists.intro _ (Exists.intro _ (And.intro rfl (And.intro rfl ?_))) | refine And.intro (by omega) ?_ | refine And.intro (Or.inl (And.intro (by omega) (by omega))) ?_ | refine And.intro (Or.inr (And.intro (by omega) (by omega))) ?_ | refine And.intro (And.intro (by omega) (by omega)) ?_ | refine And.intro (And.intro (by decide) (And.intro (by decide) (by decide))) ?_ | refine Or.inl (Exists.intro _ (And.intro rfl ?_)) | (dsimp only [gName]; first | with_reducible refine seqC ?_ | with_reducible refine asgC ?_))))
local macro_rules | `(tactic| walk_at "s") => `(tactic| (repeat (first | refine Exists.intro _ (And.intro rfl ?_) | refine And.intro rfl ?_ | refine Exists.intro _ (Exists.intro _ (And.intro rfl (And.intro rfl ?_))) | refine And.intro (by omega) ?_ | refine And.intro (Or.inl (And.intro (by omega) (by omega))) ?_ | refine And.intro (Or.inr (And.intro (by omega) (by omega))) ?_ | refine And.intro (And.intro (by omega) (by omega)) ?_ | refine And.intro (And.intro (by decide) (And.intro (by decide) (by decide))) ?_ | refine Or.inl (Exists.intro _ (And.intro rfl ?_)) | refine Exists.intro _ (Exists.intro _ (And.intro rfl ?_)) | (dsimp only [gName]; first | with_reducible refine seqC ?_ | with_reducible refine asgC ?_))))
section
variable {P : Program} {w : World} {K : PySem.W.Frag} {mg : Str → Option Value} {base : Heap}
/-- the pen: its cells, how many were taken, the rest -/
abbrev penV (c : Addr) (i r : Int) : List (Key × V) := tri "cells" "spot" "left" (.ref c) (.int i) (.int r)
theorem dif : Dif "cells" "spot" "left" := ⟨by decide, by decide, by decide⟩
structure Pn where
  p : Addr
  c : Addr
  ns : List Int
def Pen (H : Hp) (τ : Pn) (n : Nat) : Prop := ∃ (i r : Int), H τ.p = some (.dK (penV τ.c i r)) ∧ H τ.c = some (.lst (τ.ns.map V.int)) ∧ τ.ns.length ≤ 63 ∧ 0 ≤ i ∧ i ≤ n
theorem Pen.mono {H H' : Hp} {τ : Pn} {n m : Nat} (h : Pen H τ n) (e : Same H H') (l : n ≤ m) : Pen H' τ m := by
  obtain ⟨i, r, h1, h2, h3, h4, h5⟩ := h
  exact ⟨i, r, e _ _ h1, e _ _ h2, h3, h4, by omega⟩
theorem Pen.le {H : Hp} {τ : Pn} {n m : Nat} (h : Pen H τ n) (l : n ≤ m) : Pen H τ m := h.mono (Same.refl _) l
theorem Pen.up {H H' : Hp} {τ : Pn} {n : Nat} (h : Pen H τ n) (e : Same H H') : Pen H' τ n := h.mono e (Nat.le_refl _)
theorem Pen.dict {H : Hp} {τ : Pn} {n : Nat} (h : Pen H τ n) : ∃ kvs, H τ.p = some (.dK kvs) := by
  obtain ⟨i, r, h1, _⟩ := h
  exact ⟨_, h1⟩
/-- an object that is no dict with keys is not the pen -/
theorem Pen.ne {H : Hp} {τ : Pn} {b : Addr} {n : Nat} {o : HO} (h : Pen H τ n) (e : H b = some o) (no : ∀ kvs, o ≠ .dK kvs) : b ≠ τ.p := by
  obtain ⟨i, r, h1, _⟩ := h
  exact ne_of e h1 (no _)
theorem Pen.neL {H : Hp} {τ : Pn} {b : Addr} {n : Nat} {xs : List V} (h : Pen H τ n) (e : H b = some (.lst xs)) : b ≠ τ.p := h.ne e (fun _ z => by cases z)
theorem Pen.new {H : Hp} {τ : Pn} {b : Addr} {n : Nat} (h : Pen H τ n) (e : H b = none) : b ≠ τ.p ∧ b ≠ τ.c := by
  obtain ⟨i, r, h1, h2, _⟩ := h
  exact ⟨(ne_of_none h1 e).symm, (ne_of_none h2 e).symm⟩
theorem Pen.mut {H : Hp} {τ : Pn} {n : Nat} (h : Pen H τ n) : Mut (H τ.p) := by
  obtain ⟨kvs, e⟩ := h.dict
  rw [e]
  trivial
theorem Pen.updN {H : Hp} {τ : Pn} {n : Nat} {b : Addr} {o : HO} (h : Pen H τ n) (h1 : b ≠ τ.p) (h2 : b ≠ τ.c) : Pen (upd H b o) τ n := by
  obtain ⟨i, r, e1, e2, h3⟩ := h
  refine ⟨i, r, ?_, ?_, h3⟩
  · rw [upd_ne (Ne.symm h1)]
    exact e1
  · rw [upd_ne (Ne.symm h2)]
    exact e2
def sp_pen (K : PySem.W.Frag) : Sp := fun vs H Q _ => ∃ (a : Addr) (ns : List Int), vs = [.ref a] ∧ SqL K H a (ns.map V.int) ∧ ns.length ≤ 63 ∧ ∀ τ H', Same H H' → H τ.p = none → Pen H' τ 0 → Q (.ref τ.p) H'
theorem cut63 {xs : List V} (h : xs.length ≤ 63) : cutV xs none (some 63) = xs := by
  unfold cutV
  rw [show HT.sIx xs.length xs.length (some 63) = min 63 xs.length from HT.sIx_nat xs.length xs.length 63, HT.sIx_none]
  show List.take (min 63 xs.length - 0) xs = xs
  exact List.take_of_length_le (by omega)
theorem ok__law_pen (T : Top K mg) {k : Nat} : FnOk P w K mg base CX0 (k + 1) T.f__law_pen T.fd__law_pen ["_law_script"]  (sp_pen K) := by
  refine T.F__law_pen.ok sc__law_pen (fun vs H Q E h => ?_) (fun cdv A outer s H vs Q E hr h => ?_)
  · obtain ⟨a, ns, rfl, _⟩ := h
    rfl
  · obtain ⟨a, ns, rfl, hS, hl, q⟩ := h
    refine ⟨_, (pss_one (ps_ret (pe_disp (pps_cons pe_str (pe_callTy call_list_of (by rfl) T.m_list (by decide +kernel) (pa_cons (pe_slice sl_list (pv 0) po_none (po_some pe_int)) pa_nil)) (pps_cons pe_str pe_int (pps_cons pe_str pe_int pps_nil))) (by rfl) (by rfl) (fun z => by cases z) (by decide)))), ?_⟩
    intro p np
    have s1 := sm_upd (o := .dK []) np
    refine ⟨_, rfl, 63, rfl, a, _, rfl, s1.seq hS, fun b nb => ?_⟩
    have s2 := sm_upd (o := .lst (cutV (ns.map V.int) none (some 63))) nb
    have hb := upd_at (o := .lst (cutV (ns.map V.int) none (some 63))) nb
    rw [show cutV (ns.map V.int) none (some 63) = ns.map V.int from cut63 (by simpa using hl)] at *
    have hp := s2 _ _ (upd_at (o := .dK []) np)
    refine ⟨b, _, rfl, .inl (.inl (.inl hb)), fun c nc => ?_⟩
    have s3 := sm_upd (o := .lst (ns.map V.int)) nc
    have hc := upd_at (o := .lst (ns.map V.int)) nc
    have hp3 := s3 _ _ hp
    have npc : c ≠ p := ne_of hc hp3 (by intro z; cases z)
    refine ⟨hp3, tri "cells" "spot" "left" (.ref c) (.int 0) (.int 0), rfl, by show 3 ≤ 15; decide, ?_⟩
    rw [tri_disp dif]
    refine q ⟨p, c, ns⟩ _ (sm_mut (s1.trans (s2.trans s3)) np) np ⟨0, 0, upd_same, ?_, hl, Int.le_refl _, Int.le_refl _⟩
    show upd _ p _ c = _
    rw [upd_ne npc]
    exact hc
theorem eqvI : ∀ ns : List Int, (!PyData.eqv (.list (ns.map PyData.int)) (.list [])) = decide (ns ≠ [])
  | [] => rfl
  | n :: ns => by
    simp [PyData.eqv, PyData.eqvAll]
def sp_pdraw : Sp := fun vs H Q _ => ∃ (τ : Pn) (m : Nat) (n : Int), vs = [.ref τ.p, .int n] ∧ 1 ≤ n ∧ n ≤ 2 ^ 80 ∧ m < 1000000 ∧ Pen H τ m ∧
  ∀ (d : Int) H', 0 ≤ d → d < n → Pen H' τ (m + 1) → But τ.p H H' → Q (.int d) H'
theorem log_80 {n : Int} (h1 : 1 ≤ n) (h2 : n ≤ 2 ^ 80) : n.natAbs.log2 < 9000 := by
  rw [Nat.log2_lt (by omega)]
  have h3 : n.natAbs ≤ 2 ^ 80 := by omega
  exact Nat.lt_of_le_of_lt h3 (Nat.pow_lt_pow_right (by decide) (by decide))
theorem ok__law_draw (T : Top K mg) {k : Nat} : FnOk P w K mg base CX0 (k + 1) T.f__law_draw T.fd__law_draw ["_law_pen_here", "_law_span"]  sp_pdraw := by
  refine T.F__law_draw.ok sc__law_draw (fun vs H Q E h => ?_) (fun cdv A outer s H vs Q E hr h => ?_)
  · obtain ⟨τ, m, n, rfl, _⟩ := h
    rfl
  · obtain ⟨⟨p, c, ns⟩, m, n, rfl, hn1, hn2, hm, ⟨i, r, hp, hc, hlen, hi1, hi2⟩, q⟩ := h
    replace hp : H p = some (.dK (penV c i r)) := hp
    replace hc : H c = some (.lst (ns.map V.int)) := hc
    replace hlen : ns.length ≤ 63 := hlen
    have hlog := log_80 hn1 hn2
    have npc : c ≠ p := ne_of hc hp (by intro z; cases z)
    refine ⟨_, (pss_cons (ps_if (pt_cmpR op_ge (pe_dget (hu_of hr) (pv 0) pe_str (fun _ _ => rfl)) (pv 1) (nomark _))
      (pss_cons (ps_set (i := 2) sc__law_draw.nd rfl (Or.inl rfl) (pe_op op_mod (pe_callTy call_int1 (by rfl) T.m_int (by decide +kernel) (pa_cons (pe_dget (hu_of hr) (pv 0) pe_str (fun _ _ => rfl)) pa_nil)) (pv 1)))
      (pss_cons (ps_dput (hu_of hr) (pv 0) pe_str (pe_op op_fdivW (pe_dget (hu_of hr) (pv 0) pe_str (fun _ _ => rfl)) (pv 1)) rfl)
      (pss_one (ps_ret (pv 2)))))
      pss_nil)
    (pss_cons (ps_set (i := 3) sc__law_draw.nd rfl (Or.inl rfl) (pe_dget (hu_of hr) (pv 0) pe_str (fun _ _ => rfl)))
    (pss_cons (ps_dput (hu_of hr) (pv 0) pe_str (pe_op op_add (pv 3) pe_int) rfl)
    (pss_cons (ps_set (i := 4) sc__law_draw.nd rfl (Or.inl rfl) (pe_op op_add (pe_op op_mul pe_int (pv 3)) pe_int))
    (pss_cons (ps_if (pt_cmpR (op_neD hr.units) (pe_dget (hu_of hr) (pv 0) pe_str (fun _ _ => rfl)) (pe_lst pa_nil) (nomark _))
      (pss_one (ps_set (i := 4) sc__law_draw.nd rfl (Or.inl rfl) (pe_ix ix_list (pe_dget (hu_of hr) (pv 0) pe_str (fun _ _ => rfl)) (pe_op op_mod (pe_callTy call_int1 (by rfl) T.m_int (by decide +kernel) (pa_cons (pv 3) pa_nil)) (pe_callB call_len_seq (by rfl) T.m_len PySem.boot_len (pa_cons (pe_dget (hu_of hr) (pv 0) pe_str (fun _ _ => rfl)) pa_nil))) (fun _ _ => rfl))))
      pss_nil)
    (pss_cons (ps_if (PW.pt (pw_and (pt_cmpR op_lt (pv 3) (pe_callB call_len_seq (by rfl) T.m_len PySem.boot_len (pa_cons (pe_dget (hu_of hr) (pv 0) pe_str (fun _ _ => rfl)) pa_nil)) (nomark _)) (pw_and1 (pt_cmpR op_ge (pv 4) (pe_op op_pow pe_int pe_int) (nomark _)))))
      (pss_cons (ps_dput (hu_of hr) (pv 0) pe_str (pe_op op_fdivW (pe_op op_sub (pv 4) (pe_op op_pow pe_int pe_int)) (pv 1)) rfl)
      (pss_one (ps_ret (pe_op op_mod (pe_callTy call_int1 (by rfl) T.m_int (by decide +kernel) (pa_cons (pe_op op_sub (pv 4) (pe_op op_pow pe_int pe_int)) pa_nil)) (pv 1)))))
      pss_nil)
    (pss_cons (ps_set (i := 5) sc__law_draw.nd rfl (Or.inl rfl) (pe_op op_add (pe_op op_mul (pe_op op_mod (pe_callTy call_int1 (by rfl) T.m_int (by decide +kernel) (pa_cons (pv 4) pa_nil)) pe_int) pe_int) (pe_op op_mul (pe_op op_mul pe_int (pv 3)) (pv 3))))
    (pss_cons (ps_set (i := 6) sc__law_draw.nd rfl (Or.inl rfl) (pe_op op_mod (pe_callTy call_int1 (by rfl) T.m_int (by decide +kernel) (pa_cons (pe_op op_add (pe_op op_add (pv 5) (pe_op op_mul pe_int (pv 3))) pe_int) pa_nil)) pe_int))
    (pss_cons (ps_set (i := 6) sc__law_draw.nd rfl (Or.inl rfl) (pe_op op_mod (pe_callTy call_int1 (by rfl) T.m_int (by decide +kernel) (pa_cons (pe_op op_mul (pv 6) (pe_op op_add (pv 6) pe_int)) pa_nil)) pe_int))
    (pss_one (ps_ret (pe_op op_mod (pe_callTy call_int1 (by rfl) T.m_int (by decide +kernel) (pa_cons (pe_op op_fdiv (pe_op op_mod (pe_callTy call_int1 (by rfl) T.m_int (by decide +kernel) (pa_cons (pe_op op_add (pe_op op_mul (pv 6) (pv 6)) (pe_op op_mul pe_int (pv 6))) pa_nil)) pe_int) pe_int) pa_nil)) (pv 1))))))))))))), ?_⟩
    refine ⟨_, rfl, p, _, rfl, tri_get3 dif hp, ?_⟩
    walk_at "r"
    refine ifD (fun hb => ?_) (fun hb => ?_)
    · walk_at "r"
      refine ⟨p, _, rfl, tri_get3 dif hp, ?_⟩
      walk_at "r"
      refine ⟨p, _, rfl, tri_get3 dif hp, ?_⟩
      walk_at "r"
      refine ⟨p, _, rfl, tri_put3 dif hp, ?_⟩
      walk_at "r"
      refine q _ _ (Int.emod_nonneg _ (by omega)) (Int.emod_lt_of_pos _ (by omega)) ⟨i, _, upd_same, ?_, hlen, by omega, by omega⟩ (But.refl _).upd
      show upd _ p _ c = _
      rw [upd_ne npc]
      exact hc
    · walk_at "r"
      refine ⟨p, _, rfl, tri_get2 dif hp, ?_⟩
      walk_at "r"
      refine ⟨p, _, rfl, tri_put2 dif hp, ?_⟩
      walk_at "r"
      have hp3 := upd_same (H := H) (a := p) (o := .dK (penV c (i + 1) r))
      have hc3 : (upd H p (.dK (penV c (i + 1) r))) c = some (.lst (ns.map V.int)) := by
        rw [upd_ne npc]
        exact hc
      have bt3 : But p H (upd H p (.dK (penV c (i + 1) r))) := (But.refl _).upd
      revert hp3 hc3 bt3
      generalize upd H p (.dK (penV c (i + 1) r)) = H3
      intro hp3 hc3 bt3
      refine ⟨p, _, rfl, tri_get1 hp3, ?_⟩
      walk_at "r"
      refine ⟨len_le (Nat.le_of_ble_eq_true rfl), fun t nt => ?_⟩
      generalize eH4 : upd H3 t _ = H4
      obtain ⟨st, ht⟩ := new_step nt eH4
      clear eH4
      have hc4 := st _ _ hc3
      refine ⟨_, _, Dp.lst (.inl (.inl hc4)) (dp_ints ns), Dp.lst (.inl (.inl ht)) DpAll.nil, shaped_ints ns, rfl, ?_⟩
      rw [eqvI]
      have hp4 := st _ _ hp3
      have bt4 := bt3.trans (But.of st)
      walk_at "r"
      refine if_join (fun σ' H' => ∃ (cell : Int), σ' = [some (.ref p), some (.int n), none, some (.int i), some (.int cell), none, none] ∧ H' = H4) ?_ (fun D1 J hb => ?_) (fun D1 J hb => ?_)
      · rintro σ' H' ⟨cell, rfl, rfl⟩
        dsimp only
        walk_at "r"
        refine ⟨p, _, rfl, tri_get1 hp4, ?_⟩
        refine ⟨c, _, rfl, .inl (.inl (.inl hc4)), ?_⟩
        walk_at "r"
        rw [List.length_map]
        refine ifAnd ?_ (fun hb1 hY => ?_)
        · walk_at "r"
          exact q _ _ (Int.emod_nonneg _ (by omega)) (Int.emod_lt_of_pos _ (by omega)) ⟨i + 1, r, hp4, hc4, hlen, by omega, by omega⟩ bt4
        · walk_at "r"
          refine ifD (fun hb2 => ?_) (fun hb2 => hY)
          walk_at "r"
          refine ⟨p, _, rfl, tri_put3 dif hp4, ?_⟩
          walk_at "r"
          refine q _ _ (Int.emod_nonneg _ (by omega)) (Int.emod_lt_of_pos _ (by omega)) ⟨i + 1, _, upd_same, ?_, hlen, by omega, by omega⟩ bt4.upd
          show upd _ p _ c = _
          rw [upd_ne npc]
          exact hc4
      · have hb0 : ns ≠ [] := of_decide_eq_true hb
        have hlen0 : 0 < ns.length := List.length_pos_iff.mpr hb0
        walk_at "r"
        refine ⟨p, _, rfl, tri_get1 hp4, ?_⟩
        walk_at "r"
        refine ⟨p, _, rfl, tri_get1 hp4, ?_⟩
        refine ⟨c, _, rfl, .inl (.inl (.inl hc4)), ?_⟩
        walk_at "r"
        rw [List.length_map]
        have hm1 := Int.emod_nonneg i (show (ns.length : Int) ≠ 0 by omega)
        have hm2 := Int.emod_lt_of_pos i (show 0 < (ns.length : Int) by omega)
        have hm3 : (i % (ns.length : Int)).toNat < ns.length := by omega
        refine ⟨show (0 : Int) < (ns.length : Int) by omega, ?_⟩
        refine ⟨c, _, _, .int (ns[(i % (ns.length : Int)).toNat]), rfl, rfl, .inl (.inl hc4), at_of (j := (i % (ns.length : Int)).toNat) (by omega) ?_, ?_⟩
        · rw [List.getElem?_map, List.getElem?_eq_getElem hm3]
          rfl
        exact J.nx _ _ ⟨_, rfl, rfl⟩
      · exact J.nx _ _ ⟨_, rfl, rfl⟩
end
end K45
set_option Elab.async false
set_option linter.all false
set_option maxRecDepth 100000
set_option pp.deepTerms false
set_option pp.maxSteps 1500
set_option maxHeartbeats 1000000
/-! what laws k42, k43 draw and compare -/
namespace K45
open PySem PySem.Spec PyProof.Rows L2 HX TV FM DX FB FC PM FI MS MP MK MD MV
local macro_rules | `(tactic| walk_at "r") => `(tactic| (repeat (first | refine Exists.intro _ (And.intro rfl ?_) | refine And.intro rfl ?_ | refine Exists.intro _ (Exists.intro _ (And.intro rfl (And.intro rfl ?_))) | refine And.intro (by omega) ?_ | refine And.intro (Or.inl (And.intro (by omega) (by omega))) ?_ | refine And.intro (Or.inr (And.intro (by omega) (by omega))) ?_ | refine And.intro (And.intro (by omega) (by omega)) ?_ | refine And.intro (And.intro (by decide) (And.intro (by decide) (by decide))) ?_ | refine Or.inl (Exists.intro _ (And.intro rfl ?_)) | (dsimp only [gName]; first | with_reducible refine seqC ?_ | with_reducible refine asgC ?_))))
local macro_rules | `(tactic| walk_at "s") => `(tactic| (repeat (first | refine Exists.intro _ (And.intro rfl ?_) | refine And.intro rfl ?_ | refine Exists.intro _ (Exists.intro _ (And.intro rfl (And.intro rfl ?_))) | refine And.intro (by omega) ?_ | refine And.intro (Or.inl (And.intro (by omega) (by omega))) ?_ | refine And.intro (Or.inr (And.intro (by omega) (by omega))) ?_ | refine And.intro (And.intro (by omega) (by omega)) ?_ | refine And.intro (And.intro (by decide) (And.intro (by decide) (by decide))) ?_ | refine Or.inl (Exists.intro _ (And.intro rfl ?_)) | refine Exists.intro _ (Exists.intro _ (And.intro rfl ?_)) | (dsimp only [gName]; first | with_reducible refine seqC ?_ | with_reducible refine asgC ?_))))
section
variable {P : Program} {w : World} {K : PySem.W.Frag} {mg : Str → Option Value} {base : Heap}
theorem but_newP {p o : Addr} {H H' : Hp} {x : HO} (b : But p H H') (h : H o = none) : But p H (upd H' o x) := fun a u ha e => by
  rw [upd_ne (ne_of_none e h)]
  exact b a u ha e
def sp_great (K : PySem.W.Frag) : Sp := fun vs H Q _ => ∃ (τ : Pn) (m n : Nat), vs = [.ref τ.p, .int (n : Nat)] ∧ n ≤ 3 ∧ m < 900000 ∧ Pen H τ m ∧
  ∀ (x : Nat) H', x < 10 ^ 18 → Pen H' τ (m + 3) → But τ.p H H' → Q (.int (x : Nat)) H'
theorem ok__law_great (T : Top K mg) : FnOk P w K mg base CX0 (2) T.f__law_great T.fd__law_great ["_law_pen_here", "_law_figures"]  (sp_great K) := by
  have G__law_draw : FnOk P w K mg base CX0 (1) T.f__law_draw T.fd__law_draw ["_law_pen_here", "_law_span"]  sp_pdraw := ok__law_draw T
  refine T.F__law_great.ok sc__law_great (fun vs H Q E h => ?_) (fun cdv A outer s H vs Q E hr h => ?_)
  · obtain ⟨τ, m, n, rfl, _⟩ := h
    rfl
  · obtain ⟨τ, m, n, rfl, hn, hm, hT, q⟩ := h
    refine ⟨_, (pss_cons (ps_set (i := 2) sc__law_great.nd rfl (Or.inl rfl) pe_int)
    (pss_cons (ps_for PassesOwn.never rfl (pi_range1 (by rfl) T.m_range (pa_cons (pv 1) pa_nil)) (pg_name (i := 3) sc__law_great.nd rfl (Or.inl rfl))
      (pss_one (ps_set (i := 2) sc__law_great.nd rfl (Or.inl rfl) (pe_op op_add (pe_op op_mul (pv 2) pe_int) (pe_call G__law_draw (hr.mono (by omega)) (by rfl) T.g__law_draw T.F__law_draw.kp T.b__law_draw .nil pass0 (pa_cons (pv 0) (pa_cons pe_int pa_nil)))))))
    (pss_one (ps_ret (pv 2))))), ?_⟩
    walk_at "r"
    refine flR (fun i σ H' => ∃ (x : Nat) (z3 : Option V), σ = [some (.ref τ.p), some (.int (n : Nat)), some (.int (x : Nat)), z3] ∧ x < 10 ^ (6 * i) ∧ Pen H' τ (m + i) ∧ But τ.p H H') ⟨0, none, rfl, by decide, hT, But.refl _⟩ ?_ ?_
    · rintro i σ H2 hi ⟨x, z3, rfl, hx, hT2, b2⟩ D' B
      dsimp only [gName]
      have hi3 : i < 3 := by omega
      have hx18 : x < 10 ^ 18 := Nat.lt_of_lt_of_le hx (Nat.pow_le_pow_right (by decide) (by omega))
      refine ⟨_, rfl, _, _, rfl, rfl, .inr ⟨by decide, by decide⟩, ?_⟩
      refine ⟨_, rfl, τ, _, 1000000, rfl, by decide, by decide, by omega, hT2, fun d H3 d1 d2 hT3 b3 => ?_⟩
      obtain ⟨e, rfl⟩ := Int.eq_ofNat_of_zero_le d1
      walk_at "r"
      refine B.nx _ _ ⟨x * 1000000 + e, _, rfl, ?_, hT3, b2.trans b3⟩
      rw [show 6 * (i + 1) = 6 * i + 6 by omega, Nat.pow_add]
      omega
    · rintro σ H2 ⟨x, z3, rfl, hx, hT2, b2⟩
      walk_at "r"
      refine q x H2 (Nat.lt_of_lt_of_le hx (Nat.pow_le_pow_right (by decide) (by omega))) (hT2.le (by omega)) b2
/-- a number, as an int or a Far -/
def sp_cgiven (K : PySem.W.Frag) (C : Addr) : Sp := fun vs H Q _ => ∃ (τ : Pn) (m n : Nat), vs = [.ref τ.p, .int (n : Nat)] ∧ n < 2 ^ 4000 ∧ Fw n ∧ m < 900000 ∧ Pen H τ m ∧
  ∀ v H', NN K C H' v n → Pen H' τ (m + 1) → But τ.p H H' → Q v H'
theorem ok__law_givenC (T : Top K mg) : FnOk P w K mg base CX0 (16) T.f__law_given T.fd__law_given ["_law_pen_here", "_law_value"]  (sp_cgiven K T.C_Far) := by
  have G__law_draw : FnOk P w K mg base CX0 (1) T.f__law_draw T.fd__law_draw ["_law_pen_here", "_law_span"]  sp_pdraw := ok__law_draw T
  have G_Far___init__ : FnOk P w K mg base CX0 14 T.f_Far___init__ T.fd_Far___init__ ["self", "value"] (sp_initF K T.C_Far 1) := ok_Far___init__F T 1
  refine T.F__law_given.ok sc__law_given (fun vs H Q E h => ?_) (fun cdv A outer s H vs Q E hr h => ?_)
  · obtain ⟨τ, m, n, rfl, _⟩ := h
    rfl
  · obtain ⟨τ, m, n, rfl, hn, hw, hm, hT, q⟩ := h
    refine ⟨_, (pss_one (ps_ret (pe_ifExp (pt_cmpR op_eq (pe_call G__law_draw (hr.mono (by omega)) (by rfl) T.g__law_draw T.F__law_draw.kp T.b__law_draw .nil pass0 (pa_cons (pv 0) (pa_cons pe_int pa_nil))) pe_int (nomark _)) (pe_make T.Mk_Far G_Far___init__ (hr.mono (by omega)) (by rfl) T.g_Far T.b_Far___init__ .nil pass0 (pa_cons (pv 1) pa_nil)) (pv 1)))), ?_⟩
    walk_at "r"
    refine ⟨τ, m, 2, rfl, by decide, by decide, by omega, hT, fun d1 H1 h1 h1' hT1 b1 => ?_⟩
    walk_at "r"
    refine ifE (fun z => ?_) (fun z => ?_)
    · have hI : NN K T.C_Far H1 (.int (n : Nat)) n := numI_int (k := 4000) (by decide) (bwn hn)
      refine ⟨_, rfl, ?_⟩
      have l := fw_wt hw (Nat.lt_of_lt_of_le hn (pow_le (by decide)))
      exact new_farF (n := 1) (.inl hI) l.1 l.2 (by decide) fun a H2 na fa s2 => q (.ref a) H2 (.inr ⟨a, rfl, fa⟩) (hT1.up s2) (b1.trans (But.of s2))
    · walk_at "r"
      exact q _ H1 (numI_int (k := 4000) (by decide) (bwn hn)) hT1 b1
def sp_isblk (K : PySem.W.Frag) (C : Addr) : Sp := fun vs H Q _ => ∃ (u d a1 a2 : Addr) (s e : Nat), vs = [.ref u, .ref d] ∧ H u = some (.tup [.ref a1, .ref a2]) ∧ FN K C H a1 s ∧ FN K C H a2 e ∧ H d = some (.tup [.int (s : Nat), .int (e : Nat)]) ∧ s < 2 ^ 4000 ∧ e < 2 ^ 4000 ∧
  ∀ H', Same H H' → Q (.bl true) H'
theorem ok__law_is_block (T : Top K mg) : FnOk P w K mg base CX0 (6) T.f__law_is_block T.fd__law_is_block ["_law_found", "_law_due"]  (sp_isblk K T.C_Far) := by
  have G_Far___eq__ : FnOk P w K mg base CX0 (4) T.f_Far___eq__ T.fd_Far___eq__ ["self", "other"]  (sp_fareqI K T.C_Far) := okI_Far___eq__ T
  refine T.F__law_is_block.ok sc__law_is_block (fun vs H Q E h => ?_) (fun cdv A outer s H vs Q E hr h => ?_)
  · obtain ⟨u, d, a1, a2, s, e, rfl, _⟩ := h
    rfl
  · obtain ⟨u, d, a1, a2, s0, e0, rfl, hu, f1, f2, hd, hs, he, q⟩ := h
    refine ⟨_, (pss_cons (ps_if (PW.pt (pw_or (pt_not (pt_val (pe_callB call_isi (by rfl) T.m_isinstance (by decide +kernel) (pa_cons (pv 0) (pa_cons (pe_bltn (v := .ty "tuple") (by rfl) T.m_tuple (by decide +kernel) rfl) pa_nil))) (fun _ => rfl))) (pw_or1 (pt_cmpR op_ne (pe_callB call_len_seq (by rfl) T.m_len PySem.boot_len (pa_cons (pv 0) pa_nil)) pe_int (nomark _)))))
      (pss_one (ps_ret pe_bl))
      pss_nil)
    (pss_one (ps_ret (pe_and (pe_callB call_isi (by rfl) T.m_isinstance (by decide +kernel) (pa_cons (pe_ix ix_tup (pv 0) pe_int (fun _ _ => rfl)) (pa_cons (pe_glob (v := .ref T.C_Far) (by rfl) T.g_Far rfl) pa_nil))) (pe_and (pe_callB call_isi (by rfl) T.m_isinstance (by decide +kernel) (pa_cons (pe_ix ix_tup (pv 0) pe_int (fun _ _ => rfl)) (pa_cons (pe_glob (v := .ref T.C_Far) (by rfl) T.g_Far rfl) pa_nil))) (pe_and (pe_cmpR (op_ownC (fun _ _ => rfl) T.O_Eq G_Far___eq__ (hr.mono (by omega)) T.b_Far___eq__ pass0) (pe_ix ix_tup (pv 0) pe_int (fun _ _ => rfl)) (pe_ix ix_tup (pv 1) pe_int (fun _ _ => rfl)) (nomark _)) (pe_one (pe_cmpR (op_ownC (fun _ _ => rfl) T.O_Eq G_Far___eq__ (hr.mono (by omega)) T.b_Far___eq__ pass0) (pe_ix ix_tup (pv 0) pe_int (fun _ _ => rfl)) (pe_ix ix_tup (pv 1) pe_int (fun _ _ => rfl)) (nomark _))))))))), ?_⟩
    refine ⟨_, rfl, _, _, _, _, true, rfl, .ty "tuple", tyT (.inl (.inl hu)), k_tt, _, rfl, iteF ?_⟩
    refine ⟨_, rfl, u, _, rfl, .inr (.inl (.inl hu)), ?_⟩
    walk_at "r"
    refine ⟨u, _, _, .ref a1, rfl, rfl, .inl (.inl hu), at_of (j := 0) rfl rfl, ?_⟩
    dsimp only [tCons, tC, tNil]
    refine ⟨_, _, _, _, true, rfl, .own _, ty_far T.I_Far T.k_Far f1, T.I_Far.ks, _, rfl, iteT ?_⟩
    refine ⟨_, rfl, u, _, _, .ref a2, rfl, rfl, .inl (.inl hu), at_of (j := 1) rfl rfl, ?_⟩
    dsimp only [tCons, tC, tNil]
    refine ⟨_, _, _, _, true, rfl, .own _, ty_far T.I_Far T.k_Far f2, T.I_Far.ks, _, rfl, iteT ?_⟩
    refine ⟨_, rfl, u, _, _, .ref a1, rfl, rfl, .inl (.inl hu), at_of (j := 0) rfl rfl, ?_⟩
    refine ⟨_, rfl, d, _, _, .int (s0 : Nat), rfl, rfl, .inl (.inl hd), at_of (j := 0) rfl rfl, ?_⟩
    have bs : Bw 4000 ((s0 : Nat) : Int) := bwn hs
    have be : Bw 4000 ((e0 : Nat) : Int) := bwn he
    obtain ⟨dx1, w1, k1, k2, k3⟩ := id f1
    refine ⟨a1, dx1, _, rfl, k1, .inl ⟨_, rfl⟩, a1, _, _, _, 4000, rfl, f1, numI_int (by decide) bs, bs, bs, by decide, fun H1 s1 => ?_⟩
    rw [decide_eq_true rfl]
    refine ⟨_, rfl, iteT ?_⟩
    refine ⟨_, rfl, u, _, _, .ref a2, rfl, rfl, .inl (.inl (s1 _ _ hu)), at_of (j := 1) rfl rfl, ?_⟩
    refine ⟨_, rfl, d, _, _, .int (e0 : Nat), rfl, rfl, .inl (.inl (s1 _ _ hd)), at_of (j := 1) rfl rfl, ?_⟩
    have f2' := f2.same s1
    obtain ⟨dx2, w2, j1, j2, j3⟩ := id f2'
    refine ⟨a2, dx2, _, rfl, j1, .inl ⟨_, rfl⟩, a2, _, _, _, 4000, rfl, f2', numI_int (by decide) be, be, be, by decide, fun H2 s2 => ?_⟩
    rw [decide_eq_true rfl]
    exact q H2 (s1.trans s2)
/-- the ends of a range -/
def sp_ends (K : PySem.W.Frag) : Sp := fun vs H Q _ => ∃ (τ : Pn) (m : Nat), vs = [.ref τ.p] ∧ m < 800000 ∧ Pen H τ m ∧
  ∀ (u : Addr) (b f : Nat) H', b ≤ f → f < 2 ^ 72 → H' u = some (.tup [.int (b : Nat), .int (f : Nat)]) → Pen H' τ (m + 10) → But τ.p H H' → Q (.ref u) H'
def sp_picks (K : PySem.W.Frag) : Sp := fun vs H Q _ => ∃ (τ : Pn) (m n : Nat), vs = [.ref τ.p, .int (n : Nat)] ∧ n ≤ 100000 ∧ m < 800000 ∧ Pen H τ m ∧
  ∀ (l : Addr) (ks : List Nat) H', (∀ k ∈ ks, k < n) → ks.length ≤ 12 → H l = none → H' l = some (.lst (nv ks)) → Pen H' τ (m + 10) → But τ.p H H' → Q (.ref l) H'
end
end K45
set_option Elab.async false
set_option linter.all false
set_option maxRecDepth 100000
set_option pp.deepTerms false
set_option pp.maxSteps 1500
set_option maxHeartbeats 1000000
/-! the law's own cover (laws k42, k43) -/
namespace K45
open PySem PySem.Spec PyProof.Rows L2 HX TV FM DX FB FC PM FI MS MP MK MD MV
local macro_rules | `(tactic| walk_at "r") => `(tactic| (repeat (first | refine Exists.intro _ (And.intro rfl ?_) | refine And.intro rfl ?_ | refine Exists.intro _ (Exists.intro _ (And.intro rfl (And.intro rfl ?_))) | refine And.intro (by omega) ?_ | refine And.intro (Or.inl (And.intro (by omega) (by omega))) ?_ | refine And.intro (Or.inr (And.intro (by omega) (by omega))) ?_ | refine And.intro (And.intro (by omega) (by omega)) ?_ | refine And.intro (And.intro (by decide) (And.intro (by decide) (by decide))) ?_ | refine Or.inl (Exists.intro _ (And.intro rfl ?_)) | (dsimp only [gName]; first | with_reducible refine seqC ?_ | with_reducible refine asgC ?_))))
local macro_rules | `(tactic| walk_at "s") => `(tactic| (repeat (first | refine Exists.intro _ (And.intro rfl ?_) | refine And.intro rfl ?_ | refine Exists.intro _ (Exists.intro _ (And.intro rfl (And.intro rfl ?_))) | refine And.intro (by omega) ?_ | refine And.intro (Or.inl (And.intro (by omega) (by omega))) ?_ | refine And.intro (Or.inr (And.intro (by omega) (by omega))) ?_ | refine And.intro (And.intro (by omega) (by omega)) ?_ | refine And.intro (And.intro (by decide) (And.intro (by decide) (by decide))) ?_ | refine Or.inl (Exists.intro _ (And.intro rfl ?_)) | refine Exists.intro _ (Exists.intro _ (And.intro rfl ?_)) | (dsimp only [gName]; first | with_reducible refine seqC ?_ | with_reducible refine asgC ?_))))
section
variable {P : Program} {w : World} {K : PySem.W.Frag} {mg : Str → Option Value} {base : Heap}
/-- blocks as pairs of ints -/
inductive BlkA (H : Hp) : List V → List Blk → Prop
  | nil : BlkA H [] []
  | cons {t : Addr} {s e : Nat} {us : List V} {L : List Blk} : H t = some (.tup [.int (s : Nat), .int (e : Nat)]) → BlkA H us L → BlkA H (.ref t :: us) ((s, e) :: L)
section
variable {H H' : Hp} {us : List V} {L : List Blk}
theorem BlkA.same (h : BlkA H us L) (e : Same H H') : BlkA H' us L := by
  induction h with
  | nil => exact .nil
  | cons h1 _ ih => exact .cons (e _ _ h1) ih
theorem BlkA.but {p : Addr} (h : BlkA H us L) (e : But p H H') (hp : ∀ t xs, H t = some (.tup xs) → t ≠ p) : BlkA H' us L := by
  induction h with
  | nil => exact .nil
  | cons h1 _ ih => exact .cons (e _ _ (hp _ _ h1) h1) ih
theorem BlkA.app {us2 : List V} {L2 : List Blk} (h : BlkA H us L) (g : BlkA H us2 L2) : BlkA H (us ++ us2) (L ++ L2) := by
  induction h with
  | nil => exact g
  | cons h1 _ ih => exact .cons h1 ih
theorem BlkA.len (h : BlkA H us L) : us.length = L.length := by
  induction h with
  | nil => rfl
  | cons _ _ ih => rw [List.length_cons, List.length_cons, ih]
theorem BlkA.get (h : BlkA H us L) : ∀ {i : Nat} {p : Blk}, L[i]? = some p → ∃ t : Addr, us[i]? = some (.ref t) ∧ H t = some (.tup [.int (p.1 : Nat), .int (p.2 : Nat)]) := by
  induction h with
  | nil => intro i p e; simp at e
  | cons h1 _ ih =>
    intro i p e
    cases i with
    | zero =>
      cases e
      exact ⟨_, rfl, h1⟩
    | succ i => exact ih e
end
def Stt (b f at_ : Nat) (L : List Blk) : Prop := (b = f ∧ at_ = b ∧ L = []) ∨ ∃ t, t < 4000 ∧ Rng b f t ∧ St b (mid f t) (mid f t - b) (f - mid f t) at_ L
theorem Stt.start {b f : Nat} (h : b ≤ f) (hf : f < 2 ^ 4000) : Stt b f b [] := by
  obtain ⟨M, l, r, hP⟩ := pts_ex h hf
  cases hP with
  | eq e => exact .inl ⟨e, rfl, rfl⟩
  | rng t ht R => exact .inr ⟨t, ht, R, St.start R⟩
theorem Stt.done {b f at_ M l r : Nat} {L : List Blk} (h : Stt b f at_ L) (hge : f ≤ at_) (hP : Pts b f M l r) : L = cov b M l r := by
  rcases h with ⟨e, e1, e2⟩ | ⟨t, ht, R, S⟩
  · subst e
    obtain ⟨_, rfl, rfl⟩ := pts_uniq hP (.eq rfl)
    rw [e2]
    have := cov_len b M 0 0
    rw [bits_zero] at this
    exact (List.length_eq_zero_iff.mp this).symm
  · obtain ⟨rfl, rfl, rfl⟩ := pts_uniq hP (.rng t ht R)
    exact S.done R hge
theorem Stt.step {b f at_ : Nat} {L : List Blk} (h : Stt b f at_ L) (hlt : at_ < f) : ∃ s, Fits at_ f s ∧ Stt b f (at_ + 2 ^ s) (L ++ [(at_, at_ + 2 ^ s)]) := by
  rcases h with ⟨e, e1, e2⟩ | ⟨t, ht, R, S⟩
  · omega
  · obtain ⟨s, F, S'⟩ := S.step R ht hlt
    exact ⟨s, F, .inr ⟨t, ht, R, S'⟩⟩
theorem Stt.gt {b f at_ : Nat} {L : List Blk} (h : Stt b f at_ L) : b ≤ at_ ∧ at_ ≤ f := by
  rcases h with ⟨e, e1, e2⟩ | ⟨t, ht, R, S⟩
  · omega
  · exact S.gt R
theorem Stt.len {b f at_ : Nat} {L : List Blk} (h : Stt b f at_ L) (hf : f < 2 ^ 4000) : L.length ≤ 8100 := by
  rcases h with ⟨e, e1, e2⟩ | ⟨t, ht, R, S⟩
  · rw [e2]
    exact Nat.zero_le _
  · have := R.facts
    exact S.len (by omega)
theorem low_and {a c u : Nat} (h : a = 2 ^ c * (2 * u + 1)) : Builtin.bitAnd ((a : Nat) : Int) (-((a : Nat) : Int)) = ((2 ^ c : Nat) : Int) := by
  have e : ((a : Nat) : Int) = 2 ^ c * (2 * ((u : Nat) : Int) + 1) := by
    rw [h, Int.natCast_mul, e2p, Int.natCast_add, Int.natCast_mul]
    rfl
  rw [e, PySem.W.kbt_low, e2p]
def sp_cover (K : PySem.W.Frag) : Sp := fun vs H Q _ => ∃ (b f : Nat), vs = [.int (b : Nat), .int (f : Nat)] ∧ b ≤ f ∧ f < 2 ^ 3998 ∧
  ∀ (l : Addr) us L H', (∀ M l' r, Pts b f M l' r → L = cov b M l' r) → H l = none → H' l = some (.lst us) → BlkA H' us L → Same H H' → Q (.ref l) H'
theorem ok__law_cover (T : Top K mg) : FnOk P w K mg base CX0 (2) T.f__law_cover T.fd__law_cover ["_law_begin", "_law_finish"]  (sp_cover K) := by
  refine T.F__law_cover.ok sc__law_cover (fun vs H Q E h => ?_) (fun cdv A outer s H vs Q E hr h => ?_)
  · obtain ⟨b, f, rfl, _⟩ := h
    rfl
  · obtain ⟨b, f, rfl, hbf, hf, q⟩ := h
    refine ⟨_, (pss_cons (ps_set (i := 2) sc__law_cover.nd rfl (Or.inl rfl) (pe_lst pa_nil))
    (pss_cons (ps_set (i := 3) sc__law_cover.nd rfl (Or.inl rfl) (pv 0))
    (pss_cons (ps_while PassesOwn.never (pt_cmpR op_lt (pv 3) (pv 1) (nomark _))
      (pss_cons (ps_set (i := 4) sc__law_cover.nd rfl (Or.inl rfl) (pe_ifExp (pt_cmpR op_gt (pv 3) pe_int (nomark _)) (pe_op op_and (pv 3) (pe_un un_neg (pv 3))) (pe_op op_shl pe_int (pe_op op_sub (pe_bits (pv 1)) pe_int))))
      (pss_cons (ps_while PassesOwn.never (pt_cmpR op_gt (pe_op op_add (pv 3) (pv 4)) (pv 1) (nomark _))
        (pss_one (ps_set (i := 4) sc__law_cover.nd rfl (Or.inl rfl) (pe_op op_fdiv (pv 4) pe_int))))
      (pss_cons (ps_expr (pe_bm PySem.F.plainAttrs_list PySem.F.slot_list_append PySem.F.type_list_append mt_append (pv 2) (pa_cons (pe_tup (pa_cons (pv 3) (pa_cons (pe_op op_add (pv 3) (pv 4)) pa_nil))) pa_nil)))
      (pss_one (ps_set (i := 3) sc__law_cover.nd rfl (Or.inl rfl) (pe_op op_add (pv 3) (pv 4))))))))
    (pss_one (ps_ret (pv 2)))))), ?_⟩
    walk_at "r"
    refine ⟨len_le (Nat.le_of_ble_eq_true rfl), fun l nl => ?_⟩
    generalize eH1 : upd H l _ = H1
    obtain ⟨sl, hl⟩ := new_step nl eH1
    clear eH1
    dsimp only [gName]
    have pw : (2 : Nat) ^ 3998 < 2 ^ 4000 := by decide
    refine ⟨_, rfl, ?_⟩
    refine ⟨fun k σ H' => ∃ (z4 : Option V) (at_ : Nat) (us : List V) (L : List Blk), σ = [some (.int (b : Nat)), some (.int (f : Nat)), some (.ref l), some (.int (at_ : Nat)), z4] ∧ Stt b f at_ L ∧ H' l = some (.lst us) ∧ BlkA H' us L ∧ Same H H' ∧ k = f - at_, ⟨_, none, b, [], [], rfl, .start hbf (by omega), hl, .nil, sl, rfl⟩, ?_⟩
    rintro k σ H2 ⟨z4, at_, us, L, rfl, S, e2, B2, s2, rfl⟩
    obtain ⟨gb, gf⟩ := S.gt
    walk_at "r"
    refine ifD (fun hlt => ?_) (fun hge => ?_)
    · refine wb fun D' B => ?_
      have hlt' : at_ < f := by omega
      obtain ⟨s0, F, S'⟩ := S.step hlt'
      have hle := F.le
      have p72 : ∀ {c : Nat}, 2 ^ c ≤ f → c < 3998 := fun {c} h => by
        apply Nat.lt_of_not_le
        intro hc
        have := pow_le hc
        omega
      have hs0 := p72 (c := s0) (by omega)
      refine cut (fun σ' H' => ∃ c : Nat, σ' = [some (.int (b : Nat)), some (.int (f : Nat)), some (.ref l), some (.int (at_ : Nat)), some (.int (2 ^ c : Nat))] ∧ c < 3999 ∧ s0 ≤ c ∧ (c = s0 ∨ f < at_ + 2 ^ (s0 + 1)) ∧ H' = H2) (fun D1 J1 => ?_) ?_
      · walk_at "r"
        refine ifD (fun h0 => ?_) (fun h0 => ?_)
        · obtain ⟨c, u, e⟩ := odd_ex (n := at_) (by omega)
          have hf := F.first (.inl ⟨u, e⟩)
          have hc : 2 ^ c ≤ at_ := by
            rw [e]
            exact Nat.le_mul_of_pos_right _ (by omega)
          have hc72 := p72 (c := c) (by omega)
          walk_at "r"
          dsimp only [gName]
          rw [low_and e]
          exact J1.nx _ _ ⟨c, rfl, by omega, hf.1, hf.2, rfl⟩
        · have ha : at_ = 0 := by omega
          have hf0 : f ≠ 0 := by omega
          have l1 := Nat.log2_self_le hf0
          have l2 := Nat.lt_log2_self (n := f)
          have hf := F.first (c := Nat.log2 f) (.inr ⟨ha, l1, l2⟩)
          have hc72 := p72 l1
          have eb : Builtin.Int.intBits ((f : Nat) : Int) = Nat.log2 f + 1 := by
            unfold Builtin.Int.intBits
            have : ¬ (((f : Nat) : Int) == 0) = true := by simp; omega
            rw [if_neg this]
            rfl
          walk_at "r"
          dsimp only [gName]
          rw [eb, show (((Nat.log2 f + 1 : Nat) : Int) - 1).toNat = Nat.log2 f by omega, Int.one_mul, ← e2p]
          exact J1.nx _ _ ⟨Nat.log2 f, rfl, by omega, hf.1, hf.2, rfl⟩
      · rintro σ' H' ⟨c, rfl, hc73, hsc, hc2, rfl⟩
        refine cut (fun σ' H'' => σ' = [some (.int (b : Nat)), some (.int (f : Nat)), some (.ref l), some (.int (at_ : Nat)), some (.int (2 ^ s0 : Nat))] ∧ H'' = H') (fun D1 J1 => ?_) ?_
        · refine ⟨fun k σ H'' => ∃ c : Nat, σ = [some (.int (b : Nat)), some (.int (f : Nat)), some (.ref l), some (.int (at_ : Nat)), some (.int (2 ^ c : Nat))] ∧ c < 3999 ∧ s0 ≤ c ∧ (c = s0 ∨ f < at_ + 2 ^ (s0 + 1)) ∧ H'' = H' ∧ k = c, ⟨_, c, rfl, hc73, hsc, hc2, rfl, rfl⟩, ?_⟩
          rintro k σ H'' ⟨c', rfl, g73, gsc, gc2, rfl, rfl⟩
          walk_at "r"
          refine ifD (fun hgt => ?_) (fun hng => ?_)
          · refine wb fun D2 B2' => ?_
            have hcs : s0 < k := by
              apply Nat.lt_of_le_of_ne gsc
              intro z
              subst z
              omega
            obtain ⟨j, rfl⟩ : ∃ j, k = j + 1 := ⟨k - 1, by omega⟩
            refine ⟨_, rfl, _, _, rfl, rfl, ⟨by decide, by decide⟩, ?_⟩
            have eh : ((2 ^ (j + 1) : Nat) : Int) / 2 = ((2 ^ j : Nat) : Int) := by
              rw [Nat.pow_succ]
              omega
            dsimp only [gName]
            rw [eh]
            refine B2'.nx _ _ ⟨j, by omega, j, rfl, by omega, by omega, ?_, rfl, rfl⟩
            rcases gc2 with z | z
            · omega
            · exact .inr z
          · have ecs : k = s0 := by
              rcases gc2 with z | z
              · exact z
              · apply Nat.le_antisymm _ gsc
                apply Nat.le_of_not_lt
                intro hcs
                have := pow_le (show s0 + 1 ≤ k from hcs)
                omega
            subst ecs
            exact J1.nx _ _ ⟨rfl, rfl⟩
        · rintro σ' G2 ⟨rfl, rfl⟩
          refine ⟨_, rfl, .inl ⟨rfl, _, .inl (.inl e2)⟩, ?_⟩
          walk_at "r"
          refine ⟨len_le (Nat.le_of_ble_eq_true rfl), fun t nt => ?_⟩
          generalize eH3 : upd G2 t _ = H3
          obtain ⟨st, ht⟩ := new_step nt eH3
          clear eH3
          have e3 := st _ _ e2
          have hus := B2.len
          have hL := S.len (by omega)
          refine ⟨l, _, _, rfl, rfl, e3, len_lt (by omega), ?_⟩
          walk_at "r"
          have B3 : BlkA H3 (us ++ [.ref t]) (L ++ [(at_, at_ + 2 ^ s0)]) := (B2.same st).app (.cons (by rw [ht, Int.natCast_add]) .nil)
          have mu : Mut (H3 l) := by rw [e3]; exact trivial
          have tl : ∀ t xs, H3 t = some (.tup xs) → t ≠ l := fun t xs h z => by rw [z, e3] at h; cases h
          have bt : But l H3 (upd H3 l (.lst (us ++ [.ref t]))) := (But.refl H3).upd
          dsimp only [gName]
          have tp := Nat.two_pow_pos s0
          rw [show ((at_ : Nat) : Int) + ((2 ^ s0 : Nat) : Int) = ((at_ + 2 ^ s0 : Nat) : Int) by omega]
          exact B.nx _ _ ⟨f - (at_ + 2 ^ s0), by omega, _, at_ + 2 ^ s0, us ++ [.ref t], _, rfl, S', upd_same, B3.but bt tl, sm_mut (s2.trans st) nl, rfl⟩
    · walk_at "r"
      refine q l us L H2 (fun M l' r hP => S.done (by omega) hP) nl e2 B2 s2
end
end K45
set_option Elab.async false
set_option linter.all false
set_option maxRecDepth 100000
set_option pp.deepTerms false
set_option pp.maxSteps 1500
set_option maxHeartbeats 2000000
namespace K45
open PySem PySem.Spec PyProof.Rows L2 HX TV FM DX FB FC PM FI MS MP MK MD MV
local macro_rules | `(tactic| walk_at "r") => `(tactic| (repeat (first | refine Exists.intro _ (And.intro rfl ?_) | refine And.intro rfl ?_ | refine Exists.intro _ (Exists.intro _ (And.intro rfl (And.intro rfl ?_))) | refine And.intro (by omega) ?_ | refine And.intro (Or.inl (And.intro (by omega) (by omega))) ?_ | refine And.intro (Or.inr (And.intro (by omega) (by omega))) ?_ | refine And.intro (And.intro (by omega) (by omega)) ?_ | refine And.intro (And.intro (by decide) (And.intro (by decide) (by decide))) ?_ | refine Or.inl (Exists.intro _ (And.intro rfl ?_)) | (dsimp only [gName]; first | with_reducible refine seqC ?_ | with_reducible refine asgC ?_))))
local macro_rules | `(tactic| walk_at "s") => `(tactic| (repeat (first | refine Exists.intro _ (And.intro rfl ?_) | refine And.intro rfl ?_ | refine Exists.intro _ (Exists.intro _ (And.intro rfl (And.intro rfl ?_))) | refine And.intro (by omega) ?_ | refine And.intro (Or.inl (And.intro (by omega) (by omega))) ?_ | refine And.intro (Or.inr (And.intro (by omega) (by omega))) ?_ | refine And.intro (And.intro (by omega) (by omega)) ?_ | refine And.intro (And.intro (by decide) (And.intro (by decide) (by decide))) ?_ | refine Or.inl (Exists.intro _ (And.intro rfl ?_)) | refine Exists.intro _ (Exists.intro _ (And.intro rfl ?_)) | (dsimp only [gName]; first | with_reducible refine seqC ?_ | with_reducible refine asgC ?_))))
section
variable {P : Program} {w : World} {K : PySem.W.Frag} {mg : Str → Option Value} {base : Heap}
theorem tvt {ts : List Nat} {i t : Nat} (h : ts[i]? = some t) : tv (ts.take (i + 1)) = tv (ts.take i) + (if i % 2 = 1 then 2 ^ t else -(2 ^ t)) := by
  have e : ts.take (i + 1) = ts.take i ++ [t] := by rw [List.take_add_one, h]; rfl
  have hi := (List.getElem?_eq_some_iff.mp h).1
  have hlen : (ts.take i).length = i := by rw [List.length_take]; omega
  rw [e, tv_snoc, hlen]
  rcases Nat.mod_two_eq_zero_or_one i with z | z
  · rw [if_pos z, if_neg (by omega)]
  · rw [if_neg (by omega), if_pos z]
/-- places: ascending, below a limit -/
def sp_places (K : PySem.W.Frag) : Sp := fun vs H Q _ => ∃ (τ : Pn) (m many lim : Nat), vs = [.ref τ.p, .int (many : Nat), .int (lim : Nat)] ∧ many ≤ 12 ∧ 280 ≤ lim ∧ lim ≤ 3900 ∧ m < 800000 ∧ Pen H τ m ∧
  ∀ (a : Addr) (ts : List Nat) H', Asc ts → ts.length = many → (∀ t ∈ ts, t < lim) → H' a = some (.lst (nv ts)) → Pen H' τ (m + 2 * many) → But τ.p H H' → Q (.ref a) H'
theorem ok__law_places (T : Top K mg) : FnOk P w K mg base CX0 (2) T.f__law_places T.fd__law_places ["_law_pen_here", "_law_many", "_law_limit"]  (sp_places K) := by
  have G__law_draw : FnOk P w K mg base CX0 (1) T.f__law_draw T.fd__law_draw ["_law_pen_here", "_law_span"]  sp_pdraw := ok__law_draw T
  refine T.F__law_places.ok sc__law_places (fun vs H Q E h => ?_) (fun cdv A outer s H vs Q E hr h => ?_)
  · obtain ⟨τ, m, many, lim, rfl, _⟩ := h
    rfl
  · obtain ⟨τ, m, many, lim, rfl, hmany, hl1, hl2, hm, hT, q⟩ := h
    refine ⟨_, (pss_cons (ps_set (i := 3) sc__law_places.nd rfl (Or.inl rfl) (pe_lst pa_nil))
    (pss_cons (ps_set (i := 4) sc__law_places.nd rfl (Or.inl rfl) (pe_un un_neg pe_int))
    (pss_cons (ps_for PassesOwn.never rfl (pi_range1 (by rfl) T.m_range (pa_cons (pv 1) pa_nil)) (pg_name (i := 5) sc__law_places.nd rfl (Or.inl rfl))
      (pss_cons (ps_set (i := 6) sc__law_places.nd rfl (Or.inl rfl) (pe_call G__law_draw (hr.mono (by omega)) (by rfl) T.g__law_draw T.F__law_draw.kp T.b__law_draw .nil pass0 (pa_cons (pv 0) (pa_cons pe_int pa_nil))))
      (pss_cons (ps_set (i := 4) sc__law_places.nd rfl (Or.inl rfl) (pe_op op_add (pv 4) pe_int))
      (pss_cons (ps_if (pt_cmpR op_eq (pv 6) pe_int (nomark _))
        (pss_one (ps_set (i := 4) sc__law_places.nd rfl (Or.inl rfl) (pe_op op_add (pv 4) (pe_call G__law_draw (hr.mono (by omega)) (by rfl) T.g__law_draw T.F__law_draw.kp T.b__law_draw .nil pass0 (pa_cons (pv 0) (pa_cons pe_int pa_nil))))))
        (pss_one (ps_if (pt_cmpR op_gt (pv 6) pe_int (nomark _))
          (pss_one (ps_set (i := 4) sc__law_places.nd rfl (Or.inl rfl) (pe_op op_add (pv 4) (pe_call G__law_draw (hr.mono (by omega)) (by rfl) T.g__law_draw T.F__law_draw.kp T.b__law_draw .nil pass0 (pa_cons (pv 0) (pa_cons (pe_op op_fdiv (pv 2) (pe_op op_add (pv 1) pe_int)) pa_nil))))))
          pss_nil)))
      (pss_one (ps_expr (pe_bm PySem.F.plainAttrs_list PySem.F.slot_list_append PySem.F.type_list_append mt_append (pv 3) (pa_cons (pv 4) pa_nil))))))))
    (pss_one (ps_ret (pv 3)))))), ?_⟩
    walk_at "r"
    refine ⟨len_le (Nat.le_of_ble_eq_true rfl), fun l nl => ?_⟩
    generalize eH1 : upd H l _ = H1
    obtain ⟨sl, hl⟩ := new_step nl eH1
    clear eH1
    obtain ⟨np, nc⟩ := hT.new nl
    have hT1 := hT.up sl
    obtain ⟨g, hg⟩ : ∃ g, g = lim / (many + 1) := ⟨_, rfl⟩
    have hg4 : 21 ≤ g := by
      rw [hg, Nat.le_div_iff_mul_le (by omega)]
      omega
    have hg3 : g ≤ 3900 := by
      rw [hg]
      exact Nat.le_trans (Nat.div_le_self _ _) hl2
    have hgl : many * g ≤ lim := by
      have h1 := Nat.div_mul_le_self lim (many + 1)
      rw [← hg, Nat.mul_comm, Nat.succ_mul] at h1
      omega
    have eg : ((lim : Nat) : Int) / (((many : Nat) : Int) + 1) = ((g : Nat) : Int) := by
      rw [hg, Int.natCast_ediv]
      rfl
    dsimp only [gName]
    walk_at "r"
    refine flR (fun i σ H' => ∃ (z5 z6 : Option V) (at_ : Int) (ts : List Nat), σ = [some (.ref τ.p), some (.int (many : Nat)), some (.int (lim : Nat)), some (.ref l), some (.int at_), z5, z6] ∧ -1 ≤ at_ ∧ at_ + 1 ≤ ((i * g : Nat) : Int) ∧ (∀ t ∈ ts, ((t : Nat) : Int) ≤ at_) ∧ Asc ts ∧ ts.length = i ∧ H' l = some (.lst (nv ts)) ∧ Pen H' τ (m + 2 * i) ∧ But τ.p H H') ⟨none, none, -1, [], rfl, by omega, by omega, by simp, trivial, rfl, hl, hT1, But.of sl⟩ ?_ ?_
    · rintro i σ H2 hi ⟨z5, z6, at_, ts, rfl, h0, hb, hts, hA, hlen, hl2', hT2, b2⟩ D' B
      dsimp only [gName]
      refine ⟨_, rfl, τ, _, 4, rfl, by decide, by decide, by omega, hT2, fun d1 H3 g1 g1' hT3 b3 => ?_⟩
      have hl3 := b3 _ _ (hT2.neL hl2') hl2'
      have eig : (i + 1) * g = i * g + g := Nat.succ_mul _ _
      refine ⟨_, rfl, _, _, rfl, rfl, ?_⟩
      dsimp only [gName]
      refine cut (fun σ' H' => ∃ (at2 : Int), σ' = [some (.ref τ.p), some (.int (many : Nat)), some (.int (lim : Nat)), some (.ref l), some (.int at2), some (.int (0 + (i : Nat))), some (.int d1)] ∧ at_ < at2 ∧ at2 + 1 ≤ (((i + 1) * g : Nat) : Int) ∧ H' l = some (.lst (nv ts)) ∧ Pen H' τ (m + 2 * (i + 1)) ∧ But τ.p H H') (fun D1 J1 => ?_) ?_
      · walk_at "r"
        refine ifE (fun e1 => ?_) (fun e1 => ?_)
        · walk_at "r"
          refine ⟨τ, _, 4, rfl, by decide, by decide, by omega, hT3, fun d2 H4 g2 g2' hT4 b4 => ?_⟩
          have hl4 := b4 _ _ (hT3.neL hl3) hl3
          walk_at "r"
          exact J1.nx _ _ ⟨_, rfl, by omega, by omega, hl4, hT4.le (by omega), (b2.trans b3).trans b4⟩
        · walk_at "r"
          refine ifD (fun e2 => ?_) (fun e2 => ?_)
          · walk_at "r"
            refine ⟨τ, _, ((lim : Nat) : Int) / (((many : Nat) : Int) + 1), rfl, by rw [eg]; omega, by rw [eg]; omega, by omega, hT3, fun d2 H4 g2 g2' hT4 b4 => ?_⟩
            rw [eg] at g2'
            have hl4 := b4 _ _ (hT3.neL hl3) hl3
            walk_at "r"
            exact J1.nx _ _ ⟨_, rfl, by omega, by omega, hl4, hT4.le (by omega), (b2.trans b3).trans b4⟩
          · exact J1.nx _ _ ⟨_, rfl, by omega, by omega, hl3, hT3.le (by omega), b2.trans b3⟩
      · rintro σ' H5 ⟨at2, rfl, h1, h2, hl5, hT5, b5⟩
        obtain ⟨p, rfl⟩ := Int.eq_ofNat_of_zero_le (show 0 ≤ at2 by omega)
        refine ⟨_, rfl, .inl ⟨rfl, _, .inl (.inl hl5)⟩, ?_⟩
        walk_at "r"
        refine ⟨l, _, _, rfl, rfl, hl5, len_lt (by rw [nv_len]; omega), ?_⟩
        walk_at "r"
        refine B.nx _ _ ⟨_, _, ((p : Nat) : Int), ts ++ [p], rfl, by omega, h2, fun t ht => ?_, ?_, by rw [List.length_append]; show _ + 1 = _; omega, by rw [upd_same, nv_app], hT5.updN np nc, but_newP b5 nl⟩
        · rcases List.mem_append.mp ht with ht | ht
          · have := hts t ht
            omega
          · rw [List.mem_singleton.mp ht]
            omega
        · exact asc_snoc.mpr ⟨hA, fun x hx => by have := hts x hx; omega⟩
    · rintro σ H2 ⟨z5, z6, at_, ts, rfl, h0, hb, hts, hA, hlen, hl2', hT2, b2⟩
      have en := Int.toNat_natCast many
      rw [en] at hb hlen hT2
      refine ⟨_, rfl, ?_⟩
      exact q l ts H2 hA hlen (fun t ht => by have := hts t ht; omega) hl2' hT2 b2
def sp_integer (K : PySem.W.Frag) : Sp := fun vs H Q _ => ∃ (b : Addr) (ts : List Nat), vs = [.ref b] ∧ H b = some (.lst (nv ts)) ∧ (∀ t ∈ ts, t < 3900) ∧ ts.length ≤ 12 ∧ Q (.int (tv ts)) H
theorem ok__law_integer (T : Top K mg) : FnOk P w K mg base CX0 (1) T.f__law_integer T.fd__law_integer ["_law_spots"]  (sp_integer K) := by
  refine T.F__law_integer.ok sc__law_integer (fun vs H Q E h => ?_) (fun cdv A outer s H vs Q E hr h => ?_)
  · obtain ⟨b, ts, rfl, _⟩ := h
    rfl
  · obtain ⟨b, ts, rfl, hb, ht, hl, q⟩ := h
    refine ⟨_, (pss_cons (ps_set (i := 1) sc__law_integer.nd rfl (Or.inl rfl) pe_int)
    (pss_cons (ps_for PassesOwn.never rfl (pi_range1 (by rfl) T.m_range (pa_cons (pe_callB call_len_seq (by rfl) T.m_len PySem.boot_len (pa_cons (pv 0) pa_nil)) pa_nil)) (pg_name (i := 2) sc__law_integer.nd rfl (Or.inl rfl))
      (pss_one (ps_set (i := 1) sc__law_integer.nd rfl (Or.inl rfl) (pe_op op_add (pv 1) (pe_ifExp (pt_cmpR op_eq (pe_op op_and (pv 2) pe_int) pe_int (nomark _)) (pe_op op_shl pe_int (pe_ix ix_list (pv 0) (pv 2) (fun _ _ => rfl))) (pe_un un_neg (pe_op op_shl pe_int (pe_ix ix_list (pv 0) (pv 2) (fun _ _ => rfl)))))))))
    (pss_one (ps_ret (pv 1))))), ?_⟩
    walk_at "r"
    refine ⟨b, _, rfl, .inl (.inl (.inl hb)), ?_⟩
    rw [nv_len]
    walk_at "r"
    refine flR (fun i σ H' => ∃ (z2 : Option V), σ = [some (.ref b), some (.int (tv (ts.take i))), z2] ∧ H' = H) ⟨none, rfl, rfl⟩ ?_ ?_
    · rintro i σ H' hi ⟨z2, rfl, rfl⟩ D' B
      have hget : (nv ts)[i]? = some (.int ((ts[i] : Nat) : Int)) := by
        show (ts.map _)[i]? = _
        rw [List.getElem?_map, List.getElem?_eq_getElem hi]
        rfl
      have hti := ht _ (List.getElem_mem hi)
      have ms := tvt (List.getElem?_eq_getElem hi)
      generalize ts[i] = t at *
      have et : (1 : Int) * 2 ^ ((t : Nat) : Int).toNat = 2 ^ t := by rw [Int.one_mul, Int.toNat_natCast]
      dsimp only [gName]
      refine ⟨_, rfl, _, rfl, ?_⟩
      walk_at "r"
      refine ifE (fun z => ?_) (fun z => ?_)
      · rw [bitAnd_m1] at z
        rw [if_pos (by omega)] at ms
        walk_at "r"
        refine ⟨b, _, _, _, rfl, rfl, .inl (.inl hb), at_of (j := i) (by omega) hget, ?_⟩
        refine ⟨_, _, rfl, rfl, ⟨by omega, by omega, by decide⟩, ?_⟩
        dsimp only
        rw [et]
        walk_at "r"
        refine B.nx _ _ ⟨some (.int (0 + (i : Nat))), ?_, rfl⟩
        rw [ms]
        rfl
      · rw [bitAnd_m1] at z
        rw [if_neg (by omega)] at ms
        walk_at "r"
        refine ⟨b, _, _, _, rfl, rfl, .inl (.inl hb), at_of (j := i) (by omega) hget, ?_⟩
        refine ⟨_, _, rfl, rfl, ⟨by omega, by omega, by decide⟩, ?_⟩
        dsimp only
        rw [et]
        walk_at "r"
        refine B.nx _ _ ⟨some (.int (0 + (i : Nat))), ?_, rfl⟩
        rw [ms]
        rfl
    · rintro σ H' ⟨z2, rfl, rfl⟩
      refine ⟨_, rfl, ?_⟩
      rw [Int.toNat_natCast, List.take_length]
      exact q
theorem few_tv {ts : List Nat} (hA : Asc ts) (h : ∀ t ∈ ts, t < 3900) (hl : ts.length ≤ 12) (he : ts.length % 2 = 0) : ∃ n : Nat, tv ts = ((n : Nat) : Int) ∧ n < 2 ^ 3900 ∧ tau ((n : Nat) : Int) ≤ 12 := by
  have h1 := tv_bound hA h
  have h0 : 0 ≤ tv ts := by
    rcases snoc_cases ts with rfl | ⟨r, a, rfl⟩
    · exact Int.le_refl _
    · have := (tv_sign hA).1
      rw [List.length_append] at he
      apply Int.not_lt.mp
      intro z
      have := this.mp z
      simp only [List.length_singleton] at he
      omega
  obtain ⟨n, hn⟩ := Int.eq_ofNat_of_zero_le h0
  refine ⟨n, hn, ?_, ?_⟩
  · rw [hn] at h1
    have := e2p 3900
    rw [← this] at h1
    omega
  · rw [← hn]
    unfold tau
    rw [turnsOf_eq hA]
    exact hl
/-- a range -/
def sp_range (K : PySem.W.Frag) : Sp := fun vs H Q _ => ∃ (τ : Pn) (m : Nat), vs = [.ref τ.p] ∧ m < 700000 ∧ Pen H τ m ∧
  ∀ (u : Addr) (b f : Nat) H', b ≤ f → f < 2 ^ 3998 → tau ((b : Nat) : Int) ≤ 1000 → tau ((f : Nat) : Int) ≤ 1000 → H' u = some (.tup [.int (b : Nat), .int (f : Nat)]) → Pen H' τ (m + 60) → But τ.p H H' → Q (.ref u) H'
theorem ok__law_range (T : Top K mg) : FnOk P w K mg base CX0 (3) T.f__law_range T.fd__law_range ["_law_pen_here"]  (sp_range K) := by
  have G__law_draw : FnOk P w K mg base CX0 (1) T.f__law_draw T.fd__law_draw ["_law_pen_here", "_law_span"]  sp_pdraw := ok__law_draw T
  have G__law_places : FnOk P w K mg base CX0 (2) T.f__law_places T.fd__law_places ["_law_pen_here", "_law_many", "_law_limit"]  (sp_places K) := ok__law_places T
  have G__law_integer : FnOk P w K mg base CX0 (1) T.f__law_integer T.fd__law_integer ["_law_spots"]  (sp_integer K) := ok__law_integer T
  refine T.F__law_range.ok sc__law_range (fun vs H Q E h => ?_) (fun cdv A outer s H vs Q E hr h => ?_)
  · obtain ⟨τ, m, rfl, _⟩ := h
    rfl
  · obtain ⟨τ, m, rfl, hm, hT, q⟩ := h
    refine ⟨_, (pss_cons (ps_set (i := 1) sc__law_range.nd rfl (Or.inl rfl) (pe_ix ix_list (pe_lst (pa_cons pe_int (pa_cons pe_int (pa_cons pe_int pa_nil)))) (pe_call G__law_draw (hr.mono (by omega)) (by rfl) T.g__law_draw T.F__law_draw.kp T.b__law_draw .nil pass0 (pa_cons (pv 0) (pa_cons pe_int pa_nil))) (fun _ _ => rfl)))
    (pss_cons (ps_set (i := 2) sc__law_range.nd rfl (Or.inl rfl) (pe_call G__law_integer (hr.mono (by omega)) (by rfl) T.g__law_integer T.F__law_integer.kp T.b__law_integer .nil pass0 (pa_cons (pe_call G__law_places (hr.mono (by omega)) (by rfl) T.g__law_places T.F__law_places.kp T.b__law_places .nil pass0 (pa_cons (pv 0) (pa_cons (pe_op op_mul pe_int (pe_call G__law_draw (hr.mono (by omega)) (by rfl) T.g__law_draw T.F__law_draw.kp T.b__law_draw .nil pass0 (pa_cons (pv 0) (pa_cons pe_int pa_nil)))) (pa_cons (pv 1) pa_nil)))) pa_nil)))
    (pss_cons (ps_set (i := 3) sc__law_range.nd rfl (Or.inl rfl) (pe_call G__law_integer (hr.mono (by omega)) (by rfl) T.g__law_integer T.F__law_integer.kp T.b__law_integer .nil pass0 (pa_cons (pe_call G__law_places (hr.mono (by omega)) (by rfl) T.g__law_places T.F__law_places.kp T.b__law_places .nil pass0 (pa_cons (pv 0) (pa_cons (pe_op op_mul pe_int (pe_call G__law_draw (hr.mono (by omega)) (by rfl) T.g__law_draw T.F__law_draw.kp T.b__law_draw .nil pass0 (pa_cons (pv 0) (pa_cons pe_int pa_nil)))) (pa_cons (pe_op op_sub (pv 1) pe_int) pa_nil)))) pa_nil)))
    (pss_cons (ps_if (pt_cmpR op_eq (pe_call G__law_draw (hr.mono (by omega)) (by rfl) T.g__law_draw T.F__law_draw.kp T.b__law_draw .nil pass0 (pa_cons (pv 0) (pa_cons pe_int pa_nil))) pe_int (nomark _))
      (pss_one (ps_set (i := 3) sc__law_range.nd rfl (Or.inl rfl) (pe_op op_add (pv 2) (pv 3))))
      pss_nil)
    (pss_one (ps_ret (pe_ifExp (pt_cmpR op_le (pv 2) (pv 3) (nomark _)) (pe_tup (pa_cons (pv 2) (pa_cons (pv 3) pa_nil))) (pe_tup (pa_cons (pv 3) (pa_cons (pv 2) pa_nil)))))))))), ?_⟩
    refine ⟨len_le (Nat.le_of_ble_eq_true rfl), fun l3 nl3 => ?_⟩
    generalize eH1 : upd H l3 _ = H1
    obtain ⟨sl3, hl3⟩ := new_step nl3 eH1
    clear eH1
    refine ⟨_, rfl, τ, m, 3, rfl, by decide, by decide, by omega, hT.up sl3, fun d1 H2 h1 h1' hT2 b2 => ?_⟩
    obtain ⟨x1, rfl⟩ := Int.eq_ofNat_of_zero_le h1
    have hl2 := b2 _ _ ((hT.up sl3).neL hl3) hl3
    obtain ⟨lim, elim, lim1, lim2⟩ : ∃ lim : Nat, [V.int 300, .int 300, .int 3900][x1]? = some (.int (lim : Nat)) ∧ 300 ≤ lim ∧ lim ≤ 3900 := by
      match x1, (show x1 < 3 by omega) with
      | 0, _ => exact ⟨300, rfl, by decide, by decide⟩
      | 1, _ => exact ⟨300, rfl, by decide, by decide⟩
      | 2, _ => exact ⟨3900, rfl, by decide, by decide⟩
    refine ⟨l3, _, _, .int (lim : Nat), rfl, rfl, .inl (.inl hl2), at_of (j := x1) rfl elim, ?_⟩
    dsimp only [gName]
    have b02 := (But.of sl3).trans b2
    walk_at "r"
    refine ⟨τ, m + 1, 7, rfl, by decide, by decide, by omega, hT2, fun d2 H3 h2 h2' hT3 b3 => ?_⟩
    obtain ⟨x2, rfl⟩ := Int.eq_ofNat_of_zero_le h2
    walk_at "r"
    refine ⟨τ, m + 2, 2 * x2, lim, by rw [show ((2 * x2 : Nat) : Int) = 2 * ((x2 : Nat) : Int) by omega]; rfl, by omega, by omega, lim2, by omega, hT3.le (by omega), fun a4 ts1 H4 hA1 hn1 ht1 ha4 hT4 b4 => ?_⟩
    have hb1 : ∀ t ∈ ts1, t < 3900 := fun t ht => by have := ht1 t ht; omega
    refine ⟨a4, ts1, rfl, ha4, hb1, by omega, ?_⟩
    obtain ⟨n1, en1, hn1lt, htau1⟩ := few_tv hA1 hb1 (by omega) (by omega)
    rw [en1]
    dsimp only [gName]
    refine ⟨_, rfl, _, rfl, ?_⟩
    walk_at "r"
    refine ⟨τ, _, 7, rfl, by decide, by decide, by omega, hT4, fun d5 H5 h5 h5' hT5 b5 => ?_⟩
    obtain ⟨x5, rfl⟩ := Int.eq_ofNat_of_zero_le h5
    walk_at "r"
    refine ⟨τ, _, 2 * x5, lim - 20, by rw [show ((2 * x5 : Nat) : Int) = 2 * ((x5 : Nat) : Int) by omega, show ((lim - 20 : Nat) : Int) = ((lim : Nat) : Int) - 20 by omega]; rfl, by omega, by omega, by omega, by omega, hT5.le (Nat.le_refl _), fun a6 ts2 H6 hA2 hn2 ht2 ha6 hT6 b6 => ?_⟩
    have hb2 : ∀ t ∈ ts2, t < 3900 := fun t ht => by have := ht2 t ht; omega
    refine ⟨a6, ts2, rfl, ha6, hb2, by omega, ?_⟩
    obtain ⟨n2, en2, hn2lt, htau2⟩ := few_tv hA2 hb2 (by omega) (by omega)
    rw [en2]
    have b06 : But τ.p H H6 := (((b02.trans b3).trans b4).trans b5).trans b6
    have p1 : (2 : Nat) ^ 3901 = 2 ^ 3900 + 2 ^ 3900 := by decide
    have p2 : (2 : Nat) ^ 3901 < 2 ^ 3998 := by decide
    dsimp only [gName]
    refine cut (fun σ' H' => ∃ (f : Nat), σ' = [some (.ref τ.p), some (.int (lim : Nat)), some (.int (n1 : Nat)), some (.int (f : Nat))] ∧ f < 2 ^ 3998 ∧ tau ((f : Nat) : Int) ≤ 1000 ∧ Pen H' τ (m + 60) ∧ But τ.p H H') (fun D1 J1 => ?_) ?_
    · refine ⟨_, rfl, τ, _, 2, rfl, by decide, by decide, by omega, hT6, fun d7 H7 h7 h7' hT7 b7 => ?_⟩
      walk_at "r"
      refine ifE (fun z => ?_) (fun z => ?_)
      · walk_at "r"
        refine J1.nx _ _ ⟨n1 + n2, rfl, by omega, ?_, hT7.le (by omega), b06.trans b7⟩
        have := tau_sum ((n1 : Nat) : Int) ((n2 : Nat) : Int)
        rw [Int.natCast_add]
        omega
      · exact J1.nx _ _ ⟨n2, rfl, by omega, by omega, hT7.le (by omega), b06.trans b7⟩
    · rintro σ' H7 ⟨f, rfl, hf, hft, hT7, b7⟩
      walk_at "r"
      refine ifD (fun z => ?_) (fun z => ?_)
      · walk_at "r"
        refine ⟨len_le (Nat.le_of_ble_eq_true rfl), fun u nu => ?_⟩
        generalize eH8 : upd H7 u _ = H8
        obtain ⟨su, hu⟩ := new_step nu eH8
        clear eH8
        exact q u n1 f H8 (by omega) hf (by omega) hft hu (hT7.up su) (b7.trans (But.of su))
      · walk_at "r"
        refine ⟨len_le (Nat.le_of_ble_eq_true rfl), fun u nu => ?_⟩
        generalize eH8 : upd H7 u _ = H8
        obtain ⟨su, hu⟩ := new_step nu eH8
        clear eH8
        exact q u f n1 H8 (by omega) (by omega) hft (by omega) hu (hT7.up su) (b7.trans (But.of su))
/-- a block of the cover is told by its number and an address -/
def sp_told (K : PySem.W.Frag) (C : Addr) : Sp := fun vs H Q _ => ∃ (τ : Pn) (m b f k M l r : Nat) (a : Addr) (us : List V), vs = [.ref τ.p, .int (b : Nat), .int (f : Nat), .ref a, .int (k : Nat)] ∧ b ≤ f ∧ f < 2 ^ 3998 ∧ tau ((b : Nat) : Int) ≤ 1000 ∧ tau ((f : Nat) : Int) ≤ 1000 ∧ Pts b f M l r ∧ H a = some (.lst us) ∧ BlkA H us (cov b M l r) ∧ k < (cov b M l r).length ∧ m < 700000 ∧ Pen H τ m ∧
  ∀ H', Pen H' τ (m + 10) → But τ.p H H' → Q (.bl true) H'
theorem BlkA.penB {H H' : Hp} {τ : Pn} {n : Nat} {us : List V} {L : List Blk} (h : BlkA H us L) (hT : Pen H τ n) (b : But τ.p H H') : BlkA H' us L :=
  h.but b fun t xs ht => hT.ne ht fun kvs z => by cases z
theorem numI_pen {C : Addr} {H H' : Hp} {τ : Pn} {m : Nat} {x : V} {n : Int} (h : NumI K C H x n) (hT : Pen H τ m) (b : But τ.p H H') : NumI K C H' x n := by
  rcases h with h | ⟨a, rfl, dx, v, h1, h2, h3⟩
  · exact .inl h
  · exact .inr ⟨a, rfl, dx, v, b a _ (hT.ne h1 fun kvs z => by cases z) h1, dp_tk (tk_but b hT.mut) h3 h2, h3⟩
theorem ok__law_is_told (T : Top K mg) : FnOk P w K mg base CX0 (20) T.f__law_is_told T.fd__law_is_told ["_law_pen_here", "_law_begin", "_law_finish", "_law_due", "_law_k"]  (sp_told K T.C_Far) := by
  have G__law_great : FnOk P w K mg base CX0 (2) T.f__law_great T.fd__law_great ["_law_pen_here", "_law_figures"]  (sp_great K) := ok__law_great T
  have G__law_given : FnOk P w K mg base CX0 (16) T.f__law_given T.fd__law_given ["_law_pen_here", "_law_value"]  (sp_cgiven K T.C_Far) := ok__law_givenC T
  have G__law_is_block : FnOk P w K mg base CX0 (6) T.f__law_is_block T.fd__law_is_block ["_law_found", "_law_due"]  (sp_isblk K T.C_Far) := ok__law_is_block T
  have G_cover_block : FnOk P w K mg base CX0 (18) T.f_cover_block T.fd_cover_block ["start", "stop", "k"]  (sp_cblock K T.C_Far) := ok_cover_block T
  have G_cover_at : FnOk P w K mg base CX0 (18) T.f_cover_at T.fd_cover_at ["start", "stop", "address"]  (sp_cat K T.C_Far) := ok_cover_at T
  have G_Far___eq__ : FnOk P w K mg base CX0 (4) T.f_Far___eq__ T.fd_Far___eq__ ["self", "other"]  (sp_fareqI K T.C_Far) := okI_Far___eq__ T
  refine T.F__law_is_told.ok sc__law_is_told (fun vs H Q E h => ?_) (fun cdv A outer s H vs Q E hr h => ?_)
  · obtain ⟨τ, m, b, f, k, M, l, r, a, us, rfl, _⟩ := h
    rfl
  · obtain ⟨τ, m, b, f, k, M, l, r, a, us, rfl, hbf, hf, tb1, tf1, hP, ha, BL, hk, hm, hT, q⟩ := h
    refine ⟨_, (pss_cons (ps_if (pt_not (pt_val (pe_call G__law_is_block (hr.mono (by omega)) (by rfl) T.g__law_is_block T.F__law_is_block.kp T.b__law_is_block .nil pass0 (pa_cons (pe_call G_cover_block (hr.mono (by omega)) (by rfl) T.g_cover_block T.F_cover_block.kp T.b_cover_block .nil pass0 (pa_cons (pv 1) (pa_cons (pe_call G__law_given (hr.mono (by omega)) (by rfl) T.g__law_given T.F__law_given.kp T.b__law_given .nil pass0 (pa_cons (pv 0) (pa_cons (pv 2) pa_nil))) (pa_cons (pv 4) pa_nil)))) (pa_cons (pe_ix ix_list (pv 3) (pv 4) (fun _ _ => rfl)) pa_nil))) (fun _ => rfl)))
      (pss_one (ps_ret pe_bl))
      pss_nil)
    (pss_cons (ps_set (i := 5) sc__law_is_told.nd rfl (Or.inl rfl) (pe_op op_add (pe_ix ix_tup (pe_ix ix_list (pv 3) (pv 4) (fun _ _ => rfl)) pe_int (fun _ _ => rfl)) (pe_op op_mod (pe_callTy call_int1 (by rfl) T.m_int (by decide +kernel) (pa_cons (pe_call G__law_great (hr.mono (by omega)) (by rfl) T.g__law_great T.F__law_great.kp T.b__law_great .nil pass0 (pa_cons (pv 0) (pa_cons pe_int pa_nil))) pa_nil)) (pe_op op_sub (pe_ix ix_tup (pe_ix ix_list (pv 3) (pv 4) (fun _ _ => rfl)) pe_int (fun _ _ => rfl)) (pe_ix ix_tup (pe_ix ix_list (pv 3) (pv 4) (fun _ _ => rfl)) pe_int (fun _ _ => rfl))))))
    (pss_cons (ps_set (i := 6) sc__law_is_told.nd rfl (Or.inl rfl) (pe_call G_cover_at (hr.mono (by omega)) (by rfl) T.g_cover_at T.F_cover_at.kp T.b_cover_at .nil pass0 (pa_cons (pe_call G__law_given (hr.mono (by omega)) (by rfl) T.g__law_given T.F__law_given.kp T.b__law_given .nil pass0 (pa_cons (pv 0) (pa_cons (pv 1) pa_nil))) (pa_cons (pv 2) (pa_cons (pv 5) pa_nil)))))
    (pss_one (ps_ret (pe_and (pe_callB call_isi (by rfl) T.m_isinstance (by decide +kernel) (pa_cons (pv 6) (pa_cons (pe_bltn (v := .ty "tuple") (by rfl) T.m_tuple (by decide +kernel) rfl) pa_nil))) (pe_and (pe_cmpR op_eq (pe_callB call_len_seq (by rfl) T.m_len PySem.boot_len (pa_cons (pv 6) pa_nil)) pe_int (nomark _)) (pe_and (pe_cmpR (op_ownC (fun _ _ => rfl) T.O_Eq G_Far___eq__ (hr.mono (by omega)) T.b_Far___eq__ pass0) (pe_ix ix_tup (pv 6) pe_int (fun _ _ => rfl)) (pv 4) (nomark _)) (pe_one (pe_call G__law_is_block (hr.mono (by omega)) (by rfl) T.g__law_is_block T.F__law_is_block.kp T.b__law_is_block .nil pass0 (pa_cons (pe_slice sl_tupA (pv 6) (po_some pe_int) po_none) (pa_cons (pe_ix ix_list (pv 3) (pv 4) (fun _ _ => rfl)) pa_nil)))))))))))), ?_⟩
    have p300 : (2 : Nat) ^ 3998 < 2 ^ 3999 := by decide
    have p4000 : (2 : Nat) ^ 3999 < 2 ^ 4000 := by decide
    have hlen := BL.len
    have hcl := cov_len b M l r
    have bl1 := bits_len_le l 4001
    have bl2 := bits_len_le r 4001
    have fwb : Fw b := by unfold Fw; omega
    have fwf : Fw f := by unfold Fw; omega
    have fwk : Fw k := fw_small (by omega)
    obtain ⟨s0, q0, hc⟩ := cov_formM (b := b) (M := M) (l := l) (r := r) (k := k) hk
    obtain ⟨hq3, Lv, _⟩ := cov_cases hP hbf (by omega) hc
    have hlo := Lv.lo
    have hhi := Lv.hi
    have tp := Nat.two_pow_pos q0
    dsimp only [gName]
    refine ⟨_, rfl, _, rfl, _, rfl, τ, _, f, rfl, by omega, fwf, by omega, hT, fun v1 H7 hv1 hT7 b7 => ?_⟩
    have el7 := b7 _ _ (hT.neL ha) ha
    have BL7 := BL.penB hT b7
    have hz : NN K T.C_Far H7 (.int (k : Nat)) k := numI_int (k := 4000) (by decide) (bwn (Nat.lt_of_lt_of_le (show k < 2 ^ 64 by omega) (pow_le (by decide))))
    refine ⟨_, rfl, .int (b : Nat), v1, .int (k : Nat), b, f, k, rfl, numI_int (k := 4000) (by decide) (bwn (by omega)), hv1, hz, hbf, by omega, tb1, tf1, fun M2 l2 r2 hP2 => by
      obtain ⟨rfl, rfl, rfl⟩ := pts_uniq hP hP2
      exact hk, fun M2 l2 r2 s2 q2 u9 a1 a2 H9 hP2 hc2 hu9 f1 f2 s9 => ?_⟩
    obtain ⟨rfl, rfl, rfl⟩ := pts_uniq hP hP2
    have e2 : s2 = s0 ∧ s2 + 2 ^ q2 = s0 + 2 ^ q0 := by
      rw [hc] at hc2
      have := Option.some.inj hc2
      exact ⟨(congrArg Prod.fst this).symm, (congrArg Prod.snd this).symm⟩
    rw [e2.2] at f2
    rw [e2.1] at f1
    have el9 := s9 _ _ el7
    have BL9 := BL7.same s9
    obtain ⟨tk, htk1, htk2⟩ := BL9.get hc
    have hT9 := hT7.up s9
    refine ⟨_, rfl, _, rfl, a, _, _, .ref tk, rfl, rfl, .inl (.inl el9), at_of (j := k) rfl htk1, ?_⟩
    refine ⟨u9, tk, a1, a2, s0, s0 + 2 ^ q0, rfl, hu9, f1, f2, htk2, by omega, by omega, fun H10 s10 => ?_⟩
    have el10 := s10 _ _ el9
    have BL10 := BL9.same s10
    have htk10 := s10 _ _ htk2
    have hT10 := hT9.up s10
    refine ⟨_, rfl, iteF ?_⟩
    dsimp only [tNext]
    refine ⟨_, rfl, _, rfl, a, _, _, .ref tk, rfl, rfl, .inl (.inl el10), at_of (j := k) rfl htk1, ?_⟩
    refine ⟨tk, _, _, .int ((s0 : Nat) : Int), rfl, rfl, .inl (.inl htk10), at_of (j := 0) rfl rfl, ?_⟩
    refine ⟨_, rfl, τ, _, 3, rfl, by decide, by omega, hT10, fun g H11 hg hT11 b11 => ?_⟩
    have el11 := b11 _ _ (hT10.neL el10) el10
    have BL11 := BL10.penB hT10 b11
    obtain ⟨tk', htk1', htk2'⟩ := BL11.get hc
    refine .inl ⟨_, rfl, ?_⟩
    refine ⟨_, rfl, _, rfl, a, _, _, .ref tk', rfl, rfl, .inl (.inl el11), at_of (j := k) rfl htk1', ?_⟩
    refine ⟨tk', _, _, .int ((s0 + 2 ^ q0 : Nat) : Int), rfl, rfl, .inl (.inl htk2'), at_of (j := 1) rfl rfl, ?_⟩
    refine ⟨_, rfl, _, rfl, a, _, _, .ref tk', rfl, rfl, .inl (.inl el11), at_of (j := k) rfl htk1', ?_⟩
    refine ⟨tk', _, _, .int ((s0 : Nat) : Int), rfl, rfl, .inl (.inl htk2'), at_of (j := 0) rfl rfl, ?_⟩
    refine ⟨_, _, rfl, rfl, ?_⟩
    dsimp only
    rw [show ((s0 + 2 ^ q0 : Nat) : Int) - ((s0 : Nat) : Int) = ((2 ^ q0 : Nat) : Int) by omega]
    refine ⟨_, _, rfl, rfl, by omega, ?_⟩
    have egm : ((g : Nat) : Int) % ((2 ^ q0 : Nat) : Int) = ((g % 2 ^ q0 : Nat) : Int) := (Int.natCast_emod _ _).symm
    have hgm := Nat.mod_lt g tp
    dsimp only
    rw [egm]
    refine ⟨_, _, rfl, rfl, ?_⟩
    dsimp only [gName]
    rw [show ((s0 : Nat) : Int) + ((g % 2 ^ q0 : Nat) : Int) = ((s0 + g % 2 ^ q0 : Nat) : Int) from (Int.natCast_add _ _).symm]
    obtain ⟨p, hp⟩ : ∃ p, p = s0 + g % 2 ^ q0 := ⟨_, rfl⟩
    rw [← hp]
    refine ⟨_, rfl, _, rfl, τ, _, b, rfl, by omega, fwb, by omega, hT11, fun w1 H14 hw1 hT14 b14 => ?_⟩
    have el14 := b14 _ _ (hT11.neL el11) el11
    have BL14 := BL11.penB hT11 b14
    refine ⟨_, rfl, _, rfl, w1, .int (f : Nat), .int (p : Nat), b, f, p, M, l, r, k, s0, q0, rfl, hw1, numI_int (k := 4000) (by decide) (bwn (by omega)), numI_int (k := 4000) (by decide) (bwn (by omega)), hbf, by omega, tb1, tf1, hP, hc, by omega, by omega, fun y0 a0 a3 a4 H16 hy0 g0 g1 g2 s16 => ?_⟩
    dsimp only [gName]
    have el16 := s16 _ _ el14
    have BL16 := BL14.same s16
    have hT16 := hT14.up s16
    refine ⟨_, rfl, _, _, _, _, true, rfl, .ty "tuple", tyT (.inl (.inl hy0)), k_tt, _, rfl, iteT ?_⟩
    refine ⟨_, rfl, y0, _, rfl, .inr (.inl (.inl hy0)), ?_⟩
    walk_at "r"
    refine ⟨y0, _, _, .ref a0, rfl, rfl, .inl (.inl hy0), at_of (j := 0) rfl rfl, ?_⟩
    have bk : Bw 300 ((k : Nat) : Int) := bwn (Nat.lt_of_lt_of_le (show k < 2 ^ 64 by omega) (pow_le (by decide)))
    obtain ⟨dx0, w0, j1, j2, j3⟩ := id g0
    refine ⟨_, rfl, a0, dx0, _, rfl, j1, .inl ⟨_, rfl⟩, a0, _, _, _, 300, rfl, g0, numI_int (by decide) bk, bk, bk, by decide, fun H17 s17 => ?_⟩
    rw [decide_eq_true rfl]
    refine ⟨_, rfl, iteT ?_⟩
    have BL17 := BL16.same s17
    have el17 := s17 _ _ el16
    refine ⟨_, rfl, _, rfl, y0, [.ref a0, .ref a3, .ref a4], rfl, .inl (.inl (s17 _ _ hy0)), fun z => absurd (show HT.sIx 3 0 (some 1) = 0 from z.1) (by decide), fun _ y1 ny1 => ?_⟩
    rw [show cutV [V.ref a0, .ref a3, .ref a4] (some 1) none = [V.ref a3, .ref a4] from rfl]
    have sy1 := sm_upd (o := .tup [V.ref a3, .ref a4]) ny1
    obtain ⟨tk'', htk1'', htk2''⟩ := (BL17.same sy1).get hc
    refine ⟨_, rfl, _, rfl, a, _, _, .ref tk'', rfl, rfl, .inl (.inl (sy1 _ _ el17)), at_of (j := k) rfl htk1'', ?_⟩
    refine ⟨y1, tk'', a3, a4, s0, s0 + 2 ^ q0, rfl, upd_same, (g1.same s17).same sy1, (g2.same s17).same sy1, htk2'', by omega, by omega, fun H19 s19 => ?_⟩
    exact q H19 ((hT16.up ((s17.trans sy1).trans s19)).le (by omega)) (((((((b7.trans (But.of s9)).trans (But.of s10)).trans b11).trans b14).trans (But.of s16)).trans (But.of s17)).trans (But.of (sy1.trans s19)))
/-- a block as data -/
def blkD (p : Blk) : PyData := .tuple [.int (p.1 : Nat), .int (p.2 : Nat)]
theorem BlkA.dp {H : Hp} {us : List V} {L : List Blk} (h : BlkA H us L) : DpAll K H us (L.map blkD) := by
  induction h with
  | nil => exact .nil
  | cons h1 _ ih => exact .cons (.tup (.inl (.inl h1)) (.cons (.int _) (.cons (.int _) .nil))) ih
theorem lay_blk : ∀ L : List Blk, PyData.canLayAll0 (L.map blkD) = true
  | [] => rfl
  | p :: r => by
    show (PyData.canLay0 (blkD p) && PyData.canLayAll0 (r.map blkD)) = true
    rw [lay_blk r]
    rfl
theorem dep_blk : ∀ L : List Blk, PyData.depthAll (L.map blkD) ≤ 1
  | [] => Nat.zero_le _
  | p :: r => by
    show max (PyData.depth (blkD p)) (PyData.depthAll (r.map blkD)) ≤ 1
    have h1 := dep_blk r
    have h2 : PyData.depth (blkD p) = 1 := rfl
    omega
theorem shaped_blk (L : List Blk) : SeqAt.shaped (.list (L.map blkD)) = true := by
  show (PyData.canLayAll0 (L.map blkD) && decide (PyData.depthAll (L.map blkD) + 1 ≤ 64)) = true
  rw [lay_blk, Bool.true_and, decide_eq_true_eq]
  have := dep_blk L
  omega
theorem cov_small {b f M l r : Nat} (hP : Pts b f M l r) (hbf : b ≤ f) (hf : f < 2 ^ 3999) : ∀ p ∈ cov b M l r, p.1 < 2 ^ 4000 ∧ p.2 < 2 ^ 4000 := fun p hp => by
  obtain ⟨k, hk⟩ := List.getElem?_of_mem hp
  have hlt := (List.getElem?_eq_some_iff.mp hk).1
  obtain ⟨s, q, e⟩ := cov_formM hlt
  obtain ⟨_, Lv, _⟩ := cov_cases hP hbf hf e
  rw [hk] at e
  cases Option.some.inj e
  have := Lv.hi
  have pw : (2 : Nat) ^ 3999 < 2 ^ 4000 := by decide
  have tq := Nat.two_pow_pos q
  show s < 2 ^ 4000 ∧ s + 2 ^ q < 2 ^ 4000
  omega
theorem take_filter {L : List Blk} {i j : Nat} {p : Blk} (h : L[i]? = some p) : (L.take (i + 1)).filter (ofSize j) = (L.take i).filter (ofSize j) ++ (if ofSize j p = true then [p] else []) := by
  rw [List.take_add_one, h, List.filter_append]
  congr 1
  simp only [Option.toList_some, List.filter_cons, List.filter_nil]
def spLaw (K : PySem.W.Frag) : Sp := fun vs H Q _ => ∃ (a : Addr) (ns : List Int), vs = [.ref a] ∧ SqL K H a (ns.map V.int) ∧ ns.length ≤ 63 ∧ ∀ H', Q (.bl true) H'
theorem ok_law (T : Top K mg) : FnG P w K mg base 30 T.f_law T.fd_law ["_law_script"] (spLaw K) := by
  have G__law_pen : FnOk P w K mg base CX0 (1) T.f__law_pen T.fd__law_pen ["_law_script"]  (sp_pen K) := ok__law_pen T
  have G__law_draw : FnOk P w K mg base CX0 (1) T.f__law_draw T.fd__law_draw ["_law_pen_here", "_law_span"]  sp_pdraw := ok__law_draw T
  have G__law_range : FnOk P w K mg base CX0 (3) T.f__law_range T.fd__law_range ["_law_pen_here"]  (sp_range K) := ok__law_range T
  have G__law_cover : FnOk P w K mg base CX0 (2) T.f__law_cover T.fd__law_cover ["_law_begin", "_law_finish"]  (sp_cover K) := ok__law_cover T
  have G__law_given : FnOk P w K mg base CX0 (16) T.f__law_given T.fd__law_given ["_law_pen_here", "_law_value"]  (sp_cgiven K T.C_Far) := ok__law_givenC T
  have G__law_is_told : FnOk P w K mg base CX0 (20) T.f__law_is_told T.fd__law_is_told ["_law_pen_here", "_law_begin", "_law_finish", "_law_due", "_law_k"]  (sp_told K T.C_Far) := ok__law_is_told T
  have G__law_is_block : FnOk P w K mg base CX0 (6) T.f__law_is_block T.fd__law_is_block ["_law_found", "_law_due"]  (sp_isblk K T.C_Far) := ok__law_is_block T
  have G_cover_count : FnOk P w K mg base CX0 (17) T.f_cover_count T.fd_cover_count ["start", "stop"]  (sp_ccount K T.C_Far) := ok_cover_count T
  have G_cover_level : FnOk P w K mg base CX0 (18) T.f_cover_level T.fd_cover_level ["start", "stop", "order"]  (sp_clevel K T.C_Far) := ok_cover_level T
  have G_Far___eq__ : FnOk P w K mg base CX0 (4) T.f_Far___eq__ T.fd_Far___eq__ ["self", "other"]  (sp_fareqI K T.C_Far) := okI_Far___eq__ T
  refine funG T.F_law sc_law (fun vs H Q E h => ?_) (fun cdv A outer s H vs Q E hg hr h => ?_)
  · obtain ⟨a, ns, rfl, _⟩ := h
    rfl
  · obtain ⟨a, ns, rfl, hS, hl, q⟩ := h
    refine ⟨_, (pss_cons (ps_set (i := 1) sc_law.nd rfl (Or.inr rfl) (pe_call G__law_pen (hr.mono (by omega)) (by rfl) T.g__law_pen T.F__law_pen.kp T.b__law_pen .nil pass0 (pa_cons (pv 0) pa_nil)))
    (pss_cons (ps_for PassesOwn.never rfl (pi_range1 (by rfl) T.m_range (pa_cons (pe_op op_add pe_int (pe_callB (call_min2 rfl) (by rfl) T.m_min (by decide +kernel) (pa_cons pe_int (pa_cons (pe_callB call_len_seq (by rfl) T.m_len PySem.boot_len (pa_cons (pv 0) pa_nil)) pa_nil)))) pa_nil)) (pg_name (i := 2) sc_law.nd rfl (Or.inl rfl))
      (pss_cons (ps_asg (pe_call G__law_range (hr.mono (by omega)) (by rfl) T.g__law_range T.F__law_range.kp T.b__law_range .nil pass0 (pa_cons (pv 1) pa_nil)) (pg_tup rfl (pgs_cons (pg_name (i := 3) sc_law.nd rfl (Or.inr rfl)) (pgs_cons (pg_name (i := 4) sc_law.nd rfl (Or.inr rfl)) pgs_nil))))
      (pss_cons (ps_set (i := 5) sc_law.nd rfl (Or.inr rfl) (pe_call G__law_cover (hr.mono (by omega)) (by rfl) T.g__law_cover T.F__law_cover.kp T.b__law_cover .nil pass0 (pa_cons (pv 3) (pa_cons (pv 4) pa_nil))))
      (pss_cons (ps_if (pt_cmpR (op_ownN T.N_ne T.O_Eq G_Far___eq__ (hr.mono (by omega)) T.b_Far___eq__ pass0) (pe_call G_cover_count (hr.mono (by omega)) (by rfl) T.g_cover_count T.F_cover_count.kp T.b_cover_count .nil pass0 (pa_cons (pe_call G__law_given (hr.mono (by omega)) (by rfl) T.g__law_given T.F__law_given.kp T.b__law_given .nil pass0 (pa_cons (pv 1) (pa_cons (pv 3) pa_nil))) (pa_cons (pv 4) pa_nil))) (pe_callB call_len_seq (by rfl) T.m_len PySem.boot_len (pa_cons (pv 5) pa_nil)) (nomark _))
        (pss_one (ps_ret pe_bl))
        pss_nil)
      (pss_cons (ps_if (pt_cmpR (op_eqD hr.units) (pv 5) (pe_lst pa_nil) (nomark _))
        (pss_one ps_continue)
        pss_nil)
      (pss_cons (ps_set (i := 6) sc_law.nd rfl (Or.inl rfl) (pe_op op_cat (pe_lst (pa_cons pe_int (pa_cons (pe_op op_sub (pe_callB call_len_seq (by rfl) T.m_len PySem.boot_len (pa_cons (pv 5) pa_nil)) pe_int) pa_nil))) (pe_lc (own := [("_law_again", 7)]) (g := gName 7) (by rfl) sc_law.nd (pi_range1 (by rfl) T.m_range (pa_cons pe_int pa_nil)) (blkOk_by (own := [("_law_again", 7)]) (N := ["_law_script", "_law_pen_here", "_law_lap", "_law_begin", "_law_finish", "_law_due", "_law_picks", "_law_again", "_law_k", "_law_cells", "_law_found", "_law_alike", "_law_pair"]) (sc := defScope s_law) (by decide +kernel)) (fun _ _ _ _ _ => (pg_name (i := 7) sc_law.nd rfl (Or.inl rfl))) (fun _ _ _ _ _ => pts_nil) (fun _ _ _ _ _ => (pe_call G__law_draw (hr.mono (by omega)) (by rfl) T.g__law_draw T.F__law_draw.kp T.b__law_draw .nil pass0 (pa_cons (pv 1) (pa_cons (pe_callB (id := "len") (r := HX.rLen K) call_len_seq (by rfl) T.m_len PySem.boot_len (pa_cons (pv 5) pa_nil)) pa_nil)))))))
      (pss_cons (ps_if (pt_cmpR (op_neD hr.units) (pe_lc (own := [("_law_k", 8)]) (g := gName 8) (by rfl) sc_law.nd (pi_list (pv 6)) (blkOk_by (own := [("_law_k", 8)]) (N := ["_law_script", "_law_pen_here", "_law_lap", "_law_begin", "_law_finish", "_law_due", "_law_picks", "_law_again", "_law_k", "_law_cells", "_law_found", "_law_alike", "_law_pair"]) (sc := defScope s_law) (by decide +kernel)) (fun _ _ _ _ _ => (pg_name (i := 8) sc_law.nd rfl (Or.inl rfl))) (fun _ _ _ _ _ => pts_one (pt_not (pt_val (pe_call G__law_is_told (hr.mono (by omega)) (by rfl) T.g__law_is_told T.F__law_is_told.kp T.b__law_is_told .nil pass0 (pa_cons (pv 1) (pa_cons (pv 3) (pa_cons (pv 4) (pa_cons (pv 5) (pa_cons (pv 8) pa_nil)))))) (fun _ => rfl)))) (fun _ _ _ _ _ => (pv 8))) (pe_lst pa_nil) (nomark _))
        (pss_one (ps_ret pe_bl))
        pss_nil)
      (pss_cons (ps_set (i := 9) sc_law.nd rfl (Or.inr rfl) (pe_op op_sub (pe_ix ix_tup (pe_ix ix_list (pv 5) (pe_ix ix_list (pv 6) (pe_op op_add pe_int (pv 2)) (fun _ _ => rfl)) (fun _ _ => rfl)) pe_int (fun _ _ => rfl)) (pe_ix ix_tup (pe_ix ix_list (pv 5) (pe_ix ix_list (pv 6) (pe_op op_add pe_int (pv 2)) (fun _ _ => rfl)) (fun _ _ => rfl)) pe_int (fun _ _ => rfl))))
      (pss_cons (ps_set (i := 10) sc_law.nd rfl (Or.inl rfl) (pe_call G_cover_level (hr.mono (by omega)) (by rfl) T.g_cover_level T.F_cover_level.kp T.b_cover_level .nil pass0 (pa_cons (pv 3) (pa_cons (pv 4) (pa_cons (pe_op op_sub (pe_bits (pv 9)) pe_int) pa_nil)))))
      (pss_cons (ps_setLc (i := 11) (own := [("_law_pair", 12)]) (g := gName 12) (by rfl) sc_law.nd rfl rfl (sw_true rfl rfl rfl (by decide +kernel)) (pi_list (pv 5)) (blkOk_by (own := [("_law_pair", 12)]) (N := ["_law_script", "_law_pen_here", "_law_lap", "_law_begin", "_law_finish", "_law_due", "_law_picks", "_law_again", "_law_k", "_law_cells", "_law_found", "_law_alike", "_law_pair"]) (sc := defScope s_law) (by decide +kernel)) (fun _ _ _ _ _ => (pg_name (i := 12) sc_law.nd rfl (Or.inl rfl))) (fun _ _ _ _ _ => pts_one (pt_cmpR op_eq (pe_op op_sub (pe_ix (r := rIxT K) ix_tup (pv 12) pe_int (fun _ _ => rfl)) (pe_ix (r := rIxT K) ix_tup (pv 12) pe_int (fun _ _ => rfl))) (pv 9) (nomark _))) (fun _ _ _ _ _ => (pv 12)))
      (pss_one (ps_if (PW.pt (pw_or (pt_cmpR op_ne (pe_callB call_len_seq (by rfl) T.m_len PySem.boot_len (pa_cons (pv 10) pa_nil)) (pe_callB call_len_seq (by rfl) T.m_len PySem.boot_len (pa_cons (pv 11) pa_nil)) (nomark _)) (pw_or (pt_not (pt_val (pe_call G__law_is_block (hr.mono (by omega)) (by rfl) T.g__law_is_block T.F__law_is_block.kp T.b__law_is_block .nil pass0 (pa_cons (pe_ix ix_list (pv 10) pe_int (fun _ _ => rfl)) (pa_cons (pe_ix ix_list (pv 11) pe_int (fun _ _ => rfl)) pa_nil))) (fun _ => rfl))) (pw_or1 (pt_not (pt_val (pe_call G__law_is_block (hr.mono (by omega)) (by rfl) T.g__law_is_block T.F__law_is_block.kp T.b__law_is_block .nil pass0 (pa_cons (pe_ix ix_list (pv 10) (pe_un un_neg pe_int) (fun _ _ => rfl)) (pa_cons (pe_ix ix_list (pv 11) (pe_un un_neg pe_int) (fun _ _ => rfl)) pa_nil))) (fun _ => rfl)))))))
        (pss_one (ps_ret pe_bl))
        pss_nil))))))))))))
    (pss_one (ps_ret pe_bl)))), ?_⟩
    refine ⟨_, rfl, a, ns, rfl, hS, hl, fun τ H1 sm1 np hT => ?_⟩
    dsimp only [gName]
    walk_at "r"
    refine ⟨a, _, rfl, .inl (sm1.seq hS), ?_⟩
    rw [List.length_map]
    refine ⟨_, _, rfl, ?_⟩
    obtain ⟨N, hN, hN6⟩ : ∃ N : Int, N = (if (ns.length : Int) < 1 then (ns.length : Int) else 1) ∧ N ≤ 1 := ⟨_, rfl, by split <;> omega⟩
    rw [← hN]
    walk_at "r"
    refine flR (fun i σ H' => ∃ (z2 z3 z4 z5 z6 z7 z8 z9 z10 z11 z12 : Option V), σ = [some (.ref a), some (.ref τ.p), z2, z3, z4, z5, z6, z7, z8, z9, z10, z11, z12] ∧ Pen H' τ (1000 * i)) ⟨none, none, none, none, none, none, none, none, none, none, none, rfl, hT⟩ ?_ ?_
    · rintro i σ H2 hi ⟨z2, z3, z4, z5, z6, z7, z8, z9, z10, z11, z12, rfl, hT2⟩ D' B
      have hi6 : i < 2 := by omega
      dsimp only [gName]
      refine ⟨_, rfl, τ, 1000 * i, rfl, by omega, hT2, fun u b f H3 hbf hf tb1 tf1 hu hT3 b3 => ?_⟩
      refine ⟨u, _, rfl, .inl (.inl hu), rfl, _, _, rfl, _, _, rfl, rfl, ?_⟩
      dsimp only [gName]
      have p72 : (2 : Nat) ^ 3998 < 2 ^ 3999 := by decide
      have p300 : (2 : Nat) ^ 3999 < 2 ^ 4000 := by decide
      refine ⟨_, rfl, _, rfl, b, f, rfl, hbf, hf, fun l us L H4 hL nl el BL s4 => ?_⟩
      dsimp only [gName]
      obtain ⟨M, l', r, hP⟩ := pts_ex hbf (show f < 2 ^ 4000 by omega)
      have eL := hL M l' r hP
      subst eL
      have hlen := BL.len
      have hcl := cov_len b M l' r
      have bl1 := bits_len_le l' 4001
      have bl2 := bits_len_le r 4001
      have hT4 := hT3.up s4
      have fwb : Fw b := by unfold Fw; omega
      refine ⟨_, rfl, _, rfl, τ, _, b, rfl, by omega, fwb, by omega, hT4, fun v1 H5 hv1 hT5 b5 => ?_⟩
      have el5 := b5 _ _ (hT4.neL el) el
      have BL5 := BL.penB hT4 b5
      refine ⟨_, rfl, v1, .int (f : Nat), b, f, rfl, hv1, numI_int (k := 4000) (by decide) (bwn (by omega)), hbf, by omega, fun ac H6 nac fac s6 => ?_⟩
      have g0 := fac M l' r hP
      have el6 := s6 _ _ el5
      have BL6 := BL5.same s6
      have hT6 := hT5.up s6
      have pw14 : (2 : Nat) ^ 14 < 2 ^ 300 := by decide
      have bk : Bw 300 (((cov b M l' r).length : Nat) : Int) := bwn (by omega)
      obtain ⟨dx0, w0, j1, j2, j3⟩ := id g0
      refine ⟨_, rfl, l, _, rfl, .inl (.inl (.inl el6)), ?_⟩
      rw [hlen]
      refine ⟨ac, dx0, _, rfl, j1, .inl ⟨_, rfl⟩, ac, _, _, _, 300, rfl, g0, numI_int (by decide) bk, bk, bk, by decide, fun H7 s7 => ⟨_, rfl, ?_⟩⟩
      rw [decide_eq_true rfl]
      refine ⟨_, rfl, iteF ?_⟩
      dsimp only [tNext]
      have el7 := s7 _ _ el6
      have BL7 := BL6.same s7
      have hT7 := hT6.up s7
      refine ⟨_, rfl, ?_⟩
      refine ⟨len_le (Nat.le_of_ble_eq_true rfl), fun e1 ne1 => ?_⟩
      generalize eH8 : upd H7 e1 _ = H8
      obtain ⟨se1, he1⟩ := new_step ne1 eH8
      clear eH8
      refine ⟨_, _, .lst (.inl (.inl (se1 _ _ el7))) (BL7.same se1).dp, .lst (.inl (.inl he1)) .nil, shaped_blk _, by decide, ?_⟩
      rw [eqv_nil]
      refine ⟨_, rfl, ?_⟩
      have hT8 := hT7.up se1
      have el8 := se1 _ _ el7
      have BL8 := BL7.same se1
      by_cases hL0 : cov b M l' r = []
      · have e0 : ((cov b M l' r).map blkD).isEmpty = true := by rw [hL0]; rfl
        rw [e0]
        refine iteT ?_
        exact B.ct _ _ ⟨_, _, _, _, _, _, _, _, _, _, _, rfl, hT8.le (by omega)⟩
      have hLp : 0 < (cov b M l' r).length := List.length_pos_iff.mpr hL0
      have e0 : ((cov b M l' r).map blkD).isEmpty = false := by
        cases h : cov b M l' r with
        | nil => exact absurd h hL0
        | cons x y => rfl
      rw [e0]
      refine iteF ?_
      dsimp only [tNext]
      refine ⟨_, rfl, l, _, rfl, .inl (.inl (.inl el8)), ?_⟩
      rw [hlen]
      walk_at "r"
      refine ⟨len_le (Nat.le_of_ble_eq_true rfl), fun l1 nl1 => ?_⟩
      generalize eH9 : upd H8 l1 _ = H9
      obtain ⟨sl1, hl1⟩ := new_step nl1 eH9
      clear eH9
      have hT9 := hT8.up sl1
      have el9 := sl1 _ _ el8
      have BL9 := BL8.same sl1
      obtain ⟨C, eC⟩ : ∃ C, C = cov b M l' r := ⟨_, rfl⟩
      rw [← eC] at hLp hlen hcl BL9
      replace hl1 : H9 l1 = some (.lst [.int 0, .int (((C.length : Nat) : Int) - 1)]) := by
        rw [eC]
        exact hl1
      refine ⟨4, rfl, by decide, by decide, fun D nD => lc_range (lo := 0) (n := 4) (fun j H' => ∃ ks : List Nat, H' D = some (.lst (nv ks)) ∧ (∀ k ∈ ks, k < C.length) ∧ ks.length = j ∧ Pen H' τ (1000 * i + 70 + j) ∧ But τ.p H9 H' ∧ H' l1 = some (.lst [.int 0, .int ((C.length : Nat) - 1)])) ⟨[], upd_same, by simp, rfl, (hT9.up (sm_upd nD)).le (by omega), But.of (sm_upd nD), (sm_upd nD) _ _ hl1⟩ ?_ ?_⟩
      · rintro j H' hj ⟨ks, eD, hks, hkl, hT', b', e1⟩
        refine ⟨rfl, ?_⟩
        dsimp only [tYes]
        rw [if_pos rfl]
        have el' := b' _ _ (hT9.neL el9) el9
        refine ⟨_, rfl, _, rfl, l, _, rfl, .inl (.inl (.inl el')), ?_⟩
        rw [hlen]
        refine ⟨τ, _, ((C.length : Nat) : Int), rfl, by omega, by omega, by omega, hT', fun d H2 g g' hT2 b2 => ?_⟩
        obtain ⟨x, rfl⟩ := Int.eq_ofNat_of_zero_le g
        have npD : D ≠ τ.p := hT'.neL eD
        have eD2 := b2 _ _ npD eD
        have hj4 : j < 4 := hj
        refine ⟨_, eD2, len_lt (by rw [nv_len]; omega), ks ++ [x], by rw [upd_same, nv_app], fun k hk => ?_, by rw [List.length_append]; show _ + 1 = _; omega, ?_, ?_, ?_⟩
        · rcases List.mem_append.mp hk with hk | hk
          · exact hks k hk
          · rw [List.mem_singleton.mp hk]
            omega
        · obtain ⟨n1, n2⟩ := hT9.new nD
          exact (hT2.le (by omega)).updN n1 n2
        · exact but_newP (b'.trans b2) nD
        · rw [upd_ne (fun z => by rw [← z, hl1] at nD; cases nD)]
          exact b2 _ _ (hT'.neL e1) e1
      rintro H10 ⟨ks, eD, hks, hkl, hT10, b10, e1⟩
      refine ⟨l1, D, _, _, rfl, rfl, e1, eD, len_le (by rw [nv_len]; show 2 + _ ≤ _; omega), fun lp nlp => ?_⟩
      have e : [V.int 0, .int (((C.length : Nat) : Int) - 1)] ++ nv ks = nv (0 :: (C.length - 1) :: ks) := by
        show V.int 0 :: .int (((C.length : Nat) : Int) - 1) :: nv ks = .int ((0 : Nat) : Int) :: .int ((C.length - 1 : Nat) : Int) :: nv ks
        rw [show ((C.length - 1 : Nat) : Int) = ((C.length : Nat) : Int) - 1 by omega]
        rfl
      rw [e]
      obtain ⟨pk, epk⟩ : ∃ pk, pk = 0 :: (C.length - 1) :: ks := ⟨_, rfl⟩
      have hpk : ∀ k ∈ pk, k < C.length := fun k hk => by
        rw [epk] at hk
        rcases List.mem_cons.mp hk with rfl | hk
        · exact hLp
        rcases List.mem_cons.mp hk with rfl | hk
        · omega
        · exact hks k hk
      have hpl : pk.length = 6 := by
        rw [epk]
        show ks.length + 2 = 6
        omega
      rw [← epk]
      generalize eS : upd H10 lp _ = H11
      obtain ⟨s11, hlp⟩ := new_step nlp eS
      clear eS
      have hT11 := hT10.up s11
      have b911 : But τ.p H9 H11 := b10.trans (But.of s11)
      have el11 := b911 _ _ (hT9.neL el9) el9
      have BL11 := BL9.penB hT9 b911
      dsimp only [gName]
      refine ⟨_, rfl, ?_⟩
      refine ⟨lp, rfl, ⟨_, .inl (.inl hlp)⟩, fun D2 nD2 => lc_list (xs := nv pk) (fun j H' => H' D2 = some (.lst []) ∧ Pen H' τ (1000 * i + 80 + 10 * j) ∧ But τ.p H11 H') ⟨upd_same, (hT11.up (sm_upd nD2)).le (by omega), But.of (sm_upd nD2)⟩ ?_ ?_ ?_⟩
      · rintro j H' _ ⟨eD2, hT', b'⟩
        exact .inl (.inl (b' _ _ (hT11.neL hlp) hlp))
      · rintro j x H' hx ⟨eD2, hT', b'⟩
        obtain ⟨k, hk, rfl⟩ := nv_get hx
        have hj6 : j < 6 := by
          have := (List.getElem?_eq_some_iff.mp hk).1
          omega
        have hkC := hpk k (List.mem_of_getElem? hk)
        have el' := b' _ _ (hT11.neL el11) el11
        have BL' := BL11.penB hT11 b'
        refine ⟨rfl, ?_⟩
        refine ⟨_, rfl, _, rfl, _, rfl, _, rfl, _, rfl, τ, _, b, f, k, M, l', r, l, us, rfl, hbf, hf, tb1, tf1, hP, el', eC ▸ BL', eC ▸ hkC, by omega, hT', fun H'' hT'' b'' => ?_⟩
        refine ⟨_, rfl, iteF ?_⟩
        exact ⟨b'' _ _ (hT'.neL eD2) eD2, hT''.le (by omega), b'.trans b''⟩
      · rintro H12 ⟨eD2, hT12, b12⟩
        rw [nv_len, hpl] at hT12
        refine ⟨len_le (Nat.le_of_ble_eq_true rfl), fun e2 ne2 => ?_⟩
        generalize eH13 : upd H12 e2 _ = H13
        obtain ⟨se2, he2⟩ := new_step ne2 eH13
        clear eH13
        refine ⟨.list [], .list [], .lst (.inl (.inl (se2 _ _ eD2))) .nil, .lst (.inl (.inl he2)) .nil, by decide, by decide, _, rfl, iteF ?_⟩
        dsimp only [tNext]
        have b13 := b12.trans (But.of se2)
        have el13 := b13 _ _ (hT11.neL el11) el11
        have hlp13 := b13 _ _ (hT11.neL hlp) hlp
        have BL13 := BL11.penB hT11 b13
        have hT13 := hT12.up se2
        obtain ⟨k0, hk0⟩ : ∃ k0, pk[2 + i]? = some k0 := ⟨pk[2 + i], List.getElem?_eq_getElem (by omega)⟩
        have hkC := hpk k0 (List.mem_of_getElem? hk0)
        obtain ⟨s0, q0, hc⟩ := cov_formM (b := b) (M := M) (l := l') (r := r) (k := k0) (eC ▸ hkC)
        obtain ⟨hq3, Lv, _⟩ := cov_cases hP hbf (by omega) hc
        have hlo := Lv.lo
        have hhi := Lv.hi
        rw [← eC] at hc
        obtain ⟨tk, htk1, htk2⟩ := BL13.get hc
        have hnk : (nv pk)[2 + i]? = some (.int (k0 : Nat)) := by
          unfold nv
          rw [List.getElem?_map, hk0]
          rfl
        have ei2 : (2 : Int) + (0 + ((i : Nat) : Int)) = ((2 + i : Nat) : Int) := by omega
        refine ⟨_, rfl, _, rfl, _, rfl, _, _, rfl, rfl, ?_⟩
        dsimp only
        rw [ei2]
        refine ⟨lp, _, _, .int (k0 : Nat), rfl, rfl, .inl (.inl hlp13), at_of (j := 2 + i) rfl hnk, ?_⟩
        refine ⟨l, _, _, .ref tk, rfl, rfl, .inl (.inl el13), at_of (j := k0) rfl htk1, ?_⟩
        refine ⟨tk, _, _, .int ((s0 + 2 ^ q0 : Nat) : Int), rfl, rfl, .inl (.inl htk2), at_of (j := 1) rfl rfl, ?_⟩
        refine ⟨_, rfl, _, rfl, _, rfl, _, _, rfl, rfl, ?_⟩
        dsimp only
        rw [ei2]
        refine ⟨lp, _, _, .int (k0 : Nat), rfl, rfl, .inl (.inl hlp13), at_of (j := 2 + i) rfl hnk, ?_⟩
        refine ⟨l, _, _, .ref tk, rfl, rfl, .inl (.inl el13), at_of (j := k0) rfl htk1, ?_⟩
        refine ⟨tk, _, _, .int ((s0 : Nat) : Int), rfl, rfl, .inl (.inl htk2), at_of (j := 0) rfl rfl, ?_⟩
        refine ⟨_, _, rfl, rfl, ?_⟩
        dsimp only
        have ecs : ((s0 + 2 ^ q0 : Nat) : Int) - ((s0 : Nat) : Int) = ((2 ^ q0 : Nat) : Int) := by omega
        rw [ecs]
        dsimp only [gName]
        have ebits : Builtin.Int.intBits ((2 ^ q0 : Nat) : Int) = q0 + 1 := by
          unfold Builtin.Int.intBits
          have : ¬ (((2 ^ q0 : Nat) : Int) == 0) = true := by
            have h0 := Nat.two_pow_pos q0
            generalize 2 ^ q0 = z at h0
            simp
            omega
          rw [if_neg this]
          show Nat.log2 (2 ^ q0) + 1 = _
          rw [Nat.log2_two_pow]
        refine ⟨_, rfl, _, rfl, ?_⟩
        walk_at "r"
        rw [ebits]
        have bq : q0 < 2 ^ 64 := by omega
        have dq := (fo_lim (k := 64) (by decide) (bwn bq)).2
        refine ⟨.int (b : Nat), .int (f : Nat), .int (q0 : Nat), b, f, q0, by rw [show ((q0 : Nat) : Int) = ((q0 + 1 : Nat) : Int) - 1 by omega]; rfl, numI_int (k := 4000) (by decide) (bwn (by omega)), numI_int (k := 4000) (by decide) (bwn (by omega)), numI_int (k := 64) (by decide) (bwn bq), dq, hbf, by omega, tb1, tf1, fun lf us' H14 nlf elf hBF s14 => ?_⟩
        have BF := hBF M l' r hP
        rw [← eC] at BF
        have el14 := s14 _ _ el13
        have BL14 := BL13.same s14
        have hT14 := hT13.up s14
        dsimp only [gName]
        refine ⟨_, rfl, l, rfl, ⟨_, .inl (.inl el14)⟩, fun D3 nD3 => lc_list (xs := us) (fun n H' => Same H14 H' ∧ ∃ ws, H' D3 = some (.lst ws) ∧ BlkA H' ws ((C.take n).filter (ofSize q0))) ⟨sm_upd nD3, [], upd_same, .nil⟩ ?_ ?_ ?_⟩
        · rintro n H' _ ⟨sm, _⟩
          exact .inl (.inl (sm _ _ el14))
        · rintro n x H' hx ⟨sm, ws, eD3, Bw⟩
          refine ⟨rfl, ?_⟩
          have hn : n < C.length := by
            have := (List.getElem?_eq_some_iff.mp hx).1
            omega
          have hLn : C[n]? = some C[n] := List.getElem?_eq_getElem hn
          obtain ⟨t, g1, g2⟩ := BL14.get hLn
          rw [hx] at g1
          cases g1
          have g3 := sm _ _ g2
          refine ⟨_, rfl, t, _, _, _, rfl, rfl, .inl (.inl g3), at_of (j := 1) rfl rfl, ?_⟩
          refine ⟨_, rfl, t, _, _, _, rfl, rfl, .inl (.inl g3), at_of (j := 0) rfl rfl, ?_⟩
          walk_at "r"
          rw [take_filter hLn]
          have tq := Nat.two_pow_pos q0
          refine ifD (fun hb => ?_) (fun hb => ?_)
          · have hb1 := V.int.inj hb
            have hb2 : ofSize q0 C[n] = true := by
              unfold ofSize
              rw [decide_eq_true_eq]
              omega
            rw [if_pos hb2]
            have lw := Bw.len
            have lw2 := List.length_filter_le (ofSize q0) (C.take n)
            have lw3 := List.length_take_le n C
            refine ⟨_, rfl, ws, eD3, len_lt (by omega), sm_mut sm nD3, ws ++ [.ref t], upd_same, ?_⟩
            have Bw2 : BlkA H' (ws ++ [.ref t]) ((C.take n).filter (ofSize q0) ++ [C[n]]) := Bw.app (.cons g3 .nil)
            exact Bw2.but ((But.refl H').upd) fun u xs hu z => by
              rw [z, eD3] at hu
              cases hu
          · have hb2 : ¬ ofSize q0 C[n] = true := fun z => by
              unfold ofSize at z
              rw [decide_eq_true_eq] at z
              refine hb ?_
              show V.int _ = V.int _
              congr 1
              omega
            rw [if_neg hb2, List.append_nil]
            exact ⟨sm, ws, eD3, Bw⟩
        · rintro H15 ⟨sm, ws, eD3, Bw⟩
          rw [hlen, List.take_length] at Bw
          dsimp only [gName]
          have hmem : (s0, s0 + 2 ^ q0) ∈ C.filter (ofSize q0) := List.mem_filter.mpr ⟨List.mem_of_getElem? hc, by
            unfold ofSize
            rw [decide_eq_true_eq]
            exact Nat.add_sub_cancel_left _ _⟩
          have hsml : ∀ p ∈ C.filter (ofSize q0), p.1 < 2 ^ 4000 ∧ p.2 < 2 ^ 4000 := fun p hp => by
            have := (List.mem_filter.mp hp).1
            rw [eC] at this
            exact cov_small hP hbf (by omega) p this
          have lflt := List.length_filter_le (ofSize q0) C
          generalize C.filter (ofSize q0) = F at BF Bw hmem hsml lflt
          have hF := List.length_pos_of_mem hmem
          have lf1 := BF.len
          have lf2 := Bw.len
          have elf15 := sm _ _ elf
          have BF15 := BF.same sm
          have hT15 := hT14.up sm
          refine ⟨_, rfl, lf, _, rfl, .inl (.inl (.inl elf15)), ?_⟩
          refine ⟨_, rfl, D3, _, rfl, .inl (.inl (.inl eD3)), ?_⟩
          refine ⟨rfl, _, rfl, ?_⟩
          rw [decide_eq_true (by rw [lf1, lf2])]
          refine iteF ?_
          obtain ⟨p0, hp0⟩ : ∃ p0, F[0]? = some p0 := ⟨F[0], List.getElem?_eq_getElem hF⟩
          obtain ⟨p1, hp1⟩ : ∃ p1, F[F.length - 1]? = some p1 := ⟨F[F.length - 1], List.getElem?_eq_getElem (by omega)⟩
          obtain ⟨u0, x1, x2, y1, y2, y3, y4⟩ := BF15.get hp0
          obtain ⟨w0', m1, m2⟩ := Bw.get hp0
          have sz0 := hsml p0 (List.mem_of_getElem? hp0)
          have sz1 := hsml p1 (List.mem_of_getElem? hp1)
          refine ⟨_, rfl, lf, _, _, .ref u0, rfl, rfl, .inl (.inl elf15), at_of (j := 0) rfl y1, ?_⟩
          refine ⟨_, rfl, D3, _, _, .ref w0', rfl, rfl, .inl (.inl eD3), at_of (j := 0) rfl m1, ?_⟩
          refine ⟨u0, w0', x1, x2, p0.1, p0.2, rfl, y2, y3, y4, m2, sz0.1, sz0.2, fun H16 s16 => ?_⟩
          refine ⟨_, rfl, iteF ?_⟩
          obtain ⟨u1, x3, x4, y5, y6, y7, y8⟩ := (BF15.same s16).get hp1
          obtain ⟨w1', m3, m4⟩ := (Bw.same s16).get hp1
          refine ⟨_, rfl, 1, rfl, lf, _, _, .ref u1, rfl, rfl, .inl (.inl (s16 _ _ elf15)), atI_neg1 (by rw [lf1]; exact y5), ?_⟩
          refine ⟨_, rfl, 1, rfl, D3, _, _, .ref w1', rfl, rfl, .inl (.inl (s16 _ _ eD3)), atI_neg1 (by rw [lf2]; exact m3), ?_⟩
          refine ⟨u1, w1', x3, x4, p1.1, p1.2, rfl, y6, y7, y8, m4, sz1.1, sz1.2, fun H17 s17 => ?_⟩
          refine ⟨_, rfl, iteF ?_⟩
          exact B.nx _ _ ⟨_, _, _, _, _, _, _, _, _, _, _, rfl, (hT15.up (s16.trans s17)).le (by omega)⟩
    · rintro σ H2 ⟨z2, z3, z4, z5, z6, z7, z8, z9, z10, z11, z12, rfl, hT2⟩
      exact q H2
end
end K45
set_option Elab.async false
set_option linter.all false
set_option maxRecDepth 100000
namespace K45
open PySem PySem.Spec PyProof.Rows L2
theorem run_false (w : World) : HandSHeadRun.RunEq R qv hk ob 12000 names (fw w false) := fun os => HX.run_join (endR (fw w false) os) (lk (fw w false)) sq ob (PySem.W.openGood qv names) (HX.valK fnL erL) (run1_false w os) (run2_false w os) (run3_false w os) (run4_false w os)
theorem run_true (w : World) : HandSHeadRun.RunEq R qv hk ob 12000 names (fw w true) := fun os => HX.run_join (endR (fw w true) os) (lk (fw w true)) sq ob (PySem.W.openGood qv names) (HX.valK fnL erL) (run1_true w os) (run2_true w os) (run3_true w os) (run4_true w os)
theorem run (w : World) : HandSHeadRun.RunEq R qv hk ob 12000 names w := PySem.W.byRow2 "special-get-raises" run_false run_true w
set_option maxHeartbeats 8000000 in
theorem top_ex {K : PySem.W.Frag} {h : Heap} {mg : Str → Option Value} (X : K.In h) (G : h.Ns mainGlobals mg) (c : HX.SaysK faL fnL erL [] exL h K) : ∃ T : Top K mg, ∀ (s : Shared) (v : Value), BindsTo s T.fd_law ⟨[v], []⟩ [("_law_script", v)] := by
  obtain ⟨x0, y0⟩ := He.ba (show (_ && _) = true from c.more)
  obtain ⟨x1, y1⟩ := He.ba (show (_ && _) = true from y0)
  obtain ⟨x2, y2⟩ := He.ba (show (_ && _) = true from y1)
  obtain ⟨x3, y3⟩ := He.ba (show (_ && _) = true from y2)
  obtain ⟨x4, y4⟩ := He.ba (show (_ && _) = true from y3)
  obtain ⟨fd0, D0⟩ := c.d.def_ 0 (d := dd_turns_of_int) rfl
  have F0 : Fun K "turns_of_int" "turns_of_int" s_turns_of_int _ fd0 := He5.fun_of D0
  have b0 := F0.binds (ps := ["number"]) fun _ _ _ _ _ _ us hl => match us, hl with | [_], _ => rfl
  obtain ⟨fd1, D1⟩ := c.d.def_ 1 (d := dd_turns) rfl
  have F1 : Fun K "turns" "turns" s_turns _ fd1 := He5.fun_of D1
  have b1 := F1.binds (ps := ["x"]) fun _ _ _ _ _ _ us hl => match us, hl with | [_], _ => rfl
  obtain ⟨fd2, D2⟩ := c.d.def_ 2 (d := dd_made) rfl
  have F2 : Fun K "made" "made" s_made _ fd2 := He5.fun_of D2
  have b2 := F2.binds (ps := ["found"]) fun _ _ _ _ _ _ us hl => match us, hl with | [_], _ => rfl
  obtain ⟨fd3, D3⟩ := c.d.def_ 3 (d := dd_of_int) rfl
  have F3 : Fun K "of_int" "of_int" s_of_int _ fd3 := He5.fun_of D3
  have b3 := F3.binds (ps := ["number"]) fun _ _ _ _ _ _ us hl => match us, hl with | [_], _ => rfl
  obtain ⟨fd4, D4⟩ := c.d.def_ 4 (d := dd_negative) rfl
  have F4 : Fun K "negative" "negative" s_negative _ fd4 := He5.fun_of D4
  have b4 := F4.binds (ps := ["x"]) fun _ _ _ _ _ _ us hl => match us, hl with | [_], _ => rfl
  obtain ⟨fd5, D5⟩ := c.d.def_ 5 (d := dd_order) rfl
  have F5 : Fun K "order" "order" s_order _ fd5 := He5.fun_of D5
  have b5 := F5.binds (ps := ["x", "y"]) fun _ _ _ _ _ _ us hl => match us, hl with | [_, _], _ => rfl
  obtain ⟨fd6, D6⟩ := c.d.def_ 6 (d := dd_bit) rfl
  have F6 : Fun K "bit" "bit" s_bit _ fd6 := He5.fun_of D6
  have b6 := F6.binds (ps := ["x", "place"]) fun _ _ _ _ _ _ us hl => match us, hl with | [_, _], _ => rfl
  obtain ⟨fd7, D7⟩ := c.d.def_ 7 (d := dd_merged) rfl
  have F7 : Fun K "merged" "merged" s_merged _ fd7 := He5.fun_of D7
  have b7 := F7.binds (ps := ["ours", "theirs"]) fun _ _ _ _ _ _ us hl => match us, hl with | [_, _], _ => rfl
  obtain ⟨fd8, D8⟩ := c.d.def_ 8 (d := dd_combined) rfl
  have F8 : Fun K "combined" "combined" s_combined _ fd8 := He5.fun_of D8
  have b8 := F8.binds (ps := ["x", "y", "table"]) fun _ _ _ _ _ _ us hl => match us, hl with | [_, _, _], _ => rfl
  obtain ⟨fd9, D9⟩ := c.d.def_ 9 (d := dd_toggled) rfl
  have F9 : Fun K "toggled" "toggled" s_toggled _ fd9 := He5.fun_of D9
  have b9 := F9.binds (ps := ["found", "place"]) fun _ _ _ _ _ _ us hl => match us, hl with | [_, _], _ => rfl
  obtain ⟨fd10, D10⟩ := c.d.def_ 10 (d := dd_plus_one) rfl
  have F10 : Fun K "plus_one" "plus_one" s_plus_one _ fd10 := He5.fun_of D10
  have b10 := F10.binds (ps := ["x"]) fun _ _ _ _ _ _ us hl => match us, hl with | [_], _ => rfl
  obtain ⟨fd11, D11⟩ := c.d.def_ 11 (d := dd_inverted) rfl
  have F11 : Fun K "inverted" "inverted" s_inverted _ fd11 := He5.fun_of D11
  have b11 := F11.binds (ps := ["x"]) fun _ _ _ _ _ _ us hl => match us, hl with | [_], _ => rfl
  obtain ⟨fd12, D12⟩ := c.d.def_ 12 (d := dd_total) rfl
  have F12 : Fun K "total" "total" s_total _ fd12 := He5.fun_of D12
  have b12 := F12.binds (ps := ["x", "y", "carry"]) fun _ _ _ _ _ _ us hl => match us, hl with | [_, _, _], _ => rfl
  obtain ⟨fd13, D13⟩ := c.d.def_ 13 (d := dd_minus) rfl
  have F13 : Fun K "minus" "minus" s_minus _ fd13 := He5.fun_of D13
  have b13 := F13.binds (ps := ["x", "y"]) fun _ _ _ _ _ _ us hl => match us, hl with | [_, _], _ => rfl
  obtain ⟨fd14, D14⟩ := c.d.def_ 14 (d := dd_shifted) rfl
  have F14 : Fun K "shifted" "shifted" s_shifted _ fd14 := He5.fun_of D14
  have b14 := F14.binds (ps := ["x", "amount"]) fun _ _ _ _ _ _ us hl => match us, hl with | [_, _], _ => rfl
  obtain ⟨fd15, D15⟩ := c.d.def_ 15 (d := dd_dropped) rfl
  have F15 : Fun K "dropped" "dropped" s_dropped _ fd15 := He5.fun_of D15
  have b15 := F15.binds (ps := ["x", "amount"]) fun _ _ _ _ _ _ us hl => match us, hl with | [_, _], _ => rfl
  obtain ⟨fd16, D16⟩ := c.d.def_ 16 (d := dd_power_of_two) rfl
  have F16 : Fun K "power_of_two" "power_of_two" s_power_of_two _ fd16 := He5.fun_of D16
  have b16 := F16.binds (ps := ["place"]) fun _ _ _ _ _ _ us hl => match us, hl with | [_], _ => rfl
  obtain ⟨fd17, D17⟩ := c.d.def_ 17 (d := dd_run_of) rfl
  have F17 : Fun K "run_of" "run_of" s_run_of _ fd17 := He5.fun_of D17
  have b17 := F17.binds (ps := ["start", "stop"]) fun _ _ _ _ _ _ us hl => match us, hl with | [_, _], _ => rfl
  obtain ⟨fd18, D18⟩ := c.d.def_ 18 (d := dd_last_turn) rfl
  have F18 : Fun K "last_turn" "last_turn" s_last_turn _ fd18 := He5.fun_of D18
  have b18 := F18.binds (ps := ["x"]) fun _ _ _ _ _ _ us hl => match us, hl with | [_], _ => rfl
  obtain ⟨fd19, D19⟩ := c.d.def_ 19 (d := dd_size) rfl
  have F19 : Fun K "size" "size" s_size _ fd19 := He5.fun_of D19
  have b19 := F19.binds (ps := ["x"]) fun _ _ _ _ _ _ us hl => match us, hl with | [_], _ => rfl
  obtain ⟨fd20, D20⟩ := c.d.def_ 20 (d := dd_height) rfl
  have F20 : Fun K "height" "height" s_height _ fd20 := He5.fun_of D20
  have b20 := F20.binds (ps := ["x"]) fun _ _ _ _ _ _ us hl => match us, hl with | [_], _ => rfl
  obtain ⟨fd21, D21⟩ := c.d.def_ 21 (d := dd_kept) rfl
  have F21 : Fun K "kept" "kept" s_kept _ fd21 := He5.fun_of D21
  have b21 := F21.binds (ps := ["x"]) fun _ _ _ _ _ _ us hl => match us, hl with | [_], _ => rfl
  obtain ⟨fd22, D22⟩ := c.d.def_ 22 (d := dd_order_of) rfl
  have F22 : Fun K "order_of" "order_of" s_order_of _ fd22 := He5.fun_of D22
  have b22 := F22.binds (ps := ["x", "y"]) fun _ _ _ _ _ _ us hl => match us, hl with | [_, _], _ => rfl
  obtain ⟨fd23, D23⟩ := c.d.def_ 23 (d := dd_is_int) rfl
  have F23 : Fun K "is_int" "is_int" s_is_int _ fd23 := He5.fun_of D23
  have b23 := F23.binds (ps := ["value"]) fun _ _ _ _ _ _ us hl => match us, hl with | [_], _ => rfl
  obtain ⟨fd24, D24⟩ := c.d.def_ 24 (d := dd_row_form) rfl
  have F24 : Fun K "row_form" "row_form" s_row_form _ fd24 := He5.fun_of D24
  have b24 := F24.binds (ps := ["members"]) fun _ _ _ _ _ _ us hl => match us, hl with | [_], _ => rfl
  obtain ⟨fd25, D25⟩ := c.d.def_ 25 (d := dd_given_form) rfl
  have F25 : Fun K "given_form" "given_form" s_given_form _ fd25 := He5.fun_of D25
  have b25 := F25.binds (ps := ["value"]) fun _ _ _ _ _ _ us hl => match us, hl with | [_], _ => rfl
  obtain ⟨fd26, D26⟩ := c.d.def_ 26 (d := dd_operand) rfl
  have F26 : Fun K "operand" "operand" s_operand _ fd26 := He5.fun_of D26
  have b26 := F26.binds (ps := ["value"]) fun _ _ _ _ _ _ us hl => match us, hl with | [_], _ => rfl
  obtain ⟨fd27, D27⟩ := c.d.def_ 27 (d := dd_number_form) rfl
  have F27 : Fun K "number_form" "number_form" s_number_form _ fd27 := He5.fun_of D27
  have b27 := F27.binds (ps := ["value"]) fun _ _ _ _ _ _ us hl => match us, hl with | [_], _ => rfl
  obtain ⟨fd28, D28⟩ := c.d.def_ 28 (d := dd_place_form) rfl
  have F28 : Fun K "place_form" "place_form" s_place_form _ fd28 := He5.fun_of D28
  have b28 := F28.binds (ps := ["value"]) fun _ _ _ _ _ _ us hl => match us, hl with | [_], _ => rfl
  obtain ⟨fd29, D29⟩ := c.d.def_ 29 (d := dd_range_forms) rfl
  have F29 : Fun K "range_forms" "range_forms" s_range_forms _ fd29 := He5.fun_of D29
  have b29 := F29.binds (ps := ["start", "stop"]) fun _ _ _ _ _ _ us hl => match us, hl with | [_, _], _ => rfl
  obtain ⟨fd30, D30⟩ := c.d.def_ 30 (d := dd_sum_of_ones) rfl
  have F30 : Fun K "sum_of_ones" "sum_of_ones" s_sum_of_ones _ fd30 := He5.fun_of D30
  have b30 := F30.binds (ps := ["rows"]) fun _ _ _ _ _ _ us hl => match us, hl with | [_], _ => rfl
  obtain ⟨fd31, D31⟩ := c.d.def_ 31 (d := dd_ranked) rfl
  have F31 : Fun K "ranked" "ranked" s_ranked _ fd31 := He5.fun_of D31
  have b31 := F31.binds (ps := ["x", "rank"]) fun _ _ _ _ _ _ us hl => match us, hl with | [_, _], _ => rfl
  obtain ⟨fd32, D32⟩ := c.d.def_ 32 (d := dd_less) rfl
  have F32 : Fun K "less" "less" s_less _ fd32 := He5.fun_of D32
  have b32 := F32.binds (ps := ["x", "y"]) fun _ _ _ _ _ _ us hl => match us, hl with | [_, _], _ => rfl
  obtain ⟨fd33, D33⟩ := c.d.def_ 33 (d := dd_low_part) rfl
  have F33 : Fun K "low_part" "low_part" s_low_part _ fd33 := He5.fun_of D33
  have b33 := F33.binds (ps := ["x", "place"]) fun _ _ _ _ _ _ us hl => match us, hl with | [_, _], _ => rfl
  obtain ⟨fd34, D34⟩ := c.d.def_ 34 (d := dd_high_part) rfl
  have F34 : Fun K "high_part" "high_part" s_high_part _ fd34 := He5.fun_of D34
  have b34 := F34.binds (ps := ["x", "place"]) fun _ _ _ _ _ _ us hl => match us, hl with | [_, _], _ => rfl
  obtain ⟨fd35, D35⟩ := c.d.def_ 35 (d := dd_ones_of) rfl
  have F35 : Fun K "ones_of" "ones_of" s_ones_of _ fd35 := He5.fun_of D35
  have b35 := F35.binds (ps := ["x"]) fun _ _ _ _ _ _ us hl => match us, hl with | [_], _ => rfl
  obtain ⟨fd36, D36⟩ := c.d.def_ 36 (d := dd_top_place) rfl
  have F36 : Fun K "top_place" "top_place" s_top_place _ fd36 := He5.fun_of D36
  have b36 := F36.binds (ps := ["x"]) fun _ _ _ _ _ _ us hl => match us, hl with | [_], _ => rfl
  obtain ⟨fd37, D37⟩ := c.d.def_ 37 (d := dd_block_stop) rfl
  have F37 : Fun K "block_stop" "block_stop" s_block_stop _ fd37 := He5.fun_of D37
  have b37 := F37.binds (ps := ["first", "level"]) fun _ _ _ _ _ _ us hl => match us, hl with | [_, _], _ => rfl
  obtain ⟨fd38, D38⟩ := c.d.def_ 38 (d := dd_parted) rfl
  have F38 : Fun K "parted" "parted" s_parted _ fd38 := He5.fun_of D38
  have b38 := F38.binds (ps := ["start", "stop"]) fun _ _ _ _ _ _ us hl => match us, hl with | [_, _], _ => rfl
  obtain ⟨fd39, D39⟩ := c.d.def_ 39 (d := dd_left_first) rfl
  have F39 : Fun K "left_first" "left_first" s_left_first _ fd39 := He5.fun_of D39
  have b39 := F39.binds (ps := ["start", "left", "level"]) fun _ _ _ _ _ _ us hl => match us, hl with | [_, _, _], _ => rfl
  obtain ⟨fd40, D40⟩ := c.d.def_ 40 (d := dd_right_first) rfl
  have F40 : Fun K "right_first" "right_first" s_right_first _ fd40 := He5.fun_of D40
  have b40 := F40.binds (ps := ["middle", "right", "level"]) fun _ _ _ _ _ _ us hl => match us, hl with | [_, _, _], _ => rfl
  obtain ⟨fd41, D41⟩ := c.d.def_ 41 (d := dd_cover_size) rfl
  have F41 : Fun K "cover_size" "cover_size" s_cover_size _ fd41 := He5.fun_of D41
  have b41 := F41.binds (ps := ["start", "stop"]) fun _ _ _ _ _ _ us hl => match us, hl with | [_, _], _ => rfl
  obtain ⟨fd42, D42⟩ := c.d.def_ 42 (d := dd_cover_member) rfl
  have F42 : Fun K "cover_member" "cover_member" s_cover_member _ fd42 := He5.fun_of D42
  have b42 := F42.binds (ps := ["start", "stop", "rank"]) fun _ _ _ _ _ _ us hl => match us, hl with | [_, _, _], _ => rfl
  obtain ⟨fd43, D43⟩ := c.d.def_ 43 (d := dd_block_around) rfl
  have F43 : Fun K "block_around" "block_around" s_block_around _ fd43 := He5.fun_of D43
  have b43 := F43.binds (ps := ["start", "stop", "place"]) fun _ _ _ _ _ _ us hl => match us, hl with | [_, _, _], _ => rfl
  obtain ⟨fd44, D44⟩ := c.d.def_ 44 (d := dd_far_of) rfl
  have F44 : Fun K "far_of" "far_of" s_far_of _ fd44 := He5.fun_of D44
  have b44 := F44.binds (ps := ["form"]) fun _ _ _ _ _ _ us hl => match us, hl with | [_], _ => rfl
  obtain ⟨fd45, D45⟩ := c.d.def_ 45 (d := dd_as_range) rfl
  have F45 : Fun K "as_range" "as_range" s_as_range _ fd45 := He5.fun_of D45
  have b45 := F45.binds (ps := ["first", "level"]) fun _ _ _ _ _ _ us hl => match us, hl with | [_, _], _ => rfl
  obtain ⟨fd46, D46⟩ := c.d.def_ 46 (d := dd_cover_count) rfl
  have F46 : Fun K "cover_count" "cover_count" s_cover_count _ fd46 := He5.fun_of D46
  have b46 := F46.binds (ps := ["start", "stop"]) fun _ _ _ _ _ _ us hl => match us, hl with | [_, _], _ => rfl
  obtain ⟨fd47, D47⟩ := c.d.def_ 47 (d := dd_cover_block) rfl
  have F47 : Fun K "cover_block" "cover_block" s_cover_block _ fd47 := He5.fun_of D47
  have b47 := F47.binds (ps := ["start", "stop", "k"]) fun _ _ _ _ _ _ us hl => match us, hl with | [_, _, _], _ => rfl
  obtain ⟨fd48, D48⟩ := c.d.def_ 48 (d := dd_cover_at) rfl
  have F48 : Fun K "cover_at" "cover_at" s_cover_at _ fd48 := He5.fun_of D48
  have b48 := F48.binds (ps := ["start", "stop", "address"]) fun _ _ _ _ _ _ us hl => match us, hl with | [_, _, _], _ => rfl
  obtain ⟨fd49, D49⟩ := c.d.def_ 49 (d := dd_cover_level) rfl
  have F49 : Fun K "cover_level" "cover_level" s_cover_level _ fd49 := He5.fun_of D49
  have b49 := F49.binds (ps := ["start", "stop", "order"]) fun _ _ _ _ _ _ us hl => match us, hl with | [_, _, _], _ => rfl
  obtain ⟨fd50, D50⟩ := c.d.def_ 50 (d := dd__law_pen) rfl
  have F50 : Fun K "_law_pen" "_law_pen" s__law_pen _ fd50 := He5.fun_of D50
  have b50 := F50.binds (ps := ["_law_script"]) fun _ _ _ _ _ _ us hl => match us, hl with | [_], _ => rfl
  obtain ⟨fd51, D51⟩ := c.d.def_ 51 (d := dd__law_draw) rfl
  have F51 : Fun K "_law_draw" "_law_draw" s__law_draw _ fd51 := He5.fun_of D51
  have b51 := F51.binds (ps := ["_law_pen_here", "_law_span"]) fun _ _ _ _ _ _ us hl => match us, hl with | [_, _], _ => rfl
  obtain ⟨fd52, D52⟩ := c.d.def_ 52 (d := dd__law_great) rfl
  have F52 : Fun K "_law_great" "_law_great" s__law_great _ fd52 := He5.fun_of D52
  have b52 := F52.binds (ps := ["_law_pen_here", "_law_figures"]) fun _ _ _ _ _ _ us hl => match us, hl with | [_, _], _ => rfl
  obtain ⟨fd53, D53⟩ := c.d.def_ 53 (d := dd__law_given) rfl
  have F53 : Fun K "_law_given" "_law_given" s__law_given _ fd53 := He5.fun_of D53
  have b53 := F53.binds (ps := ["_law_pen_here", "_law_value"]) fun _ _ _ _ _ _ us hl => match us, hl with | [_, _], _ => rfl
  obtain ⟨fd54, D54⟩ := c.d.def_ 54 (d := dd__law_is_block) rfl
  have F54 : Fun K "_law_is_block" "_law_is_block" s__law_is_block _ fd54 := He5.fun_of D54
  have b54 := F54.binds (ps := ["_law_found", "_law_due"]) fun _ _ _ _ _ _ us hl => match us, hl with | [_, _], _ => rfl
  obtain ⟨fd55, D55⟩ := c.d.def_ 55 (d := dd__law_places) rfl
  have F55 : Fun K "_law_places" "_law_places" s__law_places _ fd55 := He5.fun_of D55
  have b55 := F55.binds (ps := ["_law_pen_here", "_law_many", "_law_limit"]) fun _ _ _ _ _ _ us hl => match us, hl with | [_, _, _], _ => rfl
  obtain ⟨fd56, D56⟩ := c.d.def_ 56 (d := dd__law_integer) rfl
  have F56 : Fun K "_law_integer" "_law_integer" s__law_integer _ fd56 := He5.fun_of D56
  have b56 := F56.binds (ps := ["_law_spots"]) fun _ _ _ _ _ _ us hl => match us, hl with | [_], _ => rfl
  obtain ⟨fd57, D57⟩ := c.d.def_ 57 (d := dd__law_cover) rfl
  have F57 : Fun K "_law_cover" "_law_cover" s__law_cover _ fd57 := He5.fun_of D57
  have b57 := F57.binds (ps := ["_law_begin", "_law_finish"]) fun _ _ _ _ _ _ us hl => match us, hl with | [_, _], _ => rfl
  obtain ⟨fd58, D58⟩ := c.d.def_ 58 (d := dd__law_range) rfl
  have F58 : Fun K "_law_range" "_law_range" s__law_range _ fd58 := He5.fun_of D58
  have b58 := F58.binds (ps := ["_law_pen_here"]) fun _ _ _ _ _ _ us hl => match us, hl with | [_], _ => rfl
  obtain ⟨fd59, D59⟩ := c.d.def_ 59 (d := dd__law_is_told) rfl
  have F59 : Fun K "_law_is_told" "_law_is_told" s__law_is_told _ fd59 := He5.fun_of D59
  have b59 := F59.binds (ps := ["_law_pen_here", "_law_begin", "_law_finish", "_law_due", "_law_k"]) fun _ _ _ _ _ _ us hl => match us, hl with | [_, _, _, _, _], _ => rfl
  obtain ⟨fd60, D60⟩ := c.d.def_ 60 (d := dd_law) rfl
  have F60 : Fun K "law" "law" s_law _ fd60 := He5.fun_of D60
  have b60 := F60.binds (ps := ["_law_script"]) fun _ _ _ _ _ _ us hl => match us, hl with | [_], _ => rfl
  obtain ⟨fd61, D61⟩ := c.d.def_ 61 (d := dd_Far___init__) rfl
  have F61 : FunD K "__init__" "Far.__init__" (defArgs s_Far___init__) (defBody s_Far___init__) (defScope s_Far___init__) [.int (0)] [] (He.fAd K ("Far", some "__init__")) fd61 := D61
  have b61 := HX.binds_nil (F61.binds1 (ps := ["self", "value"]) 2 1 (by simp) rfl fun _ _ _ _ _ _ _ us its hl hl2 => match us, hl, its, hl2 with | [_, _], _, [_], _ => ⟨_, rfl, rfl⟩)
  obtain ⟨ds61, dv61, bd61⟩ := F61.binds1 (ps := ["self", "value"]) 1 0 (by simp) rfl fun _ _ _ _ _ _ _ us its hl hl2 => match us, hl, its, hl2 with | [_], _, [_], _ => ⟨_, rfl, rfl⟩
  obtain ⟨fd62, D62⟩ := c.d.def_ 62 (d := dd_Far___eq__) rfl
  have F62 : Fun K "__eq__" "Far.__eq__" s_Far___eq__ _ fd62 := He5.fun_of D62
  have b62 := F62.binds (ps := ["self", "other"]) fun _ _ _ _ _ _ us hl => match us, hl with | [_, _], _ => rfl
  obtain ⟨t_LAST_PLAIN_TURN, c_LAST_PLAIN_TURN⟩ := He.int_ok X G (c.d.fact 61 (f := .int "LAST_PLAIN_TURN" (64)) rfl)
  obtain ⟨t_PLAIN_LEAST, c_PLAIN_LEAST⟩ := He.int_ok X G (c.d.fact 62 (f := .int "PLAIN_LEAST" (-18446744073709551616)) rfl)
  obtain ⟨t_PLAIN_MOST, c_PLAIN_MOST⟩ := He.int_ok X G (c.d.fact 63 (f := .int "PLAIN_MOST" (18446744073709551615)) rfl)
  obtain ⟨t_MOST_HEIGHT, c_MOST_HEIGHT⟩ := He.int_ok X G (c.d.fact 64 (f := .int "MOST_HEIGHT" (6)) rfl)
  obtain ⟨t_MOST_SIZE, c_MOST_SIZE⟩ := He.int_ok X G (c.d.fact 65 (f := .int "MOST_SIZE" (2000)) rfl)
  have bl := FunD.bindsA (ps := ["_law_script"]) D60 fun _ _ _ _ _ _ us hl => match us, hl with | [_], _ => rfl
  exact ⟨⟨_, _, F0, He.glo_ok X G (c.d.fact 0 (f := .glo "turns_of_int") rfl), b0, _, _, F1, He.glo_ok X G (c.d.fact 1 (f := .glo "turns_raw") rfl), b1, _, _, F2, He.glo_ok X G (c.d.fact 2 (f := .glo "made") rfl), b2, _, _, F3, He.glo_ok X G (c.d.fact 3 (f := .glo "of_int") rfl), b3, _, _, F4, He.glo_ok X G (c.d.fact 4 (f := .glo "negative") rfl), b4, _, _, F5, He.glo_ok X G (c.d.fact 5 (f := .glo "order") rfl), b5, _, _, F6, He.glo_ok X G (c.d.fact 6 (f := .glo "bit") rfl), b6, _, _, F7, He.glo_ok X G (c.d.fact 7 (f := .glo "merged") rfl), b7, _, _, F8, He.glo_ok X G (c.d.fact 8 (f := .glo "combined") rfl), b8, _, _, F9, He.glo_ok X G (c.d.fact 9 (f := .glo "toggled") rfl), b9, _, _, F10, He.glo_ok X G (c.d.fact 10 (f := .glo "plus_one") rfl), b10, _, _, F11, He.glo_ok X G (c.d.fact 11 (f := .glo "inverted") rfl), b11, _, _, F12, He.glo_ok X G (c.d.fact 12 (f := .glo "total") rfl), b12, _, _, F13, He.glo_ok X G (c.d.fact 13 (f := .glo "minus") rfl), b13, _, _, F14, He.glo_ok X G (c.d.fact 14 (f := .glo "shifted") rfl), b14, _, _, F15, He.glo_ok X G (c.d.fact 15 (f := .glo "dropped") rfl), b15, _, _, F16, He.glo_ok X G (c.d.fact 16 (f := .glo "power_of_two") rfl), b16, _, _, F17, He.glo_ok X G (c.d.fact 17 (f := .glo "run_of") rfl), b17, _, _, F18, He.glo_ok X G (c.d.fact 18 (f := .glo "last_turn") rfl), b18, _, _, F19, He.glo_ok X G (c.d.fact 19 (f := .glo "size") rfl), b19, _, _, F20, He.glo_ok X G (c.d.fact 20 (f := .glo "height") rfl), b20, _, _, F21, He.glo_ok X G (c.d.fact 21 (f := .glo "kept") rfl), b21, _, _, F22, He.glo_ok X G (c.d.fact 22 (f := .glo "order_of") rfl), b22, _, _, F23, He.glo_ok X G (c.d.fact 23 (f := .glo "is_int") rfl), b23, _, _, F24, He.glo_ok X G (c.d.fact 24 (f := .glo "row_form") rfl), b24, _, _, F25, He.glo_ok X G (c.d.fact 25 (f := .glo "given_form") rfl), b25, _, _, F26, He.glo_ok X G (c.d.fact 26 (f := .glo "operand") rfl), b26, _, _, F27, He.glo_ok X G (c.d.fact 27 (f := .glo "number_form") rfl), b27, _, _, F28, He.glo_ok X G (c.d.fact 28 (f := .glo "place_form") rfl), b28, _, _, F29, He.glo_ok X G (c.d.fact 29 (f := .glo "range_forms") rfl), b29, _, _, F30, He.glo_ok X G (c.d.fact 30 (f := .glo "sum_of_ones") rfl), b30, _, _, F31, He.glo_ok X G (c.d.fact 31 (f := .glo "ranked") rfl), b31, _, _, F32, He.glo_ok X G (c.d.fact 32 (f := .glo "less") rfl), b32, _, _, F33, He.glo_ok X G (c.d.fact 33 (f := .glo "low_part") rfl), b33, _, _, F34, He.glo_ok X G (c.d.fact 34 (f := .glo "high_part") rfl), b34, _, _, F35, He.glo_ok X G (c.d.fact 35 (f := .glo "ones_of") rfl), b35, _, _, F36, He.glo_ok X G (c.d.fact 36 (f := .glo "top_place") rfl), b36, _, _, F37, He.glo_ok X G (c.d.fact 37 (f := .glo "block_stop") rfl), b37, _, _, F38, He.glo_ok X G (c.d.fact 38 (f := .glo "parted") rfl), b38, _, _, F39, He.glo_ok X G (c.d.fact 39 (f := .glo "left_first") rfl), b39, _, _, F40, He.glo_ok X G (c.d.fact 40 (f := .glo "right_first") rfl), b40, _, _, F41, He.glo_ok X G (c.d.fact 41 (f := .glo "cover_size") rfl), b41, _, _, F42, He.glo_ok X G (c.d.fact 42 (f := .glo "cover_member") rfl), b42, _, _, F43, He.glo_ok X G (c.d.fact 43 (f := .glo "block_around") rfl), b43, _, _, F44, He.glo_ok X G (c.d.fact 44 (f := .glo "far_of") rfl), b44, _, _, F45, He.glo_ok X G (c.d.fact 45 (f := .glo "as_range") rfl), b45, _, _, F46, He.glo_ok X G (c.d.fact 46 (f := .glo "cover_count") rfl), b46, _, _, F47, He.glo_ok X G (c.d.fact 47 (f := .glo "cover_block") rfl), b47, _, _, F48, He.glo_ok X G (c.d.fact 48 (f := .glo "cover_at") rfl), b48, _, _, F49, He.glo_ok X G (c.d.fact 49 (f := .glo "cover_level") rfl), b49, _, _, F50, He.glo_ok X G (c.d.fact 50 (f := .glo "_law_pen") rfl), b50, _, _, F51, He.glo_ok X G (c.d.fact 51 (f := .glo "_law_draw") rfl), b51, _, _, F52, He.glo_ok X G (c.d.fact 52 (f := .glo "_law_great") rfl), b52, _, _, F53, He.glo_ok X G (c.d.fact 53 (f := .glo "_law_given") rfl), b53, _, _, F54, He.glo_ok X G (c.d.fact 54 (f := .glo "_law_is_block") rfl), b54, _, _, F55, He.glo_ok X G (c.d.fact 55 (f := .glo "_law_places") rfl), b55, _, _, F56, He.glo_ok X G (c.d.fact 56 (f := .glo "_law_integer") rfl), b56, _, _, F57, He.glo_ok X G (c.d.fact 57 (f := .glo "_law_cover") rfl), b57, _, _, F58, He.glo_ok X G (c.d.fact 58 (f := .glo "_law_range") rfl), b58, _, _, F59, He.glo_ok X G (c.d.fact 59 (f := .glo "_law_is_told") rfl), b59, _, _, F60, He.glo_ok X G (c.d.fact 60 (f := .glo "law") rfl), b60, _, _, F61, ds61, dv61, bd61, b61, _, _, F62, b62, t_LAST_PLAIN_TURN, c_LAST_PLAIN_TURN, t_PLAIN_LEAST, c_PLAIN_LEAST, t_PLAIN_MOST, c_PLAIN_MOST, t_MOST_HEIGHT, c_MOST_HEIGHT, t_MOST_SIZE, c_MOST_SIZE, He.ga K "AND", He.glo_ok X G (c.d.fact 66 (f := .glo "AND") rfl), He.tupB_ok x0, He.ga K "XOR", He.glo_ok X G (c.d.fact 67 (f := .glo "XOR") rfl), He.tupB_ok x1, He.ga K "Far", He.glo_ok X G (c.d.fact 68 (f := .glo "Far") rfl), He.cls_ok (c.d.fact 69 (f := .cls "Far") rfl), He.noat_ok (c.d.fact 70 (f := .noat "Far" "own_form") rfl), He.mkr_ok (c.d.fact 71 (f := .mkr "Far") rfl), He.meth_ok (c.d.fact 72 (f := .meth "Far" "__eq__") rfl), HX.cmpB_ok x2, HX.neB_ok x3, HX.isiB_ok x4, He.free_ok X G (c.d.fact 73 (f := .free "bool") rfl), He.free_ok X G (c.d.fact 74 (f := .free "enumerate") rfl), He.free_ok X G (c.d.fact 75 (f := .free "int") rfl), He.free_ok X G (c.d.fact 76 (f := .free "isinstance") rfl), He.free_ok X G (c.d.fact 77 (f := .free "len") rfl), He.free_ok X G (c.d.fact 78 (f := .free "list") rfl), He.free_ok X G (c.d.fact 79 (f := .free "max") rfl), He.free_ok X G (c.d.fact 80 (f := .free "min") rfl), He.free_ok X G (c.d.fact 81 (f := .free "range") rfl), He.free_ok X G (c.d.fact 82 (f := .free "sum") rfl), He.free_ok X G (c.d.fact 83 (f := .free "tuple") rfl)⟩, fun s v => bl s [v] rfl⟩
end K45
open PySem PySem.W PySem.Calls PyProof.Rows
set_option maxHeartbeats 0 in
theorem PySem.Challenge.cw_farbits_k45_whole_covers_of_written_rang_holds : PySem.Challenge.rw_farbits_k45_whole_covers_of_written_rang.Holds := by
  w_on; o_law
  refine HandSHeadRun.head_any (r := OpenLaw.row PySem.Challenge.rw_farbits_k45_whole_covers_of_written_rang) (q := K45.qv) (H := K45.hk) (ob := K45.ob) (M := 12000) (loose := K45.names) (d := HandSHeadRun.topDef (OpenLaw.row PySem.Challenge.rw_farbits_k45_whole_covers_of_written_rang).prog 146) (kwd := []) K45.ob_eq
    (by kernel_rfl) (fun s => by kernel_rfl) K45.run (by kernel_rfl) (by kernel_rfl) (by kernel_rfl) (by rfl) (by first | assumption | decide +kernel) (by decide +kernel) ⟨rfl, rfl, rfl, rfl, rfl, by decide +kernel⟩ ?hw ?hc
  case hw => w_witness2
  case hc =>
    refine HX.walk_ofGE (l := PySem.Challenge.rw_farbits_k45_whole_covers_of_written_rang) (n := 63) (k := 30) (x := "_law_script") rfl (by decide) (by kernel_rfl) ⟨rfl, by decide, by decide⟩ ?F
    intro w mg fa h Y G hmg0
    obtain ⟨K, KX, c⟩ := Y
    have hmg : mg ("law" : PySem.Str) = some (.ref fa) := by
      have e : (HandSHeadRun.topDef (OpenLaw.row PySem.Challenge.rw_farbits_k45_whole_covers_of_written_rang).prog 146).name = ("law" : PySem.Str) := by kernel_rfl
      rw [← e]
      exact hmg0
    obtain ⟨T, hb⟩ := K45.top_ex KX G c
    have ef : T.f_law = fa := by
      have z := T.g_law.symm.trans hmg
      cases z
      rfl
    subst ef
    exact ⟨K, T.fd_law, K45.spLaw K, KX, hb, fun H a ns hl _ hS => ⟨a, ns, rfl, hS, hl, fun _ => rfl⟩, fun base _ _ => K45.ok_law T ⟩
