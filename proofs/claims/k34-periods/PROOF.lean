import PyProof.Rows.All
import Wide.All
import OpenK.AllK
import Wide.FinOn
import HandS.ForMost
import HandS.WideBits
import HandS.Style
import HandS.IsInst
import HandS.TupAny
import HandS.Defaults
import PySem.Challenge.RW_farbits_k34_periods_are_least
set_option Elab.async false
set_option linter.all false
set_option maxRecDepth 100000
/-! small helpers over the hand layer, for every law -/
namespace HX
open PySem PySem.Spec PyProof.Rows L2

/-- ends that take P behind, and else what D takes -/
structure Jn (D : Ends) (P : L2.St → Hp → Prop) (D' : Ends) : Prop where
  nx : ∀ σ' H', P σ' H' → D'.nx σ' H'
  ct : ∀ σ' H', D.ct σ' H' → D'.ct σ' H'
  bk : ∀ σ' H', D.bk σ' H' → D'.bk σ' H'
  rt : ∀ v H', D.rt v H' → D'.rt v H'
theorem if_join {c : Prop} [Decidable c] {t u : TS} {D : Ends} {σ : L2.St} {H : Hp} (P : L2.St → Hp → Prop) (hr : ∀ σ' H', P σ' H' → D.nx σ' H')
    (h1 : ∀ D', Jn D P D' → c → t D' σ H) (h2 : ∀ D', Jn D P D' → ¬ c → u D' σ H) : if c then t D σ H else u D σ H := by
  by_cases h : c
  · rw [if_pos h]
    exact h1 _ ⟨hr, fun _ _ h => h, fun _ _ h => h, fun _ _ h => h⟩ h
  · rw [if_neg h]
    exact h2 _ ⟨hr, fun _ _ h => h, fun _ _ h => h, fun _ _ h => h⟩ h
/-- a statement, then the rest: P stands between -/
theorem cut {t u : TS} {D : Ends} {σ : L2.St} {H : Hp} (P : L2.St → Hp → Prop) (h1 : ∀ D', Jn D P D' → t D' σ H) (h2 : ∀ σ' H', P σ' H' → u D σ' H') : tSeq t u D σ H :=
  h1 { D with nx := u D } ⟨h2, fun _ _ h => h, fun _ _ h => h, fun _ _ h => h⟩
theorem ifD {p A B : Prop} [Decidable p] (h1 : p → A) (h2 : ¬ p → B) : if decide p = true then A else B := by
  by_cases h : p
  · rw [if_pos (decide_eq_true h)]
    exact h1 h
  · rw [if_neg (by rw [decide_eq_false h]; exact Bool.false_ne_true)]
    exact h2 h
theorem ifN {p A B : Prop} [Decidable p] (h1 : ¬ p → A) (h2 : p → B) : if (!decide p) = true then A else B := by
  by_cases h : p
  · rw [decide_eq_true h]
    exact iteF (h2 h)
  · rw [decide_eq_false h]
    exact iteT (h1 h)
theorem ifE {a b : Int} {A B : Prop} (h1 : a = b → A) (h2 : a ≠ b → B) : if decide (V.int a = V.int b) = true then A else B :=
  ifD (fun e => h1 (V.int.inj e)) (fun e => h2 fun z => e (congrArg V.int z))
theorem ifNE {a b : Int} {A B : Prop} (h1 : a ≠ b → A) (h2 : a = b → B) : if (!decide (V.int a = V.int b)) = true then A else B :=
  ifN (fun e => h1 fun z => e (congrArg V.int z)) (fun e => h2 (V.int.inj e))
/-- what is shown once and used on several ways -/
theorem keep {Y G : Prop} (hY : Y) (h : Y → G) : G := h hY
/-- a and b: where a is false, and where b is false, the same comes -/
theorem ifAnd {p A X Y : Prop} [Decidable p] (hY : Y) (h : p → Y → A) : if decide p = true then A else (if false = true then X else Y) :=
  ifD (fun hp => h hp hY) (fun _ => iteF hY)
theorem ifOr {p A X Y : Prop} [Decidable p] (hX : X) (h : ¬ p → X → A) : if decide p = true then (if true = true then X else Y) else A :=
  ifD (fun _ => iteT hX) (fun hp => h hp hX)
theorem ifY {c A B : Prop} [Decidable c] (hc : c) (h : A) : if c then A else B := by
  rw [if_pos hc]
  exact h
theorem ifZ {c A B : Prop} [Decidable c] (hc : ¬ c) (h : B) : if c then A else B := by
  rw [if_neg hc]
  exact h
/-- the ends of a loop's body, by what they are known to take -/
structure Bd (D : Ends) (N : L2.St → Hp → Prop) (D' : Ends) : Prop where
  nx : ∀ σ' H', N σ' H' → D'.nx σ' H'
  ct : ∀ σ' H', N σ' H' → D'.ct σ' H'
  bk : ∀ σ' H', D.nx σ' H' → D'.bk σ' H'
  rt : ∀ v H', D.rt v H' → D'.rt v H'
/-- a while's turn: the body for any ends -/
theorem wb {tb : TS} {D : Ends} {m : Nat} {σ : L2.St} {H1 : Hp} {W : Nat → L2.St → Hp → Prop} (h : ∀ D', Bd D (fun σ' H' => ∃ m', m' < m ∧ W m' σ' H') D' → tb D' σ H1) :
    ∃ N : L2.St → Hp → Prop, (∀ σ' H', N σ' H' → ∃ m', m' < m ∧ W m' σ' H') ∧ tb { D with nx := N, ct := N, bk := D.nx } σ H1 :=
  ⟨_, fun _ _ h => h, h _ ⟨fun _ _ h => h, fun _ _ h => h, fun _ _ h => h, fun _ _ h => h⟩⟩
theorem flL {K : PySem.W.Frag} {a : Addr} {xs : List V} {g : TG} {tb : TS} {D : Ends} {σ : L2.St} {H : Hp} (Pv : Nat → L2.St → Hp → Prop) (h0 : Pv 0 σ H) (hl : ∀ i σ H, i ≤ xs.length → Pv i σ H → SqL K H a xs)
    (hs : ∀ i x σ H, xs[i]? = some x → Pv i σ H → ∀ D', Bd D (Pv (i + 1)) D' → g x σ H fun σ2 H2 => tb D' σ2 H2) (hd : ∀ σ H, Pv xs.length σ H → D.nx σ H) :
    ∃ W : Nat → Nat → L2.St → Hp → Prop, (∃ m, W 0 m σ H) ∧ ∀ i m σ H, W i m σ H →
      ((Itl K a).stop i H ∧ D.nx σ H) ∨ ((Itl K a).go i H ∧ ∃ N : L2.St → Hp → Prop, (∀ σ' H', N σ' H' → ∃ m', m' < m ∧ W (i + 1) m' σ' H') ∧ ∀ x H', (Itl K a).yld i H x H' → g x σ H' fun σ2 H2 => tb { D with nx := N, ct := N, bk := D.nx } σ2 H2) :=
  for_list Pv h0 hl (fun i x σ H hx p => hs i x σ H hx p _ ⟨fun _ _ h => h, fun _ _ h => h, fun _ _ h => h, fun _ _ h => h⟩) hd
theorem flT {K : PySem.W.Frag} {a : Addr} {xs : List V} {g : TG} {tb : TS} {D : Ends} {σ : L2.St} {H : Hp} (Pv : Nat → L2.St → Hp → Prop) (h0 : Pv 0 σ H) (hl : ∀ i σ H, i ≤ xs.length → Pv i σ H → SqT K H a xs)
    (hs : ∀ i x σ H, xs[i]? = some x → Pv i σ H → ∀ D', Bd D (Pv (i + 1)) D' → g x σ H fun σ2 H2 => tb D' σ2 H2) (hd : ∀ σ H, Pv xs.length σ H → D.nx σ H) :
    ∃ W : Nat → Nat → L2.St → Hp → Prop, (∃ m, W 0 m σ H) ∧ ∀ i m σ H, W i m σ H →
      ((Itt K a).stop i H ∧ D.nx σ H) ∨ ((Itt K a).go i H ∧ ∃ N : L2.St → Hp → Prop, (∀ σ' H', N σ' H' → ∃ m', m' < m ∧ W (i + 1) m' σ' H') ∧ ∀ x H', (Itt K a).yld i H x H' → g x σ H' fun σ2 H2 => tb { D with nx := N, ct := N, bk := D.nx } σ2 H2) :=
  for_tup Pv h0 hl (fun i x σ H hx p => hs i x σ H hx p _ ⟨fun _ _ h => h, fun _ _ h => h, fun _ _ h => h, fun _ _ h => h⟩) hd
theorem flR {lo : Int} {n : Nat} {g : TG} {tb : TS} {D : Ends} {σ : L2.St} {H : Hp} (Pv : Nat → L2.St → Hp → Prop) (h0 : Pv 0 σ H)
    (hs : ∀ i σ H, i < n → Pv i σ H → ∀ D', Bd D (Pv (i + 1)) D' → g (.int (lo + i)) σ H fun σ2 H2 => tb D' σ2 H2) (hd : ∀ σ H, Pv n σ H → D.nx σ H) :
    ∃ W : Nat → Nat → L2.St → Hp → Prop, (∃ m, W 0 m σ H) ∧ ∀ i m σ H, W i m σ H →
      ((Itr lo n).stop i H ∧ D.nx σ H) ∨ ((Itr lo n).go i H ∧ ∃ N : L2.St → Hp → Prop, (∀ σ' H', N σ' H' → ∃ m', m' < m ∧ W (i + 1) m' σ' H') ∧ ∀ x H', (Itr lo n).yld i H x H' → g x σ H' fun σ2 H2 => tb { D with nx := N, ct := N, bk := D.nx } σ2 H2) :=
  for_range Pv h0 (fun i σ H hx p => hs i σ H hx p _ ⟨fun _ _ h => h, fun _ _ h => h, fun _ _ h => h, fun _ _ h => h⟩) hd
theorem seqC {i : Nat} {v : V} {u : TS} {D : Ends} {σ : L2.St} {H : Hp} (h : u D (σ.set i (some v)) H) : tSeq (tAsg (tC v) (gName i)) u D σ H := h
theorem asgC {i : Nat} {v : V} {D : Ends} {σ : L2.St} {H : Hp} (h : D.nx (σ.set i (some v)) H) : tAsg (tC v) (gName i) D σ H := h
theorem sm_upd {H : Hp} {p : Addr} {o : HO} (h : H p = none) : Same H (upd H p o) := fun b x e => by
  rw [upd_ne (ne_of_none e h)]
  exact e
theorem upd_at {H : Hp} {p : Addr} {o : HO} (_ : H p = none) : upd H p o p = some o := upd_same
theorem sm_mut {H H' : Hp} {p : Addr} {o : HO} (e : Same H H') (h : H p = none) : Same H (upd H' p o) := fun b x z => by
  rw [upd_ne (ne_of_none z h)]
  exact e b x z
/-- all but p is as it was -/
def But (p : Addr) (H H' : Hp) : Prop := ∀ b o, b ≠ p → H b = some o → H' b = some o
theorem But.refl {p : Addr} (H : Hp) : But p H H := fun _ _ _ h => h
theorem But.trans {p : Addr} {H H1 H2 : Hp} (a : But p H H1) (b : But p H1 H2) : But p H H2 := fun c o h e => b c o h (a c o h e)
theorem But.of {p : Addr} {H H' : Hp} (a : Same H H') : But p H H' := fun b o _ e => a b o e
theorem But.upd {p : Addr} {H H' : Hp} {o : HO} (a : But p H H') : But p H (upd H' p o) := fun b x h e => by
  rw [upd_ne h]
  exact a b x h e
theorem But.new {p q : Addr} {H H' : Hp} {o : HO} (a : But p H H') (h : H' q = none) : But p H (L2.upd H' q o) := a.trans (But.of (sm_upd h))
theorem But.same {p : Addr} {H0 H H' : Hp} (e : Same H0 H) (n : H0 p = none) (a : But p H H') : Same H0 H' := fun b o h => a b o (ne_of_none h n) (e b o h)
/-- a new object, its heap by what is known of it -/
theorem new_by {H : Hp} {o : HO} {Q : Addr → Hp → Prop} (h : ∀ p H', H p = none → Same H H' → H' p = some o → (∀ b, b ≠ p → H' b = H b) → Q p H') : ∀ p, H p = none → Q p (upd H p o) := fun p hp =>
  h p _ hp (sm_upd hp) upd_same fun _ hb => upd_ne hb
theorem Same.tup {K : PySem.W.Frag} {H H' : Hp} {a : Addr} {xs : List V} (e : Same H H') (h : SqT K H a xs) : SqT K H' a xs := by
  rcases h with (h | ⟨o, h⟩) | h
  · exact .inl (.inl (e _ _ h))
  · exact .inl (.inr ⟨o, e _ _ h⟩)
  · exact .inr h
theorem len_le {n : Nat} (h : n ≤ 16000000) : n ≤ sizeLine := Nat.le_trans h (by decide)
theorem len_lt {n : Nat} (h : n < 16000000) : n < sizeLine := Nat.lt_of_lt_of_le h (by decide)
/-- ints that are counted from 0 on -/
def nv (ps : List Nat) : List V := ps.map fun q => .int (q : Nat)
theorem nv_app (ps : List Nat) (q : Nat) : nv (ps ++ [q]) = nv ps ++ [.int (q : Nat)] := by simp [nv]
theorem nv_len (ps : List Nat) : (nv ps).length = ps.length := by simp [nv]
theorem nv_get {ps : List Nat} {i : Nat} {v : V} (h : (nv ps)[i]? = some v) : ∃ q, ps[i]? = some q ∧ v = .int (q : Nat) := by
  unfold nv at h
  rw [List.getElem?_map] at h
  cases e : ps[i]? with
  | none => rw [e] at h; cases h
  | some q => rw [e] at h; exact ⟨q, rfl, (Option.some.inj h).symm⟩
theorem atI_neg1 {xs : List V} {v : V} (h : xs[xs.length - 1]? = some v) : atI xs (-1) = some v := by
  have hne : xs ≠ [] := by
    rintro rfl
    cases h
  have e : xs = xs.dropLast ++ [xs.getLast hne] := (List.dropLast_concat_getLast hne).symm
  have e2 : xs.getLast hne = v := by
    rw [List.getLast_eq_getElem]
    have := List.getElem?_eq_some_iff.mp h
    exact this.2
  rw [e, e2]
  exact atI_last _ _
/-! ### the readings of some calls, by names -/
def rLen (K : PySem.W.Frag) : List V → Hp → VK → Prop := fun xs H Q => ∃ p ys, xs = [.ref p] ∧ (SqL K H p ys ∨ SqT K H p ys) ∧ Q (.int ys.length) H
def rTupOf (K : PySem.W.Frag) : List V → Hp → VK → Prop := fun xs H Q => ∃ p ys, xs = [.ref p] ∧ ((SqL K H p ys ∧ ∀ l, H l = none → Q (.ref l) (upd H l (.tup ys))) ∨ (SqT K H p ys ∧ Q (.ref p) H))
def rLstOf (K : PySem.W.Frag) : List V → Hp → VK → Prop := fun xs H Q => ∃ p ys, xs = [.ref p] ∧ (SqL K H p ys ∨ SqT K H p ys) ∧ ∀ l, H l = none → Q (.ref l) (upd H l (.lst ys))
/-! ### isinstance -/
theorem isi_int {K : PySem.W.Frag} {H : Hp} {i : Int} {n : String} {b : Bool} {Q : VK} (h : kitB "int" n = some b) (q : Q (.bl b) H) : rIsi K [.int i, .ty n] H Q := ⟨_, _, _, _, b, rfl, .ty n, .base (.int i), kit_ty h, q⟩
theorem isi_bl {K : PySem.W.Frag} {H : Hp} {i : Bool} {n : String} {b : Bool} {Q : VK} (h : kitB "bool" n = some b) (q : Q (.bl b) H) : rIsi K [.bl i, .ty n] H Q := ⟨_, _, _, _, b, rfl, .ty n, .base (.bl i), kit_ty h, q⟩
theorem isi_tup {K : PySem.W.Frag} {H : Hp} {a : Addr} {xs : List V} {n : String} {b : Bool} {Q : VK} (e : SqT K H a xs) (h : kitB "tuple" n = some b) (q : Q (.bl b) H) : rIsi K [.ref a, .ty n] H Q := by
  rcases e with (e | ⟨o, e⟩) | ⟨o, its, m, e, c, _⟩
  · exact ⟨_, _, _, _, b, rfl, .ty n, .base (.tup e), kit_ty h, q⟩
  · exact ⟨_, _, _, _, b, rfl, .ty n, .fTuple e, kit_ty h, q⟩
  · exact ⟨_, _, _, _, b, rfl, .ty n, .kTuple e c, kit_ty h, q⟩
theorem isi_lst {K : PySem.W.Frag} {H : Hp} {a : Addr} {xs : List V} {n : String} {b : Bool} {Q : VK} (e : H a = some (.lst xs)) (h : kitB "list" n = some b) (q : Q (.bl b) H) : rIsi K [.ref a, .ty n] H Q := ⟨_, _, _, _, b, rfl, .ty n, .base (.lst e), kit_ty h, q⟩
theorem tyT {K : PySem.W.Frag} {H : Hp} {a : Addr} {xs : List V} (e : SqT K H a xs) : TyX K H (.ref a) (.type "tuple") := by
  rcases e with (e | ⟨o, e⟩) | ⟨o, its, m, e, c, _⟩
  · exact .base (.tup e)
  · exact .fTuple e
  · exact .kTuple e c
theorem tyI {K : PySem.W.Frag} {H : Hp} (i : Int) : TyX K H (.int i) (.type "int") := .base (.int i)
theorem k_ii : kitB "int" "int" = some true := by decide +kernel
theorem k_ib : kitB "int" "bool" = some false := by decide +kernel
theorem k_it : kitB "int" "tuple" = some false := by decide +kernel
theorem k_tt : kitB "tuple" "tuple" = some true := by decide +kernel
theorem k_ti : kitB "tuple" "int" = some false := by decide +kernel
theorem k_tb : kitB "tuple" "bool" = some false := by decide +kernel
/-! ### a dict of three text keys -/
def tri (k1 k2 k3 : Str) (a b c : V) : List (Key × V) := [(.inr k1, a), (.inr k2, b), (.inr k3, c)]
structure Dif (k1 k2 k3 : Str) : Prop where
  n12 : k1 ≠ k2
  n13 : k1 ≠ k3
  n23 : k2 ≠ k3
section
variable {k1 k2 k3 : Str} {a b c v : V} {H : Hp} {p : Addr}
theorem inr_ne {x y : Str} (h : x ≠ y) : ¬ (Sum.inr x : Key) = Sum.inr y := fun e => h (Sum.inr.inj e)
theorem tri_get1 (h : H p = some (.dK (tri k1 k2 k3 a b c))) : DGet H p (.str k1) (some a) := by
  have := DGet.k (k := (.inr k1 : Key)) h
  unfold tri at this
  rw [valV_pos rfl] at this
  exact this
theorem tri_get2 (d : Dif k1 k2 k3) (h : H p = some (.dK (tri k1 k2 k3 a b c))) : DGet H p (.str k2) (some b) := by
  have := DGet.k (k := (.inr k2 : Key)) h
  unfold tri at this
  rw [valV_neg (inr_ne d.n12), valV_pos rfl] at this
  exact this
theorem tri_get3 (d : Dif k1 k2 k3) (h : H p = some (.dK (tri k1 k2 k3 a b c))) : DGet H p (.str k3) (some c) := by
  have := DGet.k (k := (.inr k3 : Key)) h
  unfold tri at this
  rw [valV_neg (inr_ne d.n13), valV_neg (inr_ne d.n23), valV_pos rfl] at this
  exact this
theorem tri_put2 (d : Dif k1 k2 k3) (h : H p = some (.dK (tri k1 k2 k3 a b c))) : DPut H p (.str k2) v (upd H p (.dK (tri k1 k2 k3 a v c))) := by
  have := DPut.k (k := (.inr k2 : Key)) (v := v) h (by show 3 < sizeLine; decide)
  have e : putK (tri k1 k2 k3 a b c) (.inr k2) v = tri k1 k2 k3 a v c := by
    simp [putK, tri, d.n12, d.n23, Ne.symm d.n23]
  rw [e] at this
  exact this
theorem tri_put3 (d : Dif k1 k2 k3) (h : H p = some (.dK (tri k1 k2 k3 a b c))) : DPut H p (.str k3) v (upd H p (.dK (tri k1 k2 k3 a b v))) := by
  have := DPut.k (k := (.inr k3 : Key)) (v := v) h (by show 3 < sizeLine; decide)
  have e : putK (tri k1 k2 k3 a b c) (.inr k3) v = tri k1 k2 k3 a b v := by
    simp [putK, tri, d.n13, d.n23]
  rw [e] at this
  exact this
theorem tri_disp (d : Dif k1 k2 k3) : mergeK [] (tri k1 k2 k3 a b c) = tri k1 k2 k3 a b c := by
  simp [mergeK, putK, tri, d.n12, d.n13, d.n23]
end
/-! ### data -/
theorem dp_ints {K : PySem.W.Frag} {H : Hp} : ∀ ns : List Int, DpAll K H (ns.map V.int) (ns.map PyData.int)
  | [] => .nil
  | n :: r => .cons (.int n) (dp_ints r)
theorem lay_ints : ∀ ns : List Int, PyData.canLayAll0 (ns.map PyData.int) = true
  | [] => rfl
  | n :: r => by
    show (PyData.canLay0 (.int n) && PyData.canLayAll0 (r.map PyData.int)) = true
    rw [lay_ints r]
    rfl
theorem dep_ints : ∀ ns : List Int, PyData.depthAll (ns.map PyData.int) = 0
  | [] => rfl
  | n :: r => by
    show max (PyData.depth (.int n)) (PyData.depthAll (r.map PyData.int)) = 0
    rw [dep_ints r]
    rfl
theorem shaped_ints (ns : List Int) : SeqAt.shaped (.list (ns.map PyData.int)) = true := by
  show (PyData.canLayAll0 (ns.map PyData.int) && decide (PyData.depthAll (ns.map PyData.int) + 1 ≤ 64)) = true
  rw [lay_ints, dep_ints]
  rfl
theorem shaped_intsT (ns : List Int) : SeqAt.shaped (.tuple (ns.map PyData.int)) = true := shaped_ints ns
theorem eqv_nil (ds : List PyData) : PyData.eqv (.list ds) (.list []) = ds.isEmpty := by
  cases ds <;> rfl
/-! ### f(k = v, ..): keywords alone -/
section
variable {X : Cx} {CX : CXT} {k : Nat} {f : Addr} {fd : FuncData} {ps ks : List Str} {sp : Sp} {E : XK} {x : Str} {p pos : Pos} {kws : List Keyword} {tk : TA} {g : List Value → List Value → List Value} {gV : List V → List V → List V}
theorem pe_callN0 (F : FnOk X.prog X.w X.K X.mg X.base CX k f fd ps sp) (hr : Room k X.A) (hg : Gl X x) (hm : X.mg x = some (.ref f)) (hk : PySem.W.keepIn X.K (.ref f) = true) (hb : KBn X.K fd ps 0 ks g gV) (hx : Passes CX X E) (hkw : PK X kws tk)
    (hall : (backToKw pos (keywordEach kws X.env)).all (·.1.isSome) = true := by rfl) (hks : (backToKw pos (keywordEach kws X.env)).filterMap (·.1) = ks := by rfl) (hdb : (x == ("__debug__" : Str)) = false := by decide)
    (hpl : ((backTo pos (starEach [] X.env)).any (·.1) || (backToKw pos (keywordEach kws X.env)).any (·.1.isNone)) = false := by rfl) :
    PE X (.Call (.Name x p) [] kws pos) (tCallN 0 ks.length sp gV E tNil tk) := by
  refine ⟨fun pins s σ H Q I h => ?_⟩
  refine wpAny_Call_Name_kw (ld_glob I hg hm ?_ hdb)
  refine PySem.W.callWith_KW0 (h₀ := X.base) I.ok.mod.kin hk hall ?_ hpl
  refine thn (hkw.run pos pins s σ H _ I h) fun ws s2 ⟨zs, H2, I2, rz, l1, l2, q2⟩ => ⟨I2.kIn, ?_⟩
  rw [hks]
  exact run_fnN (us := []) (vs := []) F hr hb hx I2 .nil rz rfl l2 q2
end
theorem kb_of {K : PySem.W.Frag} {x qual : Str} {st : Stmt} {f : Addr} {fd : FuncData} {ps ks : List Str} {n : Nat} {g : List Value → List Value → List Value} {gV : List V → List V → List V} (F : Fun K x qual st f fd)
    (h : ∀ (kV doc pm : Value) (an : Option Addr) (cdv ct : Value) (us ws : List Value), us.length = n → ws.length = ks.length → bindArgs (PySem.W.fnOf x qual (defArgs st) (defBody st) (defScope st) .none kV doc pm an cdv ct) ⟨us, ks.zip ws⟩ = pure (ps.zip (g us ws)))
    (rel : ∀ {vs : List V} {us : List Value} {zs : List V} {ws : List Value}, Vals vs us → Vals zs ws → Vals (gV vs zs) (g us ws)) : KBn K fd ps n ks g gV := by
  obtain ⟨oc, od, kV, doc, pm, an, cdv, ct, osl, rfl, lk, hcd⟩ := F.ex
  exact ⟨fun s us ws _ h1 h2 => .of_eq (h kV doc pm an cdv ct us ws h1 h2), rel⟩
end HX
namespace M34
/-! number theory for the least periods: no program in sight -/
def Pr (p : Nat) : Prop := 2 ≤ p ∧ ∀ d, d ∣ p → d = 1 ∨ d = p

theorem pr_coprime {p n : Nat} (hp : Pr p) (h : ¬ p ∣ n) : Nat.Coprime p n := by
  rcases hp.2 _ (Nat.gcd_dvd_left p n) with e | e
  · exact e
  · exact absurd (e ▸ Nat.gcd_dvd_right p n) h
theorem pr_mul {p a b : Nat} (hp : Pr p) (h : p ∣ a * b) : p ∣ a ∨ p ∣ b := by
  by_cases ha : p ∣ a
  · exact .inl ha
  · exact .inr ((pr_coprime hp ha).dvd_of_dvd_mul_left h)
theorem pr_exists : ∀ n, 2 ≤ n → ∃ p, Pr p ∧ p ∣ n := by
  intro n
  induction n using Nat.strongRecOn with
  | ind n ih =>
    intro h2
    by_cases hn : Pr n
    · exact ⟨n, hn, Nat.dvd_refl n⟩
    · have : ∃ d, d ∣ n ∧ d ≠ 1 ∧ d ≠ n := by
        apply Classical.byContradiction
        intro hc
        apply hn
        refine ⟨h2, fun d hd => ?_⟩
        apply Classical.byContradiction
        intro hc2
        exact hc ⟨d, hd, fun e => hc2 (.inl e), fun e => hc2 (.inr e)⟩
      obtain ⟨d, hd, h1, hne⟩ := this
      have hpos : 0 < n := by omega
      have hle : d ≤ n := Nat.le_of_dvd hpos hd
      have h0 : d ≠ 0 := by
        intro e
        subst e
        have := Nat.eq_zero_of_zero_dvd hd
        omega
      obtain ⟨p, hp, hpd⟩ := ih d (by omega) (by omega)
      exact ⟨p, hp, Nat.dvd_trans hpd hd⟩

/-- binomials -/
def ch : Nat → Nat → Nat
  | _, 0 => 1
  | 0, _ + 1 => 0
  | n + 1, k + 1 => ch n k + ch n (k + 1)
theorem ch_zero (n : Nat) : ch n 0 = 1 := by cases n <;> rfl
theorem ch_big : ∀ n k, n < k → ch n k = 0
  | 0, 0, h => by omega
  | 0, _ + 1, _ => rfl
  | n + 1, 0, h => by omega
  | n + 1, k + 1, h => by
    show ch n k + ch n (k + 1) = 0
    rw [ch_big n k (by omega), ch_big n (k + 1) (by omega)]
theorem ch_self : ∀ n, ch n n = 1
  | 0 => rfl
  | n + 1 => by
    show ch n n + ch n (n + 1) = 1
    rw [ch_self n, ch_big n (n + 1) (by omega)]
theorem ch_abs : ∀ n k, (k + 1) * ch (n + 1) (k + 1) = (n + 1) * ch n k
  | 0, 0 => by decide
  | 0, k + 1 => by
    show (k + 1 + 1) * (ch 0 (k + 1) + ch 0 (k + 2)) = 1 * ch 0 (k + 1)
    show (k + 1 + 1) * (0 + 0) = 1 * 0
    rw [Nat.add_zero, Nat.mul_zero, Nat.mul_zero]
  | n + 1, 0 => by
    have ih := ch_abs n 0
    show (0 + 1) * (ch (n + 1) 0 + ch (n + 1) (0 + 1)) = (n + 1 + 1) * ch (n + 1) 0
    rw [ch_zero n] at ih
    rw [ch_zero (n + 1), Nat.mul_add, ih]
    omega
  | n + 1, k + 1 => by
    have i1 := ch_abs n k
    have i2 := ch_abs n (k + 1)
    have e : ch (n + 1) (k + 1) = ch n k + ch n (k + 1) := rfl
    show (k + 1 + 1) * (ch (n + 1) (k + 1) + ch (n + 1) (k + 1 + 1)) = (n + 1 + 1) * ch (n + 1) (k + 1)
    rw [Nat.mul_add, i2]
    have : (k + 1 + 1) * ch (n + 1) (k + 1) = (n + 1) * ch n k + ch (n + 1) (k + 1) := by
      rw [Nat.succ_mul (k + 1), i1]
    rw [this, Nat.succ_mul (n + 1), e, Nat.mul_add]
    omega
def rowSum (n : Nat) : Nat → Nat
  | 0 => ch n 0
  | k + 1 => rowSum n k + ch n (k + 1)
theorem rowSum_succ (n : Nat) : ∀ k, rowSum (n + 1) (k + 1) = rowSum n k + rowSum n (k + 1)
  | 0 => by
    show ch (n + 1) 0 + (ch n 0 + ch n 1) = ch n 0 + (ch n 0 + ch n 1)
    rw [ch_zero, ch_zero]
  | k + 1 => by
    have ih := rowSum_succ n k
    show rowSum (n + 1) (k + 1) + (ch n (k + 1) + ch n (k + 2)) = rowSum n (k + 1) + (rowSum n (k + 1) + ch n (k + 2))
    rw [ih]
    show rowSum n k + rowSum n (k + 1) + (ch n (k + 1) + ch n (k + 2)) = (rowSum n k + ch n (k + 1)) + (rowSum n (k + 1) + ch n (k + 2))
    omega
theorem rowSum_big (n : Nat) : rowSum n (n + 1) = rowSum n n := by
  show rowSum n n + ch n (n + 1) = rowSum n n
  rw [ch_big n (n + 1) (by omega)]
  rfl
theorem rowSum_all : ∀ n, rowSum n n = 2 ^ n
  | 0 => by decide
  | n + 1 => by
    rw [rowSum_succ, rowSum_big, rowSum_all n, Nat.pow_succ]
    omega
theorem ch_dvd {p k : Nat} (hp : Pr p) (h1 : 0 < k) (h2 : k < p) : p ∣ ch p k := by
  obtain ⟨q, rfl⟩ : ∃ q, p = q + 1 := ⟨p - 1, by have := hp.1; omega⟩
  obtain ⟨j, rfl⟩ : ∃ j, k = j + 1 := ⟨k - 1, by omega⟩
  have e := ch_abs q j
  have d : (q + 1) ∣ (j + 1) * ch (q + 1) (j + 1) := ⟨_, e⟩
  rcases pr_mul hp d with h | h
  · have := Nat.le_of_dvd (by omega) h
    omega
  · exact h
theorem rowSum_mod {p : Nat} (hp : Pr p) : ∀ k, k < p → ∃ c, rowSum p k = 1 + p * c
  | 0, _ => ⟨0, by show ch p 0 = _; rw [ch_zero, Nat.mul_zero]⟩
  | k + 1, h => by
    obtain ⟨c, e⟩ := rowSum_mod hp k (by omega)
    obtain ⟨d, e2⟩ := ch_dvd hp (by omega : 0 < k + 1) h
    refine ⟨c + d, ?_⟩
    show rowSum p k + ch p (k + 1) = _
    rw [e, e2, Nat.mul_add]
    omega
/-- Fermat at 2 -/
theorem fermat2 {p : Nat} (hp : Pr p) : ∃ c, 2 ^ p = 2 + p * c := by
  have h2 := hp.1
  obtain ⟨c, e⟩ := rowSum_mod hp (p - 1) (by omega)
  have : rowSum p p = rowSum p (p - 1) + 1 := by
    obtain ⟨q, rfl⟩ : ∃ q, p = q + 1 := ⟨p - 1, by omega⟩
    show rowSum (q + 1) q + ch (q + 1) (q + 1) = _
    rw [ch_self]
    rfl
  refine ⟨c, ?_⟩
  rw [← rowSum_all, this, e]
  omega
theorem fermat2' {p : Nat} (hp : Pr p) (ho : p % 2 = 1) : ∃ c, 2 ^ (p - 1) = 1 + p * c := by
  obtain ⟨c, e⟩ := fermat2 hp
  have h2 := hp.1
  obtain ⟨q, rfl⟩ : ∃ q, p = q + 1 := ⟨p - 1, by omega⟩
  rw [Nat.pow_succ] at e
  have hpos : 0 < 2 ^ q := Nat.pow_pos (by decide)
  have d : (q + 1) ∣ 2 * (2 ^ q - 1) := ⟨c, by omega⟩
  have cp : Nat.Coprime (q + 1) 2 := by
    apply pr_coprime hp
    intro hd
    have := Nat.le_of_dvd (by decide) hd
    omega
  obtain ⟨b, hb⟩ := cp.dvd_of_dvd_mul_left d
  refine ⟨b, ?_⟩
  show 2 ^ q = _
  omega
/-- (1 + x) ^ n = 1 + n x + x² .. -/
theorem pow_one_add (x : Nat) : ∀ n, ∃ z, (1 + x) ^ n = 1 + n * x + x * x * z
  | 0 => ⟨0, by simp⟩
  | n + 1 => by
    obtain ⟨z, e⟩ := pow_one_add x n
    refine ⟨n + z + x * z, ?_⟩
    rw [Nat.pow_succ, e]
    grind
theorem lift {p : Nat} : ∀ k, ∀ c0, 2 ^ (p - 1) = 1 + p * c0 → ∃ c, 2 ^ (p ^ k * (p - 1)) = 1 + p ^ (k + 1) * c
  | 0, c0, h => ⟨c0, by simpa using h⟩
  | k + 1, c0, h => by
    obtain ⟨c, e⟩ := lift k c0 h
    obtain ⟨z, e2⟩ := pow_one_add (p ^ (k + 1) * c) p
    have : p ^ (k + 1) * (p - 1) = p ^ k * (p - 1) * p := by
      rw [Nat.pow_succ]
      grind
    rw [this, Nat.pow_mul, e, e2]
    refine ⟨c + p ^ k * c * c * z, ?_⟩
    have hp : p ^ (k + 1 + 1) = p ^ k * p * p := by rw [Nat.pow_succ, Nat.pow_succ]
    have hp1 : p ^ (k + 1) = p ^ k * p := by rw [Nat.pow_succ]
    rw [hp, hp1]
    grind
/-- 2 ^ e is 1 by n -/
def One (n e : Nat) : Prop := ∃ c, 2 ^ e = 1 + n * c
theorem One.mul {n e : Nat} (h : One n e) (k : Nat) : One n (e * k) := by
  obtain ⟨c, h⟩ := h
  obtain ⟨z, e2⟩ := pow_one_add (n * c) k
  refine ⟨k * c + c * n * c * z, ?_⟩
  rw [Nat.pow_mul, h, e2]
  grind
theorem One.mul' {n e : Nat} (h : One n e) (k : Nat) : One n (k * e) := by
  rw [Nat.mul_comm]
  exact h.mul k
theorem One.join {a b e : Nat} (h : One a e) (h' : One b e) (cp : Nat.Coprime a b) : One (a * b) e := by
  obtain ⟨c, h⟩ := h
  obtain ⟨d, h'⟩ := h'
  have ha : a ∣ 2 ^ e - 1 := ⟨c, by omega⟩
  have hb : b ∣ 2 ^ e - 1 := ⟨d, by omega⟩
  obtain ⟨z, hz⟩ := cp.mul_dvd_of_dvd_of_dvd ha hb
  have hpos : 0 < 2 ^ e := Nat.pow_pos (by decide)
  exact ⟨z, by omega⟩
theorem one_one (e : Nat) : One 1 e := ⟨2 ^ e - 1, by have : 0 < 2 ^ e := Nat.pow_pos (by decide); omega⟩
theorem one_iff {n e : Nat} (hn : 1 ≤ n) : One n e ↔ 2 ^ e % n = 1 % n := by
  constructor
  · rintro ⟨c, h⟩
    rw [h, Nat.add_mul_mod_self_left]
  · intro h
    have hpos : 0 < 2 ^ e := Nat.pow_pos (by decide)
    have : (2 ^ e - 1) % n = 0 := Nat.sub_mod_eq_zero_of_mod_eq h
    obtain ⟨c, hc⟩ := Nat.dvd_of_mod_eq_zero this
    exact ⟨c, by omega⟩

/-- the totient's loop -/
def tot : List Nat → Nat → Nat
  | [], y => y
  | q :: r, y => tot r (y / q * (q - 1))
theorem dvd_other {p q y : Nat} (hp : Pr p) (hq : Pr q) (hne : p ≠ q) (h1 : p ∣ y) (h2 : q ∣ y) : q ∣ y / p := by
  obtain ⟨z, rfl⟩ := h1
  rw [Nat.mul_div_cancel_left _ (by have := hp.1; omega)]
  rcases pr_mul hq h2 with h | h
  · rcases hp.2 q h with e | e
    · have := hq.1
      omega
    · exact absurd e.symm hne
  · exact h
theorem tot_mul (c : Nat) : ∀ (ps : List Nat) (y : Nat), (∀ q ∈ ps, Pr q) → ps.Nodup → (∀ q ∈ ps, q ∣ y) → tot ps (c * y) = c * tot ps y
  | [], y, _, _, _ => rfl
  | p :: r, y, h1, h2, h3 => by
    have hp := h1 p (by simp)
    have hd := h3 p (by simp)
    show tot r (c * y / p * (p - 1)) = c * tot r (y / p * (p - 1))
    rw [Nat.mul_div_assoc c hd, Nat.mul_assoc]
    refine tot_mul c r _ (fun q hq => h1 q (by simp [hq])) (List.nodup_cons.mp h2).2 (fun q hq => ?_)
    have hne : p ≠ q := fun e => (List.nodup_cons.mp h2).1 (e ▸ hq)
    exact Nat.dvd_mul_right_of_dvd (dvd_other hp (h1 q (by simp [hq])) hne hd (h3 q (by simp [hq]))) _
theorem split_pow {p : Nat} (hp : 2 ≤ p) : ∀ n, 0 < n → ∃ k m, n = p ^ k * m ∧ ¬ p ∣ m := by
  intro n
  induction n using Nat.strongRecOn with
  | ind n ih =>
    intro hn
    by_cases h : p ∣ n
    · obtain ⟨z, rfl⟩ := h
      have hz : 0 < z := Nat.pos_of_ne_zero (by rintro rfl; simp at hn)
      have : z < p * z := by
        have : 2 * z ≤ p * z := Nat.mul_le_mul_right z hp
        omega
      obtain ⟨k, m, e, hm⟩ := ih z this hz
      exact ⟨k + 1, m, by rw [Nat.pow_succ, e]; grind, hm⟩
    · exact ⟨0, n, by simp, h⟩
/-- Euler at 2 -/
theorem euler2 : ∀ (ps : List Nat) (n : Nat), n % 2 = 1 → ps.Nodup → (∀ q, q ∈ ps ↔ Pr q ∧ q ∣ n) → One n (tot ps n)
  | [], n, ho, _, h => by
    have : n = 1 := by
      apply Classical.byContradiction
      intro hne
      obtain ⟨p, hp, hd⟩ := pr_exists n (by omega)
      exact absurd ((h p).mpr ⟨hp, hd⟩) (by simp)
    subst this
    exact one_one _
  | p :: r, n, ho, nd, h => by
    obtain ⟨hp, hd⟩ := (h p).mp (by simp)
    have hp2 := hp.1
    obtain ⟨k, m, e, hm⟩ := split_pow hp2 n (by omega)
    have hk : k ≠ 0 := by
      rintro rfl
      apply hm
      have e' : n = m := by rw [e]; simp
      exact e' ▸ hd
    obtain ⟨j, rfl⟩ : ∃ j, k = j + 1 := ⟨k - 1, by omega⟩
    have hmo : m % 2 = 1 := by
      apply Classical.byContradiction
      intro hc
      have : m % 2 = 0 := by omega
      obtain ⟨z, hz⟩ := Nat.dvd_of_mod_eq_zero this
      rw [e, hz] at ho
      have e5 : p ^ (j + 1) * (2 * z) = 2 * (p ^ (j + 1) * z) := by grind
      rw [e5, Nat.mul_mod_right] at ho
      cases ho
    have hpo : p % 2 = 1 := by
      apply Classical.byContradiction
      intro hc
      have : p % 2 = 0 := by omega
      obtain ⟨z, hz⟩ := Nat.dvd_of_mod_eq_zero this
      have e5 : p ^ (j + 1) * m = 2 * (p ^ j * z * m) := by
        rw [Nat.pow_succ]
        have : p ^ j * p * m = p ^ j * (2 * z) * m := by rw [← hz]
        rw [this]
        grind
      rw [e, e5, Nat.mul_mod_right] at ho
      cases ho
    have nd' := List.nodup_cons.mp nd
    have hr : ∀ q, q ∈ r ↔ Pr q ∧ q ∣ m := by
      intro q
      constructor
      · intro hq
        obtain ⟨a, b⟩ := (h q).mp (by simp [hq])
        refine ⟨a, ?_⟩
        have hne : p ≠ q := fun e => nd'.1 (e ▸ hq)
        rw [e] at b
        rcases pr_mul a b with b | b
        · have : ∀ i, q ∣ p ^ i → q ∣ p := by
            intro i
            induction i with
            | zero =>
              intro hi
              have := Nat.le_of_dvd (by simp) hi
              simp at this
              have := a.1
              omega
            | succ i ih =>
              intro hi
              rw [Nat.pow_succ] at hi
              rcases pr_mul a hi with hi | hi
              · exact ih hi
              · exact hi
          rcases hp.2 q (this _ b) with e1 | e1
          · have := a.1
            omega
          · exact absurd e1.symm hne
        · exact b
      · rintro ⟨a, b⟩
        have := (h q).mpr ⟨a, by rw [e]; exact Nat.dvd_mul_left_of_dvd b _⟩
        rcases List.mem_cons.mp this with e1 | e1
        · subst e1
          exact absurd b hm
        · exact e1
    have ih := euler2 r m hmo nd'.2 hr
    have e1 : n / p * (p - 1) = (p ^ j * (p - 1)) * m := by
      have e2 : n = p * (p ^ j * m) := by
        rw [e, Nat.pow_succ]
        grind
      rw [e2, Nat.mul_div_cancel_left _ (by omega)]
      grind
    have e3 : tot (p :: r) n = (p ^ j * (p - 1)) * tot r m := by
      show tot r (n / p * (p - 1)) = _
      rw [e1]
      exact tot_mul _ r m (fun q hq => ((hr q).mp hq).1) nd'.2 (fun q hq => ((hr q).mp hq).2)
    rw [e3]
    obtain ⟨c0, f⟩ := fermat2' hp hpo
    have o1 : One (p ^ (j + 1)) (p ^ j * (p - 1)) := lift j c0 f
    have cp : Nat.Coprime (p ^ (j + 1)) m := Nat.Coprime.pow_left _ (pr_coprime hp hm)
    rw [e]
    exact One.join (o1.mul _) (ih.mul' _) cp
theorem tot_pos : ∀ (ps : List Nat) (y : Nat), 0 < y → (∀ q ∈ ps, Pr q) → ps.Nodup → (∀ q ∈ ps, q ∣ y) → 0 < tot ps y ∧ tot ps y ≤ y ∧ (ps ≠ [] → tot ps y < y)
  | [], y, h, _, _, _ => ⟨h, Nat.le_refl _, fun z => absurd rfl z⟩
  | p :: r, y, h, h1, h2, h3 => by
    have hp := h1 p (by simp)
    have hp2 := hp.1
    have hd := h3 p (by simp)
    obtain ⟨z, rfl⟩ := id hd
    have hz : 0 < z := Nat.pos_of_ne_zero (by rintro rfl; simp at h)
    have e : p * z / p * (p - 1) = z * (p - 1) := by rw [Nat.mul_div_cancel_left _ (by omega)]
    have hlt : z * (p - 1) < p * z := by
      obtain ⟨q, rfl⟩ : ∃ q, p = q + 1 := ⟨p - 1, by omega⟩
      show z * q < (q + 1) * z
      rw [Nat.succ_mul, Nat.mul_comm]
      omega
    have hps : 0 < z * (p - 1) := Nat.mul_pos hz (by omega)
    have ih := tot_pos r (p * z / p * (p - 1)) (by rw [e]; exact hps) (fun q hq => h1 q (by simp [hq])) (List.nodup_cons.mp h2).2 (fun q hq => by
      have hne : p ≠ q := fun e => (List.nodup_cons.mp h2).1 (e ▸ hq)
      exact Nat.dvd_mul_right_of_dvd (dvd_other hp (h1 q (by simp [hq])) hne hd (h3 q (by simp [hq]))) _)
    rw [e] at ih
    have e2 : tot (p :: r) (p * z) = tot r (z * (p - 1)) := by
      show tot r (p * z / p * (p - 1)) = _
      rw [e]
    rw [e2]
    refine ⟨ih.1, by omega, fun _ => by omega⟩
/-- all primes of n, each once -/
def PF (n : Nat) (ps : List Nat) : Prop := ps.Nodup ∧ ∀ q, q ∈ ps ↔ Pr q ∧ q ∣ n
/-- between two turns of the search -/
structure Srch (n fac left : Nat) (found : List Nat) : Prop where
  pos : 1 ≤ left
  f2 : 2 ≤ fac
  nd : found.Nodup
  mem : ∀ q, q ∈ found ↔ Pr q ∧ q ∣ n ∧ q < fac
  low : ∀ q, Pr q → q < fac → ¬ q ∣ left
  high : ∀ q, Pr q → fac ≤ q → (q ∣ n ↔ q ∣ left)
theorem Srch.start {n : Nat} (h : 1 ≤ n) : Srch n 2 n [] :=
  ⟨h, Nat.le_refl _, List.nodup_nil, fun q => ⟨fun z => by simp at z, fun ⟨a, _, b⟩ => by have := a.1; omega⟩, fun q a b => by have := a.1; omega, fun q _ _ => Iff.rfl⟩
theorem Srch.no {n fac left : Nat} {found : List Nat} (S : Srch n fac left found) (h : ¬ fac ∣ left) : Srch n (fac + 1) left found where
  pos := S.pos
  f2 := by have := S.f2; omega
  nd := S.nd
  mem := fun q => by
    rw [S.mem]
    constructor
    · rintro ⟨a, b, c⟩
      exact ⟨a, b, by omega⟩
    · rintro ⟨a, b, c⟩
      refine ⟨a, b, ?_⟩
      apply Classical.byContradiction
      intro hc
      have e : q = fac := by omega
      subst e
      exact h ((S.high q a (Nat.le_refl _)).mp b)
  low := fun q a b => by
    by_cases e : q = fac
    · subst e
      exact h
    · exact S.low q a (by omega)
  high := fun q a b => S.high q a (by omega)
theorem Srch.prime {n fac left : Nat} {found : List Nat} (S : Srch n fac left found) (h : fac ∣ left) : Pr fac := by
  obtain ⟨p, hp, hd⟩ := pr_exists fac S.f2
  have hle := Nat.le_of_dvd (by have := S.f2; omega) hd
  by_cases e : p = fac
  · subst e
    exact hp
  · exact absurd (Nat.dvd_trans hd h) (S.low p hp (by omega))
/-- within the inner loop -/
structure Inner (n fac left : Nat) : Prop where
  pos : 1 ≤ left
  low : ∀ q, Pr q → q < fac → ¬ q ∣ left
  high : ∀ q, Pr q → fac < q → (q ∣ n ↔ q ∣ left)
theorem Srch.inner {n fac left : Nat} {found : List Nat} (S : Srch n fac left found) : Inner n fac left := ⟨S.pos, S.low, fun q a b => S.high q a (by omega)⟩
theorem Inner.step {n fac left : Nat} (S : Inner n fac left) (hp : Pr fac) (h : fac ∣ left) : Inner n fac (left / fac) ∧ left / fac < left := by
  have h2 := hp.1
  have hpos := S.pos
  obtain ⟨z, rfl⟩ := h
  have hz : 0 < z := Nat.pos_of_ne_zero (by rintro rfl; simp at hpos)
  rw [Nat.mul_div_cancel_left _ (by omega)]
  refine ⟨⟨hz, fun q a b c => S.low q a b (Nat.dvd_mul_left_of_dvd c _), fun q a b => (S.high q a b).trans ⟨fun c => ?_, fun c => Nat.dvd_mul_left_of_dvd c _⟩⟩, ?_⟩
  · rcases pr_mul a c with c | c
    · rcases hp.2 q c with e | e
      · have := a.1; omega
      · omega
    · exact c
  · have : 2 * z ≤ fac * z := Nat.mul_le_mul_right z h2
    omega
theorem Srch.yes {n fac left left' : Nat} {found : List Nat} (S : Srch n fac left found) (h : fac ∣ left) (I : Inner n fac left') (h' : ¬ fac ∣ left') : Srch n (fac + 1) left' (found ++ [fac]) where
  pos := I.pos
  f2 := by have := S.f2; omega
  nd := by
    rw [List.nodup_append]
    refine ⟨S.nd, by simp, fun a ha b hb e => ?_⟩
    simp at hb
    subst hb e
    have := ((S.mem a).mp ha).2.2
    omega
  mem := fun q => by
    rw [List.mem_append, S.mem]
    constructor
    · rintro (⟨a, b, c⟩ | hq)
      · exact ⟨a, b, by omega⟩
      · simp at hq
        subst hq
        exact ⟨S.prime h, (S.high q (S.prime h) (Nat.le_refl _)).mpr h, by omega⟩
    · rintro ⟨a, b, c⟩
      by_cases e : q = fac
      · right; simp [e]
      · left; exact ⟨a, b, by omega⟩
  low := fun q a b => by
    by_cases e : q = fac
    · subst e
      exact h'
    · exact I.low q a (by omega)
  high := fun q a b => I.high q a (by omega)
theorem Srch.last {n fac left : Nat} {found : List Nat} (S : Srch n fac left found) (h : left < fac * fac) (h1 : 1 < left) : PF n (found ++ [left]) := by
  have hp : Pr left := by
    obtain ⟨p, hp, z, hz⟩ := pr_exists left h1
    have hpf : fac ≤ p := Nat.le_of_not_lt fun c => S.low p hp c ⟨z, hz⟩
    by_cases hz1 : z = 1
    · subst hz1
      rw [Nat.mul_one] at hz
      rw [hz]
      exact hp
    · have hz0 : z ≠ 0 := by rintro rfl; simp at hz; omega
      obtain ⟨r, hr, hrd⟩ := pr_exists z (by omega)
      have hrf : fac ≤ r := Nat.le_of_not_lt fun c => S.low r hr c (by rw [hz]; exact Nat.dvd_mul_left_of_dvd hrd _)
      have hrz := Nat.le_of_dvd (by omega) hrd
      have : fac * fac ≤ p * z := Nat.mul_le_mul hpf (Nat.le_trans hrf hrz)
      omega
  have hf : fac ≤ left := Nat.le_of_not_lt fun c => S.low left hp c (Nat.dvd_refl _)
  refine ⟨?_, fun q => ?_⟩
  · rw [List.nodup_append]
    refine ⟨S.nd, by simp, fun a ha b hb e => ?_⟩
    simp at hb
    subst hb e
    have := ((S.mem a).mp ha).2.2
    omega
  · rw [List.mem_append, S.mem]
    constructor
    · rintro (⟨a, b, c⟩ | hq)
      · exact ⟨a, b⟩
      · simp at hq
        subst hq
        exact ⟨hp, (S.high q hp hf).mpr (Nat.dvd_refl _)⟩
    · rintro ⟨a, b⟩
      by_cases c : q < fac
      · left; exact ⟨a, b, c⟩
      · right
        rcases hp.2 q ((S.high q a (by omega)).mp b) with e | e
        · have := a.1; omega
        · simp [e]
theorem Srch.last1 {n fac : Nat} {found : List Nat} (S : Srch n fac 1 found) : PF n found :=
  ⟨S.nd, fun q => by
    rw [S.mem]
    constructor
    · rintro ⟨a, b, c⟩
      exact ⟨a, b⟩
    · rintro ⟨a, b⟩
      refine ⟨a, b, Nat.lt_of_not_le fun c => ?_⟩
      have := Nat.le_of_dvd (by decide) ((S.high q a c).mp b)
      have := a.1
      omega⟩
/-- d is the least number with 2 ^ d = 1 by n, as far as its parts by primes tell -/
def Least (n d : Nat) : Prop := 1 ≤ d ∧ One n d ∧ ∀ p, Pr p → p ∣ d → ¬ One n (d / p)
theorem one_up {n d d' p : Nat} (hp : Pr p) (h : d' ∣ d) (h1 : p ∣ d') (h2 : One n (d' / p)) : p ∣ d ∧ One n (d / p) := by
  obtain ⟨k, rfl⟩ := h
  obtain ⟨z, rfl⟩ := h1
  have h0 : 0 < p := by have := hp.1; omega
  refine ⟨⟨z * k, by grind⟩, ?_⟩
  have e : p * z * k / p = z * k := by
    rw [Nat.mul_assoc, Nat.mul_div_cancel_left _ h0]
  rw [e]
  rw [Nat.mul_div_cancel_left _ h0] at h2
  exact h2.mul k
theorem One.sub {n a b : Nat} (ha : One n a) (hb : One n b) (h : b ≤ a) : One n (a - b) := by
  by_cases hn : n = 0
  · subst hn
    obtain ⟨c, ha⟩ := ha
    obtain ⟨d, hb⟩ := hb
    simp at ha hb
    rw [ha, hb]
    exact ⟨0, by simp⟩
  have hn1 : 1 ≤ n := by omega
  rw [one_iff hn1] at ha hb ⊢
  have e : 2 ^ a = 2 ^ (a - b) * 2 ^ b := by rw [← Nat.pow_add]; congr 1; omega
  rw [e, Nat.mul_mod, hb, ← Nat.mul_mod, Nat.mul_one] at ha
  exact ha
theorem One.gcd {n : Nat} : ∀ a b, One n a → One n b → One n (Nat.gcd a b) := by
  intro a
  induction a using Nat.strongRecOn with
  | ind a ih =>
    intro b
    induction b using Nat.strongRecOn with
    | ind b ihb =>
      intro ha hb
      by_cases h0 : a = 0
      · subst h0
        rw [Nat.gcd_zero_left]
        exact hb
      by_cases h1 : b < a
      · rw [Nat.gcd_comm]
        exact ih b h1 a hb ha
      · have := ihb (b - a) (by omega) ha (hb.sub ha (by omega))
        rwa [Nat.gcd_sub_self_right (by omega)] at this
theorem least_dvd {n d d' : Nat} (h : Least n d) (h' : One n d') : d ∣ d' := by
  have hg := One.gcd d d' h.2.1 h'
  have hd := Nat.gcd_dvd_left d d'
  by_cases e : Nat.gcd d d' = d
  · rw [← e]
    exact Nat.gcd_dvd_right d d'
  · obtain ⟨z, hz⟩ := hd
    have hp := h.1
    have hz2 : 2 ≤ z := by
      apply Nat.lt_of_not_le
      intro hc
      have : z = 0 ∨ z = 1 := by omega
      rcases this with rfl | rfl
      · omega
      · omega
    obtain ⟨p, hp, y, hy⟩ := pr_exists z hz2
    have hpd : p ∣ d := ⟨Nat.gcd d d' * y, by rw [hy] at hz; grind⟩
    refine absurd ?_ (h.2.2 p hp hpd)
    have e2 : d / p = Nat.gcd d d' * y := by
      have : d = p * (Nat.gcd d d' * y) := by rw [hy] at hz; grind
      exact Nat.div_eq_of_eq_mul_right (by have := hp.1; omega) this
    rw [e2]
    exact hg.mul y
theorem least_one {n d d' : Nat} (h : Least n d) (h' : Least n d') : d = d' := Nat.dvd_antisymm (least_dvd h h'.2.1) (least_dvd h' h.2.1)
structure Lv where
  m : Nat
  t : Nat
  o : Nat
  d : Nat
structure GoodL (l : Lv) : Prop where
  e : l.m = l.o * 2 ^ l.t
  odd : l.o % 2 = 1
  le : l.m ≤ 1000000
  least : Least l.o l.d
  dle : l.d ≤ l.o
  dlt : l.o ≠ 1 → l.d < l.o
theorem two_split {o o' : Nat} (h : o % 2 = 1) (h' : o' % 2 = 1) : ∀ t t', o * 2 ^ t = o' * 2 ^ t' → o = o' ∧ t = t'
  | 0, 0, e => ⟨by simpa using e, rfl⟩
  | 0, t' + 1, e => by
    rw [Nat.pow_zero, Nat.mul_one, Nat.pow_succ, ← Nat.mul_assoc] at e
    omega
  | t + 1, 0, e => by
    rw [Nat.pow_zero, Nat.mul_one, Nat.pow_succ, ← Nat.mul_assoc] at e
    omega
  | t + 1, t' + 1, e => by
    rw [Nat.pow_succ, Nat.pow_succ, ← Nat.mul_assoc, ← Nat.mul_assoc] at e
    have := two_split h h' t t' (by omega)
    exact ⟨this.1, by omega⟩
theorem GoodL.one {l l' : Lv} (g : GoodL l) (g' : GoodL l') (e : l.m = l'.m) : l = l' := by
  have h := g.e
  rw [e, g'.e] at h
  obtain ⟨h1, h2⟩ := two_split g'.odd g.odd _ _ h
  have h3 : l.d = l'.d := by
    have a := g.least
    rw [← h1] at a
    exact least_one a g'.least
  cases l; cases l'
  simp_all
/-- a chain of levels: all but the last one have an odd part -/
inductive Ch : Nat → List Lv → Prop
  | one {l : Lv} : GoodL l → l.o = 1 → Ch l.m [l]
  | more {l : Lv} {r : List Lv} : GoodL l → l.o ≠ 1 → Ch l.d r → Ch l.m (l :: r)
theorem Ch.uniq : ∀ {m : Nat} {r r' : List Lv}, Ch m r → Ch m r' → r = r' := by
  intro m r r' h
  induction h generalizing r' with
  | @one l g e =>
    intro h'
    generalize hm : l.m = m at h'
    cases h' with
    | one g' e' => rw [g.one g' hm]
    | more g' e' _ =>
      have := g.one g' hm
      subst this
      exact absurd e e'
  | @more l r g e _ ih =>
    intro h'
    generalize hm : l.m = m at h'
    cases h' with
    | one g' e' =>
      have := g.one g' hm
      subst this
      exact absurd e' e
    | more g' e' c' =>
      have := g.one g' hm
      subst this
      rw [ih c']
/-- a chain that is not at its end yet: its last modulus is k -/
inductive Seg : Nat → List Lv → Nat → Prop
  | nil {m : Nat} : Seg m [] m
  | snoc {m : Nat} {r : List Lv} {l : Lv} : Seg m r l.m → GoodL l → l.o ≠ 1 → Seg m (r ++ [l]) l.d
theorem Seg.cons {m k : Nat} {r : List Lv} {l : Lv} (h : Seg m r k) (g : GoodL l) (e : l.o ≠ 1) (hm : l.d = m) : Seg l.m (l :: r) k := by
  induction h with
  | nil =>
    subst hm
    exact Seg.snoc (r := []) Seg.nil g e
  | @snoc r l' h g' e' ih => exact Seg.snoc (r := l :: r) ih g' e'
theorem Seg.ch {m k : Nat} {r r' : List Lv} (h : Seg m r k) (c : Ch k r') : Ch m (r ++ r') := by
  induction h generalizing r' with
  | nil => exact c
  | @snoc r l h g e ih =>
    rw [List.append_assoc]
    exact ih (Ch.more g e c)
theorem Ch.good {m : Nat} {r : List Lv} (h : Ch m r) : ∀ l ∈ r, GoodL l := by
  induction h with
  | one g e => intro l hl; simp at hl; subst hl; exact g
  | more g e _ ih =>
    intro l hl
    rcases List.mem_cons.mp hl with rfl | hl
    · exact g
    · exact ih l hl
theorem Ch.head {m : Nat} {r : List Lv} (h : Ch m r) : ∃ l, r[0]? = some l ∧ l.m = m := by
  cases h with
  | one g e => exact ⟨_, rfl, rfl⟩
  | more g e _ => exact ⟨_, rfl, rfl⟩
theorem Ch.next {m : Nat} {r : List Lv} (h : Ch m r) : ∀ (i : Nat) (l l' : Lv), r[i]? = some l → r[i + 1]? = some l' → l.o ≠ 1 ∧ l'.m = l.d := by
  induction h with
  | one g e => intro i l l' _ h2; simp at h2
  | @more l0 r g e c ih =>
    intro i l l' h1 h2
    cases i with
    | zero =>
      simp at h1 h2
      subst h1
      obtain ⟨l2, e2, e3⟩ := c.head
      rw [e2] at h2
      cases h2
      exact ⟨e, e3⟩
    | succ i => exact ih i l l' (by simpa using h1) (by simpa using h2)
theorem Ch.last {m : Nat} {r : List Lv} (h : Ch m r) : ∃ l, r[r.length - 1]? = some l ∧ l.o = 1 := by
  induction h with
  | one g e => exact ⟨_, rfl, e⟩
  | @more l0 r g e c ih =>
    obtain ⟨l, h1, h2⟩ := ih
    refine ⟨l, ?_, h2⟩
    cases r with
    | nil => simp at h1
    | cons a r => simpa using h1
end M34
set_option Elab.async false
set_option linter.all false
set_option maxRecDepth 100000
namespace K34
open PySem PySem.Spec PyProof.Rows L2
def topS (i : Nat) : Stmt := PySem.Challenge.pw_farbits_k34_periods_are_least.main.body.getD i (.Pass ⟨0, 0, 0, 0⟩)
abbrev s_is_int : Stmt := topS 5
theorem sc_is_int : FnScope ["value"] ["value"] (defScope s_is_int) := ⟨rfl, rfl, rfl, by decide +kernel, rfl, by decide +kernel, by decide +kernel⟩
abbrev s_power_rest : Stmt := topS 7
theorem sc_power_rest : FnScope ["exponent", "odd", "found", "square", "left"] ["exponent", "odd"] (defScope s_power_rest) := ⟨rfl, rfl, rfl, by decide +kernel, rfl, by decide +kernel, by decide +kernel⟩
abbrev s_prime_factors : Stmt := topS 8
theorem sc_prime_factors : FnScope ["number", "found", "left", "factor"] ["number"] (defScope s_prime_factors) := ⟨rfl, rfl, rfl, by decide +kernel, rfl, by decide +kernel, by decide +kernel⟩
abbrev s_least_period : Stmt := topS 9
theorem sc_least_period : FnScope ["odd", "period", "factor"] ["odd"] (defScope s_least_period) := ⟨rfl, rfl, rfl, by decide +kernel, rfl, by decide +kernel, by decide +kernel⟩
abbrev s_level_of : Stmt := topS 10
theorem sc_level_of : FnScope ["modulus", "two", "odd"] ["modulus"] (defScope s_level_of) := ⟨rfl, rfl, rfl, by decide +kernel, rfl, by decide +kernel, by decide +kernel⟩
abbrev s_least_levels : Stmt := topS 11
theorem sc_least_levels : FnScope ["m", "found"] ["m"] (defScope s_least_levels) := ⟨rfl, rfl, rfl, by decide +kernel, rfl, by decide +kernel, by decide +kernel⟩
abbrev s_is_small : Stmt := topS 12
theorem sc_is_small : FnScope ["value"] ["value"] (defScope s_is_small) := ⟨rfl, rfl, rfl, by decide +kernel, rfl, by decide +kernel, by decide +kernel⟩
abbrev s_periods : Stmt := topS 13
theorem sc_periods : FnScope ["m"] ["m"] (defScope s_periods) := ⟨rfl, rfl, rfl, by decide +kernel, rfl, by decide +kernel, by decide +kernel⟩
abbrev s__law_pen : Stmt := topS 15
theorem sc__law_pen : FnScope ["_law_script"] ["_law_script"] (defScope s__law_pen) := ⟨rfl, rfl, rfl, by decide +kernel, rfl, by decide +kernel, by decide +kernel⟩
abbrev s__law_draw : Stmt := topS 16
theorem sc__law_draw : FnScope ["_law_pen_here", "_law_number", "_law_digit", "_law_at", "_law_cell", "_law_mixed"] ["_law_pen_here", "_law_number"] (defScope s__law_draw) := ⟨rfl, rfl, rfl, by decide +kernel, rfl, by decide +kernel, by decide +kernel⟩
abbrev s__law_pick : Stmt := topS 17
theorem sc__law_pick : FnScope ["_law_pen_here", "_law_items"] ["_law_pen_here", "_law_items"] (defScope s__law_pick) := ⟨rfl, rfl, rfl, by decide +kernel, rfl, by decide +kernel, by decide +kernel⟩
abbrev s__law_power : Stmt := topS 18
theorem sc__law_power : FnScope ["_law_times", "_law_number", "_law_found", "_law_square", "_law_left"] ["_law_times", "_law_number"] (defScope s__law_power) := ⟨rfl, rfl, rfl, by decide +kernel, rfl, by decide +kernel, by decide +kernel⟩
abbrev s__law_primes : Stmt := topS 19
theorem sc__law_primes : FnScope ["_law_number", "_law_found", "_law_left", "_law_some"] ["_law_number"] (defScope s__law_primes) := ⟨rfl, rfl, rfl, by decide +kernel, rfl, by decide +kernel, by decide +kernel⟩
abbrev s__law_is_least : Stmt := topS 20
theorem sc__law_is_least : FnScope ["_law_level", "_law_one", "_law_modulus", "_law_two", "_law_odd", "_law_period"] ["_law_level"] (defScope s__law_is_least) := ⟨rfl, rfl, rfl, by decide +kernel, rfl, by decide +kernel, by decide +kernel⟩
abbrev s_law : Stmt := topS 21
theorem sc_law : FnScope ["_law_script", "_law_pen_here", "_law_again", "_law_some", "_law_modulus", "_law_told", "_law_one", "_law_at"] ["_law_script"] (defScope s_law) := ⟨rfl, rfl, rfl, by decide +kernel, rfl, by decide +kernel, by decide +kernel⟩
structure Top (K : PySem.W.Frag) (mg : Str → Option Value) where
  f_is_int : Addr
  fd_is_int : FuncData
  F_is_int : Fun K "is_int" "is_int" s_is_int f_is_int fd_is_int
  g_is_int : mg "is_int" = some (.ref f_is_int)
  b_is_int : Binds K fd_is_int ["value"] []
  f_power_rest : Addr
  fd_power_rest : FuncData
  F_power_rest : Fun K "power_rest" "power_rest" s_power_rest f_power_rest fd_power_rest
  g_power_rest : mg "power_rest" = some (.ref f_power_rest)
  b_power_rest : Binds K fd_power_rest ["exponent", "odd"] []
  f_prime_factors : Addr
  fd_prime_factors : FuncData
  F_prime_factors : Fun K "prime_factors" "prime_factors" s_prime_factors f_prime_factors fd_prime_factors
  g_prime_factors : mg "prime_factors" = some (.ref f_prime_factors)
  b_prime_factors : Binds K fd_prime_factors ["number"] []
  f_least_period : Addr
  fd_least_period : FuncData
  F_least_period : Fun K "least_period" "least_period" s_least_period f_least_period fd_least_period
  g_least_period : mg "least_period" = some (.ref f_least_period)
  b_least_period : Binds K fd_least_period ["odd"] []
  f_level_of : Addr
  fd_level_of : FuncData
  F_level_of : Fun K "level_of" "level_of" s_level_of f_level_of fd_level_of
  g_level_of : mg "level_of" = some (.ref f_level_of)
  b_level_of : Binds K fd_level_of ["modulus"] []
  f_least_levels : Addr
  fd_least_levels : FuncData
  F_least_levels : Fun K "least_levels" "least_levels" s_least_levels f_least_levels fd_least_levels
  g_least_levels : mg "least_levels" = some (.ref f_least_levels)
  b_least_levels : Binds K fd_least_levels ["m"] []
  f_is_small : Addr
  fd_is_small : FuncData
  F_is_small : Fun K "is_small" "is_small" s_is_small f_is_small fd_is_small
  g_is_small : mg "is_small" = some (.ref f_is_small)
  b_is_small : Binds K fd_is_small ["value"] []
  f_periods : Addr
  fd_periods : FuncData
  F_periods : Fun K "periods" "periods" s_periods f_periods fd_periods
  g_periods : mg "periods" = some (.ref f_periods)
  b_periods : Binds K fd_periods ["m"] []
  f__law_pen : Addr
  fd__law_pen : FuncData
  F__law_pen : Fun K "_law_pen" "_law_pen" s__law_pen f__law_pen fd__law_pen
  g__law_pen : mg "_law_pen" = some (.ref f__law_pen)
  b__law_pen : Binds K fd__law_pen ["_law_script"] []
  f__law_draw : Addr
  fd__law_draw : FuncData
  F__law_draw : Fun K "_law_draw" "_law_draw" s__law_draw f__law_draw fd__law_draw
  g__law_draw : mg "_law_draw" = some (.ref f__law_draw)
  b__law_draw : Binds K fd__law_draw ["_law_pen_here", "_law_number"] []
  f__law_pick : Addr
  fd__law_pick : FuncData
  F__law_pick : Fun K "_law_pick" "_law_pick" s__law_pick f__law_pick fd__law_pick
  g__law_pick : mg "_law_pick" = some (.ref f__law_pick)
  b__law_pick : Binds K fd__law_pick ["_law_pen_here", "_law_items"] []
  f__law_power : Addr
  fd__law_power : FuncData
  F__law_power : Fun K "_law_power" "_law_power" s__law_power f__law_power fd__law_power
  g__law_power : mg "_law_power" = some (.ref f__law_power)
  b__law_power : Binds K fd__law_power ["_law_times", "_law_number"] []
  f__law_primes : Addr
  fd__law_primes : FuncData
  F__law_primes : Fun K "_law_primes" "_law_primes" s__law_primes f__law_primes fd__law_primes
  g__law_primes : mg "_law_primes" = some (.ref f__law_primes)
  b__law_primes : Binds K fd__law_primes ["_law_number"] []
  f__law_is_least : Addr
  fd__law_is_least : FuncData
  F__law_is_least : Fun K "_law_is_least" "_law_is_least" s__law_is_least f__law_is_least fd__law_is_least
  g__law_is_least : mg "_law_is_least" = some (.ref f__law_is_least)
  b__law_is_least : Binds K fd__law_is_least ["_law_level"] []
  f_law : Addr
  fd_law : FuncData
  F_law : Fun K "law" "law" s_law f_law fd_law
  g_law : mg "law" = some (.ref f_law)
  b_law : Binds K fd_law ["_law_script"] []
  t_MOST_MODULUS : Tok
  c_MOST_MODULUS : mg "MOST_MODULUS" = some (.int (1000000) t_MOST_MODULUS)
  m_bool : mg "bool" = none
  m_int : mg "int" = none
  m_isinstance : mg "isinstance" = none
  m_len : mg "len" = none
  m_list : mg "list" = none
  m_min : mg "min" = none
  m_range : mg "range" = none
  m_tuple : mg "tuple" = none
end K34
set_option Elab.async false
set_option linter.all false
set_option maxRecDepth 100000
namespace K34
open PySem PySem.Spec PyProof.Rows L2 HX M34
local macro_rules | `(tactic| walk_at "r") => `(tactic| (repeat (first | refine Exists.intro _ (And.intro rfl ?_) | refine And.intro rfl ?_ | refine Exists.intro _ (Exists.intro _ (And.intro rfl (And.intro rfl ?_))) | refine And.intro (by omega) ?_ | (dsimp only [gName]; first | with_reducible refine seqC ?_ | with_reducible refine asgC ?_))))
section
variable {P : Program} {w : World} {K : PySem.W.Frag} {mg : Str → Option Value} {base : Heap}
theorem half_pow (s l : Nat) : s ^ l = (s * s) ^ (l / 2) * s ^ (l % 2) := by
  have e : s ^ l = s ^ (2 * (l / 2) + l % 2) := by rw [Nat.div_add_mod]
  rw [e, Nat.pow_add, Nat.pow_mul]
  congr 2
  exact Nat.pow_two s
theorem step_odd {f s l n : Nat} (h : l % 2 = 1) : (f * s % n) * (s * s % n) ^ (l / 2) % n = f * s ^ l % n := by
  rw [half_pow s l, h, Nat.pow_one, Nat.mul_mod, Nat.mod_mod, Nat.pow_mod, Nat.mod_mod, ← Nat.pow_mod, ← Nat.mul_mod]
  congr 1
  grind
theorem step_even {f s l n : Nat} (h : l % 2 = 0) : f * (s * s % n) ^ (l / 2) % n = f * s ^ l % n := by
  rw [half_pow s l, h, Nat.pow_zero, Nat.mul_mod, Nat.pow_mod, Nat.mod_mod, ← Nat.pow_mod, ← Nat.mul_mod, Nat.mul_one]
def sp_power_rest : Sp := fun vs H Q _ => ∃ e n : Nat, vs = [.int e, .int n] ∧ 1 ≤ n ∧ n ≤ 1000000 ∧ Q (.int ((2 ^ e % n : Nat) : Int)) H
theorem ok_power_rest (T : Top K mg) {k : Nat} : FnOk P w K mg base CX0 (k + 1) T.f_power_rest T.fd_power_rest ["exponent", "odd"]  sp_power_rest := by
  refine T.F_power_rest.ok sc_power_rest (fun vs H Q E h => ?_) (fun cdv A outer s H vs Q E hr h => ?_)
  · obtain ⟨e, n, rfl, _⟩ := h
    rfl
  · obtain ⟨e, n, rfl, h1, h2, q⟩ := h
    refine ⟨_, (pss_cons (ps_set (i := 2) sc_power_rest.nd rfl (Or.inl rfl) (pe_op op_mod pe_int (pv 1)))
    (pss_cons (ps_set (i := 3) sc_power_rest.nd rfl (Or.inl rfl) (pe_op op_mod pe_int (pv 1)))
    (pss_cons (ps_set (i := 4) sc_power_rest.nd rfl (Or.inl rfl) (pv 0))
    (pss_cons (ps_while PassesOwn.never (pt_cmpR op_gt (pv 4) pe_int (nomark _))
      (pss_cons (ps_if (pt_cmpR op_eq (pe_op op_odd (pv 4) pe_int) pe_int (nomark _))
        (pss_one (ps_set (i := 2) sc_power_rest.nd rfl (Or.inl rfl) (pe_op op_mod (pe_op op_mulN (pv 2) (pv 3)) (pv 1))))
        pss_nil)
      (pss_cons (ps_set (i := 3) sc_power_rest.nd rfl (Or.inl rfl) (pe_op op_mod (pe_op op_mulN (pv 3) (pv 3)) (pv 1)))
      (pss_one (ps_set (i := 4) sc_power_rest.nd rfl (Or.inl rfl) (pe_op op_halfN (pv 4) pe_int))))))
    (pss_one (ps_ret (pv 2))))))), ?_⟩
    walk_at "r"
    refine ⟨fun m σ H' => ∃ f s l : Nat, σ = [some (.int e), some (.int n), some (.int f), some (.int s), some (.int l)] ∧ l ≤ m ∧ f < n ∧ s < n ∧ f * s ^ l % n = 2 ^ e % n ∧ H' = H, ⟨e, 1 % n, 2 % n, e, rfl, Nat.le_refl _, Nat.mod_lt _ h1, Nat.mod_lt _ h1, ?_, rfl⟩, ?_⟩
    · rw [Nat.mul_mod, Nat.mod_mod, ← Nat.pow_mod, ← Nat.mul_mod, Nat.one_mul]
    · rintro m σ H' ⟨f, s, l, rfl, hm, hf, hs, inv, rfl⟩
      walk_at "r"
      refine ifD (fun hc => wb fun D' B => ?_) (fun hc => ?_)
      · have hl : 0 < l := by omega
        have hlt : l / 2 < l := Nat.div_lt_self hl (by decide)
        walk_at "r"
        refine if_join (fun σ' H1 => ∃ f', f' < n ∧ f' * (s * s % n) ^ (l / 2) % n = 2 ^ e % n ∧ σ' = [some (.int e), some (.int n), some (.int (f' : Nat)), some (.int s), some (.int l)] ∧ H1 = H') ?_ (fun D' J hb => ?_) (fun D' J hb => ?_)
        · rintro σ' H1 ⟨f', hf', inv', rfl, rfl⟩
          walk_at "r"
          exact B.nx _ _ ⟨l / 2, by omega, f', s * s % n, l / 2, rfl, Nat.le_refl _, hf', Nat.mod_lt _ h1, inv', rfl⟩
        · have hb' : l % 2 = 1 := by
            have := V.int.inj (of_decide_eq_true hb)
            omega
          walk_at "r"
          exact J.nx _ _ ⟨f * s % n, Nat.mod_lt _ h1, by rw [step_odd hb']; exact inv, rfl, rfl⟩
        · have hb' : l % 2 = 0 := by
            have : ¬ (((l % 2 : Nat) : Int) = 1) := fun z => hb (decide_eq_true (congrArg V.int z))
            omega
          exact J.nx _ _ ⟨f, hf, by rw [step_even hb']; exact inv, rfl, rfl⟩
      · have hl : l = 0 := by omega
        subst hl
        walk_at "r"
        have ef : f = 2 ^ e % n := by
          rw [Nat.pow_zero, Nat.mul_one, Nat.mod_eq_of_lt hf] at inv
          exact inv
        rw [ef]
        exact q
end
end K34
set_option Elab.async false
set_option linter.all false
set_option maxRecDepth 100000
namespace K34
open PySem PySem.Spec PyProof.Rows L2 HX M34
local macro_rules | `(tactic| walk_at "r") => `(tactic| (repeat (first | refine Exists.intro _ (And.intro rfl ?_) | refine And.intro rfl ?_ | refine Exists.intro _ (Exists.intro _ (And.intro rfl (And.intro rfl ?_))) | refine And.intro (by omega) ?_ | (dsimp only [gName]; first | with_reducible refine seqC ?_ | with_reducible refine asgC ?_))))
section
variable {P : Program} {w : World} {K : PySem.W.Frag} {mg : Str → Option Value} {base : Heap}
def sp_prime_factors : Sp := fun vs H Q _ => ∃ n : Nat, vs = [.int n] ∧ 1 ≤ n ∧ n ≤ 1000000 ∧ ∀ ps p H', PF n ps → ps.length ≤ 1000 → Same H H' → H p = none → H' p = some (.lst (nv ps)) → Q (.ref p) H'
theorem ok_prime_factors (T : Top K mg) {k : Nat} : FnOk P w K mg base CX0 (k + 1) T.f_prime_factors T.fd_prime_factors ["number"]  sp_prime_factors := by
  refine T.F_prime_factors.ok sc_prime_factors (fun vs H Q E h => ?_) (fun cdv A outer s H vs Q E hr h => ?_)
  · obtain ⟨n, rfl, _⟩ := h
    rfl
  · obtain ⟨n, rfl, h1, h2, q⟩ := h
    refine ⟨_, (pss_cons (ps_set (i := 1) sc_prime_factors.nd rfl (Or.inl rfl) (pe_lst pa_nil))
    (pss_cons (ps_set (i := 2) sc_prime_factors.nd rfl (Or.inl rfl) (pv 0))
    (pss_cons (ps_set (i := 3) sc_prime_factors.nd rfl (Or.inl rfl) pe_int)
    (pss_cons (ps_while PassesOwn.never (pt_cmpR op_le (pe_op op_mulN (pv 3) (pv 3)) (pv 2) (nomark _))
      (pss_cons (ps_if (pt_cmpR op_eq (pe_op op_mod (pv 2) (pv 3)) pe_int (nomark _))
        (pss_cons (ps_expr (pe_bm PySem.F.plainAttrs_list PySem.F.slot_list_append PySem.F.type_list_append mt_append (pv 1) (pa_cons (pv 3) pa_nil)))
        (pss_one (ps_while PassesOwn.never (pt_cmpR op_eq (pe_op op_mod (pv 2) (pv 3)) pe_int (nomark _))
          (pss_one (ps_set (i := 2) sc_prime_factors.nd rfl (Or.inl rfl) (pe_op op_fdivNN (pv 2) (pv 3)))))))
        pss_nil)
      (pss_one (ps_aug (i := 3) sc_prime_factors.nd rfl (Or.inl rfl) pe_int ip_add))))
    (pss_cons (ps_if (pt_cmpR op_gt (pv 2) pe_int (nomark _))
      (pss_one (ps_expr (pe_bm PySem.F.plainAttrs_list PySem.F.slot_list_append PySem.F.type_list_append mt_append (pv 1) (pa_cons (pv 2) pa_nil))))
      pss_nil)
    (pss_one (ps_ret (pv 1)))))))), ?_⟩
    refine ⟨Nat.zero_le _, fun o no => ?_⟩
    walk_at "r"
    refine cut (fun σ' H' => ∃ (fac left : Nat) (found : List Nat), σ' = [some (.int n), some (.ref o), some (.int left), some (.int fac)] ∧ left ≤ n ∧ left < fac * fac ∧ found.length + 2 ≤ fac ∧ fac ≤ 1001 ∧ Srch n fac left found ∧ Same H H' ∧ H' o = some (.lst (nv found)))
      (fun D1 J1 => ?_) ?_
    · refine ⟨fun m σ H' => ∃ (fac left : Nat) (found : List Nat), σ = [some (.int n), some (.ref o), some (.int left), some (.int fac)] ∧ fac + m = 1001 ∧ left ≤ n ∧ found.length + 2 ≤ fac ∧ Srch n fac left found ∧ Same H H' ∧ H' o = some (.lst (nv found)),
        ⟨999, 2, n, [], rfl, rfl, Nat.le_refl _, Nat.le_refl _, Srch.start h1, sm_upd no, upd_same⟩, ?_⟩
      rintro m σ H' ⟨fac, left, found, rfl, hm, hln, hfl, S, sm, eo⟩
      have hf2 := S.f2
      walk_at "r"
      refine ifD (fun hc => wb fun D' B => ?_) (fun hc => ?_)
      · have hc' : fac * fac ≤ left := by omega
        have hf1000 : fac ≤ 1000 := by
          apply Nat.le_of_not_lt
          intro hh
          have := Nat.mul_le_mul (show 1001 ≤ fac from hh) (show 1001 ≤ fac from hh)
          omega
        walk_at "r"
        refine if_join (fun σ' H1 => ∃ (left' : Nat) (found' : List Nat), σ' = [some (.int n), some (.ref o), some (.int left'), some (.int fac)] ∧ left' ≤ n ∧ found'.length + 1 ≤ fac ∧ Srch n (fac + 1) left' found' ∧ Same H H1 ∧ H1 o = some (.lst (nv found'))) ?_ (fun D2 J hb => ?_) (fun D2 J hb => ?_)
        · rintro σ' H1 ⟨left', found', rfl, hl', hf', S', sm', eo'⟩
          walk_at "r"
          exact B.nx _ _ ⟨m - 1, by omega, fac + 1, left', found', rfl, by omega, hl', by omega, S', sm', eo'⟩
        · have hb' : fac ∣ left := by
            have := V.int.inj (of_decide_eq_true hb)
            exact Nat.dvd_of_mod_eq_zero (by omega)
          have hp := S.prime hb'
          walk_at "r"
          refine ⟨.inl ⟨rfl, _, .inl (.inl eo)⟩, ?_⟩
          walk_at "r"
          refine ⟨_, _, _, rfl, rfl, eo, ?_, ?_⟩
          · rw [nv_len]
            exact len_lt (by omega)
          rw [← nv_app]
          refine ⟨fun m σ' H1 => ∃ left' : Nat, σ' = [some (.int n), some (.ref o), some (.int left'), some (.int fac)] ∧ left' ≤ m ∧ left' ≤ n ∧ Inner n fac left' ∧ Same H H1 ∧ H1 o = some (.lst (nv (found ++ [fac]))),
            ⟨left, left, rfl, Nat.le_refl _, hln, S.inner, sm_mut sm no, upd_same⟩, ?_⟩
          rintro m2 σ2 H2 ⟨left2, rfl, hm2, hl2, I2, sm2, eo2⟩
          have hpos := I2.pos
          walk_at "r"
          refine ifE (fun hc => wb fun D3 B3 => ?_) (fun hc => ?_)
          · have hd : fac ∣ left2 := Nat.dvd_of_mod_eq_zero (by omega)
            obtain ⟨I3, hlt⟩ := I2.step hp hd
            walk_at "r"
            exact B3.nx _ _ ⟨left2 / fac, by omega, left2 / fac, rfl, Nat.le_refl _, by omega, I3, sm2, eo2⟩
          · have hd : ¬ fac ∣ left2 := fun z => hc (by have := Nat.mod_eq_zero_of_dvd z; omega)
            exact J.nx _ _ ⟨left2, found ++ [fac], rfl, hl2, by simp; omega, S.yes hb' I2 hd, sm2, eo2⟩
        · have hb' : ¬ fac ∣ left := fun z => hb (decide_eq_true (congrArg V.int (by have := Nat.mod_eq_zero_of_dvd z; omega)))
          exact J.nx _ _ ⟨left, found, rfl, hln, by omega, S.no hb', sm, eo⟩
      · exact J1.nx _ _ ⟨fac, left, found, rfl, hln, by omega, hfl, by omega, S, sm, eo⟩
    · rintro σ' H' ⟨fac, left, found, rfl, hln, hlt, hfl, hf, S, sm, eo⟩
      have hpos := S.pos
      walk_at "r"
      refine ifD (fun hc => ?_) (fun hc => ?_)
      · walk_at "r"
        refine ⟨.inl ⟨rfl, _, .inl (.inl eo)⟩, ?_⟩
        walk_at "r"
        refine ⟨_, _, _, rfl, rfl, eo, ?_, ?_⟩
        · rw [nv_len]
          exact len_lt (by omega)
        rw [← nv_app]
        walk_at "r"
        exact q _ _ _ (S.last hlt (by omega)) (by simp; omega) (sm_mut sm no) no upd_same
      · have e : left = 1 := by omega
        subst e
        walk_at "r"
        exact q _ _ _ S.last1 (by omega) sm no eo
end
end K34
set_option Elab.async false
set_option linter.all false
set_option maxRecDepth 100000
namespace K34
open PySem PySem.Spec PyProof.Rows L2 HX M34
local macro_rules | `(tactic| walk_at "r") => `(tactic| (repeat (first | refine Exists.intro _ (And.intro rfl ?_) | refine And.intro rfl ?_ | refine Exists.intro _ (Exists.intro _ (And.intro rfl (And.intro rfl ?_))) | refine And.intro (by omega) ?_ | refine And.intro (Or.inl (And.intro (by omega) (by omega))) ?_ | refine And.intro (Or.inr (And.intro (by omega) (by omega))) ?_ | refine And.intro (And.intro (by omega) (by omega)) ?_ | refine And.intro (And.intro (by decide) (And.intro (by decide) (by decide))) ?_ | refine Or.inl (Exists.intro _ (And.intro rfl ?_)) | (dsimp only [gName]; first | with_reducible refine seqC ?_ | with_reducible refine asgC ?_))))
local macro_rules | `(tactic| walk_at "s") => `(tactic| (repeat (first | refine Exists.intro _ (And.intro rfl ?_) | refine And.intro rfl ?_ | refine Exists.intro _ (Exists.intro _ (And.intro rfl (And.intro rfl ?_))) | refine And.intro (by omega) ?_ | refine And.intro (Or.inl (And.intro (by omega) (by omega))) ?_ | refine And.intro (Or.inr (And.intro (by omega) (by omega))) ?_ | refine And.intro (And.intro (by omega) (by omega)) ?_ | refine And.intro (And.intro (by decide) (And.intro (by decide) (by decide))) ?_ | refine Or.inl (Exists.intro _ (And.intro rfl ?_)) | refine Exists.intro _ (Exists.intro _ (And.intro rfl ?_)) | (dsimp only [gName]; first | with_reducible refine seqC ?_ | with_reducible refine asgC ?_))))
section
variable {P : Program} {w : World} {K : PySem.W.Frag} {mg : Str → Option Value} {base : Heap}
def sp_least_period : Sp := fun vs H Q _ => ∃ n : Nat, vs = [.int n] ∧ n % 2 = 1 ∧ n ≤ 1000000 ∧ ∀ (d : Nat) H', Least n d → d ≤ n → (n ≠ 1 → d < n) → Same H H' → Q (.int d) H'
theorem drop_cons {α : Type} {l : List α} {i : Nat} {x : α} (h : l[i]? = some x) : l.drop i = x :: l.drop (i + 1) := by
  obtain ⟨hi, e⟩ := List.getElem?_eq_some_iff.mp h
  rw [List.drop_eq_getElem_cons hi, e]
theorem ok_least_period (T : Top K mg) : FnOk P w K mg base CX0 (2) T.f_least_period T.fd_least_period ["odd"]  sp_least_period := by
  have G_prime_factors : FnOk P w K mg base CX0 (1) T.f_prime_factors T.fd_prime_factors ["number"]  sp_prime_factors := ok_prime_factors T
  have G_power_rest : FnOk P w K mg base CX0 (1) T.f_power_rest T.fd_power_rest ["exponent", "odd"]  sp_power_rest := ok_power_rest T
  refine T.F_least_period.ok sc_least_period (fun vs H Q E h => ?_) (fun cdv A outer s H vs Q E hr h => ?_)
  · obtain ⟨n, rfl, _⟩ := h
    rfl
  · obtain ⟨n, rfl, h1, h2, q⟩ := h
    refine ⟨_, (pss_cons (ps_set (i := 1) sc_least_period.nd rfl (Or.inl rfl) (pv 0))
    (pss_cons (ps_for PassesOwn.never rfl (pi_list (pe_call G_prime_factors hr (by rfl) T.g_prime_factors T.F_prime_factors.kp T.b_prime_factors .nil pass0 (pa_cons (pv 0) pa_nil))) (pg_name (i := 2) sc_least_period.nd rfl (Or.inl rfl))
      (pss_one (ps_set (i := 1) sc_least_period.nd rfl (Or.inl rfl) (pe_op op_mulN (pe_op op_fdivNN (pv 1) (pv 2)) (pe_op op_subN (pv 2) pe_int)))))
    (pss_cons (ps_for PassesOwn.never rfl (pi_list (pe_call G_prime_factors hr (by rfl) T.g_prime_factors T.F_prime_factors.kp T.b_prime_factors .nil pass0 (pa_cons (pv 1) pa_nil))) (pg_name (i := 2) sc_least_period.nd rfl (Or.inl rfl))
      (pss_one (ps_while PassesOwn.never (PW.pt (pw_and (pt_cmpR op_eq (pe_op op_mod (pv 1) (pv 2)) pe_int (nomark _)) (pw_and1 (pt_cmpR op_eq (pe_call G_power_rest hr (by rfl) T.g_power_rest T.F_power_rest.kp T.b_power_rest .nil pass0 (pa_cons (pe_op op_fdivNN (pv 1) (pv 2)) (pa_cons (pv 0) pa_nil))) (pe_op op_mod pe_int (pv 0)) (nomark _)))))
        (pss_one (ps_set (i := 1) sc_least_period.nd rfl (Or.inl rfl) (pe_op op_fdivNN (pv 1) (pv 2)))))))
    (pss_one (ps_ret (pv 1)))))), ?_⟩
    walk_at "r"
    intro ps a H1 hPF hl1 sm1 na ea
    refine ⟨a, rfl, ⟨_, .inl (.inl ea)⟩, ?_⟩
    have hpr : ∀ q ∈ ps, Pr q := fun q hq => ((hPF.2 q).mp hq).1
    have hdv : ∀ q ∈ ps, q ∣ n := fun q hq => ((hPF.2 q).mp hq).2
    have hone : One n (tot ps n) := euler2 ps n h1 hPF.1 hPF.2
    obtain ⟨hd1, hd2, hd3⟩ := tot_pos ps n (by omega) hpr hPF.1 hdv
    have hne : n ≠ 1 → ps ≠ [] := by
      intro hn e
      obtain ⟨p, hp, hd⟩ := pr_exists n (by omega)
      have := (hPF.2 p).mpr ⟨hp, hd⟩
      rw [e] at this
      simp at this
    refine flL (xs := nv ps) (fun i σ H' => ∃ (per : Nat) (z : Option V), σ = [some (.int n), some (.int per), z] ∧ tot (ps.drop i) per = tot ps n ∧ per ≤ n ∧ Same H H' ∧ H' a = some (.lst (nv ps)))
      ⟨n, none, rfl, rfl, Nat.le_refl _, sm1, ea⟩ ?_ ?_ ?_
    · rintro i σ H' _ ⟨per, z, _, _, _, _, ea'⟩
      exact .inl (.inl ea')
    · rintro i x σ H' hx ⟨per, z, rfl, ht, hpn, sm, ea'⟩ D' B
      obtain ⟨f, hf, rfl⟩ := nv_get hx
      have hfp := hpr f (List.mem_of_getElem? hf)
      have hf2 := hfp.1
      have hfn : f ≤ n := Nat.le_of_dvd (by omega) (hdv f (List.mem_of_getElem? hf))
      have hq : per / f * (f - 1) ≤ per := by
        have h3 : per / f * (f - 1) ≤ per / f * f := Nat.mul_le_mul_left _ (by omega)
        have h4 := Nat.div_mul_le_self per f
        omega
      have hq2 : per / f ≤ per := Nat.div_le_self _ _
      show tAsg _ _ _ _ _
      walk_at "r"
      refine ⟨show 1 ≤ f by omega, ?_⟩
      walk_at "r"
      refine B.nx _ _ ⟨per / f * (f - 1), _, rfl, ?_, by omega, sm, ea'⟩
      rw [drop_cons hf] at ht
      exact ht
    · rintro σ H' ⟨per, z, rfl, ht, hpn, sm, ea'⟩
      rw [nv_len, List.drop_length] at ht
      have ht' : per = tot ps n := ht
      have hpos : 1 ≤ per := by omega
      have hD : One n per := by rw [ht']; exact hone
      walk_at "r"
      intro ps2 a2 H2 hPF2 hl2 sm2 na2 ea2
      refine ⟨a2, rfl, ⟨_, .inl (.inl ea2)⟩, ?_⟩
      refine flL (xs := nv ps2) (fun i σ H' => ∃ (d : Nat) (z : Option V), σ = [some (.int n), some (.int d), z] ∧ 1 ≤ d ∧ d ∣ per ∧ One n d ∧ (∀ (j : Nat) (p : Nat), j < i → ps2[j]? = some p → ¬ (p ∣ d ∧ One n (d / p))) ∧ Same H H' ∧ H' a2 = some (.lst (nv ps2)))
        ⟨per, z, rfl, hpos, Nat.dvd_refl _, hD, fun j p hj => by omega, sm.trans sm2, ea2⟩ ?_ ?_ ?_
      · rintro i σ H' _ ⟨d, z, _, _, _, _, _, _, ea'⟩
        exact .inl (.inl ea')
      · rintro i x σ H3 hx ⟨d, z, rfl, hd0, hdv2, hD2, hj, sm3, ea3⟩ D' B
        obtain ⟨f, hf, rfl⟩ := nv_get hx
        obtain ⟨hfp, hfd⟩ := (hPF2.2 f).mp (List.mem_of_getElem? hf)
        have hf2 := hfp.1
        have hfn : f ≤ per := Nat.le_of_dvd (by omega) hfd
        refine ⟨fun m σ H' => ∃ d : Nat, σ = [some (.int n), some (.int d), some (.int f)] ∧ d ≤ m ∧ 1 ≤ d ∧ d ∣ per ∧ One n d ∧ (∀ (j : Nat) (p : Nat), j < i → ps2[j]? = some p → ¬ (p ∣ d ∧ One n (d / p))) ∧ Same H H' ∧ H' a2 = some (.lst (nv ps2)),
          ⟨d, d, rfl, Nat.le_refl _, hd0, hdv2, hD2, hj, sm3, ea3⟩, ?_⟩
        rintro m σ4 H4 ⟨d4, rfl, hm4, hp4, hdv4, hD4, hj4, sm4, ea4⟩
        have hend : ¬ (f ∣ d4 ∧ One n (d4 / f)) → D'.nx [some (.int n), some (.int d4), some (.int f)] H4 := fun hno => by
          refine B.nx _ _ ⟨d4, _, rfl, hp4, hdv4, hD4, fun j p hlt hp => ?_, sm4, ea4⟩
          by_cases e : j = i
          · subst e
            rw [hf] at hp
            cases hp
            exact hno
          · exact hj4 j p (by omega) hp
        have hdn : d4 ≤ per := Nat.le_of_dvd (by omega) hdv4
        walk_at "r"
        refine ifE (fun hc => ?_) (fun hc => ?_)
        · have hfd4 : f ∣ d4 := Nat.dvd_of_mod_eq_zero (by omega)
          walk_at "r"
          refine ⟨_, _, rfl, by omega, by omega, ?_⟩
          walk_at "r"
          refine ifE (fun hc2 => wb fun D3 B3 => ?_) (fun hc2 => ?_)
          · have ho : One n (d4 / f) := (one_iff (by omega)).mpr (by
              have : ((2 ^ (d4 / f) % n : Nat) : Int) = ((1 % n : Nat) : Int) := hc2
              omega)
            obtain ⟨z4, hz4⟩ := hfd4
            have hz : d4 / f = z4 := by rw [hz4, Nat.mul_div_cancel_left _ (by omega)]
            have hz0 : 0 < z4 := Nat.pos_of_ne_zero (by rintro rfl; omega)
            have hlt : z4 < d4 := by
              have : 2 * z4 ≤ f * z4 := Nat.mul_le_mul_right z4 hf2
              omega
            walk_at "r"
            refine B3.nx _ _ ⟨z4, by omega, z4, ?_, Nat.le_refl _, by omega, ?_, ?_, ?_, sm4, ea4⟩
            · show [some (V.int n), some (V.int ((d4 / f : Nat) : Int)), some (V.int f)] = _
              rw [hz]
            · exact Nat.dvd_trans ⟨f, by rw [hz4, Nat.mul_comm]⟩ hdv4
            · rw [← hz]
              exact ho
            · rintro j p hlt2 hp ⟨hx1, hx2⟩
              have hpp := ((hPF2.2 p).mp (List.mem_of_getElem? hp)).1
              exact hj4 j p hlt2 hp (one_up hpp ⟨f, by rw [hz4, Nat.mul_comm]⟩ hx1 hx2)
          · refine hend fun ⟨_, ho⟩ => hc2 ?_
            have := (one_iff (by omega)).mp ho
            show ((2 ^ (d4 / f) % n : Nat) : Int) = ((1 % n : Nat) : Int)
            omega
        · exact hend fun ⟨z, _⟩ => hc (by have := Nat.mod_eq_zero_of_dvd z; omega)
      · rintro σ H' ⟨d, z, rfl, hd0, hdv2, hD2, hj, sm3, ea3⟩
        have hdn : d ≤ per := Nat.le_of_dvd (by omega) hdv2
        walk_at "r"
        refine q d H' ⟨hd0, hD2, fun p hp hpd ho => ?_⟩ (by omega) (fun hn => ?_) sm3
        · obtain ⟨j, hj1, hj2⟩ := List.getElem_of_mem ((hPF2.2 p).mpr ⟨hp, Nat.dvd_trans hpd hdv2⟩)
          exact hj j p (by rw [nv_len]; exact hj1) (by rw [← hj2]; exact List.getElem?_eq_getElem hj1) ⟨hpd, ho⟩
        · have := hd3 (hne hn)
          omega
end
end K34
set_option Elab.async false
set_option linter.all false
set_option maxRecDepth 100000
namespace K34
open PySem PySem.Spec PyProof.Rows L2 HX M34
local macro_rules | `(tactic| walk_at "r") => `(tactic| (repeat (first | refine Exists.intro _ (And.intro rfl ?_) | refine And.intro rfl ?_ | refine Exists.intro _ (Exists.intro _ (And.intro rfl (And.intro rfl ?_))) | refine And.intro (by omega) ?_ | refine And.intro (Or.inl (And.intro (by omega) (by omega))) ?_ | refine And.intro (Or.inr (And.intro (by omega) (by omega))) ?_ | refine And.intro (And.intro (by omega) (by omega)) ?_ | refine And.intro (And.intro (by decide) (And.intro (by decide) (by decide))) ?_ | refine Or.inl (Exists.intro _ (And.intro rfl ?_)) | (dsimp only [gName]; first | with_reducible refine seqC ?_ | with_reducible refine asgC ?_))))
local macro_rules | `(tactic| walk_at "s") => `(tactic| (repeat (first | refine Exists.intro _ (And.intro rfl ?_) | refine And.intro rfl ?_ | refine Exists.intro _ (Exists.intro _ (And.intro rfl (And.intro rfl ?_))) | refine And.intro (by omega) ?_ | refine And.intro (Or.inl (And.intro (by omega) (by omega))) ?_ | refine And.intro (Or.inr (And.intro (by omega) (by omega))) ?_ | refine And.intro (And.intro (by omega) (by omega)) ?_ | refine And.intro (And.intro (by decide) (And.intro (by decide) (by decide))) ?_ | refine Or.inl (Exists.intro _ (And.intro rfl ?_)) | refine Exists.intro _ (Exists.intro _ (And.intro rfl ?_)) | (dsimp only [gName]; first | with_reducible refine seqC ?_ | with_reducible refine asgC ?_))))
section
variable {P : Program} {w : World} {K : PySem.W.Frag} {mg : Str → Option Value} {base : Heap}
/-- a level's four ints -/
def lvV (l : Lv) : List V := [.int l.m, .int l.t, .int l.o, .int l.d]
def sp_level_of : Sp := fun vs H Q _ => ∃ m : Nat, vs = [.int m] ∧ 1 ≤ m ∧ m ≤ 1000000 ∧ ∀ (l : Lv) p H', GoodL l → l.m = m → Same H H' → H p = none → H' p = some (.tup (lvV l)) → Q (.ref p) H'
theorem ok_level_of (T : Top K mg) : FnOk P w K mg base CX0 (3) T.f_level_of T.fd_level_of ["modulus"]  sp_level_of := by
  have G_least_period : FnOk P w K mg base CX0 (2) T.f_least_period T.fd_least_period ["odd"]  sp_least_period := ok_least_period T
  refine T.F_level_of.ok sc_level_of (fun vs H Q E h => ?_) (fun cdv A outer s H vs Q E hr h => ?_)
  · obtain ⟨n, rfl, _⟩ := h
    rfl
  · obtain ⟨m, rfl, h1, h2, q⟩ := h
    refine ⟨_, (pss_cons (ps_set (i := 1) sc_level_of.nd rfl (Or.inl rfl) pe_int)
    (pss_cons (ps_set (i := 2) sc_level_of.nd rfl (Or.inl rfl) (pv 0))
    (pss_cons (ps_while PassesOwn.never (pt_cmpR op_eq (pe_op op_odd (pv 2) pe_int) pe_int (nomark _))
      (pss_cons (ps_set (i := 2) sc_level_of.nd rfl (Or.inl rfl) (pe_op op_halfN (pv 2) pe_int))
      (pss_one (ps_aug (i := 1) sc_level_of.nd rfl (Or.inl rfl) pe_int ip_add))))
    (pss_one (ps_ret (pe_tup (pa_cons (pv 0) (pa_cons (pv 1) (pa_cons (pv 2) (pa_cons (pe_call G_least_period hr (by rfl) T.g_least_period T.F_least_period.kp T.b_least_period .nil pass0 (pa_cons (pv 2) pa_nil)) pa_nil)))))))))), ?_⟩
    walk_at "r"
    refine ⟨fun k σ H' => ∃ t o : Nat, σ = [some (.int m), some (.int t), some (.int o)] ∧ o ≤ k ∧ 1 ≤ o ∧ m = o * 2 ^ t ∧ H' = H, ⟨m, 0, m, rfl, Nat.le_refl _, h1, by simp, rfl⟩, ?_⟩
    rintro k σ H' ⟨t, o, rfl, hk, ho, hm, rfl⟩
    walk_at "r"
    refine ifE (fun hc => wb fun D' B => ?_) (fun hc => ?_)
    · walk_at "r"
      refine B.nx _ _ ⟨o / 2, by omega, t + 1, o / 2, rfl, Nat.le_refl _, by omega, ?_, rfl⟩
      have : o = 2 * (o / 2) := by omega
      rw [Nat.pow_succ, hm]
      generalize o / 2 = z at *
      subst this
      grind
    · have hom : o ≤ m := by
        have : o * 1 ≤ o * 2 ^ t := Nat.mul_le_mul_left _ (Nat.pow_pos (by decide))
        omega
      walk_at "r"
      intro d H1 hL hd1 hd2 sm
      refine ⟨by show 4 ≤ sizeLine; decide, fun p np => ?_⟩
      exact q ⟨m, t, o, d⟩ p _ ⟨hm, by show o % 2 = 1; omega, h2, hL, hd1, hd2⟩ rfl (sm.trans (sm_upd np)) (sm.free np) upd_same
/-- levels at their places -/
def LvAt (H : Hp) (as : List Addr) (ls : List Lv) : Prop := as.length = ls.length ∧ ∀ (i : Nat) (a : Addr) (l : Lv), as[i]? = some a → ls[i]? = some l → H a = some (.tup (lvV l))
theorem LvAt.mono {H H' : Hp} {as : List Addr} {ls : List Lv} (h : LvAt H as ls) (e : ∀ a xs, H a = some (.tup xs) → H' a = some (.tup xs)) : LvAt H' as ls := ⟨h.1, fun i a l h1 h2 => e _ _ (h.2 i a l h1 h2)⟩
theorem LvAt.snoc {H : Hp} {as : List Addr} {ls : List Lv} {a : Addr} {l : Lv} (h : LvAt H as ls) (e : H a = some (.tup (lvV l))) : LvAt H (as ++ [a]) (ls ++ [l]) := by
  refine ⟨by simp [h.1], fun i b m h1 h2 => ?_⟩
  by_cases hi : i < as.length
  · rw [List.getElem?_append_left hi] at h1
    rw [List.getElem?_append_left (by have := h.1; omega)] at h2
    exact h.2 i b m h1 h2
  · rw [List.getElem?_append_right (by omega)] at h1
    rw [List.getElem?_append_right (by have := h.1; omega)] at h2
    have e1 : i - as.length = 0 := by
      apply Classical.byContradiction
      intro hc
      rw [List.getElem?_eq_none (by simp; omega)] at h1
      cases h1
    have e2 : i - ls.length = 0 := by have := h.1; omega
    rw [e1] at h1
    rw [e2] at h2
    cases h1
    cases h2
    exact e
def sp_least_levels : Sp := fun vs H Q _ => ∃ m : Nat, vs = [.int m] ∧ 1 ≤ m ∧ m ≤ 1000000 ∧ ∀ (as : List Addr) (ls : List Lv) p H', Ch m ls → ls.length ≤ 1000000 → LvAt H' as ls → Same H H' → H p = none → H' p = some (.tup (as.map V.ref)) → Q (.ref p) H'
theorem atI_end {xs : List V} {v : V} : atI (xs ++ [v]) (-1) = some v := atI_last xs v
theorem ok_least_levels (T : Top K mg) : FnOk P w K mg base CX0 (4) T.f_least_levels T.fd_least_levels ["m"]  sp_least_levels := by
  have G_level_of : FnOk P w K mg base CX0 (3) T.f_level_of T.fd_level_of ["modulus"]  sp_level_of := ok_level_of T
  refine T.F_least_levels.ok sc_least_levels (fun vs H Q E h => ?_) (fun cdv A outer s H vs Q E hr h => ?_)
  · obtain ⟨n, rfl, _⟩ := h
    rfl
  · obtain ⟨m, rfl, h1, h2, q⟩ := h
    refine ⟨_, (pss_cons (ps_set (i := 1) sc_least_levels.nd rfl (Or.inl rfl) (pe_lst (pa_cons (pe_call G_level_of hr (by rfl) T.g_level_of T.F_level_of.kp T.b_level_of .nil pass0 (pa_cons (pv 0) pa_nil)) pa_nil)))
    (pss_cons (ps_while PassesOwn.never (pt_cmpR op_ne (pe_ix ix_tup (pe_ix ix_list (pv 1) (pe_un un_neg pe_int) (fun _ _ => rfl)) pe_int (fun _ _ => rfl)) pe_int (nomark _))
      (pss_one (ps_expr (pe_bm PySem.F.plainAttrs_list PySem.F.slot_list_append PySem.F.type_list_append mt_append (pv 1) (pa_cons (pe_call G_level_of hr (by rfl) T.g_level_of T.F_level_of.kp T.b_level_of .nil pass0 (pa_cons (pe_ix ix_tup (pe_ix ix_list (pv 1) (pe_un un_neg pe_int) (fun _ _ => rfl)) pe_int (fun _ _ => rfl)) pa_nil)) pa_nil)))))
    (pss_one (ps_ret (pe_callTy call_tuple_of (by rfl) T.m_tuple (by decide +kernel) (pa_cons (pv 1) pa_nil)))))), ?_⟩
    walk_at "r"
    intro l0 p0 H1 g0 e0 sm0 np0 ep0
    refine ⟨by show 1 ≤ sizeLine; decide, fun o no => ?_⟩
    refine ⟨fun k σ H' => ∃ (as : List Addr) (ls : List Lv) (p : Addr) (l : Lv), σ = [some (.int m), some (.ref o)] ∧ l.m ≤ k ∧ Seg m ls l.m ∧ GoodL l ∧ ls.length + l.m ≤ m ∧ LvAt H' (as ++ [p]) (ls ++ [l]) ∧ Same H H' ∧ H' o = some (.lst (as.map V.ref ++ [.ref p])),
      ⟨l0.m, [], [], p0, l0, rfl, Nat.le_refl _, e0 ▸ Seg.nil, g0, by simp [e0], ?_, sm0.trans (sm_upd no), upd_same⟩, ?_⟩
    · refine LvAt.snoc (as := []) (ls := []) ⟨rfl, fun i a l h => by simp at h⟩ ?_
      exact (sm_upd no) _ _ ep0
    rintro k σ H' ⟨as, ls, p, l, rfl, hk, hs, g, hln, hat, sm, eo⟩
    have hall : as.length = ls.length := by
      have := hat.1
      simp at this
      omega
    have ep : H' p = some (.tup (lvV l)) := hat.2 as.length p l (by simp) (by rw [hall]; simp)
    have hlo : l.o ≤ l.m := by
      rw [g.e]
      exact Nat.le_mul_of_pos_right _ (Nat.pow_pos (by decide))
    have hd1 := g.least.1
    walk_at "r"
    refine ⟨o, _, -1, _, rfl, rfl, .inl (.inl eo), atI_end, ?_⟩
    refine ⟨p, _, 2, _, rfl, rfl, .inl (.inl ep), atI_nat (j := 2) rfl, ?_⟩
    walk_at "r"
    refine ifNE (fun hc => wb fun D' B => ?_) (fun hc => ?_)
    · have hc' : l.o ≠ 1 := by omega
      have hdl := g.dlt hc'
      have hle := g.le
      walk_at "r"
      refine ⟨.inl ⟨rfl, _, .inl (.inl eo)⟩, ?_⟩
      walk_at "r"
      refine ⟨o, _, -1, _, rfl, rfl, .inl (.inl eo), atI_end, ?_⟩
      refine ⟨p, _, 3, _, rfl, rfl, .inl (.inl ep), atI_nat (j := 3) rfl, ?_⟩
      refine ⟨l.d, rfl, hd1, by omega, fun l2 p2 H2 g2 e2 sm2 np2 ep2 => ?_⟩
      refine ⟨o, _, _, rfl, rfl, sm2 _ _ eo, ?_, ?_⟩
      · have := hat.1
        simp at this ⊢
        exact len_lt (by omega)
      have no2 : o ≠ p2 := ne_of_none eo np2
      refine B.nx _ _ ⟨l2.m, by omega, as ++ [p], ls ++ [l], p2, l2, rfl, Nat.le_refl _, by rw [e2]; exact Seg.snoc hs g hc', g2, by simp; omega, ?_, sm_mut (sm.trans sm2) (sm0.free no), ?_⟩
      · refine LvAt.snoc (hat.mono fun a xs h => ?_) ?_
        · rw [upd_ne (ne_of (sm2 _ _ h) (sm2 _ _ eo) (by intro z; cases z))]
          exact sm2 _ _ h
        · rw [upd_ne no2.symm]
          exact ep2
      · rw [upd_same]
        simp
    · have hc' : l.o = 1 := by omega
      have hgm := g.le
      walk_at "r"
      refine ⟨o, _, rfl, .inl ⟨.inl (.inl eo), fun r nr => ?_⟩⟩
      refine q (as ++ [p]) (ls ++ [l]) r _ (hs.ch (Ch.one g hc')) ?_ (hat.mono fun a xs h => (sm_upd nr) _ _ h) (sm.trans (sm_upd nr)) (sm.free nr) ?_
      · simp
        have : 1 ≤ l.m := by
          have := g.odd
          omega
        omega
      · rw [upd_same]
        simp
end
end K34
set_option Elab.async false
set_option linter.all false
set_option maxRecDepth 100000
namespace K34
open PySem PySem.Spec PyProof.Rows L2 HX M34
local macro_rules | `(tactic| walk_at "r") => `(tactic| (repeat (first | refine Exists.intro _ (And.intro rfl ?_) | refine And.intro rfl ?_ | refine Exists.intro _ (Exists.intro _ (And.intro rfl (And.intro rfl ?_))) | refine And.intro (by omega) ?_ | refine And.intro (Or.inl (And.intro (by omega) (by omega))) ?_ | refine And.intro (Or.inr (And.intro (by omega) (by omega))) ?_ | refine And.intro (And.intro (by omega) (by omega)) ?_ | refine And.intro (And.intro (by decide) (And.intro (by decide) (by decide))) ?_ | refine Or.inl (Exists.intro _ (And.intro rfl ?_)) | (dsimp only [gName]; first | with_reducible refine seqC ?_ | with_reducible refine asgC ?_))))
local macro_rules | `(tactic| walk_at "s") => `(tactic| (repeat (first | refine Exists.intro _ (And.intro rfl ?_) | refine And.intro rfl ?_ | refine Exists.intro _ (Exists.intro _ (And.intro rfl (And.intro rfl ?_))) | refine And.intro (by omega) ?_ | refine And.intro (Or.inl (And.intro (by omega) (by omega))) ?_ | refine And.intro (Or.inr (And.intro (by omega) (by omega))) ?_ | refine And.intro (And.intro (by omega) (by omega)) ?_ | refine And.intro (And.intro (by decide) (And.intro (by decide) (by decide))) ?_ | refine Or.inl (Exists.intro _ (And.intro rfl ?_)) | refine Exists.intro _ (Exists.intro _ (And.intro rfl ?_)) | (dsimp only [gName]; first | with_reducible refine seqC ?_ | with_reducible refine asgC ?_))))
section
variable {P : Program} {w : World} {K : PySem.W.Frag} {mg : Str → Option Value} {base : Heap}
def sp_is_int : Sp := fun vs H Q _ => ∃ i : Int, vs = [.int i] ∧ Q (.bl true) H
theorem ok_is_int (T : Top K mg) {k : Nat} : FnOk P w K mg base CX0 (k + 1) T.f_is_int T.fd_is_int ["value"]  sp_is_int := by
  refine T.F_is_int.ok sc_is_int (fun vs H Q E h => ?_) (fun cdv A outer s H vs Q E hr h => ?_)
  · obtain ⟨n, rfl, _⟩ := h
    rfl
  · obtain ⟨i, rfl, q⟩ := h
    refine ⟨_, (pss_one (ps_ret (pe_and (pe_callB call_isi (by rfl) T.m_isinstance (by decide +kernel) (pa_cons (pv 0) (pa_cons (pe_bltn (v := .ty "int") (by rfl) T.m_int (by decide +kernel) rfl) pa_nil))) (pe_one (pe_not (pe_callB call_isi (by rfl) T.m_isinstance (by decide +kernel) (pa_cons (pv 0) (pa_cons (pe_bltn (v := .ty "bool") (by rfl) T.m_bool (by decide +kernel) rfl) pa_nil)))))))), ?_⟩
    refine ⟨_, rfl, _, _, _, _, true, rfl, .ty "int", .base (.int i), kit_ty (by decide +kernel), true, rfl, iteT ?_⟩
    refine ⟨_, rfl, _, _, _, _, false, rfl, .ty "bool", .base (.int i), kit_ty (by decide +kernel), false, rfl, ?_⟩
    exact q
def sp_is_small : Sp := fun vs H Q _ => ∃ i : Int, vs = [.int i] ∧ 1 ≤ i ∧ i ≤ 1000000 ∧ Q (.bl true) H
theorem ok_is_small (T : Top K mg) {k : Nat} : FnOk P w K mg base CX0 (k + 2) T.f_is_small T.fd_is_small ["value"]  sp_is_small := by
  have G_is_int : FnOk P w K mg base CX0 (k + 1) T.f_is_int T.fd_is_int ["value"]  sp_is_int := ok_is_int T
  refine T.F_is_small.ok sc_is_small (fun vs H Q E h => ?_) (fun cdv A outer s H vs Q E hr h => ?_)
  · obtain ⟨n, rfl, _⟩ := h
    rfl
  · obtain ⟨i, rfl, h1, h2, q⟩ := h
    refine ⟨_, (pss_one (ps_ret (pe_and (pe_call G_is_int hr (by rfl) T.g_is_int T.F_is_int.kp T.b_is_int .nil pass0 (pa_cons (pv 0) pa_nil)) (pe_one (pe_chain op_le op_le pe_int (pv 0) (pe_glob (v := .int (1000000)) (by rfl) T.c_MOST_MODULUS ⟨_, rfl⟩)))))), ?_⟩
    refine ⟨_, rfl, i, rfl, true, rfl, iteT ?_⟩
    refine ⟨_, rfl, 1, i, rfl, rfl, _, rfl, ifD (fun _ => ?_) (fun c => absurd h1 c)⟩
    refine ⟨i, 1000000, rfl, rfl, ?_⟩
    show Q (.bl (decide (i ≤ 1000000))) H
    rw [decide_eq_true h2]
    exact q
def sp_periods : Sp := fun vs H Q _ => ∃ m : Nat, vs = [.int m] ∧ 1 ≤ m ∧ m ≤ 1000000 ∧ ∀ (as : List Addr) (ls : List Lv) p H', Ch m ls → ls.length ≤ 1000000 → LvAt H' as ls → Same H H' → H p = none → H' p = some (.tup (as.map V.ref)) → Q (.ref p) H'
theorem ok_periods (T : Top K mg) : FnOk P w K mg base CX0 (5) T.f_periods T.fd_periods ["m"]  sp_periods := by
  have G_is_small : FnOk P w K mg base CX0 (2) T.f_is_small T.fd_is_small ["value"]  sp_is_small := ok_is_small T
  have G_least_levels : FnOk P w K mg base CX0 (4) T.f_least_levels T.fd_least_levels ["m"]  sp_least_levels := ok_least_levels T
  refine T.F_periods.ok sc_periods (fun vs H Q E h => ?_) (fun cdv A outer s H vs Q E hr h => ?_)
  · obtain ⟨n, rfl, _⟩ := h
    rfl
  · obtain ⟨m, rfl, h1, h2, q⟩ := h
    refine ⟨_, (pss_cons (ps_if (pt_not (pt_val (pe_call G_is_small (hr.mono (by decide)) (by rfl) T.g_is_small T.F_is_small.kp T.b_is_small .nil pass0 (pa_cons (pv 0) pa_nil)) (fun _ => rfl)))
      (pss_one ps_never)
      pss_nil)
    (pss_one (ps_ret (pe_call G_least_levels hr (by rfl) T.g_least_levels T.F_least_levels.kp T.b_least_levels .nil pass0 (pa_cons (pv 0) pa_nil))))), ?_⟩
    refine ⟨_, rfl, m, rfl, by omega, by omega, true, rfl, iteF ?_⟩
    refine ⟨_, rfl, m, rfl, h1, h2, q⟩
end
end K34
set_option Elab.async false
set_option linter.all false
set_option maxRecDepth 100000
namespace K34
open PySem PySem.Spec PyProof.Rows L2 HX M34
local macro_rules | `(tactic| walk_at "r") => `(tactic| (repeat (first | refine Exists.intro _ (And.intro rfl ?_) | refine And.intro rfl ?_ | refine Exists.intro _ (Exists.intro _ (And.intro rfl (And.intro rfl ?_))) | refine And.intro (by omega) ?_ | refine And.intro (Or.inl (And.intro (by omega) (by omega))) ?_ | refine And.intro (Or.inr (And.intro (by omega) (by omega))) ?_ | refine And.intro (And.intro (by omega) (by omega)) ?_ | refine And.intro (And.intro (by decide) (And.intro (by decide) (by decide))) ?_ | refine Or.inl (Exists.intro _ (And.intro rfl ?_)) | (dsimp only [gName]; first | with_reducible refine seqC ?_ | with_reducible refine asgC ?_))))
local macro_rules | `(tactic| walk_at "s") => `(tactic| (repeat (first | refine Exists.intro _ (And.intro rfl ?_) | refine And.intro rfl ?_ | refine Exists.intro _ (Exists.intro _ (And.intro rfl (And.intro rfl ?_))) | refine And.intro (by omega) ?_ | refine And.intro (Or.inl (And.intro (by omega) (by omega))) ?_ | refine And.intro (Or.inr (And.intro (by omega) (by omega))) ?_ | refine And.intro (And.intro (by omega) (by omega)) ?_ | refine And.intro (And.intro (by decide) (And.intro (by decide) (by decide))) ?_ | refine Or.inl (Exists.intro _ (And.intro rfl ?_)) | refine Exists.intro _ (Exists.intro _ (And.intro rfl ?_)) | (dsimp only [gName]; first | with_reducible refine seqC ?_ | with_reducible refine asgC ?_))))
section
variable {P : Program} {w : World} {K : PySem.W.Frag} {mg : Str → Option Value} {base : Heap}
/-- the pen: its cells, its place, its rest -/
abbrev penV (c : Addr) (i r : Int) : List (Key × V) := tri "cells" "place" "rest" (.ref c) (.int i) (.int r)
theorem dif : Dif "cells" "place" "rest" := ⟨by decide, by decide, by decide⟩
def sp_pen (K : PySem.W.Frag) : Sp := fun vs H Q _ => ∃ (a : Addr) (ns : List Int), vs = [.ref a] ∧ SqL K H a (ns.map V.int) ∧ ns.length ≤ 63 ∧
  ∀ p c H', Same H H' → H p = none → H' p = some (.dK (penV c 0 0)) → H' c = some (.lst (ns.map V.int)) → Q (.ref p) H'
theorem cut63 {xs : List V} (h : xs.length ≤ 63) : cutV xs none (some 63) = xs := by
  unfold cutV
  rw [show HT.sIx xs.length xs.length (some 63) = min 63 xs.length from HT.sIx_nat xs.length xs.length 63, HT.sIx_none]
  show List.take (min 63 xs.length - 0) xs = xs
  exact List.take_of_length_le (by omega)
theorem ok_pen (T : Top K mg) {k : Nat} : FnOk P w K mg base CX0 (k + 1) T.f__law_pen T.fd__law_pen ["_law_script"]  (sp_pen K) := by
  refine T.F__law_pen.ok sc__law_pen (fun vs H Q E h => ?_) (fun cdv A outer s H vs Q E hr h => ?_)
  · obtain ⟨a, ns, rfl, _⟩ := h
    rfl
  · obtain ⟨a, ns, rfl, hS, hl, q⟩ := h
    refine ⟨_, (pss_one (ps_ret (pe_disp (pps_cons pe_str (pe_callTy call_list_of (by rfl) T.m_list (by decide +kernel) (pa_cons (pe_slice sl_list (pv 0) po_none (po_some pe_int)) pa_nil)) (pps_cons pe_str pe_int (pps_cons pe_str pe_int pps_nil))) (by rfl) (by rfl) (fun z => by cases z) (by decide)))), ?_⟩
    intro p np
    have s1 := sm_upd (o := .dK []) np
    refine ⟨_, rfl, 63, rfl, a, _, rfl, s1.seq hS, fun b nb => ?_⟩
    have s2 := sm_upd (o := .lst (cutV (ns.map V.int) none (some 63))) nb
    refine ⟨b, _, rfl, .inl (.inl (.inl upd_same)), fun c nc => ?_⟩
    have s3 := sm_upd (o := .lst (cutV (ns.map V.int) none (some 63))) nc
    refine ⟨(s2.trans s3) _ _ upd_same, tri "cells" "place" "rest" (.ref c) (.int 0) (.int 0), rfl, by show 3 ≤ 15; decide, ?_⟩
    rw [tri_disp dif]
    have npc : c ≠ p := fun e => by
      rw [e] at nc
      rw [s2 _ _ upd_same] at nc
      cases nc
    refine q p c _ (sm_mut (s1.trans (s2.trans s3)) np) np upd_same ?_
    rw [upd_ne npc, upd_same, cut63 (by simpa using hl)]
def sp_draw : Sp := fun vs H Q _ => ∃ (p c : Addr) (ns : List Int) (n i r : Int), vs = [.ref p, .int n] ∧ 1 ≤ n ∧ n ≤ 1000000 ∧ 0 ≤ i ∧ i < 1000000000 ∧ H p = some (.dK (penV c i r)) ∧ H c = some (.lst (ns.map V.int)) ∧
  ∀ (d i' r' : Int) H', 0 ≤ d → d < n → i ≤ i' → i' ≤ i + 1 → H' p = some (.dK (penV c i' r')) → But p H H' → Q (.int d) H'
theorem ok_draw (T : Top K mg) {k : Nat} : FnOk P w K mg base CX0 (k + 1) T.f__law_draw T.fd__law_draw ["_law_pen_here", "_law_number"]  sp_draw := by
  refine T.F__law_draw.ok sc__law_draw (fun vs H Q E h => ?_) (fun cdv A outer s H vs Q E hr h => ?_)
  · obtain ⟨p, c, ns, n, i, r, rfl, _⟩ := h
    rfl
  · obtain ⟨p, c, ns, n, i, r, rfl, hn1, hn2, hi1, hi2, hp, hc, q⟩ := h
    refine ⟨_, (pss_cons (ps_if (pt_cmpR op_ge (pe_dget (hu_of hr) (pv 0) pe_str (fun _ _ => rfl)) (pv 1) (nomark _))
      (pss_cons (ps_set (i := 2) sc__law_draw.nd rfl (Or.inl rfl) (pe_op op_mod (pe_callTy call_int1 (by rfl) T.m_int (by decide +kernel) (pa_cons (pe_dget (hu_of hr) (pv 0) pe_str (fun _ _ => rfl)) pa_nil)) (pv 1)))
      (pss_cons (ps_dput (hu_of hr) (pv 0) pe_str (pe_op op_fdiv (pe_dget (hu_of hr) (pv 0) pe_str (fun _ _ => rfl)) (pv 1)) rfl)
      (pss_one (ps_ret (pv 2)))))
      pss_nil)
    (pss_cons (ps_set (i := 3) sc__law_draw.nd rfl (Or.inl rfl) (pe_dget (hu_of hr) (pv 0) pe_str (fun _ _ => rfl)))
    (pss_cons (ps_dput (hu_of hr) (pv 0) pe_str (pe_op op_add (pv 3) pe_int) rfl)
    (pss_cons (ps_set (i := 4) sc__law_draw.nd rfl (Or.inl rfl) (pe_op op_add (pe_op op_mul pe_int (pv 3)) pe_int))
    (pss_cons (ps_if (pt_cmpR (op_neD hr.units) (pe_dget (hu_of hr) (pv 0) pe_str (fun _ _ => rfl)) (pe_lst pa_nil) (nomark _))
      (pss_one (ps_set (i := 4) sc__law_draw.nd rfl (Or.inl rfl) (pe_ix ix_list (pe_dget (hu_of hr) (pv 0) pe_str (fun _ _ => rfl)) (pe_op op_mod (pe_callTy call_int1 (by rfl) T.m_int (by decide +kernel) (pa_cons (pv 3) pa_nil)) (pe_callB call_len_seq (by rfl) T.m_len PySem.boot_len (pa_cons (pe_dget (hu_of hr) (pv 0) pe_str (fun _ _ => rfl)) pa_nil))) (fun _ _ => rfl))))
      pss_nil)
    (pss_cons (ps_if (PW.pt (pw_and (pt_cmpR op_lt (pv 3) (pe_callB call_len_seq (by rfl) T.m_len PySem.boot_len (pa_cons (pe_dget (hu_of hr) (pv 0) pe_str (fun _ _ => rfl)) pa_nil)) (nomark _)) (pw_and1 (pt_cmpR op_ge (pv 4) (pe_op op_pow pe_int pe_int) (nomark _)))))
      (pss_cons (ps_dput (hu_of hr) (pv 0) pe_str (pe_op op_fdiv (pe_op op_sub (pv 4) (pe_op op_pow pe_int pe_int)) (pv 1)) rfl)
      (pss_one (ps_ret (pe_op op_mod (pe_callTy call_int1 (by rfl) T.m_int (by decide +kernel) (pa_cons (pe_op op_sub (pv 4) (pe_op op_pow pe_int pe_int)) pa_nil)) (pv 1)))))
      pss_nil)
    (pss_cons (ps_set (i := 5) sc__law_draw.nd rfl (Or.inl rfl) (pe_op op_mod (pe_callTy call_int1 (by rfl) T.m_int (by decide +kernel) (pa_cons (pe_op op_add (pe_op op_add (pe_op op_add (pe_op op_mul (pe_op op_mod (pe_callTy call_int1 (by rfl) T.m_int (by decide +kernel) (pa_cons (pv 4) pa_nil)) pe_int) pe_int) (pe_op op_mul (pe_op op_mul pe_int (pv 3)) (pv 3))) (pe_op op_mul pe_int (pv 3))) pe_int) pa_nil)) pe_int))
    (pss_cons (ps_set (i := 5) sc__law_draw.nd rfl (Or.inl rfl) (pe_op op_mod (pe_callTy call_int1 (by rfl) T.m_int (by decide +kernel) (pa_cons (pe_op op_add (pe_op op_mul (pv 5) (pe_op op_add (pv 5) pe_int)) (pe_op op_mul pe_int (pv 3))) pa_nil)) pe_int))
    (pss_one (ps_ret (pe_op op_mod (pe_callTy call_int1 (by rfl) T.m_int (by decide +kernel) (pa_cons (pe_op op_fdiv (pe_op op_mod (pe_callTy call_int1 (by rfl) T.m_int (by decide +kernel) (pa_cons (pe_op op_add (pe_op op_mul (pv 5) (pv 5)) (pe_op op_mul pe_int (pv 5))) pa_nil)) pe_int) pe_int) pa_nil)) (pv 1)))))))))))), ?_⟩
    refine ⟨_, rfl, p, _, rfl, tri_get3 dif hp, ?_⟩
    walk_at "r"
    refine ifD (fun hb => ?_) (fun hb => ?_)
    · refine ⟨_, rfl, ?_⟩
      refine ⟨p, _, rfl, tri_get3 dif hp, ?_⟩
      walk_at "r"
      refine ⟨p, _, rfl, tri_get3 dif hp, ?_⟩
      walk_at "r"
      refine ⟨p, _, rfl, tri_put3 dif hp, ?_⟩
      walk_at "r"
      exact q _ _ _ _ (Int.emod_nonneg _ (by omega)) (Int.emod_lt_of_pos _ (by omega)) (Int.le_refl _) (by omega) upd_same (But.refl _).upd
    · have npc : c ≠ p := ne_of hc hp (by intro z; cases z)
      refine ⟨_, rfl, p, _, rfl, tri_get2 dif hp, ?_⟩
      walk_at "r"
      refine ⟨p, _, rfl, tri_put2 dif hp, ?_⟩
      have hp1 : (upd H p (.dK (penV c (i + 1) r))) p = some (.dK (penV c (i + 1) r)) := upd_same
      have hc1 : (upd H p (.dK (penV c (i + 1) r))) c = some (.lst (ns.map V.int)) := by
        rw [upd_ne npc]
        exact hc
      have ho1 : But p H (upd H p (.dK (penV c (i + 1) r))) := (But.refl _).upd
      revert hp1 hc1 ho1
      generalize upd H p (.dK (penV c (i + 1) r)) = H1
      intro hp1 hc1 ho1
      walk_at "r"
      refine ⟨p, _, rfl, tri_get1 hp1, ?_⟩
      refine ⟨by decide, fun e ne => ?_⟩
      have hc2 := (sm_upd (o := .lst []) ne) _ _ hc1
      have hp2 := (sm_upd (o := .lst []) ne) _ _ hp1
      have sm2 : But p H (upd H1 e (.lst [])) := ho1.new ne
      have he2 : (upd H1 e (.lst [])) e = some (.lst []) := upd_same
      revert hc2 hp2 sm2 he2
      generalize upd H1 e (.lst []) = H2
      intro hc2 hp2 sm2 he2
      refine ⟨_, _, .lst (.inl (.inl hc2)) (dp_ints ns), .lst (.inl (.inl he2)) .nil, shaped_ints ns, shaped_ints [], _, rfl, ?_⟩
      rw [eqv_nil]
      refine if_join (fun σ' H' => ∃ cell : Int, σ' = [some (.ref p), some (.int n), none, some (.int i), some (.int cell), none] ∧ H' = H2) ?_ (fun D1 J hb => ?_) (fun D1 J hb => ?_)
      · rintro σ' H' ⟨cell, rfl, rfl⟩
        walk_at "r"
        refine ⟨p, _, rfl, tri_get1 hp2, ?_⟩
        refine ⟨c, _, rfl, .inl (.inl (.inl hc2)), ?_⟩
        walk_at "r"
        refine ifAnd ?_ (fun hb1 hY => ?_)
        · walk_at "r"
          exact q _ _ _ _ (Int.emod_nonneg _ (by omega)) (Int.emod_lt_of_pos _ (by omega)) (by omega) (Int.le_refl _) hp2 sm2
        · walk_at "r"
          refine ifD (fun hb2 => ?_) (fun hb2 => hY)
          walk_at "r"
          refine ⟨p, _, rfl, tri_put3 dif hp2, ?_⟩
          walk_at "r"
          exact q _ _ _ _ (Int.emod_nonneg _ (by omega)) (Int.emod_lt_of_pos _ (by omega)) (by omega) (Int.le_refl _) upd_same sm2.upd
      · have hne : ns ≠ [] := by
          rintro rfl
          simp at hb
        have hlen : 0 < ns.length := List.length_pos_iff.mpr hne
        walk_at "r"
        refine ⟨p, _, rfl, tri_get1 hp2, ?_⟩
        walk_at "r"
        refine ⟨p, _, rfl, tri_get1 hp2, ?_⟩
        refine ⟨c, _, rfl, .inl (.inl (.inl hc2)), ?_⟩
        rw [List.length_map]
        walk_at "r"
        have hm1 := Int.emod_nonneg i (show (ns.length : Int) ≠ 0 by omega)
        have hm2 := Int.emod_lt_of_pos i (show 0 < (ns.length : Int) by omega)
        have hm3 : (i % (ns.length : Int)).toNat < ns.length := by omega
        refine ⟨c, _, _, .int (ns[(i % (ns.length : Int)).toNat]), rfl, rfl, .inl (.inl hc2), at_of (j := (i % (ns.length : Int)).toNat) (by omega) ?_, ?_⟩
        · rw [List.getElem?_map, List.getElem?_eq_getElem hm3]
          rfl
        exact J.nx _ _ ⟨_, rfl, rfl⟩
      · exact J.nx _ _ ⟨_, rfl, rfl⟩
end
end K34
set_option Elab.async false
set_option linter.all false
set_option maxRecDepth 100000
namespace K34
open PySem PySem.Spec PyProof.Rows L2 HX M34
local macro_rules | `(tactic| walk_at "r") => `(tactic| (repeat (first | refine Exists.intro _ (And.intro rfl ?_) | refine And.intro rfl ?_ | refine Exists.intro _ (Exists.intro _ (And.intro rfl (And.intro rfl ?_))) | refine And.intro (by omega) ?_ | refine And.intro (Or.inl (And.intro (by omega) (by omega))) ?_ | refine And.intro (Or.inr (And.intro (by omega) (by omega))) ?_ | refine And.intro (And.intro (by omega) (by omega)) ?_ | refine And.intro (And.intro (by decide) (And.intro (by decide) (by decide))) ?_ | refine Or.inl (Exists.intro _ (And.intro rfl ?_)) | (dsimp only [gName]; first | with_reducible refine seqC ?_ | with_reducible refine asgC ?_))))
local macro_rules | `(tactic| walk_at "s") => `(tactic| (repeat (first | refine Exists.intro _ (And.intro rfl ?_) | refine And.intro rfl ?_ | refine Exists.intro _ (Exists.intro _ (And.intro rfl (And.intro rfl ?_))) | refine And.intro (by omega) ?_ | refine And.intro (Or.inl (And.intro (by omega) (by omega))) ?_ | refine And.intro (Or.inr (And.intro (by omega) (by omega))) ?_ | refine And.intro (And.intro (by omega) (by omega)) ?_ | refine And.intro (And.intro (by decide) (And.intro (by decide) (by decide))) ?_ | refine Or.inl (Exists.intro _ (And.intro rfl ?_)) | refine Exists.intro _ (Exists.intro _ (And.intro rfl ?_)) | (dsimp only [gName]; first | with_reducible refine seqC ?_ | with_reducible refine asgC ?_))))
section
variable {P : Program} {w : World} {K : PySem.W.Frag} {mg : Str → Option Value} {base : Heap}
def sp_pick : Sp := fun vs H Q _ => ∃ (p c b : Addr) (ns : List Int) (xs : List V) (i r : Int), vs = [.ref p, .ref b] ∧ 0 ≤ i ∧ i < 1000000000 ∧ H p = some (.dK (penV c i r)) ∧ H c = some (.lst (ns.map V.int)) ∧ H b = some (.lst xs) ∧ 1 ≤ xs.length ∧ xs.length ≤ 1000 ∧
  ∀ (v : V) (i' r' : Int) H', v ∈ xs → i ≤ i' → i' ≤ i + 1 → H' p = some (.dK (penV c i' r')) → But p H H' → Q v H'
theorem ok_pick (T : Top K mg) {k : Nat} : FnOk P w K mg base CX0 (k + 2) T.f__law_pick T.fd__law_pick ["_law_pen_here", "_law_items"]  sp_pick := by
  have G__law_draw : FnOk P w K mg base CX0 (k + 1) T.f__law_draw T.fd__law_draw ["_law_pen_here", "_law_number"]  sp_draw := ok_draw T
  refine T.F__law_pick.ok sc__law_pick (fun vs H Q E h => ?_) (fun cdv A outer s H vs Q E hr h => ?_)
  · obtain ⟨p, c, b, ns, xs, i, r, rfl, _⟩ := h
    rfl
  · obtain ⟨p, c, b, ns, xs, i, r, rfl, hi1, hi2, hp, hc, hb, hx1, hx2, q⟩ := h
    refine ⟨_, (pss_one (ps_ret (pe_ix ix_list (pv 1) (pe_call G__law_draw hr (by rfl) T.g__law_draw T.F__law_draw.kp T.b__law_draw .nil pass0 (pa_cons (pv 0) (pa_cons (pe_callB call_len_seq (by rfl) T.m_len PySem.boot_len (pa_cons (pv 1) pa_nil)) pa_nil))) (fun _ _ => rfl)))), ?_⟩
    walk_at "r"
    refine ⟨b, _, rfl, .inl (.inl (.inl hb)), ?_⟩
    refine ⟨p, c, ns, xs.length, i, r, rfl, by omega, by omega, hi1, hi2, hp, hc, fun d i' r' H' hd1 hd2 h1 h2 hp' bt => ?_⟩
    have hb' := bt b _ (ne_of hb hp (by intro z; cases z)) hb
    have hd3 : d.toNat < xs.length := by omega
    refine ⟨b, _, _, xs[d.toNat], rfl, rfl, .inl (.inl hb'), at_of (j := d.toNat) (by omega) (List.getElem?_eq_getElem hd3), ?_⟩
    exact q _ _ _ _ (List.getElem_mem hd3) h1 h2 hp' bt
theorem ok__law_power (T : Top K mg) {k : Nat} : FnOk P w K mg base CX0 (k + 1) T.f__law_power T.fd__law_power ["_law_times", "_law_number"]  sp_power_rest := by
  refine T.F__law_power.ok sc__law_power (fun vs H Q E h => ?_) (fun cdv A outer s H vs Q E hr h => ?_)
  · obtain ⟨e, n, rfl, _⟩ := h
    rfl
  · obtain ⟨e, n, rfl, h1, h2, q⟩ := h
    refine ⟨_, (pss_cons (ps_par3 (i := 2) (j := 3) (l := 4) rfl sc__law_power.nd rfl rfl rfl (by decide) (by decide) (by decide) rfl rfl rfl (pa_cons (pe_op op_mod (pe_callTy call_int1 (by rfl) T.m_int (by decide +kernel) (pa_cons pe_int pa_nil)) (pv 1)) (pa_cons (pe_op op_mod (pe_callTy call_int1 (by rfl) T.m_int (by decide +kernel) (pa_cons pe_int pa_nil)) (pv 1)) (pa_cons (pv 0) pa_nil))) rfl)
    (pss_cons (ps_while PassesOwn.never (pt_cmpR op_gt (pv 4) pe_int (nomark _))
      (pss_cons (ps_if (pt_cmpR op_eq (pe_op op_odd (pv 4) pe_int) pe_int (nomark _))
        (pss_one (ps_set (i := 2) sc__law_power.nd rfl (Or.inl rfl) (pe_op op_mod (pe_callTy call_int1 (by rfl) T.m_int (by decide +kernel) (pa_cons (pe_op op_mulN (pv 2) (pv 3)) pa_nil)) (pv 1))))
        pss_nil)
      (pss_cons (ps_set (i := 3) sc__law_power.nd rfl (Or.inl rfl) (pe_op op_mod (pe_callTy call_int1 (by rfl) T.m_int (by decide +kernel) (pa_cons (pe_op op_mulN (pv 3) (pv 3)) pa_nil)) (pv 1)))
      (pss_one (ps_set (i := 4) sc__law_power.nd rfl (Or.inl rfl) (pe_op op_halfN (pv 4) pe_int))))))
    (pss_one (ps_ret (pv 2))))), ?_⟩
    walk_at "r"
    refine ⟨_, _, _, rfl, ?_⟩
    refine ⟨fun m σ H' => ∃ f s l : Nat, σ = [some (.int e), some (.int n), some (.int f), some (.int s), some (.int l)] ∧ l ≤ m ∧ f < n ∧ s < n ∧ f * s ^ l % n = 2 ^ e % n ∧ H' = H, ⟨e, 1 % n, 2 % n, e, rfl, Nat.le_refl _, Nat.mod_lt _ h1, Nat.mod_lt _ h1, ?_, rfl⟩, ?_⟩
    · rw [Nat.mul_mod, Nat.mod_mod, ← Nat.pow_mod, ← Nat.mul_mod, Nat.one_mul]
    · rintro m σ H' ⟨f, s, l, rfl, hm, hf, hs, inv, rfl⟩
      walk_at "r"
      refine ifD (fun hc => wb fun D' B => ?_) (fun hc => ?_)
      · have hl : 0 < l := by omega
        have hlt : l / 2 < l := Nat.div_lt_self hl (by decide)
        walk_at "r"
        refine if_join (fun σ' H1 => ∃ f', f' < n ∧ f' * (s * s % n) ^ (l / 2) % n = 2 ^ e % n ∧ σ' = [some (.int e), some (.int n), some (.int (f' : Nat)), some (.int s), some (.int l)] ∧ H1 = H') ?_ (fun D' J hb => ?_) (fun D' J hb => ?_)
        · rintro σ' H1 ⟨f', hf', inv', rfl, rfl⟩
          walk_at "r"
          exact B.nx _ _ ⟨l / 2, by omega, f', s * s % n, l / 2, rfl, Nat.le_refl _, hf', Nat.mod_lt _ h1, inv', rfl⟩
        · have hb' : l % 2 = 1 := by
            have := V.int.inj (of_decide_eq_true hb)
            omega
          walk_at "r"
          exact J.nx _ _ ⟨f * s % n, Nat.mod_lt _ h1, by rw [step_odd hb']; exact inv, rfl, rfl⟩
        · have hb' : l % 2 = 0 := by
            have : ¬ (((l % 2 : Nat) : Int) = 1) := fun z => hb (decide_eq_true (congrArg V.int z))
            omega
          exact J.nx _ _ ⟨f, hf, by rw [step_even hb']; exact inv, rfl, rfl⟩
      · have hl : l = 0 := by omega
        subst hl
        walk_at "r"
        have ef : f = 2 ^ e % n := by
          rw [Nat.pow_zero, Nat.mul_one, Nat.mod_eq_of_lt hf] at inv
          exact inv
        rw [ef]
        exact q
theorem ok__law_primes (T : Top K mg) {k : Nat} : FnOk P w K mg base CX0 (k + 1) T.f__law_primes T.fd__law_primes ["_law_number"]  sp_prime_factors := by
  refine T.F__law_primes.ok sc__law_primes (fun vs H Q E h => ?_) (fun cdv A outer s H vs Q E hr h => ?_)
  · obtain ⟨n, rfl, _⟩ := h
    rfl
  · obtain ⟨n, rfl, h1, h2, q⟩ := h
    refine ⟨_, (pss_cons (ps_par (i := 1) (j := 2) rfl sc__law_primes.nd rfl rfl (by decide) rfl rfl (pa_cons (pe_lst pa_nil) (pa_cons (pv 0) pa_nil)) rfl)
    (pss_cons (ps_for PassesOwn.never rfl (pi_range2 (by rfl) T.m_range (pa_cons pe_int (pa_cons pe_int pa_nil))) (pg_name (i := 3) sc__law_primes.nd rfl (Or.inl rfl))
      (pss_cons (ps_if (pt_cmpR op_gt (pe_op op_mulN (pv 3) (pv 3)) (pv 2) (nomark _))
        (pss_one ps_break)
        pss_nil)
      (pss_cons (ps_if (pt_cmpR op_eq (pe_op op_mod (pe_callTy call_int1 (by rfl) T.m_int (by decide +kernel) (pa_cons (pv 2) pa_nil)) (pv 3)) pe_int (nomark _))
        (pss_one (ps_expr (pe_bm PySem.F.plainAttrs_list PySem.F.slot_list_append PySem.F.type_list_append mt_append (pv 1) (pa_cons (pv 3) pa_nil))))
        pss_nil)
      (pss_one (ps_while PassesOwn.never (pt_cmpR op_eq (pe_op op_mod (pe_callTy call_int1 (by rfl) T.m_int (by decide +kernel) (pa_cons (pv 2) pa_nil)) (pv 3)) pe_int (nomark _))
        (pss_one (ps_set (i := 2) sc__law_primes.nd rfl (Or.inl rfl) (pe_op op_fdivNN (pv 2) (pv 3)))))))))
    (pss_one (ps_ret (pe_ifExp (pt_cmpR op_gt (pv 2) pe_int (nomark _)) (pe_op op_cat (pv 1) (pe_lst (pa_cons (pv 2) pa_nil))) (pv 1)))))), ?_⟩
    refine ⟨Nat.zero_le _, fun o no => ?_⟩
    walk_at "r"
    refine ⟨_, _, rfl, ?_⟩
    dsimp only
    refine cut (fun σ' H' => ∃ (fac left : Nat) (found : List Nat) (z : Option V), σ' = [some (.int n), some (.ref o), some (.int left), z] ∧ left ≤ n ∧ left < fac * fac ∧ found.length + 2 ≤ fac ∧ fac ≤ 1001 ∧ Srch n fac left found ∧ Same H H' ∧ H' o = some (.lst (nv found)))
      (fun D1 J1 => ?_) ?_
    · refine ⟨2, 1001, rfl, ⟨by decide, by decide, by decide, by decide⟩, ?_⟩
      refine flR (fun i σ H' => ∃ (left : Nat) (found : List Nat) (z : Option V), σ = [some (.int n), some (.ref o), some (.int left), z] ∧ left ≤ n ∧ found.length ≤ i ∧ Srch n (i + 2) left found ∧ Same H H' ∧ H' o = some (.lst (nv found)))
        ⟨n, [], none, rfl, Nat.le_refl _, Nat.le_refl _, Srch.start h1, sm_upd no, upd_same⟩ ?_ ?_
      · rintro i σ H' hi ⟨left, found, z, rfl, hln, hfl, S, sm, eo⟩ D' B
        have hi' : i < 999 := hi
        generalize hfac : i + 2 = fac at S
        have ev : (2 : Int) + (i : Int) = (fac : Nat) := by omega
        rw [ev]
        have hpos := S.pos
        walk_at "r"
        refine ifD (fun hc => ?_) (fun hc => ?_)
        · exact B.bk _ _ (J1.nx _ _ ⟨fac, left, found, _, rfl, hln, by omega, by omega, by omega, S, sm, eo⟩)
        · walk_at "r"
          have nxt : ∀ (left' : Nat) (found' : List Nat) (H1 : Hp), left' ≤ n → found'.length ≤ i + 1 → Srch n (fac + 1) left' found' → Same H H1 → H1 o = some (.lst (nv found')) → D'.nx [some (.int n), some (.ref o), some (.int left'), some (.int fac)] H1 := fun left' found' H1 a b c d e =>
            B.nx _ _ ⟨left', found', _, rfl, a, b, by rw [show i + 1 + 2 = fac + 1 by omega]; exact c, d, e⟩
          refine if_join (fun σ' H1 => ∃ found' : List Nat, σ' = [some (.int n), some (.ref o), some (.int left), some (.int fac)] ∧ (found' = found ∧ ¬ fac ∣ left ∨ found' = found ++ [fac] ∧ fac ∣ left) ∧ Same H H1 ∧ H1 o = some (.lst (nv found'))) ?_ (fun D2 J hb => ?_) (fun D2 J hb => ?_)
          · rintro σ' H1 ⟨found', rfl, hf', sm', eo'⟩
            rcases hf' with ⟨rfl, hnd⟩ | ⟨rfl, hd⟩
            · refine ⟨fun m σ' H2 => σ' = [some (.int n), some (.ref o), some (.int left), some (.int fac)] ∧ H2 = H1, ⟨0, rfl, rfl⟩, ?_⟩
              rintro m σ2 H2 ⟨rfl, rfl⟩
              walk_at "r"
              refine ifE (fun hc => absurd (Nat.dvd_of_mod_eq_zero (by omega)) hnd) (fun hc => ?_)
              exact nxt left found' H2 hln (by omega) (S.no hnd) sm' eo'
            · have hp := S.prime hd
              refine ⟨fun m σ' H2 => ∃ left' : Nat, σ' = [some (.int n), some (.ref o), some (.int left'), some (.int fac)] ∧ left' ≤ m ∧ left' ≤ n ∧ Inner n fac left' ∧ H2 = H1,
                ⟨left, left, rfl, Nat.le_refl _, hln, S.inner, rfl⟩, ?_⟩
              rintro m2 σ2 H2 ⟨left2, rfl, hm2, hl2, I2, rfl⟩
              have hpos := I2.pos
              walk_at "r"
              refine ifE (fun hc => wb fun D3 B3 => ?_) (fun hc => ?_)
              · have hd : fac ∣ left2 := Nat.dvd_of_mod_eq_zero (by omega)
                obtain ⟨I3, hlt⟩ := I2.step hp hd
                walk_at "r"
                exact B3.nx _ _ ⟨left2 / fac, by omega, left2 / fac, rfl, Nat.le_refl _, by omega, I3, rfl⟩
              · have hd2 : ¬ fac ∣ left2 := fun z => hc (by have := Nat.mod_eq_zero_of_dvd z; omega)
                exact nxt left2 (found ++ [fac]) H2 hl2 (by simp; omega) (S.yes hd I2 hd2) sm' eo'
          · have hb' : fac ∣ left := by
              have := V.int.inj (of_decide_eq_true hb)
              exact Nat.dvd_of_mod_eq_zero (by omega)
            walk_at "r"
            refine ⟨.inl ⟨rfl, _, .inl (.inl eo)⟩, ?_⟩
            walk_at "r"
            refine ⟨_, _, _, rfl, rfl, eo, ?_, ?_⟩
            · rw [nv_len]
              exact len_lt (by omega)
            exact J.nx _ _ ⟨found ++ [fac], rfl, .inr ⟨rfl, hb'⟩, sm_mut sm no, by rw [nv_app, upd_same]⟩
          · have hb' : ¬ fac ∣ left := fun z => hb (decide_eq_true (congrArg V.int (by have := Nat.mod_eq_zero_of_dvd z; omega)))
            exact J.nx _ _ ⟨found, rfl, .inl ⟨rfl, hb'⟩, sm, eo⟩
      · rintro σ H' ⟨left, found, z, rfl, hln, hfl, S, sm, eo⟩
        exact J1.nx _ _ ⟨1001, left, found, z, rfl, hln, by omega, by show found.length + 2 ≤ 1001; have : found.length ≤ 999 := hfl; omega, by omega, S, sm, eo⟩
    · rintro σ' H' ⟨fac, left, found, z, rfl, hln, hlt, hfl, hf, S, sm, eo⟩
      have hpos := S.pos
      walk_at "r"
      refine ifD (fun hc => ?_) (fun hc => ?_)
      · walk_at "r"
        refine ⟨by show 1 ≤ sizeLine; decide, fun e ne => ?_⟩
        have eo2 := (sm_upd (o := .lst [.int (left : Nat)]) ne) _ _ eo
        refine ⟨o, e, _, _, rfl, rfl, eo2, upd_same, ?_, fun x nx => ?_⟩
        · rw [nv_len]
          exact len_le (by show found.length + 1 ≤ 16000000; omega)
        refine q (found ++ [left]) x _ (S.last hlt (by omega)) (by simp; omega) (sm.trans ((sm_upd ne).trans (sm_upd nx))) ?_ (by rw [nv_app, upd_same])
        exact ((sm.trans (sm_upd ne))).free nx
      · have e : left = 1 := by omega
        subst e
        walk_at "r"
        exact q _ _ _ S.last1 (by omega) sm no eo
end
end K34
set_option Elab.async false
set_option linter.all false
set_option maxRecDepth 100000
namespace K34
open PySem PySem.Spec PyProof.Rows L2 HX M34
local macro_rules | `(tactic| walk_at "r") => `(tactic| (repeat (first | refine Exists.intro _ (And.intro rfl ?_) | refine And.intro rfl ?_ | refine Exists.intro _ (Exists.intro _ (And.intro rfl (And.intro rfl ?_))) | refine And.intro (by omega) ?_ | refine And.intro (Or.inl (And.intro (by omega) (by omega))) ?_ | refine And.intro (Or.inr (And.intro (by omega) (by omega))) ?_ | refine And.intro (And.intro (by omega) (by omega)) ?_ | refine And.intro (And.intro (by decide) (And.intro (by decide) (by decide))) ?_ | refine Or.inl (Exists.intro _ (And.intro rfl ?_)) | (dsimp only [gName]; first | with_reducible refine seqC ?_ | with_reducible refine asgC ?_))))
local macro_rules | `(tactic| walk_at "s") => `(tactic| (repeat (first | refine Exists.intro _ (And.intro rfl ?_) | refine And.intro rfl ?_ | refine Exists.intro _ (Exists.intro _ (And.intro rfl (And.intro rfl ?_))) | refine And.intro (by omega) ?_ | refine And.intro (Or.inl (And.intro (by omega) (by omega))) ?_ | refine And.intro (Or.inr (And.intro (by omega) (by omega))) ?_ | refine And.intro (And.intro (by omega) (by omega)) ?_ | refine And.intro (And.intro (by decide) (And.intro (by decide) (by decide))) ?_ | refine Or.inl (Exists.intro _ (And.intro rfl ?_)) | refine Exists.intro _ (Exists.intro _ (And.intro rfl ?_)) | (dsimp only [gName]; first | with_reducible refine seqC ?_ | with_reducible refine asgC ?_))))
section
variable {P : Program} {w : World} {K : PySem.W.Frag} {mg : Str → Option Value} {base : Heap}
def sp_is_least : Sp := fun vs H Q _ => ∃ (p : Addr) (l : Lv), vs = [.ref p] ∧ H p = some (.tup (lvV l)) ∧ GoodL l ∧ ∀ H', Same H H' → Q (.bl true) H'
theorem good_t20 {l : Lv} (g : GoodL l) : l.t ≤ 20 := by
  have h1 := g.e
  have h2 := g.le
  have h3 := g.odd
  apply Nat.le_of_not_lt
  intro h
  have h4 : 2 ^ 21 ≤ 2 ^ l.t := Nat.pow_le_pow_right (by decide) h
  have h5 : 1 * 2 ^ l.t ≤ l.o * 2 ^ l.t := Nat.mul_le_mul_right _ (by omega)
  omega
theorem ok_is_least (T : Top K mg) {k : Nat} : FnOk P w K mg base CX0 (k + 2) T.f__law_is_least T.fd__law_is_least ["_law_level"]  sp_is_least := by
  have G__law_power : FnOk P w K mg base CX0 (k + 1) T.f__law_power T.fd__law_power ["_law_times", "_law_number"]  sp_power_rest := ok__law_power T
  have G__law_primes : FnOk P w K mg base CX0 (k + 1) T.f__law_primes T.fd__law_primes ["_law_number"]  sp_prime_factors := ok__law_primes T
  refine T.F__law_is_least.ok sc__law_is_least (fun vs H Q E h => ?_) (fun cdv A outer s H vs Q E hr h => ?_)
  · obtain ⟨p, l, rfl, _⟩ := h
    rfl
  · obtain ⟨p, l, rfl, hp, g, q⟩ := h
    have ht := good_t20 g
    have hd1 := g.least.1
    have ho := g.odd
    have hom : l.o ≤ l.m := by
      rw [g.e]
      exact Nat.le_mul_of_pos_right _ (Nat.pow_pos (by decide))
    have hle := g.le
    have hdl := g.dle
    refine ⟨_, (pss_cons (ps_if (PW.pt (pw_or (pt_not (pt_val (pe_callB call_isi (by rfl) T.m_isinstance (by decide +kernel) (pa_cons (pv 0) (pa_cons (pe_bltn (v := .ty "tuple") (by rfl) T.m_tuple (by decide +kernel) rfl) pa_nil))) (fun _ => rfl))) (pw_or1 (pt_cmpR op_ne (pe_callB call_len_seq (by rfl) T.m_len PySem.boot_len (pa_cons (pv 0) pa_nil)) pe_int (nomark _)))))
      (pss_one (ps_ret pe_bl))
      pss_nil)
    (pss_cons (ps_if (pt_cmpR (op_neD hr.units) (pe_lc (own := [("_law_one", 1)]) (g := gName 1) (by rfl) sc__law_is_least.nd (pi_tup (pv 0)) (blkOk_by (own := [("_law_one", 1)]) (N := ["_law_level", "_law_one", "_law_modulus", "_law_two", "_law_odd", "_law_period"]) (sc := defScope s__law_is_least) (by decide +kernel)) (fun _ _ _ _ _ => (pg_name (i := 1) sc__law_is_least.nd rfl (Or.inl rfl))) (fun _ _ _ _ _ => pts_one (PW.pt (pw_or (pt_val (pe_callB (id := "isinstance") (r := rIsi K) call_isi (by rfl) T.m_isinstance (by decide +kernel) (pa_cons (pv 1) (pa_cons (pe_bltn (v := .ty "bool") (by rfl) T.m_bool (by decide +kernel) rfl) pa_nil))) (fun _ => rfl)) (pw_or1 (pt_not (pt_val (pe_callB (id := "isinstance") (r := rIsi K) call_isi (by rfl) T.m_isinstance (by decide +kernel) (pa_cons (pv 1) (pa_cons (pe_bltn (v := .ty "int") (by rfl) T.m_int (by decide +kernel) rfl) pa_nil))) (fun _ => rfl))))))) (fun _ _ _ _ _ => (pv 1))) (pe_lst pa_nil) (nomark _))
      (pss_one (ps_ret pe_bl))
      pss_nil)
    (pss_cons (ps_asg (pv 0) (pg_tup rfl (pgs_cons (pg_name (i := 2) sc__law_is_least.nd rfl (Or.inl rfl)) (pgs_cons (pg_name (i := 3) sc__law_is_least.nd rfl (Or.inl rfl)) (pgs_cons (pg_name (i := 4) sc__law_is_least.nd rfl (Or.inr rfl)) (pgs_cons (pg_name (i := 5) sc__law_is_least.nd rfl (Or.inr rfl)) pgs_nil))))))
    (pss_cons (ps_if (PW.pt (pw_or (pt_not (pt_chain op_le op_le pe_int (pv 3) pe_int)) (pw_or (pt_cmpR op_lt (pv 4) pe_int (nomark _)) (pw_or (pt_cmpR op_eq (pe_op op_odd (pv 4) pe_int) pe_int (nomark _)) (pw_or (pt_cmpR op_lt (pv 5) pe_int (nomark _)) (pw_or1 (pt_cmpR op_ne (pv 2) (pe_op op_shl (pv 4) (pv 3)) (nomark _))))))))
      (pss_one (ps_ret pe_bl))
      pss_nil)
    (pss_cons (ps_if (pt_cmpR op_ne (pe_call G__law_power hr (by rfl) T.g__law_power T.F__law_power.kp T.b__law_power .nil pass0 (pa_cons (pv 5) (pa_cons (pv 4) pa_nil))) (pe_op op_mod (pe_callTy call_int1 (by rfl) T.m_int (by decide +kernel) (pa_cons pe_int pa_nil)) (pv 4)) (nomark _))
      (pss_one (ps_ret pe_bl))
      pss_nil)
    (pss_one (ps_ret (pe_cmpR (op_eqD hr.units) (pe_lc (own := [("_law_one", 1)]) (g := gName 1) (by rfl) sc__law_is_least.nd (pi_list (pe_call G__law_primes hr (by rfl) T.g__law_primes T.F__law_primes.kp T.b__law_primes .nil pass0 (pa_cons (pv 5) pa_nil))) (blkOk_by (own := [("_law_one", 1)]) (N := ["_law_level", "_law_one", "_law_modulus", "_law_two", "_law_odd", "_law_period"]) (sc := defScope s__law_is_least) (by decide +kernel)) (fun _ _ _ _ _ => (pg_name (i := 1) sc__law_is_least.nd rfl (Or.inl rfl))) (fun _ _ _ _ _ => pts_one (pt_cmpR op_eq (pe_call G__law_power hr (by rfl) T.g__law_power T.F__law_power.kp T.b__law_power .nil pass0 (pa_cons (pe_op op_fdivNN (pv 5) (pv 1)) (pa_cons (pv 4) pa_nil))) (pe_op op_mod (pe_callTy (T := "int") call_int1 (by rfl) T.m_int (by decide +kernel) (pa_cons pe_int pa_nil)) (pv 4)) (nomark _))) (fun _ _ _ _ _ => (pv 1))) (pe_lst pa_nil) (nomark _))))))))), ?_⟩
    refine ⟨_, rfl, _, _, _, _, true, rfl, .ty "tuple", tyT (.inl (.inl hp)), k_tt, true, rfl, iteF ?_⟩
    refine ⟨_, rfl, p, _, rfl, .inr (.inl (.inl hp)), rfl, _, rfl, ifNE (fun z => absurd rfl z) (fun _ => ?_)⟩
    -- the first list
    refine ⟨_, rfl, p, rfl, ⟨_, .inl (.inl hp)⟩, fun D nD => lc_tup (xs := lvV l) (fun i H' => Same H H' ∧ H' D = some (.lst [])) ⟨sm_upd nD, upd_same⟩ ?_ ?_ ?_⟩
    · rintro i H' _ ⟨sm, _⟩
      exact .inl (.inl (sm _ _ hp))
    · rintro i x H' hx ⟨sm, eD⟩
      obtain ⟨z, rfl⟩ : ∃ z : Int, x = .int z := by
        have := List.mem_of_getElem? hx
        simp [lvV] at this
        rcases this with e | e | e | e <;> exact ⟨_, e⟩
      refine ⟨rfl, ?_⟩
      refine ⟨_, rfl, _, _, _, _, false, rfl, .ty "bool", tyI _, k_ib, false, rfl, iteF ?_⟩
      refine ⟨_, rfl, _, _, _, _, true, rfl, .ty "int", tyI _, k_ii, true, rfl, iteF ?_⟩
      exact ⟨sm, eD⟩
    rintro H1 ⟨sm1, eD⟩
    refine ⟨by decide, fun e ne => ?_⟩
    refine ⟨_, _, .lst (.inl (.inl ((sm_upd ne) _ _ eD))) .nil, .lst (.inl (.inl upd_same)) .nil, shaped_ints [], shaped_ints [], _, rfl, iteF ?_⟩
    have sm2 : Same H (upd H1 e (.lst [])) := sm1.trans (sm_upd ne)
    revert sm2
    generalize upd H1 e (.lst []) = H2
    intro sm2
    have hp2 := sm2 _ _ hp
    -- the four
    refine ⟨_, rfl, p, _, rfl, .inl (.inl hp2), rfl, _, _, rfl, _, _, rfl, _, _, rfl, _, _, rfl, rfl, ?_⟩
    refine ⟨_, rfl, _, _, rfl, rfl, _, rfl, ifD (fun _ => ?_) (fun z => absurd (by omega) z)⟩
    refine ⟨_, _, rfl, rfl, _, rfl, ?_⟩
    refine ifN (fun z => absurd (by omega) z) (fun _ => ?_)
    walk_at "r"
    refine ifD (fun z => absurd z (by omega)) (fun _ => ?_)
    walk_at "r"
    refine ifE (fun z => absurd z (by omega)) (fun _ => ?_)
    walk_at "r"
    refine ifD (fun z => absurd z (by omega)) (fun _ => ?_)
    walk_at "r"
    refine ifNE (fun z => absurd ?_ z) (fun _ => ?_)
    · have := g.e
      show (l.m : Int) = (l.o : Int) * 2 ^ l.t
      rw [this]
      simp
    walk_at "r"
    refine ⟨_, _, rfl, by omega, by omega, ?_⟩
    walk_at "r"
    refine ifNE (fun z => absurd ?_ z) (fun _ => ?_)
    · have := (one_iff (by omega)).mp g.least.2.1
      show ((2 ^ l.d % l.o : Nat) : Int) = ((1 % l.o : Nat) : Int)
      rw [this]
    -- the last list
    walk_at "r"
    intro ps a H3 hPF hl3 sm3 na ea
    refine ⟨a, rfl, ⟨_, .inl (.inl ea)⟩, fun D2 nD2 => lc_list (xs := nv ps) (fun i H' => Same H3 H' ∧ H' D2 = some (.lst [])) ⟨sm_upd nD2, upd_same⟩ ?_ ?_ ?_⟩
    · rintro i H' _ ⟨sm, _⟩
      exact .inl (.inl (sm _ _ ea))
    · rintro i x H' hx ⟨sm, eD⟩
      obtain ⟨f, hf, rfl⟩ := nv_get hx
      obtain ⟨hfp, hfd⟩ := (hPF.2 f).mp (List.mem_of_getElem? hf)
      have hf2 := hfp.1
      have hfn : f ≤ l.d := Nat.le_of_dvd (by omega) hfd
      refine ⟨rfl, ?_⟩
      walk_at "r"
      refine ⟨_, _, rfl, by omega, by omega, ?_⟩
      walk_at "r"
      refine ifE (fun z => absurd ?_ (g.least.2.2 f hfp hfd)) (fun _ => ⟨sm, eD⟩)
      refine (one_iff (by omega)).mpr ?_
      have : ((2 ^ (l.d / f) % l.o : Nat) : Int) = ((1 % l.o : Nat) : Int) := z
      omega
    rintro H4 ⟨sm4, eD4⟩
    refine ⟨by decide, fun e4 ne4 => ?_⟩
    refine ⟨_, _, .lst (.inl (.inl ((sm_upd ne4) _ _ eD4))) .nil, .lst (.inl (.inl upd_same)) .nil, shaped_ints [], shaped_ints [], ?_⟩
    exact q _ (sm2.trans (sm3.trans (sm4.trans (sm_upd ne4))))
end
end K34
set_option Elab.async false
set_option linter.all false
set_option maxRecDepth 100000
namespace K34
open PySem PySem.Spec PyProof.Rows L2 HX M34
local macro_rules | `(tactic| walk_at "r") => `(tactic| (repeat (first | refine Exists.intro _ (And.intro rfl ?_) | refine And.intro rfl ?_ | refine Exists.intro _ (Exists.intro _ (And.intro rfl (And.intro rfl ?_))) | refine And.intro (by omega) ?_ | refine And.intro (Or.inl (And.intro (by omega) (by omega))) ?_ | refine And.intro (Or.inr (And.intro (by omega) (by omega))) ?_ | refine And.intro (And.intro (by omega) (by omega)) ?_ | refine And.intro (And.intro (by decide) (And.intro (by decide) (by decide))) ?_ | refine Or.inl (Exists.intro _ (And.intro rfl ?_)) | (dsimp only [gName]; first | with_reducible refine seqC ?_ | with_reducible refine asgC ?_))))
local macro_rules | `(tactic| walk_at "s") => `(tactic| (repeat (first | refine Exists.intro _ (And.intro rfl ?_) | refine And.intro rfl ?_ | refine Exists.intro _ (Exists.intro _ (And.intro rfl (And.intro rfl ?_))) | refine And.intro (by omega) ?_ | refine And.intro (Or.inl (And.intro (by omega) (by omega))) ?_ | refine And.intro (Or.inr (And.intro (by omega) (by omega))) ?_ | refine And.intro (And.intro (by omega) (by omega)) ?_ | refine And.intro (And.intro (by decide) (And.intro (by decide) (by decide))) ?_ | refine Or.inl (Exists.intro _ (And.intro rfl ?_)) | refine Exists.intro _ (Exists.intro _ (And.intro rfl ?_)) | (dsimp only [gName]; first | with_reducible refine seqC ?_ | with_reducible refine asgC ?_))))
section
variable {P : Program} {w : World} {K : PySem.W.Frag} {mg : Str → Option Value} {base : Heap}
def lvD (l : Lv) : PyData := .tuple [.int l.m, .int l.t, .int l.o, .int l.d]
theorem dp_lv {H : Hp} {a : Addr} {l : Lv} (h : H a = some (.tup (lvV l))) : Dp K H (.ref a) (lvD l) :=
  .tup (.inl (.inl h)) (.cons (.int _) (.cons (.int _) (.cons (.int _) (.cons (.int _) .nil))))
theorem dp_lvs {H : Hp} : ∀ {as : List Addr} {ls : List Lv}, LvAt H as ls → DpAll K H (as.map V.ref) (ls.map lvD)
  | [], [], _ => .nil
  | [], _ :: _, h => by cases h.1
  | _ :: _, [], h => by cases h.1
  | a :: as, l :: ls, h => .cons (dp_lv (h.2 0 a l rfl rfl)) (dp_lvs ⟨by simpa using h.1, fun i b m h1 h2 => h.2 (i + 1) b m (by simpa using h1) (by simpa using h2)⟩)
theorem lay_lvs : ∀ ls : List Lv, PyData.canLayAll0 (ls.map lvD) = true
  | [] => rfl
  | l :: r => by
    show (PyData.canLay0 (lvD l) && PyData.canLayAll0 (r.map lvD)) = true
    rw [lay_lvs r]
    rfl
theorem dep_lvs : ∀ ls : List Lv, PyData.depthAll (ls.map lvD) ≤ 1
  | [] => by show 0 ≤ 1; decide
  | l :: r => by
    show max (PyData.depth (lvD l)) (PyData.depthAll (r.map lvD)) ≤ 1
    have := dep_lvs r
    have h1 : PyData.depth (lvD l) = 1 := rfl
    omega
theorem shaped_lvs (ls : List Lv) : SeqAt.shaped (.tuple (ls.map lvD)) = true := by
  show (PyData.canLayAll0 (ls.map lvD) && decide (PyData.depthAll (ls.map lvD) + 1 ≤ 64)) = true
  rw [lay_lvs, decide_eq_true (by have := dep_lvs ls; omega)]
  rfl
theorem eqv_lvs : ∀ ls : List Lv, PyData.eqv (.tuple (ls.map lvD)) (.tuple (ls.map lvD)) = true := by
  intro ls
  show PyData.eqvAll (ls.map lvD) (ls.map lvD) = true
  induction ls with
  | nil => rfl
  | cons l r ih =>
    show (PyData.eqv (lvD l) (lvD l) && PyData.eqvAll (r.map lvD) (r.map lvD)) = true
    rw [ih]
    simp [lvD, PyData.eqv, PyData.eqvAll]
def Mods (xs : List V) : Prop := ∀ v ∈ xs, ∃ m : Nat, v = .int m ∧ 1 ≤ m ∧ m ≤ 1000000
theorem Mods.rep {xs : List V} (h : Mods xs) (n : Nat) : Mods (List.replicate n xs).flatten := fun v hv => by
  obtain ⟨l, h1, h2⟩ := List.mem_flatten.mp hv
  rw [List.mem_replicate] at h1
  exact h v (h1.2 ▸ h2)
theorem Mods.app {xs ys : List V} (h : Mods xs) (h' : Mods ys) : Mods (xs ++ ys) := fun v hv => (List.mem_append.mp hv).elim (h v) (h' v)
theorem Mods.nil : Mods [] := fun v hv => by simp at hv
theorem Mods.cons {i : Int} {xs : List V} (h1 : 1 ≤ i) (h2 : i ≤ 1000000) (h : Mods xs) : Mods (.int i :: xs) := fun v hv => by
  rcases List.mem_cons.mp hv with rfl | hv
  · exact ⟨i.toNat, by rw [show ((i.toNat : Nat) : Int) = i by omega], by omega, by omega⟩
  · exact h v hv
theorem pow19 {d : Int} (h1 : 0 ≤ d) (h2 : d < 20) : 1 ≤ (1 : Int) * 2 ^ d.toNat ∧ (1 : Int) * 2 ^ d.toNat ≤ 1000000 := by
  have h3 : d.toNat ≤ 19 := by omega
  have h4 : 2 ^ d.toNat ≤ 2 ^ 19 := Nat.pow_le_pow_right (by decide) h3
  have h5 : 0 < 2 ^ d.toNat := Nat.pow_pos (by decide)
  have h6 : ((2 ^ d.toNat : Nat) : Int) = (2 : Int) ^ d.toNat := by simp
  rw [Int.one_mul, ← h6]
  omega
def spLaw (K : PySem.W.Frag) : Sp := fun vs H Q _ => ∃ (a : Addr) (ns : List Int), vs = [.ref a] ∧ SqL K H a (ns.map V.int) ∧ ns.length ≤ 63 ∧ ∀ H', Q (.bl true) H'
theorem ok_law (T : Top K mg) {fa : Addr} {fd : FuncData} (F : Fun K "law" "law" s_law fa fd) : FnOk P w K mg base CX0 6 fa fd ["_law_script"] (spLaw K) := by
  have G__law_pen : FnOk P w K mg base CX0 (1) T.f__law_pen T.fd__law_pen ["_law_script"]  (sp_pen K) := ok_pen T
  have G__law_draw : FnOk P w K mg base CX0 (1) T.f__law_draw T.fd__law_draw ["_law_pen_here", "_law_number"]  sp_draw := ok_draw T
  have G__law_pick : FnOk P w K mg base CX0 (2) T.f__law_pick T.fd__law_pick ["_law_pen_here", "_law_items"]  sp_pick := ok_pick T
  have G_periods : FnOk P w K mg base CX0 (5) T.f_periods T.fd_periods ["m"]  sp_periods := ok_periods T
  have G__law_is_least : FnOk P w K mg base CX0 (2) T.f__law_is_least T.fd__law_is_least ["_law_level"]  sp_is_least := ok_is_least T
  have kb_periods : KBn K T.fd_periods ["m"] 0 ["m"] (fun us ws => ws) (fun vs zs => zs) := kb_of T.F_periods (fun _ _ _ _ _ _ us ws h1 h2 => match us, ws, h1, h2 with | [], [_], _, _ => rfl) (fun _ r => r)
  refine F.ok sc_law (fun vs H Q E h => ?_) (fun cdv A outer s H vs Q E hr h => ?_)
  · obtain ⟨a, ns, rfl, _⟩ := h
    rfl
  · obtain ⟨a, ns, rfl, hS, hl, q⟩ := h
    refine ⟨_, (pss_cons (ps_set (i := 1) sc_law.nd rfl (Or.inl rfl) (pe_call G__law_pen (hr.mono (by decide)) (by rfl) T.g__law_pen T.F__law_pen.kp T.b__law_pen .nil pass0 (pa_cons (pv 0) pa_nil)))
    (pss_cons (ps_for PassesOwn.never rfl (pi_range1 (by rfl) T.m_range (pa_cons (pe_op op_add pe_int (pe_callB (call_min2 rfl) (by rfl) T.m_min (by decide +kernel) (pa_cons pe_int (pa_cons (pe_callB call_len_seq (by rfl) T.m_len PySem.boot_len (pa_cons (pv 0) pa_nil)) pa_nil)))) pa_nil)) (pg_name (i := 2) sc_law.nd rfl (Or.inl rfl))
      (pss_cons (ps_set (i := 3) sc_law.nd rfl (Or.inl rfl) (pe_lst (pa_cons pe_int (pa_cons pe_int (pa_cons pe_int (pa_cons pe_int (pa_cons pe_int (pa_cons pe_int (pa_cons pe_int (pa_cons pe_int (pa_cons (pe_op op_mul (pe_op op_pow pe_int pe_int) pe_int) (pa_cons (pe_op op_shl pe_int (pe_call G__law_draw (hr.mono (by decide)) (by rfl) T.g__law_draw T.F__law_draw.kp T.b__law_draw .nil pass0 (pa_cons (pv 1) (pa_cons pe_int pa_nil)))) pa_nil))))))))))))
      (pss_cons (ps_set (i := 3) sc_law.nd rfl (Or.inl rfl) (pe_op op_cat (pv 3) (pe_op op_rep (pe_lst (pa_cons (pe_op op_add pe_int (pe_call G__law_draw (hr.mono (by decide)) (by rfl) T.g__law_draw T.F__law_draw.kp T.b__law_draw .nil pass0 (pa_cons (pv 1) (pa_cons pe_int pa_nil)))) (pa_cons (pe_op op_add pe_int (pe_call G__law_draw (hr.mono (by decide)) (by rfl) T.g__law_draw T.F__law_draw.kp T.b__law_draw .nil pass0 (pa_cons (pv 1) (pa_cons pe_int pa_nil)))) pa_nil))) pe_int)))
      (pss_cons (ps_if (pt_cmpR op_eq (pv 2) pe_int (nomark _))
        (pss_one (ps_set (i := 3) sc_law.nd rfl (Or.inl rfl) (pe_op op_cat (pe_lst (pa_cons pe_int (pa_cons pe_int (pa_cons pe_int (pa_cons pe_int (pa_cons (pe_op op_pow pe_int pe_int) (pa_cons (pe_op op_mul (pe_op op_pow pe_int pe_int) pe_int) pa_nil))))))) (pe_op op_rep (pe_lst (pa_cons (pe_op op_add pe_int (pe_call G__law_draw (hr.mono (by decide)) (by rfl) T.g__law_draw T.F__law_draw.kp T.b__law_draw .nil pass0 (pa_cons (pv 1) (pa_cons pe_int pa_nil)))) pa_nil)) pe_int))))
        pss_nil)
      (pss_cons (ps_set (i := 4) sc_law.nd rfl (Or.inl rfl) (pe_call G__law_pick (hr.mono (by decide)) (by rfl) T.g__law_pick T.F__law_pick.kp T.b__law_pick .nil pass0 (pa_cons (pv 1) (pa_cons (pv 3) pa_nil))))
      (pss_cons (ps_set (i := 5) sc_law.nd rfl (Or.inl rfl) (pe_call G_periods hr (by rfl) T.g_periods T.F_periods.kp T.b_periods .nil pass0 (pa_cons (pv 4) pa_nil)))
      (pss_cons (ps_if (PW.pt (pw_or (pt_not (pt_val (pe_callB call_isi (by rfl) T.m_isinstance (by decide +kernel) (pa_cons (pv 5) (pa_cons (pe_bltn (v := .ty "tuple") (by rfl) T.m_tuple (by decide +kernel) rfl) pa_nil))) (fun _ => rfl))) (pw_or (pt_cmpR op_eq (pe_callB call_len_seq (by rfl) T.m_len PySem.boot_len (pa_cons (pv 5) pa_nil)) pe_int (nomark _)) (pw_or1 (PW.pt (pw_and (pt_cmpR op_gt (pv 2) pe_int (nomark _)) (pw_and1 (pt_cmpR (op_neD hr.units) (pe_callN0 G_periods hr (by rfl) T.g_periods T.F_periods.kp kb_periods pass0 (pk_cons (pv 4) pk_nil)) (pv 5) (nomark _)))))))))
        (pss_one (ps_ret pe_bl))
        pss_nil)
      (pss_cons (ps_if (PW.pt (pw_or (pt_cmpR (op_neD hr.units) (pe_lc (own := [("_law_one", 6)]) (g := gName 6) (by rfl) sc_law.nd (pi_tup (pv 5)) (blkOk_by (own := [("_law_one", 6)]) (N := ["_law_script", "_law_pen_here", "_law_again", "_law_some", "_law_modulus", "_law_told", "_law_one", "_law_at"]) (sc := defScope s_law) (by decide +kernel)) (fun _ _ _ _ _ => (pg_name (i := 6) sc_law.nd rfl (Or.inl rfl))) (fun _ _ _ _ _ => pts_one (pt_not (pt_val (pe_call G__law_is_least (hr.mono (by decide)) (by rfl) T.g__law_is_least T.F__law_is_least.kp T.b__law_is_least .nil pass0 (pa_cons (pv 6) pa_nil)) (fun _ => rfl)))) (fun _ _ _ _ _ => (pv 6))) (pe_lst pa_nil) (nomark _)) (pw_or1 (pt_cmpR op_ne (pe_ix ix_tup (pe_ix ix_tup (pv 5) pe_int (fun _ _ => rfl)) pe_int (fun _ _ => rfl)) (pv 4) (nomark _)))))
        (pss_one (ps_ret pe_bl))
        pss_nil)
      (pss_cons (ps_for PassesOwn.never rfl (pi_range2 (by rfl) T.m_range (pa_cons pe_int (pa_cons (pe_callB call_len_seq (by rfl) T.m_len PySem.boot_len (pa_cons (pv 5) pa_nil)) pa_nil))) (pg_name (i := 7) sc_law.nd rfl (Or.inl rfl))
        (pss_one (ps_if (PW.pt (pw_or (pt_cmpR op_eq (pe_ix ix_tup (pe_ix ix_tup (pv 5) (pe_op op_sub (pv 7) pe_int) (fun _ _ => rfl)) pe_int (fun _ _ => rfl)) pe_int (nomark _)) (pw_or1 (pt_cmpR op_ne (pe_ix ix_tup (pe_ix ix_tup (pv 5) (pv 7) (fun _ _ => rfl)) pe_int (fun _ _ => rfl)) (pe_ix ix_tup (pe_ix ix_tup (pv 5) (pe_op op_sub (pv 7) pe_int) (fun _ _ => rfl)) pe_int (fun _ _ => rfl)) (nomark _)))))
          (pss_one (ps_ret pe_bl))
          pss_nil)))
      (pss_one (ps_if (pt_cmpR op_ne (pe_ix ix_tup (pe_ix ix_tup (pv 5) (pe_un un_neg pe_int) (fun _ _ => rfl)) pe_int (fun _ _ => rfl)) pe_int (nomark _))
        (pss_one (ps_ret pe_bl))
        pss_nil)))))))))))
    (pss_one (ps_ret pe_bl)))), ?_⟩
    refine ⟨_, rfl, a, ns, rfl, hS, hl, fun p c H1 sm1 np hp hc => ?_⟩
    refine ⟨_, rfl, a, _, rfl, .inl (sm1.seq hS), ?_⟩
    rw [List.length_map]
    walk_at "s"
    generalize hturns : ((2 : Int) + (if (ns.length : Int) < 3 then (ns.length : Int) else 3)).toNat = turns
    have hturns5 : turns ≤ 5 := by
      rw [← hturns]
      split <;> omega
    refine flR (fun i σ H' => ∃ (z2 z3 z4 z5 z6 z7 : Option V) (iv r : Int), σ = [some (.ref a), some (.ref p), z2, z3, z4, z5, z6, z7] ∧ 0 ≤ iv ∧ iv ≤ 10 * i ∧ H' p = some (.dK (penV c iv r)) ∧ H' c = some (.lst (ns.map V.int)))
      ⟨none, none, none, none, none, none, 0, 0, rfl, Int.le_refl _, by omega, hp, hc⟩ ?_ ?_
    · rintro i σ H2 hi ⟨z2, z3, z4, z5, z6, z7, iv, r, rfl, hiv1, hiv2, hp2, hc2⟩ D' B
      have ncp : c ≠ p := ne_of hc2 hp2 (by intro z; cases z)
      walk_at "r"
      refine ⟨p, c, ns, 20, iv, r, rfl, by omega, by omega, hiv1, by omega, hp2, hc2, fun d1 i1 r1 H3 hd1 hd1' hi1 hi1' hp3 b3 => ?_⟩
      have hc3 := b3 _ _ ncp hc2
      walk_at "r"
      refine ⟨by show 10 ≤ sizeLine; decide, fun l1 nl1 => ?_⟩
      have hq1 := pow19 hd1 hd1'
      have M1 : Mods [.int 1, .int 2, .int 3, .int 225, .int 676, .int 5040, .int 19997, .int 20000, .int (5 ^ (5 : Int).toNat * 2), .int (1 * 2 ^ d1.toNat)] :=
        .cons (by decide) (by decide) (.cons (by decide) (by decide) (.cons (by decide) (by decide) (.cons (by decide) (by decide) (.cons (by decide) (by decide) (.cons (by decide) (by decide) (.cons (by decide) (by decide) (.cons (by decide) (by decide) (.cons (by decide) (by decide) (.cons hq1.1 hq1.2 .nil)))))))))
      have hp4 := (sm_upd (o := .lst [.int 1, .int 2, .int 3, .int 225, .int 676, .int 5040, .int 19997, .int 20000, .int (5 ^ (5 : Int).toNat * 2), .int (1 * 2 ^ d1.toNat)]) nl1) _ _ hp3
      have hc4 := (sm_upd (o := .lst [.int 1, .int 2, .int 3, .int 225, .int 676, .int 5040, .int 19997, .int 20000, .int (5 ^ (5 : Int).toNat * 2), .int (1 * 2 ^ d1.toNat)]) nl1) _ _ hc3
      have hl4 : (upd H3 l1 (.lst [.int 1, .int 2, .int 3, .int 225, .int 676, .int 5040, .int 19997, .int 20000, .int (5 ^ (5 : Int).toNat * 2), .int (1 * 2 ^ d1.toNat)])) l1 = _ := upd_same
      walk_at "r"
      refine ⟨p, c, ns, 20000, i1, r1, rfl, by omega, by omega, by omega, by omega, hp4, hc4, fun d2 i2 r2 H5 hd2 hd2' hi2 hi2' hp5 b5 => ?_⟩
      have hc5 := b5 _ _ ncp hc4
      have hl5 := b5 _ _ (ne_of hl4 hp4 (by intro z; cases z)) hl4
      walk_at "r"
      refine ⟨p, c, ns, 400, i2, r2, rfl, by omega, by omega, by omega, by omega, hp5, hc5, fun d3 i3 r3 H6 hd3 hd3' hi3 hi3' hp6 b6 => ?_⟩
      have hc6 := b6 _ _ ncp hc5
      have hl6 := b6 _ _ (ne_of hl5 hp5 (by intro z; cases z)) hl5
      walk_at "r"
      refine ⟨by show 2 ≤ sizeLine; decide, fun l2 nl2 => ?_⟩
      have M2 : Mods [.int (1 + d2), .int (1 + d3)] := .cons (by omega) (by omega) (.cons (by omega) (by omega) .nil)
      have sm7 := sm_upd (o := .lst [.int (1 + d2), .int (1 + d3)]) nl2
      refine ⟨l2, 5, _, rfl, rfl, upd_same, by decide, by decide, by show 2 * 5 ≤ sizeLine; decide, fun l3 nl3 => ?_⟩
      have sm8 := sm7.trans (sm_upd (o := .lst (List.replicate (5 : Int).toNat [V.int (1 + d2), V.int (1 + d3)]).flatten) nl3)
      refine ⟨l1, l3, _, _, rfl, rfl, sm8 _ _ hl6, upd_same, by show 10 + 10 ≤ sizeLine; decide, fun l4 nl4 => ?_⟩
      have M4 := M1.app (M2.rep (5 : Int).toNat)
      have sm9 := sm8.trans (sm_upd (o := .lst ([.int 1, .int 2, .int 3, .int 225, .int 676, .int 5040, .int 19997, .int 20000, .int (5 ^ (5 : Int).toNat * 2), .int (1 * 2 ^ d1.toNat)] ++ (List.replicate (5 : Int).toNat [V.int (1 + d2), V.int (1 + d3)]).flatten)) nl4)
      have hp9 := sm9 _ _ hp6
      have hc9 := sm9 _ _ hc6
      walk_at "r"
      refine if_join (fun σ' H' => ∃ (l : Addr) (xs : List V) (i4 r4 : Int), σ' = [some (.ref a), some (.ref p), some (.int (0 + i)), some (.ref l), z4, z5, z6, z7] ∧ 0 ≤ i4 ∧ i4 ≤ iv + 4 ∧ H' p = some (.dK (penV c i4 r4)) ∧ H' c = some (.lst (ns.map V.int)) ∧ H' l = some (.lst xs) ∧ 1 ≤ xs.length ∧ xs.length ≤ 1000 ∧ Mods xs) ?_ (fun D1 J hb => ?_) (fun D1 J hb => ?_)
      · rintro σ' H10 ⟨l, xs, i4, r4, rfl, hi4, hi4', hp10, hc10, hl10, hx1, hx2, hM⟩
        walk_at "r"
        refine ⟨p, c, l, ns, xs, i4, r4, rfl, hi4, by omega, hp10, hc10, hl10, hx1, hx2, fun v i5 r5 H11 hv hi5 hi5' hp11 b11 => ?_⟩
        obtain ⟨m, rfl, hm1, hm2⟩ := hM v hv
        have hc11 := b11 _ _ ncp hc10
        walk_at "r"
        intro as ls t H12 hCh hlen hat sm12 nt ht
        have hp12 := sm12 _ _ hp11
        have hc12 := sm12 _ _ hc11
        have hlpos : 0 < ls.length := by
          obtain ⟨l0, h0, _⟩ := hCh.head
          exact (List.getElem?_eq_some_iff.mp h0).1
        have hapos : as.length = ls.length := hat.1
        have getA : ∀ (j : Nat) (l : Lv), ls[j]? = some l → ∃ b, (as.map V.ref)[j]? = some (.ref b) ∧ H12 b = some (.tup (lvV l)) := fun j l hj => by
          have hj' := (List.getElem?_eq_some_iff.mp hj).1
          refine ⟨as[j], ?_, hat.2 j as[j] l (List.getElem?_eq_getElem (by omega)) hj⟩
          rw [List.getElem?_map, List.getElem?_eq_getElem (by omega)]
          rfl
        dsimp only [gName]
        refine cut (fun σ' H' => σ' = [some (.ref a), some (.ref p), some (.int (0 + i)), some (.ref l), some (.int m), some (.ref t), z6, z7] ∧ Same H12 H') (fun D1 J1 => ?_) ?_
        · refine ⟨_, rfl, _, _, _, _, true, rfl, .ty "tuple", tyT (.inl (.inl ht)), k_tt, true, rfl, iteF ?_⟩
          refine ⟨_, rfl, t, _, rfl, .inr (.inl (.inl ht)), rfl, _, rfl, ifE (fun z => ?_) (fun _ => ?_)⟩
          · rw [List.length_map] at z
            omega
          walk_at "r"
          refine ifD (fun hb => ?_) (fun hb => ?_)
          · refine ⟨_, rfl, rfl, rfl, m, rfl, hm1, hm2, fun as2 ls2 t2 H13 hCh2 hlen2 hat2 sm13 nt2 ht2 => ?_⟩
            have e2 : ls2 = ls := hCh2.uniq hCh
            subst e2
            refine ⟨_, rfl, _, _, .tup (.inl (.inl ht2)) (dp_lvs hat2), .tup (.inl (.inl (sm13 _ _ ht))) (dp_lvs (hat.mono fun a xs h => sm13 _ _ h)), shaped_lvs _, shaped_lvs _, _, rfl, ?_⟩
            rw [eqv_lvs]
            exact iteF (J1.nx _ _ ⟨rfl, sm13⟩)
          · exact iteF (J1.nx _ _ ⟨rfl, Same.refl _⟩)
        · rintro σ' H14 ⟨rfl, sm14⟩
          have ht14 := sm14 _ _ ht
          refine cut (fun σ' H' => σ' = [some (.ref a), some (.ref p), some (.int (0 + i)), some (.ref l), some (.int m), some (.ref t), z6, z7] ∧ Same H12 H') (fun D1 J1 => ?_) ?_
          · refine ⟨_, rfl, t, rfl, ⟨_, .inl (.inl ht14)⟩, fun D nD => lc_tup (xs := as.map V.ref) (fun i H' => Same H14 H' ∧ H' D = some (.lst [])) ⟨sm_upd nD, upd_same⟩ ?_ ?_ ?_⟩
            · rintro i H' _ ⟨sm, _⟩
              exact .inl (.inl (sm _ _ ht14))
            · rintro j x H' hx ⟨sm, eD⟩
              rw [List.getElem?_map] at hx
              cases ea : as[j]? with
              | none => rw [ea] at hx; cases hx
              | some b =>
                rw [ea] at hx
                cases hx
                have hj := (List.getElem?_eq_some_iff.mp ea).1
                have hb := hat.2 j b ls[j] ea (List.getElem?_eq_getElem (by omega))
                refine ⟨rfl, ?_⟩
                refine ⟨_, rfl, b, ls[j], rfl, (sm14.trans sm) _ _ hb, hCh.good _ (List.getElem_mem _), fun H15 sm15 => ⟨true, rfl, iteF ⟨sm.trans sm15, sm15 _ _ eD⟩⟩⟩
            rintro H15 ⟨sm15, eD⟩
            refine ⟨by decide, fun e ne => ?_⟩
            have sm16 := sm15.trans (sm_upd (o := .lst []) ne)
            refine ⟨_, _, .lst (.inl (.inl ((sm_upd ne) _ _ eD))) .nil, .lst (.inl (.inl upd_same)) .nil, shaped_ints [], shaped_ints [], _, rfl, iteF ?_⟩
            obtain ⟨l0, hl0, hl0m⟩ := hCh.head
            obtain ⟨b0, hb0, hb0'⟩ := getA 0 l0 hl0
            refine ⟨_, rfl, t, _, 0, _, rfl, rfl, .inl (.inl (sm16 _ _ ht14)), atI_nat (j := 0) hb0, ?_⟩
            refine ⟨b0, _, 0, _, rfl, rfl, .inl (.inl ((sm14.trans sm16) _ _ hb0')), atI_nat (j := 0) rfl, ?_⟩
            walk_at "r"
            refine ifNE (fun z => absurd (by rw [hl0m]) z) (fun _ => ?_)
            exact J1.nx _ _ ⟨rfl, sm14.trans sm16⟩
          · rintro σ' H17 ⟨rfl, sm17⟩
            have ht17 := sm17 _ _ ht
            refine cut (fun σ' H' => ∃ z7', σ' = [some (.ref a), some (.ref p), some (.int (0 + i)), some (.ref l), some (.int m), some (.ref t), z6, z7'] ∧ H' = H17) (fun D1 J1 => ?_) ?_
            · refine ⟨_, rfl, t, _, rfl, .inr (.inl (.inl ht17)), 1, _, rfl, ?_, ?_⟩
              · rw [List.length_map]
                omega
              rw [List.length_map]
              refine flR (fun j σ' H' => ∃ z7', σ' = [some (.ref a), some (.ref p), some (.int (0 + i)), some (.ref l), some (.int m), some (.ref t), z6, z7'] ∧ H' = H17) ⟨_, rfl, rfl⟩ ?_ ?_
              · rintro j σ' H' hj ⟨z7', rfl, rfl⟩ D2 B2
                have hj1 : j + 1 < ls.length := by omega
                obtain ⟨b1, hb1, hb1'⟩ := getA j ls[j] (List.getElem?_eq_getElem (by omega))
                obtain ⟨b2, hb2, hb2'⟩ := getA (j + 1) ls[j + 1] (List.getElem?_eq_getElem hj1)
                obtain ⟨hn1, hn2⟩ := hCh.next j ls[j] ls[j + 1] (List.getElem?_eq_getElem (by omega)) (List.getElem?_eq_getElem hj1)
                have hb1s := sm17 _ _ hb1'
                have hb2s := sm17 _ _ hb2'
                walk_at "r"
                refine ⟨t, _, _, _, rfl, rfl, .inl (.inl ht17), at_of (j := j) (by omega) hb1, ?_⟩
                refine ⟨b1, _, 2, _, rfl, rfl, .inl (.inl hb1s), atI_nat (j := 2) rfl, ?_⟩
                walk_at "r"
                refine ifE (fun z => absurd (by omega) hn1) (fun _ => ?_)
                walk_at "r"
                refine ⟨t, _, _, _, rfl, rfl, .inl (.inl ht17), at_of (j := j + 1) (by omega) hb2, ?_⟩
                refine ⟨b2, _, 0, _, rfl, rfl, .inl (.inl hb2s), atI_nat (j := 0) rfl, ?_⟩
                walk_at "r"
                refine ⟨t, _, _, _, rfl, rfl, .inl (.inl ht17), at_of (j := j) (by omega) hb1, ?_⟩
                refine ⟨b1, _, 3, _, rfl, rfl, .inl (.inl hb1s), atI_nat (j := 3) rfl, ?_⟩
                walk_at "r"
                refine ifNE (fun z => absurd (by rw [hn2]) z) (fun _ => ?_)
                exact B2.nx _ _ ⟨_, rfl, rfl⟩
              · rintro σ' H' ⟨z7', rfl, rfl⟩
                exact J1.nx _ _ ⟨_, rfl, rfl⟩
            · rintro σ' H' ⟨z7', rfl, rfl⟩
              obtain ⟨le, hle, hleo⟩ := hCh.last
              obtain ⟨be, hbe, hbe'⟩ := getA (ls.length - 1) le hle
              have hbs := sm17 _ _ hbe'
              refine ⟨_, rfl, 1, rfl, t, _, -1, _, rfl, rfl, .inl (.inl ht17), atI_neg1 (by rw [List.length_map, hapos]; exact hbe), ?_⟩
              refine ⟨be, _, 2, _, rfl, rfl, .inl (.inl hbs), atI_nat (j := 2) rfl, ?_⟩
              walk_at "r"
              refine ifNE (fun z => absurd (by omega) z) (fun _ => ?_)
              exact B.nx _ _ ⟨_, _, _, _, _, _, i5, r5, rfl, by omega, by omega, sm17 _ _ hp12, sm17 _ _ hc12⟩
      · walk_at "r"
        refine ⟨by decide, fun l5 nl5 => ?_⟩
        have sm10 := sm_upd (o := .lst [.int 999983, .int 999999, .int 1000000, .int 720720, .int (3 ^ (12 : Int).toNat), .int (5 ^ (8 : Int).toNat * 2)]) nl5
        have hl10 := upd_at (o := .lst [.int 999983, .int 999999, .int 1000000, .int 720720, .int (3 ^ (12 : Int).toNat), .int (5 ^ (8 : Int).toNat * 2)]) nl5
        have M5 : Mods [.int 999983, .int 999999, .int 1000000, .int 720720, .int (3 ^ (12 : Int).toNat), .int (5 ^ (8 : Int).toNat * 2)] :=
          .cons (by decide) (by decide) (.cons (by decide) (by decide) (.cons (by decide) (by decide) (.cons (by decide) (by decide) (.cons (by decide) (by decide) (.cons (by decide) (by decide) .nil)))))
        walk_at "r"
        refine ⟨p, c, ns, 980000, i3, r3, rfl, by omega, by omega, by omega, by omega, sm10 _ _ hp9, sm10 _ _ hc9, fun d4 i4 r4 H11 hd4 hd4' hi4 hi4' hp11 b11 => ?_⟩
        have hc11 := b11 _ _ ncp (sm10 _ _ hc9)
        have hl11 := b11 _ _ (ne_of hl10 (sm10 _ _ hp9) (by intro z; cases z)) hl10
        have M6 : Mods [.int (20001 + d4)] := .cons (by omega) (by omega) .nil
        walk_at "r"
        refine ⟨by show 1 ≤ sizeLine; decide, fun l6 nl6 => ?_⟩
        have sm12 := sm_upd (o := .lst [.int (20001 + d4)]) nl6
        refine ⟨l6, 5, _, rfl, rfl, upd_same, by decide, by decide, by show 1 * 5 ≤ sizeLine; decide, fun l7 nl7 => ?_⟩
        have sm13 := sm12.trans (sm_upd (o := .lst (List.replicate (5 : Int).toNat [V.int (20001 + d4)]).flatten) nl7)
        refine ⟨l5, l7, _, _, rfl, rfl, sm13 _ _ hl11, upd_same, by show 6 + 5 ≤ sizeLine; decide, fun l8 nl8 => ?_⟩
        have sm14 := sm13.trans (sm_upd (o := .lst ([.int 999983, .int 999999, .int 1000000, .int 720720, .int (3 ^ (12 : Int).toNat), .int (5 ^ (8 : Int).toNat * 2)] ++ (List.replicate (5 : Int).toNat [V.int (20001 + d4)]).flatten)) nl8)
        exact J.nx _ _ ⟨l8, _, i4, r4, rfl, by omega, by omega, sm14 _ _ hp11, sm14 _ _ hc11, upd_same, by show 1 ≤ 11; decide, by show 11 ≤ 1000; decide, M5.app (M6.rep (5 : Int).toNat)⟩
      · exact J.nx _ _ ⟨l4, _, i3, r3, rfl, by omega, by omega, hp9, hc9, upd_same, by show 1 ≤ 20; decide, by show 20 ≤ 1000; decide, M4⟩
    · rintro σ H2 ⟨z2, z3, z4, z5, z6, z7, iv, r, rfl, hiv1, hiv2, hp2, hc2⟩
      exact q _
end
end K34
set_option Elab.async false
set_option linter.all false
set_option maxRecDepth 100000
namespace K34
open PySem PySem.Spec PyProof.Rows L2
theorem all_mk {l : PySem.W.OpenLaw} {w : World} {K : PySem.W.Frag} {h : Heap} {mg : Str → Option Value} {fa a_is_int a_power_rest a_prime_factors a_least_period a_level_of a_least_levels a_is_small a_periods a__law_pen a__law_draw a__law_pick a__law_power a__law_primes a__law_is_least a_law : Addr} (X : K.In h) (G : h.Ns mainGlobals mg) (hfa : mg "law" = some (.ref fa))
    {od0 an0 : Option Addr} {sl0 : Array (Option Value)} {oc0 kV0 dc0 pm0 cd0 ct0 : Value}
    (p0 : PySem.W.nsIn K mainGlobals "is_int" = some (some (.ref a_is_int))) (l0 : K.lookup a_is_int = some ⟨oc0, od0, .func (PySem.W.fnOf "is_int" "is_int" (defArgs s_is_int) (defBody s_is_int) (defScope s_is_int) .none kV0 dc0 pm0 an0 cd0 ct0), sl0⟩) (c0 : PySem.W.codeIn K cd0 "is_int" = true) (k0 : PySem.W.keepIn K (.ref a_is_int) = true)
    {od1 an1 : Option Addr} {sl1 : Array (Option Value)} {oc1 kV1 dc1 pm1 cd1 ct1 : Value}
    (p1 : PySem.W.nsIn K mainGlobals "power_rest" = some (some (.ref a_power_rest))) (l1 : K.lookup a_power_rest = some ⟨oc1, od1, .func (PySem.W.fnOf "power_rest" "power_rest" (defArgs s_power_rest) (defBody s_power_rest) (defScope s_power_rest) .none kV1 dc1 pm1 an1 cd1 ct1), sl1⟩) (c1 : PySem.W.codeIn K cd1 "power_rest" = true) (k1 : PySem.W.keepIn K (.ref a_power_rest) = true)
    {od2 an2 : Option Addr} {sl2 : Array (Option Value)} {oc2 kV2 dc2 pm2 cd2 ct2 : Value}
    (p2 : PySem.W.nsIn K mainGlobals "prime_factors" = some (some (.ref a_prime_factors))) (l2 : K.lookup a_prime_factors = some ⟨oc2, od2, .func (PySem.W.fnOf "prime_factors" "prime_factors" (defArgs s_prime_factors) (defBody s_prime_factors) (defScope s_prime_factors) .none kV2 dc2 pm2 an2 cd2 ct2), sl2⟩) (c2 : PySem.W.codeIn K cd2 "prime_factors" = true) (k2 : PySem.W.keepIn K (.ref a_prime_factors) = true)
    {od3 an3 : Option Addr} {sl3 : Array (Option Value)} {oc3 kV3 dc3 pm3 cd3 ct3 : Value}
    (p3 : PySem.W.nsIn K mainGlobals "least_period" = some (some (.ref a_least_period))) (l3 : K.lookup a_least_period = some ⟨oc3, od3, .func (PySem.W.fnOf "least_period" "least_period" (defArgs s_least_period) (defBody s_least_period) (defScope s_least_period) .none kV3 dc3 pm3 an3 cd3 ct3), sl3⟩) (c3 : PySem.W.codeIn K cd3 "least_period" = true) (k3 : PySem.W.keepIn K (.ref a_least_period) = true)
    {od4 an4 : Option Addr} {sl4 : Array (Option Value)} {oc4 kV4 dc4 pm4 cd4 ct4 : Value}
    (p4 : PySem.W.nsIn K mainGlobals "level_of" = some (some (.ref a_level_of))) (l4 : K.lookup a_level_of = some ⟨oc4, od4, .func (PySem.W.fnOf "level_of" "level_of" (defArgs s_level_of) (defBody s_level_of) (defScope s_level_of) .none kV4 dc4 pm4 an4 cd4 ct4), sl4⟩) (c4 : PySem.W.codeIn K cd4 "level_of" = true) (k4 : PySem.W.keepIn K (.ref a_level_of) = true)
    {od5 an5 : Option Addr} {sl5 : Array (Option Value)} {oc5 kV5 dc5 pm5 cd5 ct5 : Value}
    (p5 : PySem.W.nsIn K mainGlobals "least_levels" = some (some (.ref a_least_levels))) (l5 : K.lookup a_least_levels = some ⟨oc5, od5, .func (PySem.W.fnOf "least_levels" "least_levels" (defArgs s_least_levels) (defBody s_least_levels) (defScope s_least_levels) .none kV5 dc5 pm5 an5 cd5 ct5), sl5⟩) (c5 : PySem.W.codeIn K cd5 "least_levels" = true) (k5 : PySem.W.keepIn K (.ref a_least_levels) = true)
    {od6 an6 : Option Addr} {sl6 : Array (Option Value)} {oc6 kV6 dc6 pm6 cd6 ct6 : Value}
    (p6 : PySem.W.nsIn K mainGlobals "is_small" = some (some (.ref a_is_small))) (l6 : K.lookup a_is_small = some ⟨oc6, od6, .func (PySem.W.fnOf "is_small" "is_small" (defArgs s_is_small) (defBody s_is_small) (defScope s_is_small) .none kV6 dc6 pm6 an6 cd6 ct6), sl6⟩) (c6 : PySem.W.codeIn K cd6 "is_small" = true) (k6 : PySem.W.keepIn K (.ref a_is_small) = true)
    {od7 an7 : Option Addr} {sl7 : Array (Option Value)} {oc7 kV7 dc7 pm7 cd7 ct7 : Value}
    (p7 : PySem.W.nsIn K mainGlobals "periods" = some (some (.ref a_periods))) (l7 : K.lookup a_periods = some ⟨oc7, od7, .func (PySem.W.fnOf "periods" "periods" (defArgs s_periods) (defBody s_periods) (defScope s_periods) .none kV7 dc7 pm7 an7 cd7 ct7), sl7⟩) (c7 : PySem.W.codeIn K cd7 "periods" = true) (k7 : PySem.W.keepIn K (.ref a_periods) = true)
    {od8 an8 : Option Addr} {sl8 : Array (Option Value)} {oc8 kV8 dc8 pm8 cd8 ct8 : Value}
    (p8 : PySem.W.nsIn K mainGlobals "_law_pen" = some (some (.ref a__law_pen))) (l8 : K.lookup a__law_pen = some ⟨oc8, od8, .func (PySem.W.fnOf "_law_pen" "_law_pen" (defArgs s__law_pen) (defBody s__law_pen) (defScope s__law_pen) .none kV8 dc8 pm8 an8 cd8 ct8), sl8⟩) (c8 : PySem.W.codeIn K cd8 "_law_pen" = true) (k8 : PySem.W.keepIn K (.ref a__law_pen) = true)
    {od9 an9 : Option Addr} {sl9 : Array (Option Value)} {oc9 kV9 dc9 pm9 cd9 ct9 : Value}
    (p9 : PySem.W.nsIn K mainGlobals "_law_draw" = some (some (.ref a__law_draw))) (l9 : K.lookup a__law_draw = some ⟨oc9, od9, .func (PySem.W.fnOf "_law_draw" "_law_draw" (defArgs s__law_draw) (defBody s__law_draw) (defScope s__law_draw) .none kV9 dc9 pm9 an9 cd9 ct9), sl9⟩) (c9 : PySem.W.codeIn K cd9 "_law_draw" = true) (k9 : PySem.W.keepIn K (.ref a__law_draw) = true)
    {od10 an10 : Option Addr} {sl10 : Array (Option Value)} {oc10 kV10 dc10 pm10 cd10 ct10 : Value}
    (p10 : PySem.W.nsIn K mainGlobals "_law_pick" = some (some (.ref a__law_pick))) (l10 : K.lookup a__law_pick = some ⟨oc10, od10, .func (PySem.W.fnOf "_law_pick" "_law_pick" (defArgs s__law_pick) (defBody s__law_pick) (defScope s__law_pick) .none kV10 dc10 pm10 an10 cd10 ct10), sl10⟩) (c10 : PySem.W.codeIn K cd10 "_law_pick" = true) (k10 : PySem.W.keepIn K (.ref a__law_pick) = true)
    {od11 an11 : Option Addr} {sl11 : Array (Option Value)} {oc11 kV11 dc11 pm11 cd11 ct11 : Value}
    (p11 : PySem.W.nsIn K mainGlobals "_law_power" = some (some (.ref a__law_power))) (l11 : K.lookup a__law_power = some ⟨oc11, od11, .func (PySem.W.fnOf "_law_power" "_law_power" (defArgs s__law_power) (defBody s__law_power) (defScope s__law_power) .none kV11 dc11 pm11 an11 cd11 ct11), sl11⟩) (c11 : PySem.W.codeIn K cd11 "_law_power" = true) (k11 : PySem.W.keepIn K (.ref a__law_power) = true)
    {od12 an12 : Option Addr} {sl12 : Array (Option Value)} {oc12 kV12 dc12 pm12 cd12 ct12 : Value}
    (p12 : PySem.W.nsIn K mainGlobals "_law_primes" = some (some (.ref a__law_primes))) (l12 : K.lookup a__law_primes = some ⟨oc12, od12, .func (PySem.W.fnOf "_law_primes" "_law_primes" (defArgs s__law_primes) (defBody s__law_primes) (defScope s__law_primes) .none kV12 dc12 pm12 an12 cd12 ct12), sl12⟩) (c12 : PySem.W.codeIn K cd12 "_law_primes" = true) (k12 : PySem.W.keepIn K (.ref a__law_primes) = true)
    {od13 an13 : Option Addr} {sl13 : Array (Option Value)} {oc13 kV13 dc13 pm13 cd13 ct13 : Value}
    (p13 : PySem.W.nsIn K mainGlobals "_law_is_least" = some (some (.ref a__law_is_least))) (l13 : K.lookup a__law_is_least = some ⟨oc13, od13, .func (PySem.W.fnOf "_law_is_least" "_law_is_least" (defArgs s__law_is_least) (defBody s__law_is_least) (defScope s__law_is_least) .none kV13 dc13 pm13 an13 cd13 ct13), sl13⟩) (c13 : PySem.W.codeIn K cd13 "_law_is_least" = true) (k13 : PySem.W.keepIn K (.ref a__law_is_least) = true)
    {od14 an14 : Option Addr} {sl14 : Array (Option Value)} {oc14 kV14 dc14 pm14 cd14 ct14 : Value}
    (p14 : PySem.W.nsIn K mainGlobals "law" = some (some (.ref a_law))) (l14 : K.lookup a_law = some ⟨oc14, od14, .func (PySem.W.fnOf "law" "law" (defArgs s_law) (defBody s_law) (defScope s_law) .none kV14 dc14 pm14 an14 cd14 ct14), sl14⟩) (c14 : PySem.W.codeIn K cd14 "law" = true) (k14 : PySem.W.keepIn K (.ref a_law) = true)
    {t_MOST_MODULUS : Tok} (e_MOST_MODULUS : PySem.W.nsIn K mainGlobals "MOST_MODULUS" = some (some (.int (1000000) t_MOST_MODULUS)))
    (z_bool : PySem.W.nsIn K mainGlobals "bool" = some none)
    (z_int : PySem.W.nsIn K mainGlobals "int" = some none)
    (z_isinstance : PySem.W.nsIn K mainGlobals "isinstance" = some none)
    (z_len : PySem.W.nsIn K mainGlobals "len" = some none)
    (z_list : PySem.W.nsIn K mainGlobals "list" = some none)
    (z_min : PySem.W.nsIn K mainGlobals "min" = some none)
    (z_range : PySem.W.nsIn K mainGlobals "range" = some none)
    (z_tuple : PySem.W.nsIn K mainGlobals "tuple" = some none)
    : ∃ fd : FuncData, (∀ (s : Shared) (v : Value), BindsTo s fd ⟨[v], []⟩ [("_law_script", v)]) ∧ ∀ base : Heap, K.In base → base.Ns mainGlobals mg → FnOk l.prog w K mg base CX0 6 fa fd ["_law_script"] (spLaw K) := by
  have e := hfa.symm.trans (PySem.W.mg_of X G p14)
  cases e
  have F0 := fun_mk (st := s_is_int) l0 c0 k0
  have b0 := F0.binds (ps := ["value"]) fun _ _ _ _ _ _ us hl => match us, hl with | [_], _ => rfl
  have F1 := fun_mk (st := s_power_rest) l1 c1 k1
  have b1 := F1.binds (ps := ["exponent", "odd"]) fun _ _ _ _ _ _ us hl => match us, hl with | [_, _], _ => rfl
  have F2 := fun_mk (st := s_prime_factors) l2 c2 k2
  have b2 := F2.binds (ps := ["number"]) fun _ _ _ _ _ _ us hl => match us, hl with | [_], _ => rfl
  have F3 := fun_mk (st := s_least_period) l3 c3 k3
  have b3 := F3.binds (ps := ["odd"]) fun _ _ _ _ _ _ us hl => match us, hl with | [_], _ => rfl
  have F4 := fun_mk (st := s_level_of) l4 c4 k4
  have b4 := F4.binds (ps := ["modulus"]) fun _ _ _ _ _ _ us hl => match us, hl with | [_], _ => rfl
  have F5 := fun_mk (st := s_least_levels) l5 c5 k5
  have b5 := F5.binds (ps := ["m"]) fun _ _ _ _ _ _ us hl => match us, hl with | [_], _ => rfl
  have F6 := fun_mk (st := s_is_small) l6 c6 k6
  have b6 := F6.binds (ps := ["value"]) fun _ _ _ _ _ _ us hl => match us, hl with | [_], _ => rfl
  have F7 := fun_mk (st := s_periods) l7 c7 k7
  have b7 := F7.binds (ps := ["m"]) fun _ _ _ _ _ _ us hl => match us, hl with | [_], _ => rfl
  have F8 := fun_mk (st := s__law_pen) l8 c8 k8
  have b8 := F8.binds (ps := ["_law_script"]) fun _ _ _ _ _ _ us hl => match us, hl with | [_], _ => rfl
  have F9 := fun_mk (st := s__law_draw) l9 c9 k9
  have b9 := F9.binds (ps := ["_law_pen_here", "_law_number"]) fun _ _ _ _ _ _ us hl => match us, hl with | [_, _], _ => rfl
  have F10 := fun_mk (st := s__law_pick) l10 c10 k10
  have b10 := F10.binds (ps := ["_law_pen_here", "_law_items"]) fun _ _ _ _ _ _ us hl => match us, hl with | [_, _], _ => rfl
  have F11 := fun_mk (st := s__law_power) l11 c11 k11
  have b11 := F11.binds (ps := ["_law_times", "_law_number"]) fun _ _ _ _ _ _ us hl => match us, hl with | [_, _], _ => rfl
  have F12 := fun_mk (st := s__law_primes) l12 c12 k12
  have b12 := F12.binds (ps := ["_law_number"]) fun _ _ _ _ _ _ us hl => match us, hl with | [_], _ => rfl
  have F13 := fun_mk (st := s__law_is_least) l13 c13 k13
  have b13 := F13.binds (ps := ["_law_level"]) fun _ _ _ _ _ _ us hl => match us, hl with | [_], _ => rfl
  have F14 := fun_mk (st := s_law) l14 c14 k14
  have b14 := F14.binds (ps := ["_law_script"]) fun _ _ _ _ _ _ us hl => match us, hl with | [_], _ => rfl
  have T : Top K mg := ⟨_, _, F0, PySem.W.mg_of X G p0, b0, _, _, F1, PySem.W.mg_of X G p1, b1, _, _, F2, PySem.W.mg_of X G p2, b2, _, _, F3, PySem.W.mg_of X G p3, b3, _, _, F4, PySem.W.mg_of X G p4, b4, _, _, F5, PySem.W.mg_of X G p5, b5, _, _, F6, PySem.W.mg_of X G p6, b6, _, _, F7, PySem.W.mg_of X G p7, b7, _, _, F8, PySem.W.mg_of X G p8, b8, _, _, F9, PySem.W.mg_of X G p9, b9, _, _, F10, PySem.W.mg_of X G p10, b10, _, _, F11, PySem.W.mg_of X G p11, b11, _, _, F12, PySem.W.mg_of X G p12, b12, _, _, F13, PySem.W.mg_of X G p13, b13, _, _, F14, PySem.W.mg_of X G p14, b14, t_MOST_MODULUS, PySem.W.mg_of X G e_MOST_MODULUS, PySem.W.mg_none_of X G z_bool, PySem.W.mg_none_of X G z_int, PySem.W.mg_none_of X G z_isinstance, PySem.W.mg_none_of X G z_len, PySem.W.mg_none_of X G z_list, PySem.W.mg_none_of X G z_min, PySem.W.mg_none_of X G z_range, PySem.W.mg_none_of X G z_tuple⟩
  exact ⟨PySem.W.fnOf "law" "law" (defArgs s_law) (defBody s_law) (defScope s_law) .none kV14 dc14 pm14 an14 cd14 ct14, fun s v => .of_eq rfl, fun base _ _ => ok_law T F14⟩
end K34
open PySem PySem.W PyProof.Rows
set_option maxHeartbeats 0 in
theorem PySem.Challenge.cw_farbits_k34_periods_are_least_holds : PySem.Challenge.rw_farbits_k34_periods_are_least.Holds := by
  w_on; o_law; k_head; (case hw => w_witness2)
  k_fill
  refine L2.walk_of (l := PySem.Challenge.rw_farbits_k34_periods_are_least) (n := 63) (k := 6) (x := "_law_script") (CX := fun _ => L2.CX0) (sp := fun w => K34.spLaw _) rfl (by decide) rfl ⟨rfl, by decide, by decide⟩ (fun w h Y => PySem.W.kIn_of Y) ?F (fun _ _ a ns hl _ hS => ⟨a, ns, rfl, hS, hl, fun _ => rfl⟩) (fun _ _ _ _ _ h => h)
  case F =>
    intro w mg fa h KX G hmg
    refine' K34.all_mk KX G hmg ?p0 ?l0 ?c0 ?k0 ?p1 ?l1 ?c1 ?k1 ?p2 ?l2 ?c2 ?k2 ?p3 ?l3 ?c3 ?k3 ?p4 ?l4 ?c4 ?k4 ?p5 ?l5 ?c5 ?k5 ?p6 ?l6 ?c6 ?k6 ?p7 ?l7 ?c7 ?k7 ?p8 ?l8 ?c8 ?k8 ?p9 ?l9 ?c9 ?k9 ?p10 ?l10 ?c10 ?k10 ?p11 ?l11 ?c11 ?k11 ?p12 ?l12 ?c12 ?k12 ?p13 ?l13 ?c13 ?k13 ?p14 ?l14 ?c14 ?k14 ?e_MOST_MODULUS ?z_bool ?z_int ?z_isinstance ?z_len ?z_list ?z_min ?z_range ?z_tuple
    (case p0 => k_is); (case l0 => k_is); (case c0 => k_is); (case k0 => k_is); (case p1 => k_is); (case l1 => k_is); (case c1 => k_is); (case k1 => k_is)
    (case p2 => k_is); (case l2 => k_is); (case c2 => k_is); (case k2 => k_is); (case p3 => k_is); (case l3 => k_is); (case c3 => k_is); (case k3 => k_is)
    (case p4 => k_is); (case l4 => k_is); (case c4 => k_is); (case k4 => k_is); (case p5 => k_is); (case l5 => k_is); (case c5 => k_is); (case k5 => k_is)
    (case p6 => k_is); (case l6 => k_is); (case c6 => k_is); (case k6 => k_is); (case p7 => k_is); (case l7 => k_is); (case c7 => k_is); (case k7 => k_is)
    (case p8 => k_is); (case l8 => k_is); (case c8 => k_is); (case k8 => k_is); (case p9 => k_is); (case l9 => k_is); (case c9 => k_is); (case k9 => k_is)
    (case p10 => k_is); (case l10 => k_is); (case c10 => k_is); (case k10 => k_is); (case p11 => k_is); (case l11 => k_is); (case c11 => k_is); (case k11 => k_is)
    (case p12 => k_is); (case l12 => k_is); (case c12 => k_is); (case k12 => k_is); (case p13 => k_is); (case l13 => k_is); (case c13 => k_is); (case k13 => k_is)
    (case p14 => k_is); (case l14 => k_is); (case c14 => k_is); (case k14 => k_is); (case e_MOST_MODULUS => k_is); (case z_bool => k_is); (case z_int => k_is); (case z_isinstance => k_is)
    (case z_len => k_is); (case z_list => k_is); (case z_min => k_is); (case z_range => k_is); (case z_tuple => k_is)
