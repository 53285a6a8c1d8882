import PyProof.Rows.All
import Wide.All
import OpenK.AllK
import Wide.FinOn
import HandS.ForMost
import HandS.Flow
import HandS.Wide
import HandS.WideBits
import HandS.SortInts
import HandS.IsInst
import HandS.Conv
import HandS.Set
import HandS.Strs
import HandS.SetFor
import HandS.SortOrd
import HandS.SortKw
import HandS.Style
import KE.SortData
import KE.DataMinMax
import HandS.EndBits
import HandS.Lambda
import HandS.EndTab
import KE.KNest
import KE.BitLaws
import KE.IntBitsLaws
import PySem.Challenge.RW_factferry_k32_least_hitting_sets
set_option Elab.async false
set_option linter.all false
set_option maxRecDepth 100000
set_option maxHeartbeats 4000000
/-! Pw1: typed states over the hand layer: frozen knowledge F, owned objects M, slots ρ. -/
namespace Pw
open PySem PySem.Spec PyProof.Rows L2

/-- what is said of a value, over the frozen objects -/
structure VR where
  p : Hp → V → Prop
  mono : ∀ {F F' : Hp} {v : V}, Same F F' → p F v → p F' v
/-- what is said of an owned object -/
structure HR where
  p : Hp → HO → Prop
  mono : ∀ {F F' : Hp} {o : HO}, Same F F' → p F o → p F' o
abbrev Mem := List (Addr × HR)
abbrev Rho := List (Option VR)

structure Held (F : Hp) (M : Mem) (H : Hp) : Prop where
  ex : Same F H
  mt : ∀ q ∈ M, ∃ o, H q.1 = some o ∧ q.2.p F o ∧ F q.1 = none
  nd : (M.map Prod.fst).Nodup

def EnvR (F : Hp) : L2.St → Rho → Prop
  | [], [] => True
  | o :: σ, r :: ρ => (match r with | none => True | some R => ∃ v, o = some v ∧ R.p F v) ∧ EnvR F σ ρ
  | _, _ => False

inductive Res where
  | val (R : VR)
  | new (A : HR)

def Post (F : Hp) (M : Mem) (r : Res) (Q : VK) : Prop := match r with
  | .val R => ∀ v F' H', Same F F' → Held F' M H' → R.p F' v → Q v H'
  | .new A => ∀ p F' H', Same F F' → Held F' ((p, A) :: M) H' → Q (.ref p) H'

theorem Same.tr {H H1 H2 : Hp} (a : Same H H1) (b : Same H1 H2) : Same H H2 := a.trans b

theorem EnvR.mono {F F' : Hp} (e : Same F F') : ∀ {σ : L2.St} {ρ : Rho}, EnvR F σ ρ → EnvR F' σ ρ
  | [], [], _ => trivial
  | o :: σ, none :: ρ, h => ⟨trivial, h.2.mono e⟩
  | o :: σ, some R :: ρ, h => ⟨let ⟨v, a, b⟩ := h.1; ⟨v, a, R.mono e b⟩, h.2.mono e⟩
  | [], _ :: _, h => h.elim
  | _ :: _, [], h => h.elim
theorem EnvR.get {F : Hp} : ∀ {σ : L2.St} {ρ : Rho} {i : Nat} {R : VR}, EnvR F σ ρ → ρ[i]? = some (some R) → ∃ v, σ[i]? = some (some v) ∧ R.p F v
  | [], [], _, _, _, e => by simp at e
  | o :: σ, r :: ρ, 0, R, h, e => by
    have e' : r = some R := by simpa using e
    subst e'
    obtain ⟨v, a, b⟩ := h.1
    exact ⟨v, by simp [a], b⟩
  | o :: σ, r :: ρ, i + 1, R, h, e => by
    obtain ⟨v, a, b⟩ := EnvR.get (i := i) h.2 (by simpa using e)
    exact ⟨v, by simpa using a, b⟩
  | [], _ :: _, _, _, h, _ => h.elim
  | _ :: _, [], _, _, h, _ => h.elim
theorem EnvR.set {F : Hp} {v : V} {R : VR} (r : R.p F v) : ∀ {σ : L2.St} {ρ : Rho} (i : Nat), EnvR F σ ρ → EnvR F (σ.set i (some v)) (ρ.set i (some R))
  | [], [], _, _ => trivial
  | o :: σ, _ :: ρ, 0, h => ⟨⟨v, rfl, r⟩, h.2⟩
  | o :: σ, _ :: ρ, i + 1, h => ⟨h.1, EnvR.set r i h.2⟩
  | [], _ :: _, _, h => h.elim
  | _ :: _, [], _, h => h.elim
theorem EnvR.len {F : Hp} : ∀ {σ : L2.St} {ρ : Rho}, EnvR F σ ρ → σ.length = ρ.length
  | [], [], _ => rfl
  | o :: σ, _ :: ρ, h => by simp [EnvR.len h.2]
  | [], _ :: _, h => h.elim
  | _ :: _, [], h => h.elim
/-- forgetting slots -/
inductive Le : Rho → Rho → Prop
  | nil : Le [] []
  | keep {r ρ ρ'} : Le ρ ρ' → Le (r :: ρ) (r :: ρ')
  | drop {r ρ ρ'} : Le ρ ρ' → Le (r :: ρ) (none :: ρ')
theorem Le.refl : ∀ ρ, Le ρ ρ
  | [] => .nil
  | _ :: ρ => .keep (Le.refl ρ)
theorem EnvR.le {F : Hp} : ∀ {σ : L2.St} {ρ ρ' : Rho}, Le ρ ρ' → EnvR F σ ρ → EnvR F σ ρ'
  | [], [], [], .nil, _ => trivial
  | o :: σ, _, _, .keep l, h => ⟨h.1, EnvR.le l h.2⟩
  | o :: σ, _, _, .drop l, h => ⟨trivial, EnvR.le l h.2⟩

/-! ### the owned objects -/
theorem Held.get {F : Hp} {M : Mem} {H : Hp} {k : Nat} {a : Addr} {A : HR} (h : Held F M H) (e : M[k]? = some (a, A)) : ∃ o, H a = some o ∧ A.p F o ∧ F a = none := h.mt (a, A) (List.mem_of_getElem? e)
theorem nd_at {M : Mem} (nd : (M.map Prod.fst).Nodup) {i k : Nat} {p q : Addr × HR} (e : M[i]? = some p) (e' : M[k]? = some q) (h : p.1 = q.1) : i = k := by
  have e1 : (M.map Prod.fst)[i]? = some p.1 := by simp [e]
  have e2 : (M.map Prod.fst)[k]? = some p.1 := by simp [e', h]
  obtain ⟨h1, f1⟩ := List.getElem?_eq_some_iff.mp e1
  obtain ⟨h2, f2⟩ := List.getElem?_eq_some_iff.mp e2
  exact (List.getElem_inj nd).mp (f1.trans f2.symm)
theorem map_fst_set (M : Mem) (k : Nat) (a : Addr) (A A' : HR) (e : M[k]? = some (a, A)) : (M.set k (a, A')).map Prod.fst = M.map Prod.fst := by
  rw [List.map_set]
  apply List.ext_getElem?
  intro i
  rw [List.getElem?_set]
  split
  · rename_i h
    subst h
    split
    · simp [e]
    · rename_i h2
      have : (M.map Prod.fst)[k]? = none := by
        rw [List.getElem?_eq_none_iff]
        omega
      rw [this]
  · rfl
/-- the k-th owned object is written -/
theorem Held.set {F : Hp} {M : Mem} {H : Hp} {k : Nat} {a : Addr} {A A' : HR} {o : HO} (h : Held F M H) (e : M[k]? = some (a, A)) (r : A'.p F o) : Held F (M.set k (a, A')) (upd H a o) := by
  obtain ⟨_, _, _, fa⟩ := h.get e
  refine ⟨fun b u hb => ?_, fun q hq => ?_, by rw [map_fst_set M k a A A' e]; exact h.nd⟩
  · have : b ≠ a := by rintro rfl; rw [fa] at hb; cases hb
    rw [upd_ne this]
    exact h.ex b u hb
  · obtain ⟨i, hi, he⟩ := List.mem_iff_getElem.mp hq
    have he' : (M.set k (a, A'))[i]? = some q := by rw [List.getElem?_eq_getElem hi, he]
    rw [List.getElem?_set] at he'
    split at he'
    · split at he'
      · cases he'
        exact ⟨o, upd_same, r, fa⟩
      · cases he'
    · rename_i hki
      obtain ⟨u, h1, h2, h3⟩ := h.mt q (List.mem_of_getElem? he')
      have : q.1 ≠ a := fun z => hki (nd_at h.nd e he' z.symm)
      exact ⟨u, by rw [upd_ne this]; exact h1, h2, h3⟩
/-- an untracked address is in no owned place -/
theorem Held.fresh {F : Hp} {M : Mem} {H : Hp} {p : Addr} (h : Held F M H) (hp : H p = none) : F p = none ∧ p ∉ M.map Prod.fst := by
  refine ⟨?_, fun hm => ?_⟩
  · cases e : F p with
    | none => rfl
    | some o => rw [h.ex p o e] at hp; cases hp
  · obtain ⟨q, hq, e⟩ := List.mem_map.mp hm
    obtain ⟨o, h1, _⟩ := h.mt q hq
    rw [e, hp] at h1; cases h1
/-- a new object, owned -/
theorem Held.alloc {F : Hp} {M : Mem} {H : Hp} {p : Addr} {o : HO} {A : HR} (h : Held F M H) (hp : H p = none) (r : A.p F o) : Held F ((p, A) :: M) (upd H p o) := by
  obtain ⟨fp, np⟩ := h.fresh hp
  refine ⟨fun b u hb => ?_, fun q hq => ?_, ?_⟩
  · have : b ≠ p := by rintro rfl; rw [fp] at hb; cases hb
    rw [upd_ne this]; exact h.ex b u hb
  · rcases List.mem_cons.mp hq with rfl | hq
    · exact ⟨o, upd_same, r, fp⟩
    · obtain ⟨u, h1, h2, h3⟩ := h.mt q hq
      have : q.1 ≠ p := fun z => np (z ▸ List.mem_map_of_mem (f := Prod.fst) hq)
      exact ⟨u, by rw [upd_ne this]; exact h1, h2, h3⟩
  · rw [List.map_cons, List.nodup_cons]; exact ⟨np, h.nd⟩
/-- the first owned object is frozen -/
theorem Held.freeze {F : Hp} {M : Mem} {H : Hp} {p : Addr} {A : HR} (h : Held F ((p, A) :: M) H) : ∃ o, A.p F o ∧ H p = some o ∧ F p = none ∧ Same F (upd F p o) ∧ Held (upd F p o) M H := by
  obtain ⟨o, h1, h2, h3⟩ := h.mt _ List.mem_cons_self
  have sm : Same F (upd F p o) := fun b u hb => by
    have : b ≠ p := fun z => by rw [z, show F p = none from h3] at hb; cases hb
    rw [upd_ne this]; exact hb
  have nd := h.nd
  rw [List.map_cons, List.nodup_cons] at nd
  have nd : p ∉ M.map Prod.fst ∧ (M.map Prod.fst).Nodup := nd
  refine ⟨o, h2, h1, h3, sm, ⟨fun b u hb => ?_, fun q hq => ?_, nd.2⟩⟩
  · by_cases hbp : b = p
    · subst hbp; rw [upd_same] at hb; cases hb; exact h1
    · rw [upd_ne hbp] at hb; exact h.ex b u hb
  · obtain ⟨u, g1, g2, g3⟩ := h.mt q (List.mem_cons_of_mem _ hq)
    have : q.1 ≠ p := fun z => nd.1 (z ▸ List.mem_map_of_mem (f := Prod.fst) hq)
    exact ⟨u, g1, q.2.mono sm g2, by rw [upd_ne this]; exact g3⟩
/-- a new object, frozen at once -/
theorem Held.ice {F : Hp} {M : Mem} {H : Hp} {p : Addr} {o : HO} (h : Held F M H) (hp : H p = none) : Same F (upd F p o) ∧ Held (upd F p o) M (upd H p o) := by
  obtain ⟨fp, np⟩ := h.fresh hp
  have sm : Same F (upd F p o) := fun b u hb => by
    have : b ≠ p := by rintro rfl; rw [fp] at hb; cases hb
    rw [upd_ne this]; exact hb
  refine ⟨sm, ⟨fun b u hb => ?_, fun q hq => ?_, h.nd⟩⟩
  · by_cases hbp : b = p
    · subst hbp; rw [upd_same] at hb ⊢; exact hb
    · rw [upd_ne hbp] at hb ⊢; exact h.ex b u hb
  · obtain ⟨u, g1, g2, g3⟩ := h.mt q hq
    have : q.1 ≠ p := fun z => np (z ▸ List.mem_map_of_mem (f := Prod.fst) hq)
    exact ⟨u, by rw [upd_ne this]; exact g1, q.2.mono sm g2, by rw [upd_ne this]; exact g3⟩
theorem Held.perm {F : Hp} {M M' : Mem} {H : Hp} (h : Held F M H) (p : M.Perm M') : Held F M' H :=
  ⟨h.ex, fun q hq => h.mt q (p.symm.subset hq), (p.map Prod.fst).nodup_iff.mp h.nd⟩
theorem Held.sub {F : Hp} {M M' : Mem} {H : Hp} (h : Held F M H) (p : List.Sublist M' M) : Held F M' H :=
  ⟨h.ex, fun q hq => h.mt q (p.subset hq), h.nd.sublist (p.map Prod.fst)⟩
theorem Held.tail {F : Hp} {M : Mem} {H : Hp} {q : Addr × HR} (h : Held F (q :: M) H) : Held F M H := h.sub (List.sublist_cons_self _ _)

/-! ### weakest readings of a piece of syntax -/
def EndsLe (D D' : Ends) : Prop := (∀ σ H, D.nx σ H → D'.nx σ H) ∧ (∀ v H, D.rt v H → D'.rt v H) ∧ (∀ σ H, D.bk σ H → D'.bk σ H) ∧ (∀ σ H, D.ct σ H → D'.ct σ H)
theorem EndsLe.refl (D : Ends) : EndsLe D D := ⟨fun _ _ h => h, fun _ _ h => h, fun _ _ h => h, fun _ _ h => h⟩
theorem EndsLe.trans {D D' D2 : Ends} (a : EndsLe D D') (b : EndsLe D' D2) : EndsLe D D2 :=
  ⟨fun σ H h => b.1 σ H (a.1 σ H h), fun σ H h => b.2.1 σ H (a.2.1 σ H h), fun σ H h => b.2.2.1 σ H (a.2.2.1 σ H h), fun σ H h => b.2.2.2 σ H (a.2.2.2 σ H h)⟩
def WE (X : Cx) (e : Expr) : TE := fun σ H Q => ∃ (t : TE) (Q1 : VK), PE X e t ∧ (∀ v H, Q1 v H → Q v H) ∧ t σ H Q1
def WT (X : Cx) (e : Expr) : TT := fun σ H Q => ∃ (t : TT) (Q1 : Bool → Hp → Prop), PT X e t ∧ (∀ v H, Q1 v H → Q v H) ∧ t σ H Q1
def WA (X : Cx) (es : List Expr) : TA := fun σ H Q => ∃ (t : TA) (Q1 : List V → Hp → Prop), PA X es t ∧ (∀ v H, Q1 v H → Q v H) ∧ t σ H Q1
def WS (X : Cx) (s : Stmt) : TS := fun D σ H => ∃ (t : TS) (D1 : Ends), PS X s t ∧ EndsLe D1 D ∧ t D1 σ H
def WSs (X : Cx) (s : List Stmt) : TS := fun D σ H => ∃ (t : TS) (D1 : Ends), PSs X s t ∧ EndsLe D1 D ∧ t D1 σ H
def WG (X : Cx) (tg : Expr) : TG := fun v σ H Q => ∃ (t : TG) (Q1 : L2.St → Hp → Prop), PG X tg t ∧ (∀ σ H, Q1 σ H → Q σ H) ∧ t v σ H Q1
section
variable {X : Cx} {e : Expr} {es : List Expr} {s : Stmt} {ss : List Stmt}
theorem we_of {t : TE} (h : PE X e t) {σ : L2.St} {H : Hp} {Q : VK} (q : t σ H Q) : WE X e σ H Q := ⟨t, Q, h, fun _ _ h => h, q⟩
theorem wt_of {t : TT} (h : PT X e t) {σ : L2.St} {H : Hp} {Q : Bool → Hp → Prop} (q : t σ H Q) : WT X e σ H Q := ⟨t, Q, h, fun _ _ h => h, q⟩
theorem wa_of {t : TA} (h : PA X es t) {σ : L2.St} {H : Hp} {Q : List V → Hp → Prop} (q : t σ H Q) : WA X es σ H Q := ⟨t, Q, h, fun _ _ h => h, q⟩
theorem ws_of {t : TS} (h : PS X s t) {σ : L2.St} {H : Hp} {D : Ends} (q : t D σ H) : WS X s D σ H := ⟨t, D, h, EndsLe.refl D, q⟩
theorem wss_of {t : TS} (h : PSs X ss t) {σ : L2.St} {H : Hp} {D : Ends} (q : t D σ H) : WSs X ss D σ H := ⟨t, D, h, EndsLe.refl D, q⟩
theorem WE.mono {σ : L2.St} {H : Hp} {Q Q' : VK} (h : WE X e σ H Q) (i : ∀ v H, Q v H → Q' v H) : WE X e σ H Q' := let ⟨t, Q1, a, b, c⟩ := h; ⟨t, Q1, a, fun v H z => i v H (b v H z), c⟩
theorem WT.mono {σ : L2.St} {H : Hp} {Q Q' : Bool → Hp → Prop} (h : WT X e σ H Q) (i : ∀ v H, Q v H → Q' v H) : WT X e σ H Q' := let ⟨t, Q1, a, b, c⟩ := h; ⟨t, Q1, a, fun v H z => i v H (b v H z), c⟩
theorem WA.mono {σ : L2.St} {H : Hp} {Q Q' : List V → Hp → Prop} (h : WA X es σ H Q) (i : ∀ v H, Q v H → Q' v H) : WA X es σ H Q' := let ⟨t, Q1, a, b, c⟩ := h; ⟨t, Q1, a, fun v H z => i v H (b v H z), c⟩
theorem WS.mono {σ : L2.St} {H : Hp} {D D' : Ends} (h : WS X s D σ H) (i : EndsLe D D') : WS X s D' σ H := let ⟨t, D1, a, b, c⟩ := h; ⟨t, D1, a, b.trans i, c⟩
theorem WSs.mono {σ : L2.St} {H : Hp} {D D' : Ends} (h : WSs X ss D σ H) (i : EndsLe D D') : WSs X ss D' σ H := let ⟨t, D1, a, b, c⟩ := h; ⟨t, D1, a, b.trans i, c⟩
theorem SP.le {pins : List (Addr × Obj)} {D D' : Ends} {f : Flow} {s' : Shared} (i : EndsLe D D') (h : SP X pins D f s') : SP X pins D' f s' := by
  cases f with
  | next => obtain ⟨σ, H, I, q⟩ := h; exact ⟨σ, H, I, i.1 _ _ q⟩
  | brk => obtain ⟨σ, H, I, q⟩ := h; exact ⟨σ, H, I, i.2.2.1 _ _ q⟩
  | cont => obtain ⟨σ, H, I, q⟩ := h; exact ⟨σ, H, I, i.2.2.2 _ _ q⟩
  | ret u => obtain ⟨v, σ, H, I, r, q⟩ := h; exact ⟨v, σ, H, I, r, i.2.1 _ _ q⟩
theorem pe_w : PE X e (WE X e) := ⟨fun pins s σ H Q I ⟨t, Q1, a, b, c⟩ => thn (a.run pins s σ H Q1 I c) fun _ _ ⟨v, H', I', r, q⟩ => ⟨v, H', I', r, b _ _ q⟩⟩
theorem pt_w : PT X e (WT X e) := ⟨fun pins s σ H Q I ⟨t, Q1, a, b, c⟩ => thn (a.run pins s σ H Q1 I c) fun _ _ ⟨H', I', q⟩ => ⟨H', I', b _ _ q⟩⟩
theorem pa_w : PA X es (WA X es) := ⟨fun pos pins s σ H Q I ⟨t, Q1, a, b, c⟩ => thn (a.run pos pins s σ H Q1 I c) fun _ _ ⟨v, H', I', r, q⟩ => ⟨v, H', I', r, b _ _ q⟩⟩
theorem ps_w : PS X s (WS X s) := ⟨fun pins s σ H D I ⟨t, D1, a, b, c⟩ => thn (a.run pins s σ H D1 I c) fun _ _ q => SP.le b q⟩
theorem pss_w : PSs X ss (WSs X ss) := ⟨fun pins s σ H D I ⟨t, D1, a, b, c⟩ => thn (a.run pins s σ H D1 I c) fun _ _ q => SP.le b q⟩
theorem pg_w {tg : Expr} : PG X tg (WG X tg) := ⟨fun pins s σ H v u Q I r ⟨t, Q1, a, b, c⟩ => thn (a.run pins s σ H v u Q1 I r c) fun _ _ ⟨σ', H', I', q⟩ => ⟨σ', H', I', b _ _ q⟩⟩
end

/-! ### typed judgements -/
def Rps (F : Hp) (vs : List V) (Rs : List VR) : Prop := Paired (fun v (R : VR) => R.p F v) vs Rs
theorem Rps.mono {F F' : Hp} (e : Same F F') {vs : List V} {Rs : List VR} (h : Rps F vs Rs) : Rps F' vs Rs := Paired.mapP h fun _ R r => R.mono e r
def Ev (X : Cx) (ρ : Rho) (M : Mem) (e : Expr) (M' : Mem) (r : Res) : Prop :=
  ∀ σ H F (Q : VK), Held F M H → EnvR F σ ρ → Post F M' r Q → WE X e σ H Q
def Et (X : Cx) (ρ : Rho) (M : Mem) (e : Expr) (M' : Mem) (b : Bool) : Prop :=
  ∀ σ H F (Q : Bool → Hp → Prop), Held F M H → EnvR F σ ρ → (∀ F' H', Same F F' → Held F' M' H' → Q b H') → WT X e σ H Q
def Ea (X : Cx) (ρ : Rho) (M : Mem) (es : List Expr) (M' : Mem) (Rs : List VR) : Prop :=
  ∀ σ H F (Q : List V → Hp → Prop), Held F M H → EnvR F σ ρ → (∀ vs F' H', Same F F' → Held F' M' H' → Rps F' vs Rs → Q vs H') → WA X es σ H Q
/-- the ends, by the frozen objects at a point before -/
abbrev Ts := Hp → Ends
def SS (X : Cx) (F0 : Hp) (ρ : Rho) (M : Mem) (ss : List Stmt) (T : Ts) : Prop := ∀ F1, Same F0 F1 → ∀ σ H F, Same F1 F → Held F M H → EnvR F σ ρ → WSs X ss (T F1) σ H
def At (F0 : Hp) (ρ : Rho) (M : Mem) (σ : L2.St) (H : Hp) : Prop := ∃ F, Same F0 F ∧ Held F M H ∧ EnvR F σ ρ

/-! ### the plain assertions -/
def rI (i : Int) : VR := ⟨fun _ v => v = .int i, fun _ h => h⟩
def rB (b : Bool) : VR := ⟨fun _ v => v = .bl b, fun _ h => h⟩
def rS (s : Str) : VR := ⟨fun _ v => v = .str s, fun _ h => h⟩
def rN : VR := ⟨fun _ v => v = .non, fun _ h => h⟩
def rV (x : V) : VR := ⟨fun _ v => v = x, fun _ h => h⟩
def rA (a : Addr) : VR := ⟨fun _ v => v = .ref a, fun _ h => h⟩
/-- a frozen list, tuple of such things -/
def rL (Rs : List VR) : VR := ⟨fun F v => ∃ a vs, v = .ref a ∧ F a = some (.lst vs) ∧ Rps F vs Rs ∧ vs.length ≤ sizeLine, fun e ⟨a, vs, h1, h2, h3, h4⟩ => ⟨a, vs, h1, e _ _ h2, h3.mono e, h4⟩⟩
/-- a list that is read alone (the script) -/
def rLs (K : PySem.W.Frag) (Rs : List VR) : VR := ⟨fun F v => ∃ a vs, v = .ref a ∧ SqL K F a vs ∧ Rps F vs Rs ∧ vs.length ≤ sizeLine, fun e ⟨a, vs, h1, h2, h3, h4⟩ => ⟨a, vs, h1, e.seq h2, h3.mono e, h4⟩⟩
theorem seqT {K : PySem.W.Frag} {H H' : Hp} {a : Addr} {xs : List V} (e : Same H H') (h : SqT K H a xs) : SqT K H' a xs := by
  rcases h with (h | ⟨o, h⟩) | h
  · exact .inl (.inl (e _ _ h))
  · exact .inl (.inr ⟨o, e _ _ h⟩)
  · exact .inr h
def rT (K : PySem.W.Frag) (Rs : List VR) : VR := ⟨fun F v => ∃ a vs, v = .ref a ∧ SqT K F a vs ∧ Rps F vs Rs ∧ vs.length ≤ sizeLine, fun e ⟨a, vs, h1, h2, h3, h4⟩ => ⟨a, vs, h1, seqT e h2, h3.mono e, h4⟩⟩
/-- an owned list -/
def hL (Rs : List VR) : HR := ⟨fun F o => ∃ vs, o = .lst vs ∧ Rps F vs Rs ∧ vs.length ≤ sizeLine, fun e ⟨vs, h1, h2, h3⟩ => ⟨vs, h1, h2.mono e, h3⟩⟩
/-- typed data -/
class Dat (α : Type) where
  rp : PySem.W.Frag → α → VR
open Dat (rp)
instance : Dat Int := ⟨fun _ => rI⟩
instance : Dat Bool := ⟨fun _ => rB⟩
instance : Dat Str := ⟨fun _ => rS⟩
instance {α : Type} [Dat α] : Dat (List α) := ⟨fun K xs => rL (xs.map (rp K))⟩
theorem rp_list {α : Type} [Dat α] (K : PySem.W.Frag) (xs : List α) : rp K xs = rL (xs.map (rp K)) := rfl
/-- an owned list of data -/
def hD {α : Type} [Dat α] (K : PySem.W.Frag) (xs : List α) : HR := hL (xs.map (rp K))

theorem Rps.get {F : Hp} : ∀ {vs : List V} {Rs : List VR} {i : Nat} {R : VR}, Rps F vs Rs → Rs[i]? = some R → ∃ v, vs[i]? = some v ∧ R.p F v
  | _, _, _, _, .nil, e => by simp at e
  | _, _, 0, R, .cons r _, e => by simp at e; subst e; exact ⟨_, rfl, r⟩
  | _, _, i + 1, R, .cons _ t, e => by
    obtain ⟨v, a, b⟩ := Rps.get (i := i) t (by simpa using e)
    exact ⟨v, by simpa using a, b⟩
theorem Rps.getV {F : Hp} : ∀ {vs : List V} {Rs : List VR} {i : Nat} {v : V}, Rps F vs Rs → vs[i]? = some v → ∃ R, Rs[i]? = some R ∧ R.p F v
  | _, _, _, _, .nil, e => by simp at e
  | _, _, 0, R, .cons r _, e => by simp at e; subst e; exact ⟨_, rfl, r⟩
  | _, _, i + 1, R, .cons _ t, e => by
    obtain ⟨v, a, b⟩ := Rps.getV (i := i) t (by simpa using e)
    exact ⟨v, by simpa using a, b⟩
theorem Rps.length {F : Hp} {vs : List V} {Rs : List VR} (h : Rps F vs Rs) : vs.length = Rs.length := Paired.length h
theorem Rps.app {F : Hp} : ∀ {vs ws : List V} {Rs Ss : List VR}, Rps F vs Rs → Rps F ws Ss → Rps F (vs ++ ws) (Rs ++ Ss)
  | _, _, _, _, .nil, s => s
  | _, _, _, _, .cons r t, s => .cons r (Rps.app t s)
theorem Rps.set {F : Hp} {v : V} {R : VR} (r : R.p F v) : ∀ {vs : List V} {Rs : List VR} (i : Nat), Rps F vs Rs → Rps F (vs.set i v) (Rs.set i R)
  | _, _, _, .nil => .nil
  | _, _, 0, .cons _ t => .cons r t
  | _, _, i + 1, .cons q t => .cons q (Rps.set r i t)
theorem Rps.erase {F : Hp} : ∀ {vs : List V} {Rs : List VR} (i : Nat), Rps F vs Rs → Rps F (vs.eraseIdx i) (Rs.eraseIdx i)
  | _, _, _, .nil => .nil
  | _, _, 0, .cons _ t => t
  | _, _, i + 1, .cons q t => .cons q (Rps.erase i t)
theorem Rps.take {F : Hp} : ∀ {vs : List V} {Rs : List VR} (i : Nat), Rps F vs Rs → Rps F (vs.take i) (Rs.take i)
  | _, _, 0, _ => .nil
  | _, _, i + 1, .nil => .nil
  | _, _, i + 1, .cons q t => .cons q (Rps.take i t)
theorem Rps.drop {F : Hp} : ∀ {vs : List V} {Rs : List VR} (i : Nat), Rps F vs Rs → Rps F (vs.drop i) (Rs.drop i)
  | _, _, 0, t => t
  | _, _, i + 1, .nil => .nil
  | _, _, i + 1, .cons q t => Rps.drop i t
theorem Rps.rev {F : Hp} : ∀ {vs : List V} {Rs : List VR}, Rps F vs Rs → Rps F vs.reverse Rs.reverse
  | _, _, .nil => .nil
  | _, _, .cons q t => by rw [List.reverse_cons, List.reverse_cons]; exact (Rps.rev t).app (.cons q .nil)
/-- ints stand for themselves -/
theorem Rps.ints {F : Hp} : ∀ {vs : List V} {xs : List Int}, Rps F vs (xs.map rI) → vs = xs.map V.int
  | _, [], h => by cases h; rfl
  | _, x :: xs, h => by
    cases h with
    | cons r t => rw [show _ = V.int x from r, Rps.ints t]; rfl
theorem Rps.of_ints {F : Hp} : ∀ (xs : List Int), Rps F (xs.map V.int) (xs.map rI)
  | [] => .nil
  | _ :: xs => .cons rfl (Rps.of_ints xs)
theorem Rps.strs {F : Hp} : ∀ {vs : List V} {xs : List Str}, Rps F vs (xs.map rS) → vs = xs.map V.str
  | _, [], h => by cases h; rfl
  | _, x :: xs, h => by
    cases h with
    | cons r t => rw [show _ = V.str x from r, Rps.strs t]; rfl
theorem Rps.of_strs {F : Hp} : ∀ (xs : List Str), Rps F (xs.map V.str) (xs.map rS)
  | [] => .nil
  | _ :: xs => .cons rfl (Rps.of_strs xs)
theorem Rps.bools {F : Hp} : ∀ {vs : List V} {xs : List Bool}, Rps F vs (xs.map rB) → vs = xs.map V.bl
  | _, [], h => by cases h; rfl
  | _, x :: xs, h => by
    cases h with
    | cons r t => rw [show _ = V.bl x from r, Rps.bools t]; rfl
theorem Rps.of_bools {F : Hp} : ∀ (xs : List Bool), Rps F (xs.map V.bl) (xs.map rB)
  | [] => .nil
  | _ :: xs => .cons rfl (Rps.of_bools xs)

theorem Post.shift {F F1 : Hp} {M : Mem} {r : Res} {Q : VK} (h : Post F M r Q) (e : Same F F1) : Post F1 M r Q := by
  cases r with
  | val R => exact fun v F' H' s g p => h v F' H' (e.trans s) g p
  | new A => exact fun p F' H' s g => h p F' H' (e.trans s) g
theorem Post.mono {F : Hp} {M : Mem} {r : Res} {Q Q' : VK} (h : Post F M r Q) (i : ∀ v H, Q v H → Q' v H) : Post F M r Q' := by
  cases r with
  | val R => exact fun v F' H' s g p => i _ _ (h v F' H' s g p)
  | new A => exact fun p F' H' s g => i _ _ (h p F' H' s g)
/-- a new list, made of known things -/
theorem Post.newL {F : Hp} {M : Mem} {H : Hp} {Q : VK} {p : Addr} {vs : List V} {Rs : List VR} (q : Post F M (.new (hL Rs)) Q) (h : Held F M H) (hp : H p = none) (r : Rps F vs Rs) (hz : vs.length ≤ sizeLine) : Q (.ref p) (upd H p (.lst vs)) :=
  q p F _ (Same.refl F) (h.alloc hp ⟨vs, rfl, r, hz⟩)
theorem Post.newT {K : PySem.W.Frag} {F : Hp} {M : Mem} {H : Hp} {Q : VK} {p : Addr} {vs : List V} {Rs : List VR} (q : Post F M (.val (rT K Rs)) Q) (h : Held F M H) (hp : H p = none) (r : Rps F vs Rs) (hz : vs.length ≤ sizeLine) : Q (.ref p) (upd H p (.tup vs)) := by
  obtain ⟨sm, hd⟩ := h.ice (o := .tup vs) hp
  exact q _ _ _ sm hd ⟨p, vs, rfl, .inl (.inl upd_same), r.mono sm, hz⟩
end Pw

namespace Pw
open PySem PySem.Spec PyProof.Rows L2
open Dat (rp)
section
variable {X : Cx} {ρ : Rho} {M M1 M2 M3 : Mem} {a b c e : Expr} {pos : Pos} {R S : VR} {res : Res} {F F1 F' : Hp} {H : Hp}

/-! ### names and constants -/
theorem ev_var (i : Nat) {x : Str} (hR : ρ[i]? = some (some R)) (hN : X.N[i]? = some x := by rfl) (hv : Vis X.env.scope x := by first | exact Or.inl rfl | exact Or.inr (Or.inl rfl) | exact Or.inr (Or.inr rfl))
    (hd : (x == ("__debug__" : Str)) = false := by decide) (hcd : (x == ("__classdict__" : Str)) = false := by decide) : Ev X ρ M (.Name x pos) M (.val R) := fun σ H F Q h e q => by
  obtain ⟨v, hv', r⟩ := e.get hR
  exact we_of (pe_var hN hv hd hcd) ⟨v, hv', q v F H (Same.refl F) h r⟩
theorem ev_int {i : Int} {j} : Ev X ρ M (.Constant (.int i) j pos) M (.val (rI i)) := fun σ H F Q h e q => we_of pe_int (q _ F H (Same.refl F) h rfl)
theorem ev_bl {i : Bool} {j} : Ev X ρ M (.Constant (.bool i) j pos) M (.val (rB i)) := fun σ H F Q h e q => we_of pe_bl (q _ F H (Same.refl F) h rfl)
theorem ev_str {i : Str} {j} : Ev X ρ M (.Constant (.str i) j pos) M (.val (rS i)) := fun σ H F Q h e q => we_of pe_str (q _ F H (Same.refl F) h rfl)
theorem ev_non {j} : Ev X ρ M (.Constant .none j pos) M (.val rN) := fun σ H F Q h e q => we_of pe_non (q _ F H (Same.refl F) h rfl)
theorem ev_glob {x : Str} {v : V} {u : Value} (hm : X.mg x = some u) (r : RelV v u) (hg : Gl X x := by rfl) (hd : (x == ("__debug__" : Str)) = false := by decide) : Ev X ρ M (.Name x pos) M (.val (rV v)) := fun σ H F Q h e q => we_of (pe_glob hg hm r hd) (q _ F H (Same.refl F) h rfl)
/-- a new list is kept as it is from now on -/
theorem ev_fr {Rs : List VR} (h : Ev X ρ M e M1 (.new (hL Rs))) : Ev X ρ M e M1 (.val (rL Rs)) := fun σ H F Q hd en q =>
  h σ H F Q hd en fun p F1 H1 s1 h1 => by
    obtain ⟨o, hA, hp, _, sm, h2⟩ := h1.freeze
    obtain ⟨vs, rfl, r, hz⟩ := hA
    exact q _ _ _ (s1.trans sm) h2 ⟨p, vs, rfl, upd_same, r.mono sm, hz⟩
theorem ev_eq {R' : VR} (h : Ev X ρ M e M1 (.val R)) (q : R = R') : Ev X ρ M e M1 (.val R') := q ▸ h
theorem et_eq {x y : Bool} (h : Et X ρ M e M1 x) (q : x = y) : Et X ρ M e M1 y := q ▸ h

/-! ### two operands -/
theorem ev_bin {op : Operator} {r : R2} (ho : OpR X (binaryOp op) r) (ha : Ev X ρ M a M1 (.val R)) (hb : Ev X ρ M1 b M2 (.val S))
    (hr : ∀ v w F H Q, Held F M2 H → R.p F v → S.p F w → Post F M3 res Q → r v w H Q) : Ev X ρ M (.BinOp a op b pos) M3 res := fun σ H F Q h en q =>
  we_of (pe_op ho pe_w pe_w) (ha σ H F _ h en fun v F1 H1 s1 h1 r1 => hb σ H1 F1 _ h1 (en.mono s1) fun w F2 H2 s2 h2 r2 => hr v w F2 H2 Q h2 (R.mono s2 r1) r2 (q.shift (s1.trans s2)))
theorem ev_cmp {op : CmpOp} {r : R2} (ho : OpR X (compareOp op) r) (ha : Ev X ρ M a M1 (.val R)) (hb : Ev X ρ M1 b M2 (.val S))
    (hr : ∀ v w F H Q, Held F M2 H → R.p F v → S.p F w → Post F M3 res Q → r v w H Q) (hm : behindInMarks op b = false) : Ev X ρ M (.Compare a [op] [b] pos) M3 res := fun σ H F Q h en q =>
  we_of (pe_cmpR ho pe_w pe_w hm) (ha σ H F _ h en fun v F1 H1 s1 h1 r1 => hb σ H1 F1 _ h1 (en.mono s1) fun w F2 H2 s2 h2 r2 => hr v w F2 H2 Q h2 (R.mono s2 r1) r2 (q.shift (s1.trans s2)))
theorem et_cmp {op : CmpOp} {r : R2} {k : Bool} (ho : OpR X (compareOp op) r) (ha : Ev X ρ M a M1 (.val R)) (hb : Ev X ρ M1 b M2 (.val S))
    (hr : ∀ v w F H Q, Held F M2 H → R.p F v → S.p F w → Post F M3 (.val (rB k)) Q → r v w H Q) (hm : behindInMarks op b = false) : Et X ρ M (.Compare a [op] [b] pos) M3 k := fun σ H F Q h en q =>
  wt_of (pt_cmpR ho pe_w pe_w hm) (ha σ H F _ h en fun v F1 H1 s1 h1 r1 => hb σ H1 F1 _ h1 (en.mono s1) fun w F2 H2 s2 h2 r2 => hr v w F2 H2 _ h2 (R.mono s2 r1) r2
    (by intro z F3 H3 s3 h3 r3; exact ⟨k, r3, q F3 H3 ((s1.trans s2).trans s3) h3⟩))
/-- an operation of two ints -/
theorem hI0 {g : Int → Int → Int} {i j : Int} : ∀ v w F H Q, Held F M H → (rI i).p F v → (rI j).p F w → Post F M (.val (rI (g i j))) Q → rI0 (fun i j => .int (g i j)) v w H Q :=
  fun v w F H Q h e1 e2 q => ⟨i, j, e1, e2, q _ F H (Same.refl F) h rfl⟩
theorem hIC {C : Int → Int → Prop} {g : Int → Int → Int} {i j : Int} (hc : C i j) : ∀ v w F H Q, Held F M H → (rI i).p F v → (rI j).p F w → Post F M (.val (rI (g i j))) Q → L2.rI C (fun i j => .int (g i j)) v w H Q :=
  fun v w F H Q h e1 e2 q => ⟨i, j, e1, e2, hc, q _ F H (Same.refl F) h rfl⟩
theorem hB0 {g : Int → Int → Bool} {i j : Int} : ∀ v w F H Q, Held F M H → (rI i).p F v → (rI j).p F w → Post F M (.val (rB (g i j))) Q → rI0 (fun i j => .bl (g i j)) v w H Q :=
  fun v w F H Q h e1 e2 q => ⟨i, j, e1, e2, q _ F H (Same.refl F) h rfl⟩
variable {i j : Int}
theorem ev_add (ha : Ev X ρ M a M1 (.val (rI i))) (hb : Ev X ρ M1 b M2 (.val (rI j))) : Ev X ρ M (.BinOp a .Add b pos) M2 (.val (rI (i + j))) := ev_bin op_add ha hb (hI0 (g := fun i j => i + j))
theorem ev_sub (ha : Ev X ρ M a M1 (.val (rI i))) (hb : Ev X ρ M1 b M2 (.val (rI j))) : Ev X ρ M (.BinOp a .Sub b pos) M2 (.val (rI (i - j))) := ev_bin op_sub ha hb (hI0 (g := fun i j => i - j))
theorem ev_mul (ha : Ev X ρ M a M1 (.val (rI i))) (hb : Ev X ρ M1 b M2 (.val (rI j))) (h : CMulW i j) : Ev X ρ M (.BinOp a .Mult b pos) M2 (.val (rI (i * j))) := ev_bin op_mulW ha hb (hIC (g := fun i j => i * j) h)
theorem ev_fdiv (ha : Ev X ρ M a M1 (.val (rI i))) (hb : Ev X ρ M1 b M2 (.val (rI j))) (h : CDivW i j) : Ev X ρ M (.BinOp a .FloorDiv b pos) M2 (.val (rI (i / j))) := ev_bin op_fdivW ha hb (hIC (g := fun i j => i / j) h)
theorem ev_mod (ha : Ev X ρ M a M1 (.val (rI i))) (hb : Ev X ρ M1 b M2 (.val (rI j))) (h : 0 < j) : Ev X ρ M (.BinOp a .Mod b pos) M2 (.val (rI (i % j))) := ev_bin op_mod ha hb (hIC (g := fun i j => i % j) (C := fun _ j => 0 < j) h)
theorem ev_pow (ha : Ev X ρ M a M1 (.val (rI i))) (hb : Ev X ρ M1 b M2 (.val (rI j))) (h : CPow i j) : Ev X ρ M (.BinOp a .Pow b pos) M2 (.val (rI (i ^ j.toNat))) := ev_bin op_pow ha hb (hIC (g := fun i j => i ^ j.toNat) h)
theorem ev_shl (ha : Ev X ρ M a M1 (.val (rI i))) (hb : Ev X ρ M1 b M2 (.val (rI j))) (h : CPow i j) : Ev X ρ M (.BinOp a .LShift b pos) M2 (.val (rI (i * 2 ^ j.toNat))) := ev_bin op_shl ha hb (hIC (g := fun i j => i * 2 ^ j.toNat) h)
theorem ev_shr (ha : Ev X ρ M a M1 (.val (rI i))) (hb : Ev X ρ M1 b M2 (.val (rI j))) (h : 0 ≤ j) : Ev X ρ M (.BinOp a .RShift b pos) M2 (.val (rI (i / 2 ^ j.toNat))) := ev_bin op_shr ha hb (hIC (g := fun i j => i / 2 ^ j.toNat) (C := fun _ j => 0 ≤ j) h)
theorem ev_and (ha : Ev X ρ M a M1 (.val (rI i))) (hb : Ev X ρ M1 b M2 (.val (rI j))) : Ev X ρ M (.BinOp a .BitAnd b pos) M2 (.val (rI (Builtin.bitAnd i j))) := ev_bin op_and ha hb (hI0 (g := fun i j => Builtin.bitAnd i j))
theorem ev_or (ha : Ev X ρ M a M1 (.val (rI i))) (hb : Ev X ρ M1 b M2 (.val (rI j))) : Ev X ρ M (.BinOp a .BitOr b pos) M2 (.val (rI (Builtin.bitOr i j))) := ev_bin op_or ha hb (hI0 (g := fun i j => Builtin.bitOr i j))
theorem ev_xor (ha : Ev X ρ M a M1 (.val (rI i))) (hb : Ev X ρ M1 b M2 (.val (rI j))) : Ev X ρ M (.BinOp a .BitXor b pos) M2 (.val (rI (Builtin.bitXor i j))) := ev_bin op_xor ha hb (hI0 (g := fun i j => Builtin.bitXor i j))
theorem ev_lt (ha : Ev X ρ M a M1 (.val (rI i))) (hb : Ev X ρ M1 b M2 (.val (rI j))) : Ev X ρ M (.Compare a [.Lt] [b] pos) M2 (.val (rB (decide (i < j)))) := ev_cmp op_lt ha hb (hB0 (g := fun i j => decide (i < j))) (nomark _)
theorem ev_le (ha : Ev X ρ M a M1 (.val (rI i))) (hb : Ev X ρ M1 b M2 (.val (rI j))) : Ev X ρ M (.Compare a [.LtE] [b] pos) M2 (.val (rB (decide (i ≤ j)))) := ev_cmp op_le ha hb (hB0 (g := fun i j => decide (i ≤ j))) (nomark _)
theorem ev_gt (ha : Ev X ρ M a M1 (.val (rI i))) (hb : Ev X ρ M1 b M2 (.val (rI j))) : Ev X ρ M (.Compare a [.Gt] [b] pos) M2 (.val (rB (decide (j < i)))) := ev_cmp op_gt ha hb (hB0 (g := fun i j => decide (j < i))) (nomark _)
theorem ev_ge (ha : Ev X ρ M a M1 (.val (rI i))) (hb : Ev X ρ M1 b M2 (.val (rI j))) : Ev X ρ M (.Compare a [.GtE] [b] pos) M2 (.val (rB (decide (j ≤ i)))) := ev_cmp op_ge ha hb (hB0 (g := fun i j => decide (j ≤ i))) (nomark _)
theorem et_lt (ha : Ev X ρ M a M1 (.val (rI i))) (hb : Ev X ρ M1 b M2 (.val (rI j))) : Et X ρ M (.Compare a [.Lt] [b] pos) M2 (decide (i < j)) := et_cmp op_lt ha hb (hB0 (g := fun i j => decide (i < j))) (nomark _)
theorem et_le (ha : Ev X ρ M a M1 (.val (rI i))) (hb : Ev X ρ M1 b M2 (.val (rI j))) : Et X ρ M (.Compare a [.LtE] [b] pos) M2 (decide (i ≤ j)) := et_cmp op_le ha hb (hB0 (g := fun i j => decide (i ≤ j))) (nomark _)
theorem et_gt (ha : Ev X ρ M a M1 (.val (rI i))) (hb : Ev X ρ M1 b M2 (.val (rI j))) : Et X ρ M (.Compare a [.Gt] [b] pos) M2 (decide (j < i)) := et_cmp op_gt ha hb (hB0 (g := fun i j => decide (j < i))) (nomark _)
theorem et_ge (ha : Ev X ρ M a M1 (.val (rI i))) (hb : Ev X ρ M1 b M2 (.val (rI j))) : Et X ρ M (.Compare a [.GtE] [b] pos) M2 (decide (j ≤ i)) := et_cmp op_ge ha hb (hB0 (g := fun i j => decide (j ≤ i))) (nomark _)
/-- scalars: ints, bools, texts -/
class Sca (α : Type) extends Dat α where
  v : α → V
  is : ∀ K x F u, (rp K x).p F u ↔ u = v x
  inj : ∀ x y, v x = v y ↔ x = y
  sc : ∀ x y, scal (v x) (v y) = true
instance : Sca Int where
  v := V.int
  is := fun _ _ _ _ => Iff.rfl
  inj := fun x y => by simp
  sc := fun _ _ => rfl
instance : Sca Bool where
  v := V.bl
  is := fun _ _ _ _ => Iff.rfl
  inj := fun x y => by simp
  sc := fun _ _ => rfl
instance : Sca Str where
  v := V.str
  is := fun _ _ _ _ => Iff.rfl
  inj := fun x y => by simp
  sc := fun _ _ => rfl
variable {α : Type} [Sca α] [DecidableEq α] {x y : α}
theorem hEq {K : PySem.W.Frag} : ∀ v w F H Q, Held F M H → (rp K x).p F v → (rp K y).p F w → Post F M (.val (rB (decide (x = y)))) Q → rEq v w H Q := fun v w F H Q h e1 e2 q => by
  rw [Sca.is] at e1 e2
  subst e1 e2
  refine ⟨Sca.sc x y, q _ F H (Same.refl F) h ?_⟩
  show V.bl _ = V.bl _
  congr 1
  exact decide_eq_decide.mpr (Sca.inj x y)
theorem hNe {K : PySem.W.Frag} : ∀ v w F H Q, Held F M H → (rp K x).p F v → (rp K y).p F w → Post F M (.val (rB (!decide (x = y)))) Q → rNe v w H Q := fun v w F H Q h e1 e2 q => by
  rw [Sca.is] at e1 e2
  subst e1 e2
  refine ⟨Sca.sc x y, q _ F H (Same.refl F) h ?_⟩
  show V.bl _ = V.bl _
  congr 2
  exact decide_eq_decide.mpr (Sca.inj x y)
theorem ev_eqS (ha : Ev X ρ M a M1 (.val (rp X.K x))) (hb : Ev X ρ M1 b M2 (.val (rp X.K y))) : Ev X ρ M (.Compare a [.Eq] [b] pos) M2 (.val (rB (decide (x = y)))) := ev_cmp op_eq ha hb hEq (nomark _)
theorem ev_neS (ha : Ev X ρ M a M1 (.val (rp X.K x))) (hb : Ev X ρ M1 b M2 (.val (rp X.K y))) : Ev X ρ M (.Compare a [.NotEq] [b] pos) M2 (.val (rB (!decide (x = y)))) := ev_cmp op_ne ha hb hNe (nomark _)
theorem et_eqS (ha : Ev X ρ M a M1 (.val (rp X.K x))) (hb : Ev X ρ M1 b M2 (.val (rp X.K y))) : Et X ρ M (.Compare a [.Eq] [b] pos) M2 (decide (x = y)) := et_cmp op_eq ha hb hEq (nomark _)
theorem et_neS (ha : Ev X ρ M a M1 (.val (rp X.K x))) (hb : Ev X ρ M1 b M2 (.val (rp X.K y))) : Et X ρ M (.Compare a [.NotEq] [b] pos) M2 (!decide (x = y)) := et_cmp op_ne ha hb hNe (nomark _)

/-! ### one operand -/
theorem ev_neg (ha : Ev X ρ M a M1 (.val (rI i))) : Ev X ρ M (.UnaryOp .USub a pos) M1 (.val (rI (-i))) := fun σ H F Q h en q =>
  we_of (pe_un un_neg pe_w) (ha σ H F _ h en fun v F1 H1 s1 h1 r1 => ⟨i, r1, q _ F1 H1 s1 h1 rfl⟩)

/-! ### tests -/
variable {k l : Bool}
theorem et_val (h : Ev X ρ M e M1 (.val (rB k))) (he : ∀ whole, isTrue e X.env whole = (do let v ← whole; standAt e.pos; holding [v] (truthy v)) := by intro _; rfl) : Et X ρ M e M1 k := fun σ H F Q hd en q =>
  wt_of (pt_val pe_w he) (h σ H F _ hd en fun v F1 H1 s1 h1 r1 => ⟨k, r1, q F1 H1 s1 h1⟩)
theorem et_not (h : Et X ρ M e M1 k) : Et X ρ M (.UnaryOp .Not e pos) M1 (!k) := fun σ H F Q hd en q => wt_of (pt_not pt_w) (h σ H F _ hd en q)
theorem et_one {op} (h : Et X ρ M e M1 k) : Et X ρ M (.BoolOp op [e] pos) M1 k := fun σ H F Q hd en q => by
  cases op with
  | And => exact wt_of (PW.pt (pw_and1 pt_w)) (h σ H F _ hd en q)
  | Or => exact wt_of (PW.pt (pw_or1 pt_w)) (h σ H F _ hd en q)
end
end Pw

namespace Pw
open PySem PySem.Spec PyProof.Rows L2
open Dat (rp)

/-! ### reading lists -/
def IsL (K : PySem.W.Frag) (M : Mem) (R : VR) (Rs : List VR) : Prop := ∀ F H v, Held F M H → R.p F v → ∃ a vs, v = .ref a ∧ SqL K H a vs ∧ Rps F vs Rs ∧ vs.length ≤ sizeLine
/-- .. that stand in the heap as lists of their own -/
def IsLH (M : Mem) (R : VR) (Rs : List VR) : Prop := ∀ F H v, Held F M H → R.p F v → ∃ a vs, v = .ref a ∧ H a = some (.lst vs) ∧ Rps F vs Rs ∧ vs.length ≤ sizeLine
def IsT (K : PySem.W.Frag) (M : Mem) (R : VR) (Rs : List VR) : Prop := ∀ F H v, Held F M H → R.p F v → ∃ a vs, v = .ref a ∧ SqT K H a vs ∧ Rps F vs Rs ∧ vs.length ≤ sizeLine
section
variable {K : PySem.W.Frag} {M : Mem} {Rs : List VR} {p : Addr}
theorem islh_fr : IsLH M (rL Rs) Rs := fun F H v h ⟨a, vs, e, h1, h2, h3⟩ => ⟨a, vs, e, h.ex _ _ h1, h2, h3⟩
theorem islh_ow (k : Nat) (hk : M[k]? = some (p, hL Rs)) : IsLH M (rA p) Rs := fun F H v h e => by
  obtain ⟨o, h1, ⟨vs, rfl, h2, h3⟩, _⟩ := h.get hk
  exact ⟨p, vs, e, h1, h2, h3⟩
theorem IsLH.l {R : VR} (h : IsLH M R Rs) : IsL K M R Rs := fun F H v hd r => let ⟨a, vs, e, h1, h2, h3⟩ := h F H v hd r; ⟨a, vs, e, SqL.of h1, h2, h3⟩
theorem isl_fr : IsL K M (rL Rs) Rs := islh_fr.l
theorem isl_ow (k : Nat) (hk : M[k]? = some (p, hL Rs)) : IsL K M (rA p) Rs := (islh_ow k hk).l
theorem isl_sc : IsL K M (rLs K Rs) Rs := fun F H v h ⟨a, vs, e, h1, h2, h3⟩ => ⟨a, vs, e, h.ex.seq h1, h2, h3⟩
theorem ist_fr : IsT K M (rT K Rs) Rs := fun F H v h ⟨a, vs, e, h1, h2, h3⟩ => ⟨a, vs, e, seqT h.ex h1, h2, h3⟩
end
theorem atI_map {α β : Type} (f : α → β) (xs : List α) (i : Int) : atI (xs.map f) i = (atI xs i).map f := by
  unfold atI
  rw [List.length_map]
  cases ixN xs.length i with
  | none => rfl
  | some j => simp
theorem atI_rps {F : Hp} {vs : List V} {Rs : List VR} {i : Int} {R : VR} (r : Rps F vs Rs) (h : atI Rs i = some R) : ∃ v, atI vs i = some v ∧ R.p F v := by
  unfold atI at h ⊢
  rw [r.length]
  cases e : ixN Rs.length i with
  | none => rw [e] at h; cases h
  | some j =>
    rw [e] at h
    exact r.get h
/-- the slice of a list of anything -/
def cut {α : Type} (xs : List α) (lo hi : Option Int) : List α := (xs.drop (HT.sIx xs.length 0 lo)).take (HT.sIx xs.length xs.length hi - HT.sIx xs.length 0 lo)
theorem cut_map {α β : Type} (f : α → β) (xs : List α) (lo hi : Option Int) : cut (xs.map f) lo hi = (cut xs lo hi).map f := by
  unfold cut
  rw [List.length_map, List.map_take, List.map_drop]
theorem Rps.cut {F : Hp} {vs : List V} {Rs : List VR} (r : Rps F vs Rs) (lo hi : Option Int) : Rps F (cutV vs lo hi) (Pw.cut Rs lo hi) := by
  unfold cutV Pw.cut
  rw [r.length]
  exact (r.drop _).take _

section
variable {X : Cx} {ρ : Rho} {M M1 M2 M3 M' : Mem} {a b c e : Expr} {es : List Expr} {pos : Pos} {R S : VR} {Rs Ss : List VR} {res : Res} {i j : Int}

/-! ### displays -/
theorem ea_nil : Ea X ρ M [] M [] := fun σ H F Q h en q => wa_of pa_nil (q [] F H (Same.refl F) h .nil)
theorem ea_cons (ha : Ev X ρ M e M1 (.val R)) (hb : Ea X ρ M1 es M2 Rs) (hs : starEach (e :: es) X.env = (false, eval e X.env) :: starEach es X.env := by rfl) : Ea X ρ M (e :: es) M2 (R :: Rs) := fun σ H F Q h en q =>
  wa_of (pa_cons pe_w pa_w hs) (ha σ H F _ h en fun v F1 H1 s1 h1 r1 => hb σ H1 F1 _ h1 (en.mono s1) fun vs F2 H2 s2 h2 r2 => q (v :: vs) F2 H2 (s1.trans s2) h2 (.cons (R.mono s2 r1) r2))
theorem ev_list (ha : Ea X ρ M es M1 Rs) (hz : Rs.length ≤ 1000 := by exact Nat.le_of_ble_eq_true rfl) : Ev X ρ M (.List es pos) M1 (.new (hL Rs)) := fun σ H F Q h en q =>
  we_of (pe_lst pa_w) (ha σ H F _ h en fun vs F1 H1 s1 h1 r1 => have hz' : vs.length ≤ sizeLine := by rw [r1.length]; exact Nat.le_of_lt (small1000 hz)
    ⟨hz', fun p hp => (q.shift s1).newL h1 hp r1 hz'⟩)
theorem ev_tup {j} (ha : Ea X ρ M es M1 Rs) (hz : Rs.length ≤ 1000 := by exact Nat.le_of_ble_eq_true rfl) : Ev X ρ M (.Tuple es j pos) M1 (.val (rT X.K Rs)) := fun σ H F Q h en q =>
  we_of (pe_tup pa_w) (ha σ H F _ h en fun vs F1 H1 s1 h1 r1 => have hz' : vs.length ≤ sizeLine := by rw [r1.length]; exact Nat.le_of_lt (small1000 hz)
    ⟨hz', fun p hp => (q.shift s1).newT h1 hp r1 hz'⟩)

/-! ### subscripts -/
theorem ev_ixL (ha : Ev X ρ M a M1 (.val R)) (hb : Ev X ρ M1 b M2 (.val (rI i))) (hs : IsL X.K M2 R Rs) (h : atI Rs i = some S) (hp : PlainIx b := by exact fun _ _ => rfl) : Ev X ρ M (.Subscript a b pos) M2 (.val S) := fun σ H F Q hd en q =>
  we_of (pe_ix ix_list pe_w pe_w hp) (ha σ H F _ hd en fun v F1 H1 s1 h1 r1 => hb σ H1 F1 _ h1 (en.mono s1) fun w F2 H2 s2 h2 r2 => by
    obtain ⟨p, vs, rfl, hq, rs, hz⟩ := hs F2 H2 v h2 (R.mono s2 r1)
    obtain ⟨z, hz, rz⟩ := atI_rps rs h
    exact ⟨p, vs, i, z, rfl, r2, hq, hz, q z F2 H2 (s1.trans s2) h2 rz⟩)
theorem ev_ixT (ha : Ev X ρ M a M1 (.val R)) (hb : Ev X ρ M1 b M2 (.val (rI i))) (hs : IsT X.K M2 R Rs) (h : atI Rs i = some S) (hp : PlainIx b := by exact fun _ _ => rfl) : Ev X ρ M (.Subscript a b pos) M2 (.val S) := fun σ H F Q hd en q =>
  we_of (pe_ix ix_tup pe_w pe_w hp) (ha σ H F _ hd en fun v F1 H1 s1 h1 r1 => hb σ H1 F1 _ h1 (en.mono s1) fun w F2 H2 s2 h2 r2 => by
    obtain ⟨p, vs, rfl, hq, rs, hz⟩ := hs F2 H2 v h2 (R.mono s2 r1)
    obtain ⟨z, hz, rz⟩ := atI_rps rs h
    exact ⟨p, vs, i, z, rfl, r2, hq, hz, q z F2 H2 (s1.trans s2) h2 rz⟩)
variable {α : Type} [Dat α] {xs : List α} {y : α}
theorem ev_ixLD (ha : Ev X ρ M a M1 (.val R)) (hb : Ev X ρ M1 b M2 (.val (rI i))) (hs : IsL X.K M2 R (xs.map (rp X.K))) (h : atI xs i = some y) (hp : PlainIx b := by exact fun _ _ => rfl) : Ev X ρ M (.Subscript a b pos) M2 (.val (rp X.K y)) :=
  ev_ixL ha hb hs (by rw [atI_map, h]; rfl) hp
/-- a part of a slice -/
def Eo (X : Cx) (ρ : Rho) (M : Mem) (e : Option Expr) (M' : Mem) (o : Option Int) : Prop :=
  ∀ σ H F (Q : Option Int → Hp → Prop), Held F M H → EnvR F σ ρ → (∀ F' H', Same F F' → Held F' M' H' → Q o H') → ∃ t Q1, PO X e t ∧ (∀ v H, Q1 v H → Q v H) ∧ t σ H Q1
def WO (X : Cx) (e : Option Expr) : TO := fun σ H Q => ∃ t Q1, PO X e t ∧ (∀ v H, Q1 v H → Q v H) ∧ t σ H Q1
theorem po_w {e : Option Expr} : PO X e (WO X e) := by
  cases e with
  | none => exact ⟨fun pins s σ H Q I ⟨t, Q1, a, b, c⟩ => thn (a.run pins s σ H Q1 I c) fun u s' h => by
      obtain ⟨o, H', I', r, q⟩ := h
      exact ⟨o, H', I', r, b _ _ q⟩⟩
  | some e => exact ⟨fun pins s σ H Q I ⟨t, Q1, a, b, c⟩ => thn (a.run pins s σ H Q1 I c) fun u s' h => by
      obtain ⟨o, H', I', r, q⟩ := h
      exact ⟨o, H', I', r, b _ _ q⟩⟩
theorem eo_none : Eo X ρ M none M none := fun σ H F Q h en q => ⟨_, Q, po_none, fun _ _ h => h, q F H (Same.refl F) h⟩
theorem eo_some (h : Ev X ρ M e M1 (.val (rI i))) : Eo X ρ M (some e) M1 (some i) := fun σ H F Q hd en q =>
  ⟨_, Q, po_some pe_w, fun _ _ h => h, h σ H F _ hd en fun v F1 H1 s1 h1 r1 => ⟨i, r1, q F1 H1 s1 h1⟩⟩
theorem ev_sl {p2} {lo hi : Option Expr} {o1 o2 : Option Int} (ha : Ev X ρ M a M1 (.val R)) (hl : Eo X ρ M1 lo M2 o1) (hu : Eo X ρ M2 hi M3 o2) (hs : IsL X.K M3 R Rs) : Ev X ρ M (.Subscript a (.Slice lo hi none p2) pos) M3 (.new (hL (cut Rs o1 o2))) := fun σ H F Q hd en q =>
  we_of (pe_slice sl_list pe_w po_w po_w) (ha σ H F _ hd en fun v F1 H1 s1 h1 r1 => hl σ H1 F1 _ h1 (en.mono s1) fun F2 H2 s2 h2 => hu σ H2 F2 _ h2 ((en.mono s1).mono s2) fun F3 H3 s3 h3 => by
    obtain ⟨p, vs, rfl, hq, rs, hz⟩ := hs F3 H3 v h3 (R.mono (s2.trans s3) r1)
    exact ⟨p, vs, rfl, hq, fun p hp => (q.shift ((s1.trans s2).trans s3)).newL h3 hp (rs.cut o1 o2) (Nat.le_trans (cutV_length vs o1 o2) hz)⟩)
theorem ev_slD {p2} {lo hi : Option Expr} {o1 o2 : Option Int} (ha : Ev X ρ M a M1 (.val R)) (hl : Eo X ρ M1 lo M2 o1) (hu : Eo X ρ M2 hi M3 o2) (hs : IsL X.K M3 R (xs.map (rp X.K))) : Ev X ρ M (.Subscript a (.Slice lo hi none p2) pos) M3 (.new (hD X.K (cut xs o1 o2))) := by
  have h := ev_sl (p2 := p2) (pos := pos) ha hl hu hs
  rw [cut_map] at h
  exact h

/-! ### built-in functions of one argument -/
theorem ev_b1 {id : String} {x : Str} {p : Pos} {r : List V → Hp → VK → Prop} (hc : CallR X (.builtin id) r) (hm : X.mg x = none) (hv : bootBuiltins x = some (.builtin id)) (ha : Ev X ρ M a M1 (.val R))
    (hr : ∀ v F H Q, Held F M1 H → R.p F v → Post F M2 res Q → r [v] H Q) (hg : Gl X x := by rfl) (hn : x ≠ "__name__" := by decide) (hdb : (x == ("__debug__" : Str)) = false := by decide)
    (he : starEach [a] X.env = (false, eval a X.env) :: starEach [] X.env := by rfl) (hpl : (backTo pos (starEach [] X.env)).any (·.1) = false := by rfl) : Ev X ρ M (.Call (.Name x p) [a] [] pos) M2 res := fun σ H F Q hd en q =>
  we_of (pe_callB hc hg hm hv (pa_cons pe_w pa_nil he) hn hdb he hpl) (ha σ H F _ hd en fun v F1 H1 s1 h1 r1 => hr v F1 H1 Q h1 r1 (q.shift s1))
theorem ev_t1 {T : String} {x : Str} {p : Pos} {r : List V → Hp → VK → Prop} (hc : CallR X (.type T) r) (hm : X.mg x = none) (hv : bootBuiltins x = some (.type T)) (ha : Ev X ρ M a M1 (.val R))
    (hr : ∀ v F H Q, Held F M1 H → R.p F v → Post F M2 res Q → r [v] H Q) (hg : Gl X x := by rfl) (hn : x ≠ "__name__" := by decide) (hdb : (x == ("__debug__" : Str)) = false := by decide)
    (he : starEach [a] X.env = (false, eval a X.env) :: starEach [] X.env := by rfl) (hpl : (backTo pos (starEach [] X.env)).any (·.1) = false := by rfl) : Ev X ρ M (.Call (.Name x p) [a] [] pos) M2 res := fun σ H F Q hd en q =>
  we_of (pe_callTy hc hg hm hv (pa_cons pe_w pa_nil he) hn hdb he hpl) (ha σ H F _ hd en fun v F1 H1 s1 h1 r1 => hr v F1 H1 Q h1 r1 (q.shift s1))
theorem ev_b2 {id : String} {x : Str} {p : Pos} {r : List V → Hp → VK → Prop} (hc : CallR X (.builtin id) r) (hm : X.mg x = none) (hv : bootBuiltins x = some (.builtin id)) (ha : Ev X ρ M a M1 (.val R)) (hb : Ev X ρ M1 b M2 (.val S))
    (hr : ∀ v w F H Q, Held F M2 H → R.p F v → S.p F w → Post F M3 res Q → r [v, w] H Q) (hg : Gl X x := by rfl) (hn : x ≠ "__name__" := by decide) (hdb : (x == ("__debug__" : Str)) = false := by decide)
    (he : starEach [a, b] X.env = (false, eval a X.env) :: starEach [b] X.env := by rfl) (he2 : starEach [b] X.env = (false, eval b X.env) :: starEach [] X.env := by rfl) (hpl : (backTo pos (starEach [b] X.env)).any (·.1) = false := by rfl) : Ev X ρ M (.Call (.Name x p) [a, b] [] pos) M3 res := fun σ H F Q hd en q =>
  we_of (pe_callB hc hg hm hv (pa_cons pe_w (pa_cons pe_w pa_nil he2) he) hn hdb he hpl) (ha σ H F _ hd en fun v F1 H1 s1 h1 r1 => hb σ H1 F1 _ h1 (en.mono s1) fun w F2 H2 s2 h2 r2 => hr v w F2 H2 Q h2 (R.mono s2 r1) r2 (q.shift (s1.trans s2)))
variable {p : Pos}
theorem ev_abs (z : X.mg "abs" = none) (ha : Ev X ρ M a M1 (.val (rI i))) (hg : Gl X "abs" := by rfl) (he : starEach [a] X.env = (false, eval a X.env) :: starEach [] X.env := by rfl) : Ev X ρ M (.Call (.Name "abs" p) [a] [] pos) M1 (.val (rI (if i < 0 then -i else i))) :=
  ev_b1 call_abs z (by decide +kernel) ha (fun v F H Q h r q => ⟨i, by rw [show v = V.int i from r], q _ F H (Same.refl F) h rfl⟩) hg (he := he)
theorem ev_intI (z : X.mg "int" = none) (ha : Ev X ρ M a M1 (.val (rI i))) (hg : Gl X "int" := by rfl) (he : starEach [a] X.env = (false, eval a X.env) :: starEach [] X.env := by rfl) : Ev X ρ M (.Call (.Name "int" p) [a] [] pos) M1 (.val (rI i)) :=
  ev_t1 call_int1 z (by decide +kernel) ha (fun v F H Q h r q => .inl ⟨i, by rw [show v = V.int i from r], q _ F H (Same.refl F) h rfl⟩) hg (he := he)
theorem ev_lenL (z : X.mg "len" = none) (ha : Ev X ρ M a M1 (.val R)) (hs : IsL X.K M1 R Rs) (hg : Gl X "len" := by rfl) (he : starEach [a] X.env = (false, eval a X.env) :: starEach [] X.env := by rfl) : Ev X ρ M (.Call (.Name "len" p) [a] [] pos) M1 (.val (rI (Rs.length : Nat))) :=
  ev_b1 call_len_seq z (by decide +kernel) ha (fun v F H Q h r q => by
    obtain ⟨p, vs, rfl, hq, rs, hz⟩ := hs F H v h r
    exact ⟨p, vs, rfl, .inl hq, q _ F H (Same.refl F) h (by show V.int _ = V.int _; rw [rs.length])⟩) hg (he := he)
theorem ev_lenT (z : X.mg "len" = none) (ha : Ev X ρ M a M1 (.val R)) (hs : IsT X.K M1 R Rs) (hg : Gl X "len" := by rfl) (he : starEach [a] X.env = (false, eval a X.env) :: starEach [] X.env := by rfl) : Ev X ρ M (.Call (.Name "len" p) [a] [] pos) M1 (.val (rI (Rs.length : Nat))) :=
  ev_b1 call_len_seq z (by decide +kernel) ha (fun v F H Q h r q => by
    obtain ⟨p, vs, rfl, hq, rs, hz⟩ := hs F H v h r
    exact ⟨p, vs, rfl, .inr hq, q _ F H (Same.refl F) h (by show V.int _ = V.int _; rw [rs.length])⟩) hg (he := he)
theorem ev_lenLD (z : X.mg "len" = none) (ha : Ev X ρ M a M1 (.val R)) (hs : IsL X.K M1 R (xs.map (rp X.K))) (hg : Gl X "len" := by rfl) (he : starEach [a] X.env = (false, eval a X.env) :: starEach [] X.env := by rfl) : Ev X ρ M (.Call (.Name "len" p) [a] [] pos) M1 (.val (rI (xs.length : Nat))) := by
  have h := ev_lenL (p := p) (pos := pos) z ha hs hg he
  rw [List.length_map] at h
  exact h
theorem ev_listL (z : X.mg "list" = none) (ha : Ev X ρ M a M1 (.val R)) (hs : IsL X.K M1 R Rs) (hg : Gl X "list" := by rfl) (he : starEach [a] X.env = (false, eval a X.env) :: starEach [] X.env := by rfl) : Ev X ρ M (.Call (.Name "list" p) [a] [] pos) M1 (.new (hL Rs)) :=
  ev_t1 call_list_of z (by decide +kernel) ha (fun v F H Q h r q => by
    obtain ⟨p, vs, rfl, hq, rs, hz⟩ := hs F H v h r
    exact ⟨p, vs, rfl, .inl hq, fun l hl => q.newL h hl rs hz⟩) hg (he := he)
theorem ev_listT (z : X.mg "list" = none) (ha : Ev X ρ M a M1 (.val R)) (hs : IsT X.K M1 R Rs) (hg : Gl X "list" := by rfl) (he : starEach [a] X.env = (false, eval a X.env) :: starEach [] X.env := by rfl) : Ev X ρ M (.Call (.Name "list" p) [a] [] pos) M1 (.new (hL Rs)) :=
  ev_t1 call_list_of z (by decide +kernel) ha (fun v F H Q h r q => by
    obtain ⟨p, vs, rfl, hq, rs, hz⟩ := hs F H v h r
    exact ⟨p, vs, rfl, .inr hq, fun l hl => q.newL h hl rs hz⟩) hg (he := he)
/-- the one sorted list -/
def isort (ns : List Int) : List Int := ns.mergeSort (fun a b => decide (a ≤ b))
theorem perm_sorted_eq : ∀ {l m : List Int}, l.Perm m → l.Pairwise (· ≤ ·) → m.Pairwise (· ≤ ·) → l = m
  | l, m, p, hl, hm => p.eq_of_pairwise (fun a b _ _ h1 h2 => Int.le_antisymm h1 h2) hl hm
theorem isort_eq {ns ns' : List Int} (p : ns'.Perm ns) (h : ns'.Pairwise (· ≤ ·)) : ns' = isort ns := by
  refine perm_sorted_eq (p.trans (List.mergeSort_perm ns _).symm) h ?_
  have := List.pairwise_mergeSort (le := fun a b : Int => decide (a ≤ b)) (fun a b c h1 h2 => by simp only [decide_eq_true_eq] at *; omega) (fun a b => by simp only [Bool.or_eq_true, decide_eq_true_eq]; omega) ns
  exact this.imp (fun h => by simpa using h)
theorem ev_sortedI {ns : List Int} (z : X.mg "sorted" = none) (ha : Ev X ρ M a M1 (.val R)) (hs : IsL X.K M1 R (ns.map (rp X.K))) (hg : Gl X "sorted" := by rfl) (he : starEach [a] X.env = (false, eval a X.env) :: starEach [] X.env := by rfl) : Ev X ρ M (.Call (.Name "sorted" p) [a] [] pos) M1 (.new (hD X.K (isort ns))) :=
  ev_b1 cr_sortedI z (by decide +kernel) ha (fun v F H Q h r q => by
    obtain ⟨p, vs, rfl, hq, rs, hz⟩ := hs F H v h r
    have e := rs.ints
    subst e
    refine ⟨p, ns, rfl, hq, fun ns' l h1 h2 hl => ?_⟩
    have e := isort_eq h1 h2
    subst e
    exact q.newL h hl (Rps.of_ints _) (by rw [List.length_map, h1.length_eq]; simpa using hz)) hg (he := he)
theorem ev_listRg1 (z : X.mg "list" = none) (zr : X.mg "range" = none) {p2 pos2 : Pos} (ha : Ev X ρ M a M1 (.val (rI i))) (h0 : 0 ≤ i) (h1 : i ≤ 16777216) (hc : X.calm = true := by rfl) (hg : Gl X "list" := by rfl) (hg2 : Gl X "range" := by rfl) (he : starEach [a] X.env = (false, eval a X.env) :: starEach [] X.env := by rfl)
    (he2 : starEach [.Call (.Name "range" p2) [a] [] pos2] X.env = (false, eval (.Call (.Name "range" p2) [a] [] pos2) X.env) :: starEach [] X.env := by rfl) : Ev X ρ M (.Call (.Name "list" p) [.Call (.Name "range" p2) [a] [] pos2] [] pos) M1 (.new (hD X.K ((List.range i.toNat).map Int.ofNat))) := fun σ H F Q hd en q =>
  we_of (pe_listRg hc hg z (prg_1 hg2 zr pe_w he) he2) (ha σ H F _ hd en fun v F1 H1 s1 h1' r1 => by
    refine ⟨i, r1, RgOk.of_le (by omega) (by omega) (by omega) (by omega), fun p hp => ?_⟩
    have e : rgV 0 i = ((List.range i.toNat).map Int.ofNat).map V.int := by
      unfold rgV
      rw [List.map_map, Int.sub_zero]
      refine List.map_congr_left fun x _ => ?_
      show V.int _ = V.int _
      congr 1
      simp
    rw [e]
    exact (q.shift s1).newL h1' hp (Rps.of_ints _) (by rw [List.length_map, List.length_map, List.length_range, sizeLine_eq]; omega))
end
end Pw

namespace Pw
open PySem PySem.Spec PyProof.Rows L2
open Dat (rp)

/-! ### calls of defs -/
abbrev Ct := List VR → Mem → Mem → Res → Prop
def spOf (C : Ct) : Sp := fun vs H Q _ => ∃ Rs M0 M1 r Mr F, C Rs M0 M1 r ∧ Held F (M0 ++ Mr) H ∧ Rps F vs Rs ∧ Post F (M1 ++ Mr) r Q
structure Def (P : Program) (w : World) (K : PySem.W.Frag) (mg : Str → Option Value) (base : Heap) (x : Str) (k : Nat) (ps : List Str) (C : Ct) : Prop where
  ex : ∃ f fd, FnOk P w K mg base CX0 k f fd ps (spOf C) ∧ mg x = some (.ref f) ∧ PySem.W.keepIn K (.ref f) = true ∧ Binds K fd ps []
theorem Post.perm {F : Hp} {M M' : Mem} {r : Res} {Q : VK} (p : M.Perm M') (h : Post F M' r Q) : Post F M r Q := by
  cases r with
  | val R => exact fun v F' H' s g q => h v F' H' s (g.perm p) q
  | new A => exact fun q F' H' s g => h q F' H' s (g.perm (p.cons _))
theorem Post.sub {F : Hp} {M M' : Mem} {r : Res} {Q : VK} (p : List.Sublist M' M) (h : Post F M' r Q) : Post F M r Q := by
  cases r with
  | val R => exact fun v F' H' s g q => h v F' H' s (g.sub p) q
  | new A => exact fun q F' H' s g => h q F' H' s (g.sub (p.cons₂ _))
theorem perm_erase {α : Type} : ∀ {l : List α} {k : Nat} {x : α}, l[k]? = some x → l.Perm (x :: l.eraseIdx k)
  | [], _, _, h => by simp at h
  | y :: l, 0, x, h => by
    have e : y = x := by simpa using h
    rw [e]; exact List.Perm.refl _
  | y :: l, k + 1, x, h => by
    have h' : l[k]? = some x := by simpa using h
    exact ((perm_erase h').cons y).trans (List.Perm.swap x y _)
theorem perm_set {α : Type} : ∀ {l : List α} {k : Nat} {x : α} (y : α), l[k]? = some x → (y :: l.eraseIdx k).Perm (l.set k y)
  | [], _, _, _, h => by simp at h
  | z :: l, 0, x, y, h => List.Perm.refl _
  | z :: l, k + 1, x, y, h => by
    have h' : l[k]? = some x := by simpa using h
    exact (List.Perm.swap z y _).trans ((perm_set y h').cons z)
section
variable {X : Cx} {ρ : Rho} {M M1 M2 M3 M' Mr M0 : Mem} {a b c e : Expr} {es : List Expr} {pos p : Pos} {R S : VR} {Rs Ss : List VR} {res r : Res} {i j : Int} {x : Str} {k : Nat} {ps : List Str} {C : Ct}
theorem ev_callP (G : Def X.prog X.w X.K X.mg X.base x k ps C) (hr : Room k X.A) (ha : Ea X ρ M (e :: es) M' Rs) (hp : M'.Perm (M0 ++ Mr)) (hp2 : (M1 ++ Mr).Perm M2) (hc : C Rs M0 M1 r) (hg : Gl X x := by rfl)
    (hdb : (x == ("__debug__" : Str)) = false := by decide) (he : starEach (e :: es) X.env = (false, eval e X.env) :: starEach es X.env := by rfl) (hpl : (backTo pos (starEach es X.env)).any (·.1) = false := by rfl) :
    Ev X ρ M (.Call (.Name x p) (e :: es) [] pos) M2 r := fun σ H F Q hd en q => by
  obtain ⟨f, fd, G, gm, kp, bs⟩ := G.ex
  refine we_of (pe_call G hr hg gm kp bs .nil pass0 pa_w hdb he hpl) (ha σ H F _ hd en fun vs F1 H1 s1 h1 r1 => ?_)
  show spOf C (vs ++ []) H1 Q E0
  rw [List.append_nil]
  exact ⟨Rs, M0, M1, r, Mr, F1, hc, h1.perm hp, r1, (q.shift s1).perm hp2⟩
/-- no owned object is handed over -/
theorem ev_call (G : Def X.prog X.w X.K X.mg X.base x k ps C) (hr : Room k X.A) (ha : Ea X ρ M (e :: es) M' Rs) (hc : C Rs [] [] r) (hg : Gl X x := by rfl)
    (hdb : (x == ("__debug__" : Str)) = false := by decide) (he : starEach (e :: es) X.env = (false, eval e X.env) :: starEach es X.env := by rfl) (hpl : (backTo pos (starEach es X.env)).any (·.1) = false := by rfl) :
    Ev X ρ M (.Call (.Name x p) (e :: es) [] pos) M' r := ev_callP (M0 := []) (M1 := []) (Mr := M') G hr ha (List.Perm.refl M') (List.Perm.refl M') hc hg hdb he hpl
/-- the k-th owned object is handed over -/
theorem ev_call1 (n : Nat) {q : Addr} {A A' : HR} (G : Def X.prog X.w X.K X.mg X.base x k ps C) (hr : Room k X.A) (ha : Ea X ρ M (e :: es) M' Rs) (hn : M'[n]? = some (q, A)) (hc : C Rs [(q, A)] [(q, A')] r) (hg : Gl X x := by rfl)
    (hdb : (x == ("__debug__" : Str)) = false := by decide) (he : starEach (e :: es) X.env = (false, eval e X.env) :: starEach es X.env := by rfl) (hpl : (backTo pos (starEach es X.env)).any (·.1) = false := by rfl) :
    Ev X ρ M (.Call (.Name x p) (e :: es) [] pos) (M'.set n (q, A')) r := ev_callP (M0 := [(q, A)]) (M1 := [(q, A')]) (Mr := M'.eraseIdx n) G hr ha (perm_erase hn) (perm_set _ hn) hc hg hdb he hpl

/-! ### methods of built-in types -/
structure M1k (X : Cx) (o : Expr) (name : Str) (e : Expr) (apos cpos : Pos) : Prop where
  hb : attributeBase o name X.env (eval o X.env) = eval o X.env
  few : ((backTo cpos (starEach [e] X.env)).all (fun x => !x.1) && (backToKw cpos (keywordEach [] X.env)).all (fun x => x.1.isSome)
      && decide ([e].length + ([] : List Keyword).length + (if ([] : List Keyword).isEmpty then 0 else 1) < 30)) = true
  line : (apos.endLine == cpos.line) = true
  st : starEach [e] X.env = (false, eval e X.env) :: starEach [] X.env
  pl : (backTo cpos (starEach [] X.env)).any (·.1) = false
theorem ev_m1 {T : String} {name : Str} {id : String} {o : Expr} {apos : Pos} {rr : V → List V → Hp → VK → Prop} (pa : PlainAttrs T) (slot : Slot T name id) (hty : typeOf (.builtin id) = pure (.type "method_descriptor")) (hm : MtR X id rr)
    (hv : Ev X ρ M o M1 (.val R)) (hT : ∀ v F H, Held F M1 H → R.p F v → tyV X.K T v H) (ha : Ev X ρ M1 e M2 (.val S))
    (hr : ∀ v w F H Q, Held F M2 H → R.p F v → S.p F w → Post F M3 res Q → rr v [w] H Q) (k : M1k X o name e apos pos) : Ev X ρ M (.Call (.Attribute o name apos) [e] [] pos) M3 res := fun σ H F Q hd en qq =>
  we_of (pe_bm pa slot hty hm pe_w (pa_cons pe_w pa_nil k.st) k.hb k.few k.line k.st k.pl) (hv σ H F _ hd en fun v F1 H1 s1 h1 r1 => ⟨hT v F1 H1 h1 r1, ha σ H1 F1 _ h1 (en.mono s1) fun w F2 H2 s2 h2 r2 =>
    hr v w F2 H2 Q h2 (R.mono s2 r1) r2 (qq.shift (s1.trans s2))⟩)
theorem tyL {n : Nat} {q : Addr} (hl : ∃ Ss, M1[n]? = some (q, hL Ss)) {K : PySem.W.Frag} : ∀ v F H, Held F M1 H → (rA q).p F v → tyV K "list" v H := fun v F H h r => by
  obtain ⟨Ss, hl⟩ := hl
  obtain ⟨o, g1, ⟨vs, rfl, g2, g3⟩, _⟩ := h.get hl
  rw [show v = V.ref q from r]
  exact .inl ⟨rfl, _, SqL.of g1⟩
theorem ev_append (n : Nat) {q : Addr} {xx : Expr} {pa : Pos} (hv : Ev X ρ M xx M1 (.val (rA q))) (ha : Ev X ρ M1 e M2 (.val R)) (hl : ∃ Ss, M1[n]? = some (q, hL Ss)) (hn : M2[n]? = some (q, hL Rs)) (hz : Rs.length < sizeLine)
    (k : M1k X xx "append" e pa pos := by exact ⟨rfl, rfl, rfl, rfl, rfl⟩) : Ev X ρ M (.Call (.Attribute xx "append" pa) [e] [] pos) (M2.set n (q, hL (Rs ++ [R]))) (.val rN) :=
  ev_m1 PySem.F.plainAttrs_list PySem.F.slot_list_append PySem.F.type_list_append mt_append hv (tyL hl) ha (fun v w F H Q h r1 r2 qq => by
    obtain ⟨o, g1, ⟨vs, rfl, g2, g3⟩, _⟩ := h.get hn
    exact ⟨q, vs, w, r1, rfl, g1, by rw [g2.length]; exact hz, qq .non F _ (Same.refl F) (h.set hn ⟨_, rfl, g2.app (.cons r2 .nil), by rw [List.length_append, g2.length]; exact hz⟩) rfl⟩) k
theorem ev_appendD (n : Nat) {α : Type} [Dat α] {xs : List α} {y : α} {q : Addr} {xx : Expr} {pa : Pos} (hv : Ev X ρ M xx M1 (.val (rA q))) (ha : Ev X ρ M1 e M2 (.val (rp X.K y))) (hl : ∃ Ss, M1[n]? = some (q, hL Ss)) (hn : M2[n]? = some (q, hD X.K xs)) (hz : xs.length < sizeLine)
    (k : M1k X xx "append" e pa pos := by exact ⟨rfl, rfl, rfl, rfl, rfl⟩) : Ev X ρ M (.Call (.Attribute xx "append" pa) [e] [] pos) (M2.set n (q, hD X.K (xs ++ [y]))) (.val rN) := by
  have h := ev_append n hv ha hl hn (by rw [List.length_map]; exact hz) k
  have e : hD X.K (xs ++ [y]) = hL (xs.map (rp X.K) ++ [rp X.K y]) := by unfold hD; rw [List.map_append]; rfl
  rw [e]
  exact h
theorem ev_popAt (n : Nat) {q : Addr} {xx : Expr} {pa : Pos} {j : Nat} (hv : Ev X ρ M xx M1 (.val (rA q))) (ha : Ev X ρ M1 e M2 (.val (rI i))) (hl : ∃ Ss, M1[n]? = some (q, hL Ss)) (hn : M2[n]? = some (q, hL Rs)) (hi : ixN Rs.length i = some j) (hj : Rs[j]? = some R) (hz : -(2 ^ 63) ≤ i ∧ i < 2 ^ 63)
    (k : M1k X xx "pop" e pa pos := by exact ⟨rfl, rfl, rfl, rfl, rfl⟩) : Ev X ρ M (.Call (.Attribute xx "pop" pa) [e] [] pos) (M2.set n (q, hL (Rs.eraseIdx j))) (.val R) :=
  ev_m1 PySem.F.plainAttrs_list PySem.F.slot_list_pop PySem.F.type_list_pop mt_popAt hv (tyL hl) ha (fun v w F H Q h r1 r2 qq => by
    obtain ⟨o, g1, ⟨vs, rfl, g2, g3⟩, _⟩ := h.get hn
    obtain ⟨z, hz1, hz2⟩ := g2.get hj
    exact ⟨q, vs, i, j, z, r1, by rw [show w = V.int i from r2], g1, hz.1, hz.2, by rw [g2.length]; exact (ixN_seq hi).1, hz1, qq z F _ (Same.refl F) (h.set hn ⟨_, rfl, g2.erase j, Nat.le_trans (len_erase vs j) g3⟩) hz2⟩) k
/-- what pop(i) takes, what it leaves -/
def popA {α : Type} (xs : List α) (i : Int) : Option (α × List α) := (ixN xs.length i).bind fun j => (xs[j]?).map fun x => (x, xs.eraseIdx j)
theorem map_erase {α β : Type} (f : α → β) : ∀ (l : List α) (j : Nat), (l.eraseIdx j).map f = (l.map f).eraseIdx j
  | [], _ => rfl
  | _ :: _, 0 => rfl
  | x :: l, j + 1 => by
    show f x :: (l.eraseIdx j).map f = f x :: (l.map f).eraseIdx j
    rw [map_erase f l j]
theorem ev_popAtD (n : Nat) {α : Type} [Dat α] {xs ys : List α} {y : α} {q : Addr} {xx : Expr} {pa : Pos} (hv : Ev X ρ M xx M1 (.val (rA q))) (ha : Ev X ρ M1 e M2 (.val (rI i))) (hl : ∃ Ss, M1[n]? = some (q, hL Ss)) (hn : M2[n]? = some (q, hD X.K xs)) (hp : popA xs i = some (y, ys)) (hz : xs.length ≤ 16777216)
    (k : M1k X xx "pop" e pa pos := by exact ⟨rfl, rfl, rfl, rfl, rfl⟩) : Ev X ρ M (.Call (.Attribute xx "pop" pa) [e] [] pos) (M2.set n (q, hD X.K ys)) (.val (rp X.K y)) := by
  unfold popA at hp
  cases hj : ixN xs.length i with
  | none => rw [hj] at hp; cases hp
  | some j =>
    rw [hj] at hp
    simp only [Option.bind_some] at hp
    cases hx : xs[j]? with
    | none => rw [hx] at hp; cases hp
    | some z =>
      rw [hx] at hp
      cases hp
      obtain ⟨_, b1, b2, b3⟩ := ixN_seq hj
      have h := ev_popAt (R := rp X.K y) n hv ha hl hn (j := j) (by rw [List.length_map]; exact hj) (by rw [List.getElem?_map, hx]; rfl) (by omega) k
      have e : hD X.K (xs.eraseIdx j) = hL ((xs.map (rp X.K)).eraseIdx j) := by unfold hD; rw [map_erase]
      rw [e]
      exact h
/-- xs + ys -/
theorem ev_cat (ha : Ev X ρ M a M1 (.val R)) (hb : Ev X ρ M1 b M2 (.val S)) (h1 : IsLH M2 R Rs) (h2 : IsLH M2 S Ss) (hz : Rs.length + Ss.length ≤ sizeLine) : Ev X ρ M (.BinOp a .Add b pos) M2 (.new (hL (Rs ++ Ss))) :=
  ev_bin op_cat ha hb fun v w F H Q h r1 r2 q => by
    obtain ⟨l, xs, rfl, e1, g1, z1⟩ := h1 F H v h r1
    obtain ⟨m, ys, rfl, e2, g2, z2⟩ := h2 F H w h r2
    exact ⟨l, m, xs, ys, rfl, rfl, e1, e2, by rw [g1.length, g2.length]; exact hz, fun p hp => q.newL h hp (g1.app g2) (by rw [List.length_append, g1.length, g2.length]; exact hz)⟩
/-- [x] * n -/
theorem ev_rep1 (ha : Ev X ρ M a M1 (.val R)) (hb : Ev X ρ M1 b M2 (.val (rI i))) (h1 : IsLH M2 R [S]) (h0 : 0 ≤ i) (hz : i ≤ 16777216) : Ev X ρ M (.BinOp a .Mult b pos) M2 (.new (hL (List.replicate i.toNat S))) :=
  ev_bin op_rep ha hb fun v w F H Q h r1 r2 q => by
    obtain ⟨l, xs, rfl, e1, g1, z1⟩ := h1 F H v h r1
    cases g1 with
    | cons g t =>
      cases t with
      | nil =>
        rename_i z
        refine ⟨l, i, _, rfl, r2, e1, by omega, by omega, ?_, fun p hp => ?_⟩
        · rw [sizeLine_eq]; show 1 * i.toNat ≤ _; omega
        · refine q.newL h hp ?_ ?_
          have e : ∀ n : Nat, (List.replicate n [z]).flatten = List.replicate n z := fun n => by
            induction n with
            | zero => rfl
            | succ n ih => rw [List.replicate_succ, List.flatten_cons, ih]; rfl
          have g' : ∀ n : Nat, Rps F (List.replicate n z) (List.replicate n S) := fun n => by
            induction n with
            | zero => exact .nil
            | succ n ih => exact .cons g ih
          rw [e]
          exact g' _
          · have e : ∀ n : Nat, (List.replicate n [z]).flatten.length = n := fun n => by
              induction n with
              | zero => rfl
              | succ n ih => rw [List.replicate_succ, List.flatten_cons, List.length_append, ih]; exact Nat.add_comm _ _
            rw [e, sizeLine_eq]; omega
end
end Pw

namespace Pw
open PySem PySem.Spec PyProof.Rows L2
open Dat (rp)

/-! ### mirrors of loops -/
inductive Ctl (β ρ : Type) where
  | nx (s : β) | bk (s : β) | rt (r : ρ)
/-- a loop without break, continue to the end, return -/
def loopM {α β : Type} (f : β → α → Option β) : List α → β → Option β
  | [], s => some s
  | x :: xs, s => (f s x).bind (loopM f xs)
/-- a loop that may be left -/
def forC {α β ρ : Type} (f : β → α → Option (Ctl β ρ)) : List α → β → Option (Ctl β ρ)
  | [], s => some (.nx s)
  | x :: xs, s => (f s x).bind fun c => match c with
    | .nx s' => forC f xs s'
    | .bk s' => some (.nx s')
    | .rt r => some (.rt r)
/-- a comprehension -/
def compM {α β γ : Type} (f : β → α → Option (Option γ × β)) : List α → β → Option (List γ × β)
  | [], s => some ([], s)
  | x :: xs, s => (f s x).bind fun p => (compM f xs p.2).map fun q => (p.1.toList ++ q.1, q.2)
theorem loopM_snoc {α β : Type} (f : β → α → Option β) : ∀ (xs : List α) (x : α) (s : β), loopM f (xs ++ [x]) s = (loopM f xs s).bind fun t => f t x
  | [], x, s => by show (f s x).bind (fun s => some s) = f s x; cases f s x <;> rfl
  | y :: xs, x, s => by
    show (f s y).bind (loopM f (xs ++ [x])) = ((f s y).bind (loopM f xs)).bind fun t => f t x
    cases f s y with
    | none => rfl
    | some t => exact loopM_snoc f xs x t
theorem compM_snoc {α β γ : Type} (f : β → α → Option (Option γ × β)) : ∀ (xs : List α) (x : α) (s : β), compM f (xs ++ [x]) s = (compM f xs s).bind fun t => (f t.2 x).map fun p => (t.1 ++ p.1.toList, p.2)
  | [], x, s => by
    show ((f s x).bind fun p => some (p.1.toList ++ [], p.2)) = (f s x).map fun p => ([] ++ p.1.toList, p.2)
    cases f s x with
    | none => rfl
    | some p => show some _ = some _; simp
  | y :: xs, x, s => by
    show ((f s y).bind fun p => (compM f (xs ++ [x]) p.2).map fun q => (p.1.toList ++ q.1, q.2)) = ((f s y).bind fun p => (compM f xs p.2).map fun q => (p.1.toList ++ q.1, q.2)).bind fun t => (f t.2 x).map fun p => (t.1 ++ p.1.toList, p.2)
    cases f s y with
    | none => rfl
    | some p =>
      show (compM f (xs ++ [x]) p.2).map _ = ((compM f xs p.2).map _).bind _
      rw [compM_snoc f xs x p.2]
      cases compM f xs p.2 with
      | none => rfl
      | some q =>
        show ((f q.2 x).map fun p => (q.1 ++ p.1.toList, p.2)).map _ = (f q.2 x).map _
        cases f q.2 x with
        | none => rfl
        | some r => show some _ = some _; simp [List.append_assoc]
/-- a prefix of a good run is good -/
theorem loopM_take {α β : Type} {f : β → α → Option β} {xs : List α} {s t : β} (h : loopM f xs s = some t) : ∀ i, i ≤ xs.length → ∃ u, loopM f (xs.take i) s = some u := by
  have key : ∀ (xs ys : List α) (s t : β), loopM f (xs ++ ys) s = some t → ∃ u, loopM f xs s = some u := by
    intro xs
    induction xs with
    | nil => intro ys s t h; exact ⟨s, rfl⟩
    | cons x xs ih =>
      intro ys s t h
      have h : (f s x).bind (loopM f (xs ++ ys)) = some t := h
      cases e : f s x with
      | none => rw [e] at h; cases h
      | some u =>
        rw [e] at h
        obtain ⟨z, hz⟩ := ih ys u t h
        exact ⟨z, by show (f s x).bind (loopM f xs) = _; rw [e]; exact hz⟩
  intro i _
  exact key (xs.take i) (xs.drop i) s t (by rw [List.take_append_drop]; exact h)
theorem compM_take {α β γ : Type} {f : β → α → Option (Option γ × β)} {xs : List α} {s : β} {t : List γ × β} (h : compM f xs s = some t) : ∀ i, ∃ u, compM f (xs.take i) s = some u ∧ u.1.length ≤ i := by
  have key : ∀ (xs ys : List α) (s : β) (t : List γ × β), compM f (xs ++ ys) s = some t → ∃ u, compM f xs s = some u ∧ u.1.length ≤ xs.length := by
    intro xs
    induction xs with
    | nil => intro ys s t h; exact ⟨([], s), rfl, Nat.le_refl _⟩
    | cons x xs ih =>
      intro ys s t h
      have h : ((f s x).bind fun p => (compM f (xs ++ ys) p.2).map fun q => (p.1.toList ++ q.1, q.2)) = some t := h
      cases e : f s x with
      | none => rw [e] at h; cases h
      | some u =>
        rw [e] at h
        simp only [Option.bind_some] at h
        cases e2 : compM f (xs ++ ys) u.2 with
        | none => rw [e2] at h; cases h
        | some v =>
          obtain ⟨z, hz, hl⟩ := ih ys u.2 v e2
          refine ⟨(u.1.toList ++ z.1, z.2), ?_, ?_⟩
          · show ((f s x).bind fun p => (compM f xs p.2).map fun q => (p.1.toList ++ q.1, q.2)) = _
            rw [e]
            show (compM f xs u.2).map _ = _
            rw [hz]
            rfl
          · show (u.1.toList ++ z.1).length ≤ (x :: xs).length
            rw [List.length_append, List.length_cons]
            have : u.1.toList.length ≤ 1 := by cases u.1 <;> simp
            omega
  intro i
  obtain ⟨u, h1, h2⟩ := key (xs.take i) (xs.drop i) s t (by rw [List.take_append_drop]; exact h)
  exact ⟨u, h1, Nat.le_trans h2 (by rw [List.length_take]; exact Nat.min_le_left _ _)⟩
theorem take_succ_of {α : Type} {xs : List α} {i : Nat} {x : α} (h : xs[i]? = some x) : xs.take (i + 1) = xs.take i ++ [x] := by
  rw [List.take_add_one, h]; rfl

section
variable {X : Cx} {F0 : Hp} {ρ ρ' : Rho} {M M1 M2 M3 M' Mf : Mem} {a b c e : Expr} {es : List Expr} {pos p px : Pos} {R S : VR} {Rs Ss : List VR} {res r : Res} {A : HR} {i : Nat} {x : Str} {st : Stmt} {rest body : List Stmt} {T T' : Ts}
/-- what stands behind: the state ρ, M -/
def nxT (T : Ts) (ρ : Rho) (M : Mem) : Ts := fun F1 => { T F1 with nx := At F1 ρ M }
/-- nothing stands behind -/
def noT (T : Ts) : Ts := fun F1 => { T F1 with nx := fun _ _ => False }

/-! ### blocks -/
theorem ss_end : SS X F0 ρ M [] (nxT T ρ M) := fun F1 e σ H F f hd en => wss_of pss_nil ⟨F, f, hd, en⟩
theorem ss_endW (l : Le ρ ρ') (s : List.Sublist M' M) : SS X F0 ρ M [] (nxT T ρ' M') := fun F1 e σ H F f hd en => wss_of pss_nil ⟨F, f, hd.sub s, en.le l⟩
theorem SS.le (h : SS X F0 ρ M rest T) (i : ∀ F1, Same F0 F1 → EndsLe (T F1) (T' F1)) : SS X F0 ρ M rest T' := fun F1 e σ H F f hd en => (h F1 e σ H F f hd en).mono (i F1 e)
/-- slots are forgotten, owned things dropped -/
theorem SS.weak (h : SS X F0 ρ' M' rest T) (l : Le ρ ρ') (s : List.Sublist M' M) : SS X F0 ρ M rest T := fun F1 e σ H F f hd en => h F1 e σ H F f (hd.sub s) (en.le l)
theorem SS.permM (h : SS X F0 ρ M' rest T) (s : M.Perm M') : SS X F0 ρ M rest T := fun F1 e σ H F f hd en => h F1 e σ H F f (hd.perm s) en
theorem At.weak {σ : L2.St} {H : Hp} (h : At F0 ρ M σ H) (l : Le ρ ρ') (s : List.Sublist M' M) : At F0 ρ' M' σ H := let ⟨F, e, hd, en⟩ := h; ⟨F, e, hd.sub s, en.le l⟩
theorem At.perm {σ : L2.St} {H : Hp} (h : At F0 ρ M σ H) (s : M.Perm M') : At F0 ρ M' σ H := let ⟨F, e, hd, en⟩ := h; ⟨F, e, hd.perm s, en⟩
theorem set_self {σ : L2.St} {i : Nat} {v : V} (hv : σ[i]? = some (some v)) : σ.set i (some v) = σ := by
  apply List.ext_getElem?
  intro j
  rw [List.getElem?_set]
  split
  · rename_i hj
    subst hj
    split
    · exact hv.symm
    · rename_i hlt
      have : σ[i]? = none := by rw [List.getElem?_eq_none_iff]; omega
      rw [this]
  · rfl
/-- the first owned list is frozen; the i-th slot holds it -/
theorem SS.freeze {q : Addr} (i : Nat) (h : SS X F0 (ρ.set i (some (rL Rs))) M rest T) (hi : ρ[i]? = some (some (rA q))) : SS X F0 ρ ((q, hL Rs) :: M) rest T := fun F1 e σ H F f hd en => by
  obtain ⟨o, ⟨vs, rfl, r, hz⟩, hp, _, sm, h2⟩ := hd.freeze
  obtain ⟨v, hv, rv⟩ := en.get hi
  have e2 := EnvR.set (v := v) (R := rL Rs) (show (rL Rs).p (upd F q (.lst vs)) v from ⟨q, vs, rv, upd_same, r.mono sm, hz⟩) i (en.mono sm)
  rw [set_self hv] at e2
  exact h F1 e σ H _ (f.trans sm) h2 e2

/-! ### assignments, expressions, return -/
theorem ss_set (i : Nat) (nd : X.N.Nodup) (he : Ev X ρ M e M1 (.val R)) (h : SS X F0 (ρ.set i (some R)) M1 rest T) (hi : X.N[i]? = some x := by rfl) (hx : Loc X.env.scope x := by first | exact Or.inl rfl | exact Or.inr rfl)
    (hs : swapsWith e (some (.Name x px)) pos.line X.env = pure false := by rfl) (hf : X.fn x = true ∨ X.env.scope.names.lookup x = some .local := by first | exact .inl rfl | exact .inr rfl) : SS X F0 ρ M (.Assign [.Name x px] e pos :: rest) T := fun F1 e0 σ H F f hd en =>
  wss_of (pss_cons (ps_set nd hi hx pe_w hs hf) pss_w) (he σ H F _ hd en fun v F2 H1 s1 h1 r1 => h F1 e0 _ H1 F2 (f.trans s1) h1 (EnvR.set r1 i (en.mono s1)))
theorem ss_new (i : Nat) (nd : X.N.Nodup) (he : Ev X ρ M e M1 (.new A)) (h : ∀ q, SS X F0 (ρ.set i (some (rA q))) ((q, A) :: M1) rest T) (hi : X.N[i]? = some x := by rfl) (hx : Loc X.env.scope x := by first | exact Or.inl rfl | exact Or.inr rfl)
    (hs : swapsWith e (some (.Name x px)) pos.line X.env = pure false := by rfl) (hf : X.fn x = true ∨ X.env.scope.names.lookup x = some .local := by first | exact .inl rfl | exact .inr rfl) : SS X F0 ρ M (.Assign [.Name x px] e pos :: rest) T := fun F1 e0 σ H F f hd en =>
  wss_of (pss_cons (ps_set nd hi hx pe_w hs hf) pss_w) (he σ H F _ hd en fun q F2 H1 s1 h1 => h q F1 e0 _ H1 F2 (f.trans s1) h1 (EnvR.set (R := rA q) rfl i (en.mono s1)))
theorem ss_expr (he : Ev X ρ M e M1 (.val R)) (h : SS X F0 ρ M1 rest T) (hs : swapsWith e none pos.line X.env = pure false := by rfl) : SS X F0 ρ M (.Expr e pos :: rest) T := fun F1 e0 σ H F f hd en =>
  wss_of (pss_cons (ps_expr pe_w hs) pss_w) (he σ H F _ hd en fun v F2 H1 s1 h1 r1 => h F1 e0 σ H1 F2 (f.trans s1) h1 (en.mono s1))
theorem ss_ret (he : Ev X ρ M e M1 r) (s : List.Sublist Mf M1) (q : ∀ F1, Same F0 F1 → Post F1 Mf r (T F1).rt) : SS X F0 ρ M (.Return (some e) pos :: rest) T := fun F1 e0 σ H F f hd en =>
  wss_of (pss_cons (ps_ret pe_w) pss_w) (he σ H F _ hd en (((q F1 e0).sub s).shift f))
theorem ss_retN (s : List.Sublist Mf M) (q : ∀ F1, Same F0 F1 → Post F1 Mf (.val rN) (T F1).rt) : SS X F0 ρ M (.Return none pos :: rest) T := fun F1 e0 σ H F f hd en =>
  wss_of (pss_cons ps_retN pss_w) ((((q F1 e0).sub s).shift f) .non F H (Same.refl F) hd rfl)
/-- o[i] = e, o an owned list: the value, then o, then i -/
theorem ss_setix (n : Nat) {q : Addr} {o ix : Expr} {k : Int} {j : Nat} {pp : Pos} (he : Ev X ρ M e M1 (.val R)) (ho : Ev X ρ M1 o M2 (.val (rA q))) (hk : Ev X ρ M2 ix M3 (.val (rI k))) (hn : M3[n]? = some (q, hL Rs)) (hj : ixN Rs.length k = some j)
    (h : SS X F0 ρ (M3.set n (q, hL (Rs.set j R))) rest T)
    (ha : ∀ v, assign (.Subscript o ix pp) X.env v = (do
      let ov ← holding [v] (eval o X.env)
      let iv ← holding [v, ov] (eval ix X.env)
      standAt pp
      holding [v, ov, iv] (setItem ov iv v)
      release [v, ov, iv] []) := by intro _; rfl)
    (hs : swapsWithSole [.Subscript o ix pp] e pos.line X.env = pure false := by rfl) (hw : swappedStores [.Subscript o ix pp] e X.env = pure none := by rfl)
    (h1 : (assignEach [.Subscript o ix pp] X.env).map (·.2) = [assign (.Subscript o ix pp) X.env] := by rfl) : SS X F0 ρ M (.Assign [.Subscript o ix pp] e pos :: rest) T := fun F0' e0 σ H F f hd en =>
  wss_of (pss_cons (ps_asg pe_w (pg_sub pe_w pe_w set_list ha) hs hw h1) pss_w) (he σ H F _ hd en fun v F1 H1 s1 h1 r1 => ho σ H1 F1 _ h1 (en.mono s1) fun w F2 H2 s2 h2 r2 => hk σ H2 F2 _ h2 ((en.mono s1).mono s2) fun z F3 H3 s3 h3 r3 => by
    obtain ⟨o, g1, ⟨vs, rfl, g2, g3⟩, _⟩ := h3.get hn
    refine ⟨q, vs, k, j, r2, r3, g1, by rw [g2.length]; exact hj, ?_⟩
    exact h F0' e0 σ _ F3 (((f.trans s1).trans s2).trans s3) (h3.set hn ⟨_, rfl, Rps.set (R.mono (s2.trans s3) r1) j g2, by rw [List.length_set]; exact g3⟩) (((en.mono s1).mono s2).mono s3))

/-! ### if -/
variable {tb eb : List Stmt} {k : Bool}
theorem ss_if (hc : Et X ρ M c M1 k) (h1 : k = true → SS X F0 ρ M1 tb (nxT T ρ' M')) (h2 : k = false → SS X F0 ρ M1 eb (nxT T ρ' M')) (h : SS X F0 ρ' M' rest T) : SS X F0 ρ M (.If c tb eb pos :: rest) T := fun F1 e0 σ H F f hd en =>
  wss_of (pss_cons (ps_if pt_w pss_w pss_w) pss_w) (hc σ H F _ hd en fun F2 H1 s1 g1 => by
    have le : EndsLe (nxT T ρ' M' F1) { T F1 with nx := WSs X rest (T F1) } := ⟨fun σ' H' ⟨F', e', hd', en'⟩ => h F1 e0 σ' H' F' e' hd' en', fun _ _ h => h, fun _ _ h => h, fun _ _ h => h⟩
    cases k with
    | true => rw [if_pos rfl]; exact (h1 rfl F1 e0 σ H1 F2 (f.trans s1) g1 (en.mono s1)).mono le
    | false => rw [if_neg Bool.false_ne_true]; exact (h2 rfl F1 e0 σ H1 F2 (f.trans s1) g1 (en.mono s1)).mono le)
/-- the then-branch leaves -/
theorem ss_ifR (hc : Et X ρ M c M1 k) (h1 : k = true → SS X F0 ρ M1 tb (noT T)) (h2 : k = false → SS X F0 ρ M1 rest T) : SS X F0 ρ M (.If c tb [] pos :: rest) T := fun F1 e0 σ H F f hd en =>
  wss_of (pss_cons (ps_if pt_w pss_w pss_w) pss_w) (hc σ H F _ hd en fun F2 H1 s1 g1 => by
    cases k with
    | true => rw [if_pos rfl]; exact (h1 rfl F1 e0 σ H1 F2 (f.trans s1) g1 (en.mono s1)).mono ⟨fun _ _ h => h.elim, fun _ _ h => h, fun _ _ h => h, fun _ _ h => h⟩
    | false => rw [if_neg Bool.false_ne_true]; exact wss_of pss_nil (h2 rfl F1 e0 σ H1 F2 (f.trans s1) g1 (en.mono s1)))
/-- an if at the end of a block -/
theorem ss_ifE (hc : Et X ρ M c M1 k) (h1 : k = true → SS X F0 ρ M1 tb T) (h2 : k = false → SS X F0 ρ M1 eb T) : SS X F0 ρ M [.If c tb eb pos] T := fun F1 e0 σ H F f hd en =>
  wss_of (pss_one (ps_if pt_w pss_w pss_w)) (hc σ H F _ hd en fun F2 H1 s1 g1 => by
    cases k with
    | true => rw [if_pos rfl]; exact h1 rfl F1 e0 σ H1 F2 (f.trans s1) g1 (en.mono s1)
    | false => rw [if_neg Bool.false_ne_true]; exact h2 rfl F1 e0 σ H1 F2 (f.trans s1) g1 (en.mono s1))
/-! ### and, or -/
variable {k' t : Bool}
def WW (X : Cx) (e : Expr) : TT := fun σ H Q => ∃ (t : TT) (Q1 : Bool → Hp → Prop), PW X e t ∧ (∀ v H, Q1 v H → Q v H) ∧ t σ H Q1
theorem pw_w : PW X e (WW X e) := ⟨fun wh pins s σ H Q I ⟨t, Q1, a, b, c⟩ => thn (a.run wh pins s σ H Q1 I c) fun _ _ ⟨H', I', q⟩ => ⟨H', I', b _ _ q⟩⟩
def Ew (X : Cx) (ρ : Rho) (M : Mem) (e : Expr) (M' : Mem) (b : Bool) : Prop :=
  ∀ σ H F (Q : Bool → Hp → Prop), Held F M H → EnvR F σ ρ → (∀ F' H', Same F F' → Held F' M' H' → Q b H') → WW X e σ H Q
theorem ww_of {t : TT} (h : PW X e t) {σ : L2.St} {H : Hp} {Q : Bool → Hp → Prop} (q : t σ H Q) : WW X e σ H Q := ⟨t, Q, h, fun _ _ h => h, q⟩
theorem et_w (h : Ew X ρ M e M1 k) : Et X ρ M e M1 k := fun σ H F Q hd en q => wt_of (PW.pt pw_w) (h σ H F Q hd en q)
theorem ew_and1 (h : Et X ρ M a M1 k) : Ew X ρ M (.BoolOp .And [a] pos) M1 k := fun σ H F Q hd en q => ww_of (pw_and1 pt_w) (h σ H F Q hd en q)
theorem ew_or1 (h : Et X ρ M a M1 k) : Ew X ρ M (.BoolOp .Or [a] pos) M1 k := fun σ H F Q hd en q => ww_of (pw_or1 pt_w) (h σ H F Q hd en q)
theorem ew_andC (h1 : Et X ρ M a M1 k) (h2 : k = true → Ew X ρ M1 (.BoolOp .And (b :: es) pos) M2 t) (h3 : k = false → M1 = M2 ∧ t = false) : Ew X ρ M (.BoolOp .And (a :: b :: es) pos) M2 t := fun σ H F Q hd en q =>
  ww_of (pw_and pt_w pw_w) (h1 σ H F _ hd en fun F1 H1 s1 g1 => by
    cases k with
    | true => rw [if_pos rfl]; exact h2 rfl σ H1 F1 Q g1 (en.mono s1) fun F2 H2 s2 g2 => q F2 H2 (s1.trans s2) g2
    | false =>
      obtain ⟨e1, e2⟩ := h3 rfl
      subst e1 e2
      rw [if_neg Bool.false_ne_true]; exact q F1 H1 s1 g1)
theorem ew_orC (h1 : Et X ρ M a M1 k) (h2 : k = false → Ew X ρ M1 (.BoolOp .Or (b :: es) pos) M2 t) (h3 : k = true → M1 = M2 ∧ t = true) : Ew X ρ M (.BoolOp .Or (a :: b :: es) pos) M2 t := fun σ H F Q hd en q =>
  ww_of (pw_or pt_w pw_w) (h1 σ H F _ hd en fun F1 H1 s1 g1 => by
    cases k with
    | false => rw [if_neg Bool.false_ne_true]; exact h2 rfl σ H1 F1 Q g1 (en.mono s1) fun F2 H2 s2 g2 => q F2 H2 (s1.trans s2) g2
    | true =>
      obtain ⟨e1, e2⟩ := h3 rfl
      subst e1 e2
      rw [if_pos rfl]; exact q F1 H1 s1 g1)
theorem ew_and (h1 : Et X ρ M a M1 k) (h2 : k = true → Ew X ρ M1 (.BoolOp .And (b :: es) pos) M1 k') : Ew X ρ M (.BoolOp .And (a :: b :: es) pos) M1 (k && k') :=
  ew_andC h1 (fun e => by subst e; exact h2 rfl) (fun e => by subst e; exact ⟨rfl, rfl⟩)
theorem ew_or (h1 : Et X ρ M a M1 k) (h2 : k = false → Ew X ρ M1 (.BoolOp .Or (b :: es) pos) M1 k') : Ew X ρ M (.BoolOp .Or (a :: b :: es) pos) M1 (k || k') :=
  ew_orC h1 (fun e => by subst e; exact h2 rfl) (fun e => by subst e; exact ⟨rfl, rfl⟩)
/-- .. as values -/
theorem ev_one {op} (h : Ev X ρ M a M1 (.val (rB k))) : Ev X ρ M (.BoolOp op [a] pos) M1 (.val (rB k)) := fun σ H F Q hd en q => we_of (pe_one pe_w) (h σ H F Q hd en q)
theorem ev_andC (h1 : Ev X ρ M a M1 (.val (rB k))) (h2 : k = true → Ev X ρ M1 (.BoolOp .And (b :: es) pos) M2 (.val (rB t))) (h3 : k = false → M1 = M2 ∧ t = false) : Ev X ρ M (.BoolOp .And (a :: b :: es) pos) M2 (.val (rB t)) := fun σ H F Q hd en q =>
  we_of (pe_and pe_w pe_w) (h1 σ H F _ hd en fun v F1 H1 s1 g1 r1 => ⟨k, r1, by
    cases k with
    | true => rw [if_pos rfl]; exact h2 rfl σ H1 F1 Q g1 (en.mono s1) (q.shift s1)
    | false =>
      obtain ⟨e1, e2⟩ := h3 rfl
      subst e1 e2
      rw [if_neg Bool.false_ne_true]; exact q _ F1 H1 s1 g1 rfl⟩)
theorem ev_orC (h1 : Ev X ρ M a M1 (.val (rB k))) (h2 : k = false → Ev X ρ M1 (.BoolOp .Or (b :: es) pos) M2 (.val (rB t))) (h3 : k = true → M1 = M2 ∧ t = true) : Ev X ρ M (.BoolOp .Or (a :: b :: es) pos) M2 (.val (rB t)) := fun σ H F Q hd en q =>
  we_of (pe_or pe_w pe_w) (h1 σ H F _ hd en fun v F1 H1 s1 g1 r1 => ⟨k, r1, by
    cases k with
    | false => rw [if_neg Bool.false_ne_true]; exact h2 rfl σ H1 F1 Q g1 (en.mono s1) (q.shift s1)
    | true =>
      obtain ⟨e1, e2⟩ := h3 rfl
      subst e1 e2
      rw [if_pos rfl]; exact q _ F1 H1 s1 g1 rfl⟩)
theorem ev_andB (h1 : Ev X ρ M a M1 (.val (rB k))) (h2 : k = true → Ev X ρ M1 (.BoolOp .And (b :: es) pos) M1 (.val (rB k'))) : Ev X ρ M (.BoolOp .And (a :: b :: es) pos) M1 (.val (rB (k && k'))) :=
  ev_andC h1 (fun e => by subst e; exact h2 rfl) (fun e => by subst e; exact ⟨rfl, rfl⟩)
theorem ev_orB (h1 : Ev X ρ M a M1 (.val (rB k))) (h2 : k = false → Ev X ρ M1 (.BoolOp .Or (b :: es) pos) M1 (.val (rB k'))) : Ev X ρ M (.BoolOp .Or (a :: b :: es) pos) M1 (.val (rB (k || k'))) :=
  ev_orC h1 (fun e => by subst e; exact h2 rfl) (fun e => by subst e; exact ⟨rfl, rfl⟩)
theorem ev_notB (h1 : Ev X ρ M a M1 (.val (rB k))) : Ev X ρ M (.UnaryOp .Not a pos) M1 (.val (rB (!k))) := fun σ H F Q hd en q =>
  we_of (pe_not pe_w) (h1 σ H F _ hd en fun v F1 H1 s1 g1 r1 => ⟨k, r1, q _ F1 H1 s1 g1 rfl⟩)
theorem ev_ifx (hc : Et X ρ M c M1 k) (h1 : k = true → Ev X ρ M1 a M2 r) (h2 : k = false → Ev X ρ M1 b M2 r) : Ev X ρ M (.IfExp c a b pos) M2 r := fun σ H F Q hd en q =>
  we_of (pe_ifExp pt_w pe_w pe_w) (hc σ H F _ hd en fun F1 H1 s1 g1 => by
    cases k with
    | true => rw [if_pos rfl]; exact h1 rfl σ H1 F1 Q g1 (en.mono s1) (q.shift s1)
    | false => rw [if_neg Bool.false_ne_true]; exact h2 rfl σ H1 F1 Q g1 (en.mono s1) (q.shift s1))
end

/-! ### for -/
section
variable {X : Cx} {F0 : Hp} {ρ : Rho} {M M1 : Mem} {e iter : Expr} {pos px : Pos} {R : VR} {Rs : List VR} {i : Nat} {x : Str} {rest body : List Stmt} {T : Ts} {α β ρ' : Type}
/-- the ends of a turn from the control c: what the mirror of the turn gives -/
def turnT (St : β → Rho) (Mm : β → Mem) (c : Ctl β ρ') (T : Ts) : Ts := fun F1 => {
  nx := fun σ H => ∃ s, c = .nx s ∧ At F1 (St s) (Mm s) σ H
  ct := fun σ H => ∃ s, c = .nx s ∧ At F1 (St s) (Mm s) σ H
  bk := fun σ H => ∃ s, c = .bk s ∧ At F1 (St s) (Mm s) σ H
  rt := (T F1).rt }
theorem forC_suffix {f : β → α → Option (Ctl β ρ')} {xs : List α} {j : Nat} {y : α} {s : β} {out : Ctl β ρ'} (hx : xs[j]? = some y) (h : forC f (xs.drop j) s = some out) :
    ∃ c, f s y = some c ∧ (∀ s', c = .nx s' → forC f (xs.drop (j + 1)) s' = some out) ∧ (∀ s', c = .bk s' → out = .nx s') ∧ (∀ r, c = .rt r → out = .rt r) := by
  have e : xs.drop j = y :: xs.drop (j + 1) := by
    obtain ⟨hlt, e⟩ := List.getElem?_eq_some_iff.mp hx
    rw [← e]; exact List.drop_eq_getElem_cons hlt
  rw [e] at h
  have h : ((f s y).bind fun c => match c with | .nx s' => forC f (xs.drop (j + 1)) s' | .bk s' => some (.nx s') | .rt r => some (.rt r)) = some out := h
  cases e2 : f s y with
  | none => rw [e2] at h; cases h
  | some c =>
    rw [e2] at h
    refine ⟨c, rfl, fun s' e => ?_, fun s' e => ?_, fun r e => ?_⟩
    · subst e; exact h
    · subst e; exact (Option.some.inj h).symm
    · subst e; exact (Option.some.inj h).symm
theorem loopM_forC {f : β → α → Option β} : ∀ (xs : List α) (s : β), forC (ρ := Unit) (fun s x => (f s x).map Ctl.nx) xs s = (loopM f xs s).map Ctl.nx
  | [], s => rfl
  | x :: xs, s => by
    show ((f s x).map Ctl.nx).bind _ = ((f s x).bind (loopM f xs)).map Ctl.nx
    cases f s x with
    | none => rfl
    | some t => exact loopM_forC xs t
theorem turn_le {St : β → Rho} {Mm : β → Mem} {c : Ctl β ρ'} {F1 : Hp} {D D' : Ends} (h1 : ∀ s σ H, c = .nx s → At F1 (St s) (Mm s) σ H → D'.nx σ H) (h2 : ∀ s σ H, c = .nx s → At F1 (St s) (Mm s) σ H → D'.ct σ H) (h3 : ∀ s σ H, c = .bk s → At F1 (St s) (Mm s) σ H → D'.bk σ H) (h4 : D'.rt = D.rt) :
    EndsLe { nx := fun σ H => ∃ s, c = .nx s ∧ At F1 (St s) (Mm s) σ H, ct := fun σ H => ∃ s, c = .nx s ∧ At F1 (St s) (Mm s) σ H, bk := fun σ H => ∃ s, c = .bk s ∧ At F1 (St s) (Mm s) σ H, rt := D.rt } D' :=
  ⟨fun σ H ⟨s, e, a⟩ => h1 s σ H e a, fun v H q => by rw [h4]; exact q, fun σ H ⟨s, e, a⟩ => h3 s σ H e a, fun σ H ⟨s, e, a⟩ => h2 s σ H e a⟩
/-- for x in (a list that stands through the loop); hL: the list is there at each turn -/
theorem ss_forC (i : Nat) (nd : X.N.Nodup) (xs : List α) (g : α → VR) (St : β → Rho) (Mm : β → Mem) (f : β → α → Option (Ctl β ρ')) {s0 : β} {out : Ctl β ρ'} (hm : forC f xs s0 = some out)
    (he : Ev X ρ M iter M1 (.val R)) (hL1 : IsL X.K M1 R (xs.map g)) (hL : ∀ s, IsL X.K (Mm s) R (xs.map g)) (h0 : Le ρ (St s0)) (h0M : List.Sublist (Mm s0) M1)
    (turn : ∀ s y c, y ∈ xs → f s y = some c → (∀ r, c = .rt r → out = .rt r) → SS X F0 ((St s).set i (some (g y))) (Mm s) body (turnT St Mm c T))
    (h : ∀ s, out = .nx s → SS X F0 (St s) (Mm s) rest T)
    (hp : PassesOwn (model X.prog X.w) X.A X.env X.xe := by exact PassesOwn.never) (hc : X.calm = true := by rfl) (hi : X.N[i]? = some x := by rfl) (hx : Loc X.env.scope x := by first | exact Or.inl rfl | exact Or.inr rfl)
    (hf : X.fn x = true ∨ X.env.scope.names.lookup x = some .local := by first | exact .inl rfl | exact .inr rfl) (hs : ∀ x, foldedSetIterable iter X.env x = pure x := by intro _; rfl) (hrt : ∀ F F', (T F).rt = (T F').rt := by intros; rfl) : SS X F0 ρ M (.For (.Name x px) iter body [] pos :: rest) T := fun F1 e0 σ H F f0 hd en => by
  refine wss_of (pss_cons (ps_for hp hc (pi_list pe_w) (pg_name nd hi hx hf) pss_w hs) pss_w) (he σ H F _ hd en fun v F2 H1 s1 h1 r1 => ?_)
  obtain ⟨a, vs, rfl, hq, rs, hz⟩ := hL1 F2 H1 v h1 r1
  refine ⟨a, rfl, ⟨_, hq⟩, fun j m σ' H' => m = xs.length - j ∧ j ≤ xs.length ∧ ∃ s, forC f (xs.drop j) s = some out ∧ ∃ F', Same F2 F' ∧ Held F' (Mm s) H' ∧ EnvR F' σ' (St s), ?_, ?_⟩
  · exact ⟨xs.length, by simp, Nat.zero_le _, s0, by rw [List.drop_zero]; exact hm, F2, Same.refl F2, h1.sub h0M, (en.mono s1).le h0⟩
  rintro j m σ' H' ⟨rfl, hj, s, hs', F', e1, hd', en'⟩
  obtain ⟨a', vs', ea, hq', rs', hz'⟩ := hL s F' H' _ hd' (R.mono e1 r1)
  cases ea
  have hlen : vs'.length = xs.length := by rw [rs'.length, List.length_map]
  by_cases hlt : j < xs.length
  · have hv : vs'[j]? = some (vs'[j]'(by omega)) := List.getElem?_eq_getElem (by omega)
    refine .inr ⟨⟨vs', _, hq', hv⟩, fun σ2 H2 => ∃ s', forC f (xs.drop (j + 1)) s' = some out ∧ ∃ F', Same F2 F' ∧ Held F' (Mm s') H2 ∧ EnvR F' σ2 (St s'), fun σ2 H2 q => ⟨xs.length - (j + 1), by omega, rfl, hlt, q⟩, fun x H2 y => ?_⟩
    obtain ⟨e, y⟩ := y
    subst e
    have ex := y vs' hq'
    obtain ⟨R', hR', rv⟩ := rs'.getV ex
    rw [List.getElem?_map] at hR'
    cases hy : xs[j]? with
    | none => rw [hy] at hR'; cases hR'
    | some z =>
      rw [hy] at hR'
      cases hR'
      obtain ⟨c, hc, hn, hb, hr⟩ := forC_suffix hy hs'
      refine (turn s z c (List.mem_of_getElem? hy) hc hr F' (((e0.trans f0).trans s1).trans e1) _ _ F' (Same.refl F') hd' (EnvR.set rv i en')).mono (turn_le (D := T F') (fun s' σ2 H2 e ⟨F3, q1, q2, q3⟩ => ?_) (fun s' σ2 H2 e ⟨F3, q1, q2, q3⟩ => ?_) (fun s' σ2 H2 e ⟨F3, q1, q2, q3⟩ => ?_) ?_)
      · exact ⟨s', hn s' e, F3, e1.trans q1, q2, q3⟩
      · exact ⟨s', hn s' e, F3, e1.trans q1, q2, q3⟩
      · exact h s' (hb s' e) F1 e0 σ2 H2 F3 ((f0.trans s1).trans (e1.trans q1)) q2 q3
      · exact hrt F1 F'
  · have e : j = xs.length := by omega
    subst e
    rw [List.drop_length] at hs'
    exact .inl ⟨⟨vs', hq', by omega⟩, h s (Option.some.inj hs').symm F1 e0 σ' H' F' ((f0.trans s1).trans e1) hd' en'⟩
/-- .. without break and return -/
theorem turnT_nx {St : β → Rho} {Mm : β → Mem} {s : β} (h : SS X F0 ρ M body (nxT (fun F1 => { T F1 with ct := At F1 (St s) (Mm s), bk := fun _ _ => False }) (St s) (Mm s))) : SS X F0 ρ M body (turnT (ρ' := ρ') St Mm (.nx s) T) :=
  h.le fun F1 _ => ⟨fun σ H q => ⟨s, rfl, q⟩, fun _ _ q => q, fun _ _ q => q.elim, fun σ H q => ⟨s, rfl, q⟩⟩
theorem ss_forM (i : Nat) (nd : X.N.Nodup) (xs : List α) (g : α → VR) (St : β → Rho) (Mm : β → Mem) (f : β → α → Option β) {s0 out : β} (hm : loopM f xs s0 = some out)
    (he : Ev X ρ M iter M1 (.val R)) (hL1 : IsL X.K M1 R (xs.map g)) (hL : ∀ s, IsL X.K (Mm s) R (xs.map g)) (h0 : Le ρ (St s0)) (h0M : List.Sublist (Mm s0) M1)
    (turn : ∀ s y s', y ∈ xs → f s y = some s' → SS X F0 ((St s).set i (some (g y))) (Mm s) body (nxT (fun F1 => { T F1 with ct := At F1 (St s') (Mm s'), bk := fun _ _ => False }) (St s') (Mm s')))
    (h : SS X F0 (St out) (Mm out) rest T)
    (hp : PassesOwn (model X.prog X.w) X.A X.env X.xe := by exact PassesOwn.never) (hc : X.calm = true := by rfl) (hi : X.N[i]? = some x := by rfl) (hx : Loc X.env.scope x := by first | exact Or.inl rfl | exact Or.inr rfl)
    (hf : X.fn x = true ∨ X.env.scope.names.lookup x = some .local := by first | exact .inl rfl | exact .inr rfl) (hs : ∀ x, foldedSetIterable iter X.env x = pure x := by intro _; rfl) (hrt : ∀ F F', (T F).rt = (T F').rt := by intros; rfl) : SS X F0 ρ M (.For (.Name x px) iter body [] pos :: rest) T :=
  ss_forC (ρ' := Unit) i nd xs g St Mm (fun s x => (f s x).map Ctl.nx) (out := .nx out) (by rw [loopM_forC, hm]; rfl) he hL1 hL h0 h0M (fun s y c hy hc _ => by
    cases e : f s y with
    | none => rw [e] at hc; cases hc
    | some s' => rw [e] at hc; cases hc; exact turnT_nx (turn s y s' hy e)) (fun s e => by cases e; exact h) hp hc hi hx hf hs hrt

/-! ### for over a range -/
def rng (lo : Int) (n : Nat) : List Int := (List.range n).map fun (k : Nat) => lo + (k : Int)
theorem rng_get {lo : Int} {n j : Nat} (h : j < n) : (rng lo n)[j]? = some (lo + (j : Int)) := by
  unfold rng
  rw [List.getElem?_map, List.getElem?_range h]
  rfl
theorem rng_len (lo : Int) (n : Nat) : (rng lo n).length = n := by unfold rng; rw [List.length_map, List.length_range]
theorem rng_mem {lo : Int} {n : Nat} {x : Int} : x ∈ rng lo n ↔ lo ≤ x ∧ x < lo + n := by
  unfold rng
  rw [List.mem_map]
  constructor
  · rintro ⟨k, hk, rfl⟩
    have := List.mem_range.mp hk
    omega
  · rintro ⟨h1, h2⟩
    have e : lo + ((x - lo).toNat : Int) = x := by omega
    exact ⟨(x - lo).toNat, List.mem_range.mpr (by omega), e⟩
/-- range(..) as what is walked: lo, n -/
def Er (X : Cx) (ρ : Rho) (M : Mem) (e : Expr) (M' : Mem) (lo : Int) (n : Nat) : Prop :=
  ∀ tg, ∃ wi : TI, PI X tg e wi ∧ ∀ σ H F (Q : It → Hp → Prop), Held F M H → EnvR F σ ρ → (∀ F' H', Same F F' → Held F' M' H' → Q (Itr lo n) H') → wi σ H Q
theorem er_1 {a : Expr} {p : Pos} {k : Int} (z : X.mg "range" = none) (ha : Ev X ρ M a M1 (.val (rI k))) (hb : k < 2 ^ 62) (h0 : -(2 ^ 62) ≤ k := by omega) (hg : Gl X "range" := by rfl) (hs : starEach [a] X.env = [(false, eval a X.env)] := by rfl) : Er X ρ M (.Call (.Name "range" p) [a] [] pos) M1 0 k.toNat :=
  fun tg => ⟨_, pi_range1 hg z (pa_cons pe_w pa_nil hs) hs, fun σ H F Q hd en q => ha σ H F _ hd en fun v F1 H1 s1 h1 r1 => ⟨k, by rw [show v = V.int k from r1], h0, hb, q F1 H1 s1 h1⟩⟩
theorem er_2 {a b : Expr} {M2 : Mem} {p : Pos} {k l : Int} (z : X.mg "range" = none) (ha : Ev X ρ M a M1 (.val (rI k))) (hb : Ev X ρ M1 b M2 (.val (rI l))) (hk : -(2 ^ 62) ≤ k ∧ k < 2 ^ 62 ∧ -(2 ^ 62) ≤ l ∧ l < 2 ^ 62) (hg : Gl X "range" := by rfl) (hs : starEach [a, b] X.env = [(false, eval a X.env), (false, eval b X.env)] := by rfl)
    (hs2 : starEach [b] X.env = [(false, eval b X.env)] := by rfl) : Er X ρ M (.Call (.Name "range" p) [a, b] [] pos) M2 k (l - k).toNat :=
  fun tg => ⟨_, pi_range2 hg z (pa_cons pe_w (pa_cons pe_w pa_nil hs2) (by rw [hs, hs2])) hs hs2, fun σ H F Q hd en q => ha σ H F _ hd en fun v F1 H1 s1 h1 r1 => hb σ H1 F1 _ h1 (en.mono s1) fun w F2 H2 s2 h2 r2 => ⟨k, l, by rw [show v = V.int k from r1, show w = V.int l from r2], hk, q F2 H2 (s1.trans s2) h2⟩⟩
theorem ss_forRC (i : Nat) (nd : X.N.Nodup) {lo : Int} {n : Nat} (St : β → Rho) (Mm : β → Mem) (f : β → Int → Option (Ctl β ρ')) {s0 : β} {out : Ctl β ρ'} (hm : forC f (rng lo n) s0 = some out)
    (he : Er X ρ M iter M1 lo n) (h0 : Le ρ (St s0)) (h0M : List.Sublist (Mm s0) M1)
    (turn : ∀ s y c, lo ≤ y → y < lo + n → f s y = some c → (∀ r, c = .rt r → out = .rt r) → SS X F0 ((St s).set i (some (rI y))) (Mm s) body (turnT St Mm c T))
    (h : ∀ s, out = .nx s → SS X F0 (St s) (Mm s) rest T)
    (hp : PassesOwn (model X.prog X.w) X.A X.env X.xe := by exact PassesOwn.never) (hc : X.calm = true := by rfl) (hi : X.N[i]? = some x := by rfl) (hx : Loc X.env.scope x := by first | exact Or.inl rfl | exact Or.inr rfl)
    (hf : X.fn x = true ∨ X.env.scope.names.lookup x = some .local := by first | exact .inl rfl | exact .inr rfl) (hs : ∀ x, foldedSetIterable iter X.env x = pure x := by intro _; rfl) (hrt : ∀ F F', (T F).rt = (T F').rt := by intros; rfl) : SS X F0 ρ M (.For (.Name x px) iter body [] pos :: rest) T := fun F1 e0 σ H F f0 hd en => by
  obtain ⟨wi, pi, hw⟩ := he (.Name x px)
  refine wss_of (pss_cons (ps_for hp hc pi (pg_name nd hi hx hf) pss_w hs) pss_w) (hw σ H F _ hd en fun F2 H1 s1 h1 => ?_)
  refine ⟨fun j m σ' H' => m = n - j ∧ j ≤ n ∧ ∃ s, forC f ((rng lo n).drop j) s = some out ∧ ∃ F', Same F2 F' ∧ Held F' (Mm s) H' ∧ EnvR F' σ' (St s), ?_, ?_⟩
  · exact ⟨n, by simp, Nat.zero_le _, s0, by rw [List.drop_zero]; exact hm, F2, Same.refl F2, h1.sub h0M, (en.mono s1).le h0⟩
  rintro j m σ' H' ⟨rfl, hj, s, hs', F', e1, hd', en'⟩
  by_cases hlt : j < n
  · refine .inr ⟨hlt, fun σ2 H2 => ∃ s', forC f ((rng lo n).drop (j + 1)) s' = some out ∧ ∃ F', Same F2 F' ∧ Held F' (Mm s') H2 ∧ EnvR F' σ2 (St s'), fun σ2 H2 q => ⟨n - (j + 1), by omega, rfl, hlt, q⟩, fun x H2 y => ?_⟩
    obtain ⟨e, y⟩ := y
    subst e y
    obtain ⟨c, hc, hn, hb, hr⟩ := forC_suffix (rng_get hlt) hs'
    refine (turn s (lo + j) c (by omega) (by omega) hc hr F' (((e0.trans f0).trans s1).trans e1) _ _ F' (Same.refl F') hd' (EnvR.set (R := rI (lo + j)) rfl i en')).mono (turn_le (D := T F') (fun s' σ2 H2 e ⟨F3, q1, q2, q3⟩ => ?_) (fun s' σ2 H2 e ⟨F3, q1, q2, q3⟩ => ?_) (fun s' σ2 H2 e ⟨F3, q1, q2, q3⟩ => ?_) ?_)
    · exact ⟨s', hn s' e, F3, e1.trans q1, q2, q3⟩
    · exact ⟨s', hn s' e, F3, e1.trans q1, q2, q3⟩
    · exact h s' (hb s' e) F1 e0 σ2 H2 F3 ((f0.trans s1).trans (e1.trans q1)) q2 q3
    · exact hrt F1 F'
  · have e : j = n := by omega
    subst e
    rw [show (rng lo j).drop j = [] from List.drop_eq_nil_of_le (by rw [rng_len]; exact Nat.le_refl _)] at hs'
    exact .inl ⟨Nat.le_refl _, h s (Option.some.inj hs').symm F1 e0 σ' H' F' ((f0.trans s1).trans e1) hd' en'⟩
theorem ss_forRM (i : Nat) (nd : X.N.Nodup) {lo : Int} {n : Nat} (St : β → Rho) (Mm : β → Mem) (f : β → Int → Option β) {s0 out : β} (hm : loopM f (rng lo n) s0 = some out)
    (he : Er X ρ M iter M1 lo n) (h0 : Le ρ (St s0)) (h0M : List.Sublist (Mm s0) M1)
    (turn : ∀ s y s', lo ≤ y → y < lo + n → f s y = some s' → SS X F0 ((St s).set i (some (rI y))) (Mm s) body (nxT (fun F1 => { T F1 with ct := At F1 (St s') (Mm s'), bk := fun _ _ => False }) (St s') (Mm s')))
    (h : SS X F0 (St out) (Mm out) rest T)
    (hp : PassesOwn (model X.prog X.w) X.A X.env X.xe := by exact PassesOwn.never) (hc : X.calm = true := by rfl) (hi : X.N[i]? = some x := by rfl) (hx : Loc X.env.scope x := by first | exact Or.inl rfl | exact Or.inr rfl)
    (hf : X.fn x = true ∨ X.env.scope.names.lookup x = some .local := by first | exact .inl rfl | exact .inr rfl) (hs : ∀ x, foldedSetIterable iter X.env x = pure x := by intro _; rfl) (hrt : ∀ F F', (T F).rt = (T F').rt := by intros; rfl) : SS X F0 ρ M (.For (.Name x px) iter body [] pos :: rest) T :=
  ss_forRC (ρ' := Unit) i nd St Mm (fun s x => (f s x).map Ctl.nx) (out := .nx out) (by rw [loopM_forC, hm]; rfl) he h0 h0M (fun s y c hy hy2 hc _ => by
    cases e : f s y with
    | none => rw [e] at hc; cases hc
    | some s' => rw [e] at hc; cases hc; exact turnT_nx (turn s y s' hy hy2 e)) (fun s e => by cases e; exact h) hp hc hi hx hf hs hrt
end
end Pw

namespace Pw
open PySem PySem.Spec PyProof.Rows L2
open Dat (rp)

/-! ### list comprehensions -/
/-- the block of a comprehension at work -/
abbrev Blk (X : Cx) (scope : Scope) (s : Shared) (H : Hp) (C : Addr) (cl : List (Str × Addr)) (fp : List Addr) : Cx := X.blk s H scope (compEnvC scope cl C X.env) fp
def BE (X : Cx) (scope : Scope) (e : Expr) : TE := fun σ H Q => ∀ s H0 C cl fp, WE (Blk X scope s H0 C cl fp) e σ H Q
theorem be_pe {X : Cx} {scope : Scope} {e : Expr} (s H0 C cl fp) : PE (Blk X scope s H0 C cl fp) e (BE X scope e) := ⟨fun pins sh σ H Q I h => pe_w.run pins sh σ H Q I (h s H0 C cl fp)⟩
structure WIf (X : Cx) (ifs : List Expr) (σ : L2.St) (H : Hp) (Q : Bool → Hp → Prop) : Prop where
  ex : ∃ (t : TT) (Q1 : Bool → Hp → Prop), PTs X ifs t ∧ (∀ v H, Q1 v H → Q v H) ∧ t σ H Q1
theorem pts_w {X : Cx} {ifs : List Expr} : PTs X ifs (WIf X ifs) := ⟨fun pins s σ H Q I ⟨⟨t, Q1, a, b, c⟩⟩ => thn (a.run pins s σ H Q1 I c) fun _ _ ⟨H', I', q⟩ => ⟨H', I', b _ _ q⟩⟩
def BI (X : Cx) (scope : Scope) (ifs : List Expr) : TT := fun σ H Q => ∀ s H0 C cl fp, WIf (Blk X scope s H0 C cl fp) ifs σ H Q
theorem bi_pts {X : Cx} {scope : Scope} {ifs : List Expr} (s H0 C cl fp) : PTs (Blk X scope s H0 C cl fp) ifs (BI X scope ifs) := ⟨fun pins sh σ H Q I h => pts_w.run pins sh σ H Q I (h s H0 C cl fp)⟩
/-- one turn: the tests, the element; M1 between -/
def Ec (X : Cx) (ρ : Rho) (M : Mem) (ifs : List Expr) (elt : Expr) (o : Option VR) (M1 M' : Mem) : Prop :=
  (∀ σ H F (Q : Bool → Hp → Prop), Held F M H → EnvR F σ ρ → (∀ F' H', Same F F' → Held F' M1 H' → Q o.isSome H') → WIf X ifs σ H Q) ∧ (o = none → M1 = M') ∧ ∀ R, o = some R → Ev X ρ M1 elt M' (.val R)
section
variable {X : Cx} {F0 : Hp} {ρ : Rho} {M M1 M2 M' : Mem} {c e iter elt : Expr} {ifs : List Expr} {pos px spos py : Pos} {R : VR} {i : Nat} {x : Str} {rest : List Stmt} {T : Ts} {α β γ : Type} {scope : Scope} {o : Option VR} {k : Bool}
theorem ec_all (h : Ev X ρ M elt M' (.val R)) : Ec X ρ M [] elt (some R) M M' :=
  ⟨fun σ H F Q hd en q => ⟨_, Q, pts_nil, fun _ _ h => h, q F H (Same.refl F) hd⟩, (fun z => by cases z), fun R' e => by cases e; exact h⟩
theorem ec_if (hc : Et X ρ M c M1 k) (h1 : k = true → ∃ R, o = some R ∧ Ev X ρ M1 elt M' (.val R)) (h2 : k = false → o = none ∧ M1 = M') : Ec X ρ M [c] elt o M1 M' := by
  cases k with
  | true =>
    obtain ⟨R, rfl, h⟩ := h1 rfl
    exact ⟨fun σ H F Q hd en q => ⟨_, Q, pts_one pt_w, fun _ _ h => h, hc σ H F Q hd en q⟩, (fun z => by cases z), fun R' e => by cases e; exact h⟩
  | false =>
    obtain ⟨rfl, e⟩ := h2 rfl
    exact ⟨fun σ H F Q hd en q => ⟨_, Q, pts_one pt_w, fun _ _ h => h, hc σ H F Q hd en q⟩, fun _ => e, fun R' e => by cases e⟩
theorem EnvR.wipe {F : Hp} {ρ : Rho} : ∀ {σ : L2.St} {ρ : Rho} (i : Nat), EnvR F σ ρ → EnvR F (σ.set i none) (ρ.set i none)
  | [], [], _, _ => trivial
  | o :: σ, _ :: ρ, 0, h => ⟨trivial, h.2⟩
  | o :: σ, _ :: ρ, i + 1, h => ⟨h.1, EnvR.wipe (ρ := ρ) i h.2⟩
  | [], _ :: _, _, h => h.elim
  | _ :: _, [], _, h => h.elim
theorem wipe1 (σ : L2.St) (i : Nat) (v : Option V) : L2.wipe ((L2.wipe σ [i]).set i v) [i] = L2.wipe σ [i] := by
  show ((σ.set i none).set i v).set i none = σ.set i none
  rw [List.set_set, List.set_set]
theorem Held.setLast {F : Hp} {M : Mem} {H : Hp} {a : Addr} {A A' : HR} {o : HO} (h : Held F (M ++ [(a, A)]) H) (r : A'.p F o) : Held F (M ++ [(a, A')]) (upd H a o) := by
  have e : (M ++ [(a, A)])[M.length]? = some (a, A) := by simp
  have := h.set e r
  have e2 : (M ++ [(a, A)]).set M.length (a, A') = M ++ [(a, A')] := by simp
  rw [e2] at this
  exact this
/-- the walk of a comprehension over a list, whatever takes the new list -/
theorem lc_run {f : β → α → Option (Option γ × β)} {xs : List α} {s0 sf : β} {ys : List γ} (hm : compM f xs s0 = some (ys, sf)) (g : α → VR) (h : γ → VR) (Mm : β → Mem) {R : VR} {σ : L2.St} {F H : Hp} {v : V} {Q : VK}
    (hR : R.p F v) (hL : ∀ s Mx, IsL X.K (Mm s ++ Mx) R (xs.map g)) (hd : Held F (Mm s0) H) (en : EnvR F σ ρ)
    (turn : ∀ b y u Mx, y ∈ xs → f b y = some u → ∃ M1, ∀ s H0 C cl fp, Ec (Blk X scope s H0 C cl fp) (ρ.set i (some (g y))) (Mm b ++ Mx) ifs elt (u.1.map h) M1 (Mm u.2 ++ Mx))
    (q : ∀ D F' H', Same F F' → Held F' ((D, Pw.hL (ys.map h)) :: Mm sf) H' → Q (.ref D) H') :
    ∃ a, v = .ref a ∧ (∃ xs, SqL X.K H a xs) ∧ ∀ D, H D = none → ∃ W : Nat → Nat → Hp → Prop, (∃ m, W 0 m (upd H D (.lst []))) ∧ ∀ i_1 m H_1, W i_1 m H_1 →
      ((Itl X.K a).stop i_1 H_1 ∧ Q (.ref D) H_1) ∨ ((Itl X.K a).go i_1 H_1 ∧ ∃ Nx : Hp → Prop, (∀ H', Nx H' → ∃ m', m' < m ∧ W (i_1 + 1) m' H') ∧ ∀ x H', (Itl X.K a).yld i_1 H_1 x H' → gName i x (L2.wipe σ [i]) H' fun σ2 H2 => L2.wipe σ2 [i] = L2.wipe σ [i] ∧ BI X scope ifs σ2 H2 fun b H3 =>
        if b = true then BE X scope elt σ2 H3 fun y H4 => ∃ acc, H4 D = some (.lst acc) ∧ acc.length < sizeLine ∧ Nx (upd H4 D (.lst (acc ++ [y]))) else Nx H3) := by
  have hL0 := hL s0 []
  rw [List.append_nil] at hL0
  obtain ⟨a, vs, rfl, hq, rs, hz⟩ := hL0 F H v hd hR
  refine ⟨a, rfl, ⟨_, hq⟩, fun D hD => ?_⟩
  have hlen : vs.length = xs.length := by rw [rs.length, List.length_map]
  obtain ⟨fD, nD⟩ := hd.fresh hD
  refine ⟨fun j m H' => m = xs.length - j ∧ j ≤ xs.length ∧ ∃ u, compM f (xs.take j) s0 = some u ∧ u.1.length ≤ j ∧ ∃ F', Same F F' ∧ Held F' (Mm u.2 ++ [(D, Pw.hL (u.1.map h))]) H', ?_, ?_⟩
  · refine ⟨xs.length, by simp, Nat.zero_le _, ([], s0), rfl, Nat.le_refl _, F, Same.refl F, ?_⟩
    exact (hd.alloc (A := Pw.hL []) hD ⟨[], rfl, .nil, Nat.zero_le _⟩).perm (List.perm_append_comm (l₁ := [_]) (l₂ := Mm s0))
  rintro j m H' ⟨rfl, hj, u, hu, hul, F', e1, hd'⟩
  obtain ⟨a', vs', ea, hq', rs', hz'⟩ := hL u.2 _ F' H' _ hd' (R.mono e1 hR)
  cases ea
  have hlen' : vs'.length = xs.length := by rw [rs'.length, List.length_map]
  by_cases hlt : j < xs.length
  · refine .inr ⟨⟨vs', _, hq', List.getElem?_eq_getElem (by omega)⟩, fun H2 => ∃ u, compM f (xs.take (j + 1)) s0 = some u ∧ u.1.length ≤ j + 1 ∧ ∃ F', Same F F' ∧ Held F' (Mm u.2 ++ [(D, Pw.hL (u.1.map h))]) H2, fun H2 q => ⟨xs.length - (j + 1), by omega, rfl, hlt, q⟩, fun x H2 y => ?_⟩
    obtain ⟨e, y⟩ := y
    subst e
    have ex := y vs' hq'
    obtain ⟨R', hR', rv⟩ := rs'.getV ex
    rw [List.getElem?_map] at hR'
    cases hy : xs[j]? with
    | none => rw [hy] at hR'; cases hR'
    | some z =>
      rw [hy] at hR'
      cases hR'
      obtain ⟨w, hw, hwl⟩ := compM_take hm (j + 1)
      have hw0 := hw
      rw [take_succ_of hy, compM_snoc, hu] at hw
      simp only [Option.bind_some] at hw
      cases hf : f u.2 z with
      | none => rw [hf] at hw; cases hw
      | some t =>
        rw [hf] at hw
        have hw : (u.1 ++ t.1.toList, t.2) = w := Option.some.inj hw
        subst hw
        refine ⟨wipe1 σ i _, ?_⟩
        have en2 : EnvR F' ((L2.wipe σ [i]).set i (some x)) (ρ.set i (some (g z))) := by
          have := EnvR.set rv i (EnvR.wipe (ρ := ρ) i (en.mono e1))
          rw [List.set_set (l := ρ)] at this
          exact this
        obtain ⟨M1, tn⟩ := turn u.2 z t [(D, Pw.hL (u.1.map h))] (List.mem_of_getElem? hy) hf
        intro s H0 C cl fp
        obtain ⟨ht, hnone, _⟩ := tn s H0 C cl fp
        refine ⟨(ht _ _ F' _ hd' en2 fun F3 H3 s3 h3 => ?_).ex⟩
        cases ht1 : t.1 with
        | none =>
          rw [ht1] at hnone hw0 hwl
          have em := hnone rfl
          subst em
          rw [show (Option.map h (none : Option γ)).isSome = false from rfl, if_neg Bool.false_ne_true]
          refine ⟨_, hw0, hwl, F3, e1.trans s3, ?_⟩
          show Held F3 (Mm t.2 ++ [(D, Pw.hL ((u.1 ++ []).map h))]) H3
          rw [List.append_nil]
          exact h3
        | some b =>
          rw [ht1] at hw0 hwl
          rw [show (Option.map h (some b)).isSome = true from rfl, if_pos rfl]
          intro s' H0' C' cl' fp'
          obtain ⟨_, _, he⟩ := tn s' H0' C' cl' fp'
          rw [ht1] at he
          refine he (h b) rfl _ H3 F3 _ h3 (en2.mono s3) fun y F4 H4 s4 h4 r4 => ?_
          obtain ⟨o, g1, ⟨acc, rfl, g2, g3⟩, _⟩ := h4.get (k := (Mm t.2).length) (a := D) (A := Pw.hL (u.1.map h)) (by simp)
          refine ⟨acc, g1, ?_, _, hw0, hwl, F4, (e1.trans s3).trans s4, ?_⟩
          · rw [g2.length, List.length_map]
            exact Nat.lt_of_lt_of_le (Nat.lt_of_le_of_lt hul (hlen ▸ hlt)) hz
          · refine h4.setLast ⟨_, rfl, ?_, ?_⟩
            · show Rps F4 _ ((u.1 ++ [b]).map h)
              rw [List.map_append]
              exact g2.app (.cons r4 .nil)
            · rw [List.length_append, g2.length, List.length_map]
              exact Nat.le_trans (Nat.succ_le_of_lt (Nat.lt_of_le_of_lt hul (hlen ▸ hlt))) hz
  · have e : j = xs.length := by omega
    subst e
    rw [List.take_length] at hu
    rw [hm] at hu
    cases hu
    exact .inl ⟨⟨vs', hq', by omega⟩, q D F' H' e1 (hd'.perm (List.perm_append_comm (l₁ := Mm sf) (l₂ := [_])))⟩
/-- .. over a range -/
theorem lc_runR {lo : Int} {n : Nat} {f : β → Int → Option (Option γ × β)} {s0 sf : β} {ys : List γ} (hm : compM f (rng lo n) s0 = some (ys, sf)) (hz : n ≤ sizeLine) (h : γ → VR) (Mm : β → Mem) {σ : L2.St} {F H : Hp} {Q : VK}
    (hd : Held F (Mm s0) H) (en : EnvR F σ ρ)
    (turn : ∀ b y u Mx, lo ≤ y → y < lo + n → f b y = some u → ∃ M1, ∀ s H0 C cl fp, Ec (Blk X scope s H0 C cl fp) (ρ.set i (some (rI y))) (Mm b ++ Mx) ifs elt (u.1.map h) M1 (Mm u.2 ++ Mx))
    (q : ∀ D F' H', Same F F' → Held F' ((D, Pw.hL (ys.map h)) :: Mm sf) H' → Q (.ref D) H') :
    ∀ D, H D = none → ∃ W : Nat → Nat → Hp → Prop, (∃ m, W 0 m (upd H D (.lst []))) ∧ ∀ i_1 m H_1, W i_1 m H_1 →
      ((Itr lo n).stop i_1 H_1 ∧ Q (.ref D) H_1) ∨ ((Itr lo n).go i_1 H_1 ∧ ∃ Nx : Hp → Prop, (∀ H', Nx H' → ∃ m', m' < m ∧ W (i_1 + 1) m' H') ∧ ∀ x H', (Itr lo n).yld i_1 H_1 x H' → gName i x (L2.wipe σ [i]) H' fun σ2 H2 => L2.wipe σ2 [i] = L2.wipe σ [i] ∧ BI X scope ifs σ2 H2 fun b H3 =>
        if b = true then BE X scope elt σ2 H3 fun y H4 => ∃ acc, H4 D = some (.lst acc) ∧ acc.length < sizeLine ∧ Nx (upd H4 D (.lst (acc ++ [y]))) else Nx H3) := by
  intro D hD
  obtain ⟨fD, nD⟩ := hd.fresh hD
  refine ⟨fun j m H' => m = n - j ∧ j ≤ n ∧ ∃ u, compM f ((rng lo n).take j) s0 = some u ∧ u.1.length ≤ j ∧ ∃ F', Same F F' ∧ Held F' (Mm u.2 ++ [(D, Pw.hL (u.1.map h))]) H', ?_, ?_⟩
  · refine ⟨n, by simp, Nat.zero_le _, ([], s0), rfl, Nat.le_refl _, F, Same.refl F, ?_⟩
    exact (hd.alloc (A := Pw.hL []) hD ⟨[], rfl, .nil, Nat.zero_le _⟩).perm (List.perm_append_comm (l₁ := [_]) (l₂ := Mm s0))
  rintro j m H' ⟨rfl, hj, u, hu, hul, F', e1, hd'⟩
  by_cases hlt : j < n
  · refine .inr ⟨hlt, fun H2 => ∃ u, compM f ((rng lo n).take (j + 1)) s0 = some u ∧ u.1.length ≤ j + 1 ∧ ∃ F', Same F F' ∧ Held F' (Mm u.2 ++ [(D, Pw.hL (u.1.map h))]) H2, fun H2 q => ⟨n - (j + 1), by omega, rfl, hlt, q⟩, fun x H2 y => ?_⟩
    obtain ⟨e, y⟩ := y
    subst e y
    have hy := rng_get (lo := lo) hlt
    obtain ⟨w, hw, hwl⟩ := compM_take hm (j + 1)
    have hw0 := hw
    rw [take_succ_of hy, compM_snoc, hu] at hw
    simp only [Option.bind_some] at hw
    cases hf : f u.2 (lo + j) with
    | none => rw [hf] at hw; cases hw
    | some t =>
      rw [hf] at hw
      have hw : (u.1 ++ t.1.toList, t.2) = w := Option.some.inj hw
      subst hw
      refine ⟨wipe1 σ i _, ?_⟩
      have en2 : EnvR F' ((L2.wipe σ [i]).set i (some (.int (lo + j)))) (ρ.set i (some (rI (lo + j)))) := by
        have := EnvR.set (R := rI (lo + j)) (v := .int (lo + j)) (F := F') rfl i (EnvR.wipe (ρ := ρ) i (en.mono e1))
        rw [List.set_set (l := ρ)] at this
        exact this
      obtain ⟨M1, tn⟩ := turn u.2 (lo + j) t [(D, Pw.hL (u.1.map h))] (by omega) (by omega) hf
      intro s H0 C cl fp
      obtain ⟨ht, hnone, _⟩ := tn s H0 C cl fp
      refine ⟨(ht _ _ F' _ hd' en2 fun F3 H3 s3 h3 => ?_).ex⟩
      cases ht1 : t.1 with
      | none =>
        rw [ht1] at hnone hw0 hwl
        have em := hnone rfl
        subst em
        rw [show (Option.map h (none : Option γ)).isSome = false from rfl, if_neg Bool.false_ne_true]
        refine ⟨_, hw0, hwl, F3, e1.trans s3, ?_⟩
        show Held F3 (Mm t.2 ++ [(D, Pw.hL ((u.1 ++ []).map h))]) H3
        rw [List.append_nil]
        exact h3
      | some b =>
        rw [ht1] at hw0 hwl
        rw [show (Option.map h (some b)).isSome = true from rfl, if_pos rfl]
        intro s' H0' C' cl' fp'
        obtain ⟨_, _, he⟩ := tn s' H0' C' cl' fp'
        rw [ht1] at he
        refine he (h b) rfl _ H3 F3 _ h3 (en2.mono s3) fun y F4 H4 s4 h4 r4 => ?_
        obtain ⟨o, g1, ⟨acc, rfl, g2, g3⟩, _⟩ := h4.get (k := (Mm t.2).length) (a := D) (A := Pw.hL (u.1.map h)) (by simp)
        refine ⟨acc, g1, ?_, _, hw0, hwl, F4, (e1.trans s3).trans s4, ?_⟩
        · rw [g2.length, List.length_map]
          exact Nat.lt_of_lt_of_le (Nat.lt_of_le_of_lt hul hlt) hz
        · refine h4.setLast ⟨_, rfl, ?_, ?_⟩
          · show Rps F4 _ ((u.1 ++ [b]).map h)
            rw [List.map_append]
            exact g2.app (.cons r4 .nil)
          · rw [List.length_append, g2.length, List.length_map]
            exact Nat.le_trans (Nat.succ_le_of_lt (Nat.lt_of_le_of_lt hul hlt)) hz
  · have e : j = n := by omega
    subst e
    rw [List.take_of_length_le (by rw [rng_len]; exact Nat.le_refl _)] at hu
    rw [hm] at hu
    cases hu
    exact .inl ⟨Nat.le_refl _, q D F' H' e1 (hd'.perm (List.perm_append_comm (l₁ := Mm sf) (l₂ := [_])))⟩
abbrev ownOf (x : Str) (i : Nat) : List (Str × Nat) := [(x, i)]
/-- [elt for x in a list if ..] -/
theorem ev_lc (i : Nat) (nd : X.N.Nodup) {f : β → α → Option (Option γ × β)} {xs : List α} {s0 sf : β} {ys : List γ} (hm : compM f xs s0 = some (ys, sf)) (g : α → VR) (h : γ → VR) (Mm : β → Mem)
    (he : Ev X ρ M iter (Mm s0) (.val R)) (hL : ∀ s Mx, IsL X.K (Mm s ++ Mx) R (xs.map g)) (ok : blkC X.N X.env.scope scope (ownOf x i) = true)
    (turn : ∀ b y u Mx, y ∈ xs → f b y = some u → ∃ M1, ∀ s H0 C cl fp, Ec (Blk X scope s H0 C cl fp) (ρ.set i (some (g y))) (Mm b ++ Mx) ifs elt (u.1.map h) M1 (Mm u.2 ++ Mx))
    (hc : X.calm = true := by rfl) (hi : X.N[i]? = some x := by rfl) (hx : ∀ s H C cl fp, Loc (Blk X scope s H C cl fp).env.scope x := by intro _ _ _ _ _; first | exact Or.inl rfl | exact Or.inr rfl)
    (hf : ∀ s H C cl fp, (Blk X scope s H C cl fp).fn x = true ∨ (Blk X scope s H C cl fp).env.scope.names.lookup x = some .local := by intro _ _ _ _ _; first | exact .inr rfl | exact .inl rfl)
    (hs : ∀ x, foldedSetIterable iter X.env x = pure x := by intro _; rfl) : Ev X ρ M (.ListComp elt [⟨.Name x px, iter, ifs, 0⟩] scope pos) (Mm sf) (.new (Pw.hL (ys.map h))) := fun σ H F Q hd en q =>
  we_of (pe_lc (own := ownOf x i) (g := gName i) (tt := BI X scope ifs) (te := BE X scope elt) hc nd (pi_list pe_w) (blkOk_by ok) (fun s H C cl fp => pg_name nd hi (hx s H C cl fp) (hf s H C cl fp)) bi_pts be_pe hs)
    (he σ H F _ hd en fun v F1 H1 s1 h1 r1 => lc_run hm g h Mm r1 hL h1 (en.mono s1) turn fun D F' H' e hd' => q D F' H' (s1.trans e) hd')
theorem ev_lcR (i : Nat) (nd : X.N.Nodup) {lo : Int} {n : Nat} {f : β → Int → Option (Option γ × β)} {s0 sf : β} {ys : List γ} (hm : compM f (rng lo n) s0 = some (ys, sf)) (hz : n ≤ sizeLine) (h : γ → VR) (Mm : β → Mem)
    (he : Er X ρ M iter (Mm s0) lo n) (ok : blkC X.N X.env.scope scope (ownOf x i) = true)
    (turn : ∀ b y u Mx, lo ≤ y → y < lo + n → f b y = some u → ∃ M1, ∀ s H0 C cl fp, Ec (Blk X scope s H0 C cl fp) (ρ.set i (some (rI y))) (Mm b ++ Mx) ifs elt (u.1.map h) M1 (Mm u.2 ++ Mx))
    (hc : X.calm = true := by rfl) (hi : X.N[i]? = some x := by rfl) (hx : ∀ s H C cl fp, Loc (Blk X scope s H C cl fp).env.scope x := by intro _ _ _ _ _; first | exact Or.inl rfl | exact Or.inr rfl)
    (hf : ∀ s H C cl fp, (Blk X scope s H C cl fp).fn x = true ∨ (Blk X scope s H C cl fp).env.scope.names.lookup x = some .local := by intro _ _ _ _ _; first | exact .inr rfl | exact .inl rfl)
    (hs : ∀ x, foldedSetIterable iter X.env x = pure x := by intro _; rfl) : Ev X ρ M (.ListComp elt [⟨.Name x px, iter, ifs, 0⟩] scope pos) (Mm sf) (.new (Pw.hL (ys.map h))) := fun σ H F Q hd en q => by
  obtain ⟨wi, pi, hw⟩ := he (.Name x px)
  exact we_of (pe_lc (own := ownOf x i) (g := gName i) (tt := BI X scope ifs) (te := BE X scope elt) hc nd pi (blkOk_by ok) (fun s H C cl fp => pg_name nd hi (hx s H C cl fp) (hf s H C cl fp)) bi_pts be_pe hs)
    (hw σ H F _ hd en fun F1 H1 s1 h1 => lc_runR hm hz h Mm h1 (en.mono s1) turn fun D F' H' e hd' => q D F' H' (s1.trans e) hd')
/-- y = [elt for x in ..] -/
theorem ss_lc (j i : Nat) (nd : X.N.Nodup) {y : Str} {f : β → α → Option (Option γ × β)} {xs : List α} {s0 sf : β} {ys : List γ} (hm : compM f xs s0 = some (ys, sf)) (g : α → VR) (h : γ → VR) (Mm : β → Mem)
    (he : Ev X ρ M iter (Mm s0) (.val R)) (hL : ∀ s Mx, IsL X.K (Mm s ++ Mx) R (xs.map g)) (ok : blkC X.N X.env.scope scope (ownOf x i) = true)
    (turn : ∀ b y u Mx, y ∈ xs → f b y = some u → ∃ M1, ∀ s H0 C cl fp, Ec (Blk X scope s H0 C cl fp) (ρ.set i (some (g y))) (Mm b ++ Mx) ifs elt (u.1.map h) M1 (Mm u.2 ++ Mx))
    (hr : ∀ q, SS X F0 (ρ.set j (some (rA q))) ((q, Pw.hL (ys.map h)) :: Mm sf) rest T)
    (hc : X.calm = true := by rfl) (hj : X.N[j]? = some y := by rfl) (hyl : X.env.scope.names.lookup y = some .local := by rfl) (hsw : swapsWith (.ListComp elt [⟨.Name x px, iter, ifs, 0⟩] scope pos) (some (.Name y py)) spos.line X.env = pure true := by exact sw_true rfl rfl rfl (by decide +kernel)) (hi : X.N[i]? = some x := by rfl) (hx : ∀ s H C cl fp, Loc (Blk X scope s H C cl fp).env.scope x := by intro _ _ _ _ _; first | exact Or.inl rfl | exact Or.inr rfl)
    (hf : ∀ s H C cl fp, (Blk X scope s H C cl fp).fn x = true ∨ (Blk X scope s H C cl fp).env.scope.names.lookup x = some .local := by intro _ _ _ _ _; first | exact .inr rfl | exact .inl rfl)
    (hs : ∀ x, foldedSetIterable iter X.env x = pure x := by intro _; rfl) : SS X F0 ρ M (.Assign [.Name y py] (.ListComp elt [⟨.Name x px, iter, ifs, 0⟩] scope pos) spos :: rest) T := fun F1 e0 σ H F f0 hd en =>
  wss_of (pss_cons (ps_setLc (own := ownOf x i) (g := gName i) (tt := BI X scope ifs) (te := BE X scope elt) hc nd hj hyl hsw (pi_list pe_w) (blkOk_by ok) (fun s H C cl fp => pg_name nd hi (hx s H C cl fp) (hf s H C cl fp)) bi_pts be_pe hs) pss_w)
    (he σ H F _ hd en fun v F2 H1 s1 h1 r1 => lc_run (Q := fun v H1 => WSs X rest (T F1) (σ.set j (some v)) H1) hm g h Mm r1 hL h1 (en.mono s1) turn fun D F' H' e hd' => hr D F1 e0 _ H' F' ((f0.trans s1).trans e) hd' (EnvR.set (R := rA D) rfl j ((en.mono s1).mono e)))
theorem ss_lcR (j i : Nat) (nd : X.N.Nodup) {y : Str} {lo : Int} {n : Nat} {f : β → Int → Option (Option γ × β)} {s0 sf : β} {ys : List γ} (hm : compM f (rng lo n) s0 = some (ys, sf)) (hz : n ≤ sizeLine) (h : γ → VR) (Mm : β → Mem)
    (he : Er X ρ M iter (Mm s0) lo n) (ok : blkC X.N X.env.scope scope (ownOf x i) = true)
    (turn : ∀ b y u Mx, lo ≤ y → y < lo + n → f b y = some u → ∃ M1, ∀ s H0 C cl fp, Ec (Blk X scope s H0 C cl fp) (ρ.set i (some (rI y))) (Mm b ++ Mx) ifs elt (u.1.map h) M1 (Mm u.2 ++ Mx))
    (hr : ∀ q, SS X F0 (ρ.set j (some (rA q))) ((q, Pw.hL (ys.map h)) :: Mm sf) rest T)
    (hc : X.calm = true := by rfl) (hj : X.N[j]? = some y := by rfl) (hyl : X.env.scope.names.lookup y = some .local := by rfl) (hsw : swapsWith (.ListComp elt [⟨.Name x px, iter, ifs, 0⟩] scope pos) (some (.Name y py)) spos.line X.env = pure true := by exact sw_true rfl rfl rfl (by decide +kernel)) (hi : X.N[i]? = some x := by rfl) (hx : ∀ s H C cl fp, Loc (Blk X scope s H C cl fp).env.scope x := by intro _ _ _ _ _; first | exact Or.inl rfl | exact Or.inr rfl)
    (hf : ∀ s H C cl fp, (Blk X scope s H C cl fp).fn x = true ∨ (Blk X scope s H C cl fp).env.scope.names.lookup x = some .local := by intro _ _ _ _ _; first | exact .inr rfl | exact .inl rfl)
    (hs : ∀ x, foldedSetIterable iter X.env x = pure x := by intro _; rfl) : SS X F0 ρ M (.Assign [.Name y py] (.ListComp elt [⟨.Name x px, iter, ifs, 0⟩] scope pos) spos :: rest) T := fun F1 e0 σ H F f0 hd en => by
  obtain ⟨wi, pi, hw⟩ := he (.Name x px)
  exact wss_of (pss_cons (ps_setLc (own := ownOf x i) (g := gName i) (tt := BI X scope ifs) (te := BE X scope elt) hc nd hj hyl hsw pi (blkOk_by ok) (fun s H C cl fp => pg_name nd hi (hx s H C cl fp) (hf s H C cl fp)) bi_pts be_pe hs) pss_w)
    (hw σ H F _ hd en fun F2 H1 s1 h1 => lc_runR (Q := fun v H1 => WSs X rest (T F1) (σ.set j (some v)) H1) hm hz h Mm h1 (en.mono s1) turn fun D F' H' e hd' => hr D F1 e0 _ H' F' ((f0.trans s1).trans e) hd' (EnvR.set (R := rA D) rfl j ((en.mono s1).mono e)))
end

/-! ### a def by its body -/
section
variable {P : Program} {w : World} {K : PySem.W.Frag} {mg : Str → Option Value} {base : Heap}
/-- a def of the text that stands under its name -/
def Stand (K : PySem.W.Frag) (mg : Str → Option Value) (x : Str) (st : Stmt) : Prop := ∃ f fd, Fun K x x st f fd ∧ mg x = some (.ref f)
theorem EnvR.start {F : Hp} (N : List Str) : ∀ {vs : List V} {Rs : List VR}, Rps F vs Rs → EnvR F (L2.start N vs) (Rs.map some ++ List.replicate (N.length - Rs.length) none) := fun {vs Rs} r => by
  unfold L2.start
  rw [r.length]
  have rep : ∀ n : Nat, EnvR F (List.replicate n none) (List.replicate n none) := fun n => by
    induction n with
    | zero => exact trivial
    | succ n ih => exact ⟨trivial, ih⟩
  have key : ∀ {vs : List V} {Rs : List VR}, Rps F vs Rs → ∀ n, EnvR F (vs.map some ++ List.replicate n none) (Rs.map some ++ List.replicate n none) := by
    intro vs Rs r n
    induction r with
    | nil => exact rep n
    | cons h t ih => exact ⟨⟨_, rfl, h⟩, ih⟩
  exact key r _
/-- the context of a def's body -/
abbrev BX (P : Program) (w : World) (K : PySem.W.Frag) (mg : Str → Option Value) (base : Heap) (N : List Str) (x : Str) (st : Stmt) (f : Addr) (cdv : Value) (A : Around) (outer : List Env) (s : Shared) (H : Hp) (E : XK) : Cx :=
  (cxOf CX0 P w K mg base N x (defScope st) f cdv A outer s H E).nox
theorem Def.of {x : Str} {st : Stmt} {N ps : List Str} {k : Nat} {C : Ct} (G : Stand K mg x st) (S : FnScope N ps (defScope st))
    (b : ∀ (kV doc pm : Value) (an : Option Addr) (cdv ct : Value) (us : List Value), us.length = ps.length → bindArgs (PySem.W.fnOf x x (defArgs st) (defBody st) (defScope st) .none kV doc pm an cdv ct) ⟨us, []⟩ = pure (ps.zip us))
    (len : ∀ Rs M0 M1 r, C Rs M0 M1 r → Rs.length = ps.length)
    (body : ∀ f cdv A outer s H E (Q : VK) Rs M0 M1 r Mr F, Room k (A.deeper (envOfC x (defScope st) s.heap.objs.size f cdv)) → C Rs M0 M1 r → (∀ F1, Same F F1 → Post F1 (M1 ++ Mr) r Q) →
      SS (BX P w K mg base N x st f cdv A outer s H E) F (Rs.map some ++ List.replicate (N.length - Rs.length) none) (M0 ++ Mr) (defBody st) (fun _ => { nx := fun _ H' => Q .non H', rt := Q })) :
    Def P w K mg base x (k + 1) ps C := by
  obtain ⟨f, fd, F, g⟩ := G
  refine ⟨f, fd, ?_, g, F.kp, F.binds b⟩
  refine F.ok S (fun vs H Q E h => ?_) (fun cdv A outer s H vs Q E hr h => ?_)
  · obtain ⟨Rs, M0, M1, r, Mr, F', hc, _, r', _⟩ := h
    rw [r'.length]; exact len _ _ _ _ hc
  · obtain ⟨Rs, M0, M1, r, Mr, F', hc, hd, r', q⟩ := h
    obtain ⟨t, D1, a, bb, c⟩ := body f cdv A outer s H E Q Rs M0 M1 r Mr F' hr hc (fun F1 e => q.shift e) F' (Same.refl F') (L2.start N vs) H F' (Same.refl F') hd (EnvR.start N r')
    exact ⟨WSs _ (defBody st), pss_w, t, D1, a, bb, c⟩
end
end Pw

namespace Pw
open PySem PySem.Spec PyProof.Rows L2
open Dat (rp)
/-! ### partial operations of the mirrors -/
def mulO (i j : Int) : Option Int := if i.natAbs.log2 + j.natAbs.log2 < 1000000 then some (i * j) else none
def divO (i j : Int) : Option Int := if 0 < j ∧ j.natAbs.log2 < 9000 then some (i / j) else none
def modO (i j : Int) : Option Int := if 0 < j then some (i % j) else none
def powO (i j : Int) : Option Int := if 0 ≤ j ∧ j ≤ 1000000 ∧ i.natAbs < 2 ^ 64 then some (i ^ j.toNat) else none
def shlO (i j : Int) : Option Int := if 0 ≤ j ∧ j ≤ 1000000 ∧ i.natAbs < 2 ^ 64 then some (i * 2 ^ j.toNat) else none
def shrO (i j : Int) : Option Int := if 0 ≤ j then some (i / 2 ^ j.toNat) else none
def appO {α : Type} (xs : List α) (y : α) : Option (List α) := if xs.length < 16777216 then some (xs ++ [y]) else none
def catO {α : Type} (xs ys : List α) : Option (List α) := if xs.length + ys.length ≤ 16777216 then some (xs ++ ys) else none
def repO {α : Type} (x : α) (n : Int) : Option (List α) := if 0 ≤ n ∧ n ≤ 16777216 then some (List.replicate n.toNat x) else none
def setO {α : Type} (xs : List α) (i : Int) (y : α) : Option (List α) := (ixN xs.length i).map fun j => xs.set j y
/-- how many turns range(n), range(a, b) has -/
def rgO (lo hi : Int) : Option (List Int) := if -(2 ^ 62) ≤ lo ∧ lo < 2 ^ 62 ∧ -(2 ^ 62) ≤ hi ∧ hi < 2 ^ 62 ∧ (hi - lo).toNat ≤ 16777216 then some (rng lo (hi - lo).toNat) else none
theorem bsome {α β : Type} {o : Option α} {f : α → Option β} {b : β} (h : o.bind f = some b) : ∃ a, o = some a ∧ f a = some b := by
  cases o with
  | none => cases h
  | some a => exact ⟨a, rfl, h⟩
theorem msome {α β : Type} {o : Option α} {f : α → β} {b : β} (h : o.map f = some b) : ∃ a, o = some a ∧ f a = b := by
  cases o with
  | none => cases h
  | some a => exact ⟨a, rfl, Option.some.inj h⟩
theorem ne_t {c : Bool} (h : c = false) : ¬ c = true := by rw [h]; decide
theorem ifs {α : Type} {c : Prop} [Decidable c] {x y : α} (h : (if c then some x else none) = some y) : c ∧ x = y := by
  split at h
  · rename_i hc; exact ⟨hc, Option.some.inj h⟩
  · cases h
section
variable {X : Cx} {F0 : Hp} {ρ : Rho} {M M1 M2 M3 : Mem} {a b e : Expr} {pos : Pos} {i j k : Int} {R S : VR} {α : Type} [Dat α] {rest : List Stmt} {T : Ts}
theorem ev_mulO (ha : Ev X ρ M a M1 (.val (rI i))) (hb : Ev X ρ M1 b M2 (.val (rI j))) (h : mulO i j = some k) : Ev X ρ M (.BinOp a .Mult b pos) M2 (.val (rI k)) := by
  obtain ⟨h1, rfl⟩ := ifs h
  exact ev_mul ha hb h1
/-- one factor below 2 ^ 64 in size -/
theorem ev_mulR (ha : Ev X ρ M a M1 (.val (rI i))) (hb : Ev X ρ M1 b M2 (.val (rI j))) (h : -(2 ^ 64) < j ∧ j < 2 ^ 64) : Ev X ρ M (.BinOp a .Mult b pos) M2 (.val (rI (i * j))) := ev_bin op_mul ha hb (hIC (C := CMul) (g := fun i j => i * j) (.inr h))
theorem ev_mulL (ha : Ev X ρ M a M1 (.val (rI i))) (hb : Ev X ρ M1 b M2 (.val (rI j))) (h : -(2 ^ 64) < i ∧ i < 2 ^ 64) : Ev X ρ M (.BinOp a .Mult b pos) M2 (.val (rI (i * j))) := ev_bin op_mul ha hb (hIC (C := CMul) (g := fun i j => i * j) (.inl h))
theorem ev_divO (ha : Ev X ρ M a M1 (.val (rI i))) (hb : Ev X ρ M1 b M2 (.val (rI j))) (h : divO i j = some k) : Ev X ρ M (.BinOp a .FloorDiv b pos) M2 (.val (rI k)) := by
  obtain ⟨h1, rfl⟩ := ifs h
  exact ev_fdiv ha hb h1
theorem ev_modO (ha : Ev X ρ M a M1 (.val (rI i))) (hb : Ev X ρ M1 b M2 (.val (rI j))) (h : modO i j = some k) : Ev X ρ M (.BinOp a .Mod b pos) M2 (.val (rI k)) := by
  obtain ⟨h1, rfl⟩ := ifs h
  exact ev_mod ha hb h1
theorem ev_powO (ha : Ev X ρ M a M1 (.val (rI i))) (hb : Ev X ρ M1 b M2 (.val (rI j))) (h : powO i j = some k) : Ev X ρ M (.BinOp a .Pow b pos) M2 (.val (rI k)) := by
  obtain ⟨h1, rfl⟩ := ifs h
  exact ev_pow ha hb h1
theorem ev_shlO (ha : Ev X ρ M a M1 (.val (rI i))) (hb : Ev X ρ M1 b M2 (.val (rI j))) (h : shlO i j = some k) : Ev X ρ M (.BinOp a .LShift b pos) M2 (.val (rI k)) := by
  obtain ⟨h1, rfl⟩ := ifs h
  exact ev_shl ha hb h1
theorem ev_shrO (ha : Ev X ρ M a M1 (.val (rI i))) (hb : Ev X ρ M1 b M2 (.val (rI j))) (h : shrO i j = some k) : Ev X ρ M (.BinOp a .RShift b pos) M2 (.val (rI k)) := by
  obtain ⟨h1, rfl⟩ := ifs h
  exact ev_shr ha hb h1
theorem z16 : (16777216 : Nat) = sizeLine := by rw [sizeLine_eq]
theorem ev_appO (n : Nat) {xs ys : List α} {y : α} {q : Addr} {xx : Expr} {pa : Pos} (hv : Ev X ρ M xx M1 (.val (rA q))) (ha : Ev X ρ M1 e M2 (.val (rp X.K y))) (hl : ∃ Ss, M1[n]? = some (q, hL Ss)) (hn : M2[n]? = some (q, hD X.K xs)) (h : appO xs y = some ys)
    (k : M1k X xx "append" e pa pos := by exact ⟨rfl, rfl, rfl, rfl, rfl⟩) : Ev X ρ M (.Call (.Attribute xx "append" pa) [e] [] pos) (M2.set n (q, hD X.K ys)) (.val rN) := by
  obtain ⟨h1, rfl⟩ := ifs h
  exact ev_appendD n hv ha hl hn (z16 ▸ h1) k
theorem hL_app {K : PySem.W.Frag} (xs ys : List α) : hL (xs.map (rp K) ++ ys.map (rp K)) = hD K (xs ++ ys) := by unfold hD; rw [List.map_append]
theorem ev_catO {xs ys zs : List α} (ha : Ev X ρ M a M1 (.val R)) (hb : Ev X ρ M1 b M2 (.val S)) (h1 : IsLH M2 R (xs.map (rp X.K))) (h2 : IsLH M2 S (ys.map (rp X.K))) (h : catO xs ys = some zs) : Ev X ρ M (.BinOp a .Add b pos) M2 (.new (hD X.K zs)) := by
  obtain ⟨h0, rfl⟩ := ifs h
  have r := ev_cat (pos := pos) ha hb h1 h2 (by rw [List.length_map, List.length_map]; exact z16 ▸ h0)
  rw [hL_app] at r
  exact r
theorem ev_repO {y : α} {ys : List α} (ha : Ev X ρ M a M1 (.val R)) (hb : Ev X ρ M1 b M2 (.val (rI i))) (h1 : IsLH M2 R [rp X.K y]) (h : repO y i = some ys) : Ev X ρ M (.BinOp a .Mult b pos) M2 (.new (hD X.K ys)) := by
  obtain ⟨h0, rfl⟩ := ifs h
  have r := ev_rep1 (pos := pos) ha hb h1 h0.1 h0.2
  have e : hD X.K (List.replicate i.toNat y) = hL (List.replicate i.toNat (rp X.K y)) := by unfold hD; rw [List.map_replicate]
  rw [e]
  exact r
theorem ss_setO (n : Nat) {xs ys : List α} {y : α} {q : Addr} {o ix : Expr} {pp : Pos} (he : Ev X ρ M e M1 (.val (rp X.K y))) (ho : Ev X ρ M1 o M2 (.val (rA q))) (hk : Ev X ρ M2 ix M3 (.val (rI k))) (hn : M3[n]? = some (q, hD X.K xs)) (hy : setO xs k y = some ys)
    (h : SS X F0 ρ (M3.set n (q, hD X.K ys)) rest T)
    (ha : ∀ v, assign (.Subscript o ix pp) X.env v = (do
      let ov ← holding [v] (eval o X.env)
      let iv ← holding [v, ov] (eval ix X.env)
      standAt pp
      holding [v, ov, iv] (setItem ov iv v)
      release [v, ov, iv] []) := by intro _; rfl)
    (hs : swapsWithSole [.Subscript o ix pp] e pos.line X.env = pure false := by rfl) (hw : swappedStores [.Subscript o ix pp] e X.env = pure none := by rfl)
    (h1 : (assignEach [.Subscript o ix pp] X.env).map (·.2) = [assign (.Subscript o ix pp) X.env] := by rfl) : SS X F0 ρ M (.Assign [.Subscript o ix pp] e pos :: rest) T := by
  obtain ⟨j, hj, rfl⟩ := msome hy
  refine ss_setix (R := rp X.K y) n he ho hk hn (by rw [List.length_map]; exact hj) ?_ ha hs hw h1
  have e : hD X.K (xs.set j y) = hL ((xs.map (rp X.K)).set j (rp X.K y)) := by unfold hD; rw [List.map_set]
  rw [e] at h
  exact h
end
end Pw

/-! PwSet: set(list of ints), sorted(a set of ints) below the model's scan line. -/
namespace Pw
open PySem PySem.Spec PyProof.Rows L2
section
variable {P : Program} {w : World} {A : Around} {E : Value → Shared → Prop} {s : Shared} {a : Addr}
abbrev freshSet (w : World) : Obj := { cls := .type "set", dict := none, data := .set #[] 0 (.fresh 0 0 (!w.params.followText "set-order")) }
abbrev withSet (w : World) (s : Shared) : Shared := { s with heap := s.heap.push (freshSet w) }
/-- what set.__init__ leaves -/
def SetMade (w : World) (s : Shared) (ns : List Int) (r : Value) (s₂ : Shared) : Prop := r = .none ∧ ∃ h' tk c, s₂ = { s with heap := h', toks := tk } ∧ SetR w h' s.heap.objs.size (fun j => decide (j ∈ ns)) c ∧ c ≤ ns.length ∧
  (∀ b o, s.heap.get? b = some o → h'.get? b = some o)
set_option maxHeartbeats 8000000 in
theorem set_of_list {l : Addr} {items : Array Value} (ns : List Int) {Q : Value → Shared → Prop} (hh : A.handled = none) (hl : s.heap.IsList l items) (hit : IntsAre items.toList ns) (hb : ns.length + 1 < scanBound)
    (h : ∀ (h' : Heap) (tk c : Nat), SetR w h' s.heap.objs.size (fun j => decide (j ∈ ns)) c → c ≤ ns.length → (∀ b o, s.heap.get? b = some o → h'.get? b = some o) → Q (.ref s.heap.objs.size) { s with heap := h', toks := tk }) :
    wpAny (model P w) A (call (.type "set") [.ref l]) Q E s := by
  have hisz : items.size = ns.length := by
    have q := IntsAre.length hit
    rw [Array.length_toList] at q
    exact q
  obtain ⟨c, tl, hmro⟩ := F.called_set.mro
  have hmade := F.called_set.made
  have hsub := F.called_set.sub
  refine wpAny_call (codeAny_of_tree ?_)
  show wpAny _ _ (callAny (.type "set") _) _ _ _
  refine wpAny_pure ⟨Code.quiet_builtin _ (by decide +kernel), codeAny_builtin F.entry_type_call ?_⟩
  rw [Around.under_plain (weight_type_call_type "set" [.ref l] []) rfl]
  have h1 := F.called_set.notType
  have h2 := F.called_set.canCreate
  have hct := F.typeCall_set_1 (.ref l)
  repeat (any_goals (first | assumption | wp_step))
  refine codeAny_mono (code_set_led1 (.ref l) (E := E) (Q₁ := fun obj s₁ => obj = .ref s.heap.objs.size ∧ s₁ = withSet w s) ⟨rfl, rfl⟩) fun r s₁ hr => ?_
  cases r with
  | error e => exact hr
  | ok fl =>
    cases fl with
    | next => exact hr.elim
    | brk => exact hr.elim
    | cont => exact hr.elim
    | ret obj =>
      obtain ⟨rfl, rfl⟩ := hr
      have hS : (withSet w s).heap.get? s.heap.objs.size = some (freshSet w) := Heap.get?_push_size _ rfl
      have hT : Shared.TypeIs (withSet w s) (.ref s.heap.objs.size) "set" := ⟨_, hS, rfl⟩
      have hli := F.called_set.init.lookup
      have hbi := F.called_set.init.bind (.ref s.heap.objs.size)
      repeat (any_goals (first | assumption | wp_step))
      refine codeAny_mono (codeAny_call_builtin (R := wants (SetMade w s ns) E) F.called_set.init.plain F.entry_set_init (check_set_init_1 hT ?_)) fun r₂ s₂ hr₂ => ?_
      · obtain ⟨ol, hol, hcl, nl, hdl⟩ := hl
        obtain ⟨ocls, odict, odata, oslots⟩ := ol
        simp only at hcl hdl
        subst hcl; subst hdl
        have hol' : (withSet w s).heap.get? l = some { cls := .type "list", dict := odict, data := .seq items nl, slots := oslots } := Heap.get?_push_of_some _ hol
        have hsls := PySem.F.sub_list_set
        have hslf := PySem.F.sub_list_frozenset
        have hne : (Value.type "list" == Value.type "dict") = false := by decide
        have hl1 : (withSet w s).heap.IsList l items := ⟨_, hol', rfl, nl, rfl⟩
        unfold Builtin.«set.__init__» noKeywords Builtin.Frozenset.updateFrom
        generalize hPI : pyIter = PI
        wp_walk
        subst hPI
        refine wpAny_pyIter_list hl1 ?_
        refine wpAny_bind (wpAny_runValue ?_)
        have hlS : l < s.heap.objs.size := Heap.lt_size hol
        have hh3 : A.in1.in1.in1.handled = none := by simp [hh]
        have hz1 : (withSet w s).heap.objs.size = s.heap.objs.size + 1 := Heap.size_push ..
        have hneI : l ≠ (withSet w s).heap.objs.size := by
          rw [hz1]; exact Nat.ne_of_lt (Nat.lt_succ_of_lt hlS)
        have hSf : s.heap.objs.size ∉ [(withSet w s).heap.objs.size, l] := by
          rw [hz1]; simp only [List.mem_cons, List.mem_singleton, List.not_mem_nil, or_false, not_or]
          exact ⟨Nat.ne_of_lt (Nat.lt_succ_self _), Nat.ne_of_gt hlS⟩
        have hval : ∀ (i : Nat) (v : Value), items[i]? = some v → ∃ k t, ns[i]? = some k ∧ v = .int k t := fun i v hv => by
          have hi : i < ns.length := by rw [← hisz]; exact (Array.getElem?_eq_some_iff.mp hv).1
          obtain ⟨t, e⟩ := PyProof.Rows.IntsAre.int_at hit i v (by rw [Array.getElem?_toList]; exact hv)
          refine ⟨ns[i], t, List.getElem?_eq_getElem hi, ?_⟩
          rw [e, List.getD_eq_getElem?_getD, List.getElem?_eq_getElem hi] <;> rfl
        refine set_update_ints ((Walks.list hh3 _ l hneI items).toS) s.heap.objs.size
          hSf ns hisz hb hval (items.size - 0) 0 _ (by omega) (Nat.zero_le _)
          ⟨⟨_, Heap.get?_push_size _ rfl, rfl, rfl⟩, (hl1.push _)⟩ ?hS0 ?hR
        case hS0 => exact ⟨0, Nat.le_refl 0, setR_new_at (Heap.get?_push_of_some _ hS)⟩
        case hR =>
          intro s' c' hm hc' hS'
          obtain ⟨h', g2, d', tk', os'⟩ := s'
          have eg : g2 = s.gens := hm.gens
          have ed : d' = s.drawn := hm.drawn
          have eo : os' = s.os := hm.os
          subst eg; subst ed; subst eo
          show wpAny _ _ _ _ _ _
          refine wpAny_pure ?_
          show wpAny _ _ (ret Value.none) _ _ _
          rw [hisz] at hc'
          refine wpAny_pure ⟨rfl, h', tk', c', rfl, hS', hc', fun b o e => ?_⟩
          have hb0 : b < s.heap.objs.size := Heap.lt_size e
          have hb1 : b ≠ s.heap.objs.size := Nat.ne_of_lt hb0
          have hb2 : b ≠ (withSet w s).heap.objs.size := by
            rw [hz1]; exact Nat.ne_of_lt (Nat.lt_succ_of_lt hb0)
          exact hm.heap b o (by simp only [List.mem_cons, List.mem_singleton, List.not_mem_nil, or_false, not_or]; exact ⟨hb1, hb2⟩) (Heap.get?_push_of_some _ (Heap.get?_push_of_some _ e))
      · cases r₂ with
        | error e => exact hr₂
        | ok fl₂ =>
          cases fl₂ with
          | ret r =>
            obtain ⟨rfl, h', tk, c', rfl, hS', hc', hk'⟩ := hr₂
            repeat (any_goals (first | assumption | wp_step))
            exact h _ _ _ hS' hc' hk'
          | _ => exact hr₂.elim
/-- sorted of a set of ints, below the scan line -/
theorem sorted_setA {S : Int → Bool} {n : Nat} {Q : Value → Shared → Prop} (R : SetR w s.heap a S n) (hh : A.handled = none)
    (hQ : ∀ s' p (out : List Value) (c : Nat) (ns : List Int), (∀ b o, s.heap.get? b = some o → s'.heap.get? b = some o) → s'.gens = s.gens → s'.os = s.os → s.heap.objs.size ≤ p →
      s'.heap.get? p = some (seqObj "list" out.toArray c) → IntsAre out ns → ns.Pairwise (· < ·) → (∀ k, k ∈ ns ↔ S k = true) → ns.length = n → Q (.ref p) s') :
    wpAny (model P w) A (call (.builtin "sorted") [.ref a]) Q E s := by
  obtain ⟨o, es, ep, t, ho, hex, hd, g, nd, hm, hb, hf, hn, hr, hl⟩ := R
  refine Calls.call_function_entry kind_sorted plain_sorted entry_sorted (args_sorted1 _) ?_
  unfold Builtin.«sorted»
  refine wpAny_bind (m := checkCount "sorted" 1 1 _) (wpAny_pure ?_)
  refine wpAny_bind (collect_set (A := A.in1) hh ⟨o, ho, hex.1, hd⟩ hf hb hr hl fun s1 vs k1 hz g1 o1 pm => ?_)
  have hvl : vs.length = n := by rw [pm.length_eq, List.length_map, Array.length_toList]; exact hn
  have hnb : n ≤ sizeLine := by
    have : n < scanBound := by rw [← hn]; exact hb
    exact Nat.le_trans (Nat.le_of_lt this) (by decide)
  have hI : IntsAre vs (vs.map Builtin.Re.reRawOf) := ints_of vs fun v hv => by
    obtain ⟨e, he, q⟩ := List.mem_map.mp (pm.mem_iff.mp hv)
    obtain ⟨k, tk, h1, _⟩ := g e he
    exact ⟨k, tk, by rw [← q]; exact h1⟩
  have pk : (vs.map Builtin.Re.reRawOf).Perm (es.toList.map keyOf) := by
    have q := pm.map Builtin.Re.reRawOf
    rw [List.map_map] at q
    exact q
  refine wpAny_bind (wpAny_newList ?_ (by rw [hvl]; exact hnb))
  have hoL : (s1.heap.push (seqObj "list" vs.toArray 0)).get? s1.heap.objs.size = some (seqObj "list" vs.toArray 0) := Heap.get?_push_size _ rfl
  refine wpAny_bind (wpAny_holding (wpAny_call_entry slot_list_sort ⟨_, hoL, rfl⟩ entry_list_sort
    (SrtO.list_sort_ord SrtO.swo_int hoL (by rw [hvl]; exact hnb) (fun h2 => SrtO.ints_sortable hI h2) fun out h1 h2 => ⟨_, rfl, ?_⟩) (args_list_sort _)))
  obtain ⟨a1, a2, a3⟩ := SrtO.ints_out hI h1 h2
  obtain ⟨c, hc⟩ := sortedHeap_at (vs := vs) (out := out.toArray) hoL
  have pn : (out.map SrtO.iv).Perm (es.toList.map keyOf) := a2.trans pk
  refine wpAny_pure ⟨_, rfl, hQ _ s1.heap.objs.size out c (out.map SrtO.iv) (fun b u e => ?_) g1 o1 hz hc a1 (lt_of_le_nodup _ a3 (pn.nodup_iff.mpr nd)) (fun k => by rw [pn.mem_iff, ← hm k]) ?_⟩
  · have q := k1 b u e
    have hlt := Heap.lt_size q
    show (sortedHeap (s1.heap.push (seqObj "list" vs.toArray 0)) s1.heap.objs.size vs out.toArray).get? b = some u
    rw [sortedHeap_old (Nat.ne_of_lt hlt) (by rw [size_push']; exact Nat.lt_succ_of_lt hlt)]
    exact Heap.get?_push_of_some _ q
  · rw [pn.length_eq, List.length_map, Array.length_toList]; exact hn
end

/-! ### over the layer -/
section
variable {X : Cx}
theorem cr_setL (hc : X.calm = true) : CallR X (.type "set") (fun vs H Q => ∃ (a : Addr) (ns : List Int), vs = [V.ref a] ∧ SqL X.K H a (ns.map V.int) ∧ ns.length + 1 < scanBound ∧
    ∀ p c, H p = none → c ≤ ns.length → Q (.ref p) (upd H p (SetO X.w p (fun j => decide (j ∈ ns)) c))) := by
  intro pins s σ H vs us Q I r h
  obtain ⟨a, ns, rfl, hs, hb, q⟩ := h
  obtain ⟨its, rv, hl, hz⟩ := I.list hs
  rw [Vals.ref1 r]
  refine set_of_list ns (I.ok.hd hc) hl.isList rv.ints hb fun h' tk c R hcn k => ?_
  exact ⟨.ref _, upd H s.heap.objs.size (SetO X.w _ _ c), I.laid (t' := tk) k (Nat.le_refl _) (setO_new R), rfl, q _ c (I.hok.fresh (Nat.le_refl _)) hcn⟩
theorem cr_sortedSetA (hc : X.calm = true) : CallR X (.builtin "sorted") (fun vs H Q => ∃ (a : Addr) (S : Int → Bool) (n : Nat), vs = [V.ref a] ∧ H a = some (SetO X.w a S n) ∧
    ∀ (ns : List Int) (p : Addr), ns.Pairwise (· < ·) → (∀ k : Int, k ∈ ns ↔ S k = true) → ns.length = n → H p = none → ns.length ≤ sizeLine → Q (.ref p) (upd H p (.lst (ns.map V.int)))) := by
  intro pins s σ H vs us Q I r h
  obtain ⟨a, S, n, rfl, ha, q⟩ := h
  have R := setO_get I ha
  have hnb : n ≤ sizeLine := by
    obtain ⟨o, es, ep, t, ho, hex, hd, g, nd, hm, hb, hf, hn, hr, hl⟩ := R
    have : n < scanBound := by rw [← hn]; exact hb
    exact Nat.le_trans (Nat.le_of_lt this) (by decide)
  rw [Vals.ref1 r]
  refine sorted_setA R (I.ok.hd hc) fun s' p out c ns k g o hp hg hi hs hm hl => ?_
  have hlen : (ns.map V.int).length ≤ sizeLine := by rw [List.length_map, hl]; exact hnb
  have hn : H p = none := I.hok.fresh hp
  have J : Inv X pins σ (upd H p (.lst (ns.map V.int))) { s with heap := s'.heap, gens := s'.gens, drawn := s'.drawn, toks := s'.toks } :=
    I.call (ch := []) (Un.laid k hp hn) (I.hok.laid k hp ⟨hlen, out, c, vals_of_ints hi, hg⟩) (by rw [g]; exact I.bare) (fun _ z => nomatch z)
  have e : s' = { s with heap := s'.heap, gens := s'.gens, drawn := s'.drawn, toks := s'.toks } := by
    cases s'; cases s; cases o; rfl
  rw [e]
  exact ⟨.ref p, _, J, rfl, q ns p hs hm hl hn (by rw [← List.length_map (f := V.int)]; exact hlen)⟩
end
theorem Held.junk {F : Hp} {M : Mem} {H : Hp} {p : Addr} {o : HO} (h : Held F M H) (hp : H p = none) : Held F M (upd H p o) := (h.alloc (A := ⟨fun _ _ => True, fun _ _ => trivial⟩) hp trivial).tail
/-- the strictly rising list of the members -/
def dsI (xs : List Int) : List Int := isort (xs.foldr (fun x l => if x ∈ l then l else x :: l) [])
theorem dsI_aux (xs : List Int) : (xs.foldr (fun x l => if x ∈ l then l else x :: l) ([] : List Int)).Nodup ∧ ∀ k, k ∈ xs.foldr (fun x l => if x ∈ l then l else x :: l) ([] : List Int) ↔ k ∈ xs := by
  induction xs with
  | nil => exact ⟨List.nodup_nil, fun k => Iff.rfl⟩
  | cons x xs ih =>
    obtain ⟨h1, h2⟩ := ih
    rw [List.foldr_cons]
    split
    · rename_i hx
      refine ⟨h1, fun k => ?_⟩
      rw [h2, List.mem_cons]
      rw [h2] at hx
      exact ⟨.inr, fun z => z.elim (fun e => e ▸ hx) id⟩
    · rename_i hx
      refine ⟨List.nodup_cons.mpr ⟨hx, h1⟩, fun k => ?_⟩
      rw [List.mem_cons, List.mem_cons, h2]
theorem isort_perm (xs : List Int) : (isort xs).Perm xs := List.mergeSort_perm xs _
theorem isort_sorted (xs : List Int) : (isort xs).Pairwise (· ≤ ·) := by
  have := List.pairwise_mergeSort (le := fun a b : Int => decide (a ≤ b)) (fun a b c h1 h2 => by simp only [decide_eq_true_eq] at *; omega) (fun a b => by simp only [Bool.or_eq_true, decide_eq_true_eq]; omega) xs
  exact this.imp (fun h => by simpa using h)
theorem lt_of_le_nd {l : List Int} (h : l.Pairwise (· ≤ ·)) (n : l.Nodup) : l.Pairwise (· < ·) := (h.and n).imp fun ⟨a, b⟩ => by omega
theorem dsI_mem {xs : List Int} {k : Int} : k ∈ dsI xs ↔ k ∈ xs := by
  unfold dsI
  rw [(isort_perm _).mem_iff]
  exact (dsI_aux xs).2 k
theorem dsI_sorted (xs : List Int) : (dsI xs).Pairwise (· < ·) := lt_of_le_nd (isort_sorted _) ((isort_perm _).nodup_iff.mpr (dsI_aux xs).1)
theorem rising_eq : ∀ {l m : List Int}, l.Pairwise (· < ·) → m.Pairwise (· < ·) → (∀ k, k ∈ l ↔ k ∈ m) → l = m := by
  intro l m hl hm h
  have p : l.Perm m := (List.perm_ext_iff_of_nodup (hl.imp fun z => Int.ne_of_lt z) (hm.imp fun z => Int.ne_of_lt z)).mpr h
  exact perm_sorted_eq p (hl.imp fun z => Int.le_of_lt z) (hm.imp fun z => Int.le_of_lt z)
/-- sorted(set(xs)), ints -/
def dsortI (xs : List Int) : Option (List Int) := if xs.length + 1 < 4096 then some (dsI xs) else none
section
variable {X : Cx} {ρ : Rho} {M M1 : Mem} {a : Expr} {pos p p2 pos2 : Pos} {R : VR}
open Dat (rp)
theorem ev_sortedSetI {ns out : List Int} (z : X.mg "sorted" = none) (zs : X.mg "set" = none) (ha : Ev X ρ M a M1 (.val R)) (hs : IsL X.K M1 R (ns.map (rp X.K))) (h : dsortI ns = some out) (hc : X.calm = true := by rfl) (hg : Gl X "sorted" := by rfl) (hg2 : Gl X "set" := by rfl) (he : starEach [a] X.env = (false, eval a X.env) :: starEach [] X.env := by rfl)
    (he2 : starEach [.Call (.Name "set" p2) [a] [] pos2] X.env = (false, eval (.Call (.Name "set" p2) [a] [] pos2) X.env) :: starEach [] X.env := by rfl) : Ev X ρ M (.Call (.Name "sorted" p) [.Call (.Name "set" p2) [a] [] pos2] [] pos) M1 (.new (hD X.K out)) := fun σ H F Q hd en q => by
  obtain ⟨hb, rfl⟩ := ifs h
  refine we_of (pe_callB (cr_sortedSetA hc) hg z (by decide +kernel) (pa_cons (pe_callTy (cr_setL hc) hg2 zs (by decide +kernel) (pa_cons pe_w pa_nil he) (he := he)) pa_nil he2) (he := he2)) (ha σ H F _ hd en fun v F1 H1 s1 h1 r1 => ?_)
  obtain ⟨b, vs, rfl, hq, rs, hz⟩ := hs F1 H1 v h1 r1
  have e := rs.ints
  subst e
  refine ⟨b, ns, rfl, hq, hb, fun p c hp hcn => ⟨p, _, c, rfl, upd_same, fun ms l m1 m2 m3 hl m4 => ?_⟩⟩
  have e : ms = dsI ns := rising_eq m1 (dsI_sorted ns) fun k => by rw [m2, dsI_mem, decide_eq_true_eq]
  subst e
  exact (q.shift s1).newL (h1.junk hp) hl (Rps.of_ints _) (by rw [List.length_map]; exact m4)
end
end Pw

namespace Pw
open PySem PySem.Spec PyProof.Rows L2
open Dat (rp)

/-! ### tuples -/
structure Tu (α : Type) where
  l : List α
  deriving DecidableEq
structure T2 (α β : Type) where
  x0 : α
  x1 : β
  deriving DecidableEq
structure T3 (α β γ : Type) where
  x0 : α
  x1 : β
  x2 : γ
  deriving DecidableEq
instance {α : Type} [Dat α] : Dat (Tu α) := ⟨fun K x => rT K (x.l.map (rp K))⟩
instance {α β : Type} [Dat α] [Dat β] : Dat (T2 α β) := ⟨fun K x => rT K [rp K x.x0, rp K x.x1]⟩
instance {α β γ : Type} [Dat α] [Dat β] [Dat γ] : Dat (T3 α β γ) := ⟨fun K x => rT K [rp K x.x0, rp K x.x1, rp K x.x2]⟩

/-! ### data that are compared -/
class DatQ (α : Type) extends Dat α where
  py : α → PyData
  can : α → Bool
  dp : ∀ K F H v x, Same F H → (rp K x).p F v → Dp K H v (py x)
  depth : Nat
  dep : ∀ x, (py x).depth ≤ depth
  lay : ∀ x, can x = true → (py x).canLay0 = true
  eqv : ∀ x y, PyData.eqv (py x) (py y) = true ↔ x = y
theorem DatQ.sh {α : Type} [DatQ α] {x : α} (h : DatQ.can x = true) (hd : DatQ.depth α ≤ 64) : SeqAt.shaped (DatQ.py x) = true := by
  unfold SeqAt.shaped
  rw [Bool.and_eq_true]
  exact ⟨DatQ.lay x h, decide_eq_true (Nat.le_trans (DatQ.dep x) hd)⟩
instance : DatQ Int where
  py := .int
  can := fun _ => true
  dp := fun K F H v x _ h => by rw [show v = V.int x from h]; exact .int x
  depth := 0
  dep := fun x => by simp [PyData.depth]
  lay := fun x _ => by simp [PyData.canLay0]
  eqv := fun x y => by simp [PyData.eqv]
instance : DatQ Bool where
  py := .bool
  can := fun _ => true
  dp := fun K F H v x _ h => by rw [show v = V.bl x from h]; exact .bl x
  depth := 0
  dep := fun x => by simp [PyData.depth]
  lay := fun x _ => by simp [PyData.canLay0]
  eqv := fun x y => by simp [PyData.eqv]
theorem eqvAll_map {α : Type} [DatQ α] : ∀ xs ys : List α, PyData.eqvAll (xs.map DatQ.py) (ys.map DatQ.py) = true ↔ xs = ys
  | [], [] => by simp [PyData.eqvAll]
  | [], y :: ys => by simp [PyData.eqvAll]
  | x :: xs, [] => by simp [PyData.eqvAll]
  | x :: xs, y :: ys => by
    rw [List.map_cons, List.map_cons, PyData.eqvAll, Bool.and_eq_true, DatQ.eqv, eqvAll_map xs ys, List.cons.injEq]
theorem dpAll_map {α : Type} [DatQ α] {K : PySem.W.Frag} {F H : Hp} (e : Same F H) : ∀ {vs : List V} {xs : List α}, Rps F vs (xs.map (rp K)) → DpAll K H vs (xs.map DatQ.py)
  | _, [], h => by cases h; exact .nil
  | _, x :: xs, h => by
    cases h with
    | cons r t => exact .cons (DatQ.dp K F H _ x e r) (dpAll_map e t)
theorem depthAll_le {n : Nat} : ∀ {ds : List PyData}, (∀ d ∈ ds, d.depth ≤ n) → PyData.depthAll ds ≤ n
  | [], _ => by simp [PyData.depthAll]
  | d :: ds, h => by
    rw [PyData.depthAll]
    exact Nat.max_le.mpr ⟨h d List.mem_cons_self, depthAll_le fun d hd => h d (List.mem_cons_of_mem _ hd)⟩
theorem canAll_of : ∀ {ds : List PyData}, (∀ d ∈ ds, d.canLay0 = true) → PyData.canLayAll0 ds = true
  | [], _ => by simp [PyData.canLayAll0]
  | d :: ds, h => by
    rw [PyData.canLayAll0, Bool.and_eq_true]
    exact ⟨h d List.mem_cons_self, canAll_of fun d hd => h d (List.mem_cons_of_mem _ hd)⟩
instance {α : Type} [DatQ α] : DatQ (List α) where
  py := fun xs => .list (xs.map DatQ.py)
  can := fun xs => xs.all DatQ.can
  dp := fun K F H v xs e h => by
    obtain ⟨a, vs, rfl, h1, h2, _⟩ := h
    exact .lst (SqL.of (e _ _ h1)) (dpAll_map e h2)
  depth := DatQ.depth α + 1
  dep := fun xs => by
    rw [PyData.depth]
    have : PyData.depthAll (xs.map DatQ.py) ≤ DatQ.depth α := depthAll_le fun d hd => by
      obtain ⟨x, _, rfl⟩ := List.mem_map.mp hd
      exact DatQ.dep x
    omega
  lay := fun xs h => by
    rw [PyData.canLay0]
    refine canAll_of fun d hd => ?_
    obtain ⟨x, hx, rfl⟩ := List.mem_map.mp hd
    exact DatQ.lay x (List.all_eq_true.mp h x hx)
  eqv := fun xs ys => by rw [PyData.eqv]; exact eqvAll_map xs ys
instance {α : Type} [DatQ α] : DatQ (Tu α) where
  py := fun xs => .tuple (xs.l.map DatQ.py)
  can := fun xs => xs.l.all DatQ.can
  dp := fun K F H v xs e h => by
    obtain ⟨a, vs, rfl, h1, h2, _⟩ := h
    exact .tup (seqT e h1) (dpAll_map e h2)
  depth := DatQ.depth α + 1
  dep := fun xs => by
    rw [PyData.depth]
    have : PyData.depthAll (xs.l.map DatQ.py) ≤ DatQ.depth α := depthAll_le fun d hd => by
      obtain ⟨x, _, rfl⟩ := List.mem_map.mp hd
      exact DatQ.dep x
    omega
  lay := fun xs h => by
    rw [PyData.canLay0]
    refine canAll_of fun d hd => ?_
    obtain ⟨x, hx, rfl⟩ := List.mem_map.mp hd
    exact DatQ.lay x (List.all_eq_true.mp h x hx)
  eqv := fun xs ys => by
    rw [PyData.eqv, eqvAll_map]
    cases xs; cases ys; simp
instance {α β : Type} [DatQ α] [DatQ β] : DatQ (T2 α β) where
  py := fun p => .tuple [DatQ.py p.x0, DatQ.py p.x1]
  can := fun p => DatQ.can p.x0 && DatQ.can p.x1
  dp := fun K F H v p e h => by
    obtain ⟨a, vs, rfl, h1, h2, _⟩ := h
    cases h2 with
    | cons r t =>
      cases t with
      | cons r2 t2 =>
        cases t2
        exact .tup (seqT e h1) (.cons (DatQ.dp K F H _ _ e r) (.cons (DatQ.dp K F H _ _ e r2) .nil))
  depth := max (DatQ.depth α) (DatQ.depth β) + 1
  dep := fun p => by
    rw [PyData.depth]
    have h1 := DatQ.dep p.x0
    have h2 := DatQ.dep p.x1
    have : PyData.depthAll [DatQ.py p.x0, DatQ.py p.x1] ≤ max (DatQ.depth α) (DatQ.depth β) := depthAll_le fun d hd => by
      simp only [List.mem_cons, List.not_mem_nil, or_false] at hd
      rcases hd with rfl | rfl <;> omega
    omega
  lay := fun p h => by
    rw [Bool.and_eq_true] at h
    rw [PyData.canLay0]
    refine canAll_of fun d hd => ?_
    simp only [List.mem_cons, List.not_mem_nil, or_false] at hd
    rcases hd with rfl | rfl
    · exact DatQ.lay _ h.1
    · exact DatQ.lay _ h.2
  eqv := fun p q => by
    rw [PyData.eqv, PyData.eqvAll, PyData.eqvAll, PyData.eqvAll, Bool.and_true, Bool.and_eq_true, DatQ.eqv, DatQ.eqv]
    cases p; cases q; simp

/-! ### a text's length is bounded: kinds whose data can always be compared -/
class Safe (α : Type) [DatQ α] : Prop where
  ok : ∀ x : α, DatQ.can x = true
  d64 : DatQ.depth α ≤ 60
instance : Safe Int := ⟨fun _ => rfl, by decide⟩
instance : Safe Bool := ⟨fun _ => rfl, by decide⟩
instance : Safe (List Int) := ⟨fun _ => List.all_eq_true.mpr fun _ _ => rfl, by decide⟩
instance : Safe (List (List Int)) := ⟨fun _ => List.all_eq_true.mpr fun _ _ => Safe.ok (α := List Int) _, by decide⟩

section
variable {X : Cx} {F0 : Hp} {ρ ρ' : Rho} {M M1 M2 M3 M' : Mem} {a b c e : Expr} {es : List Expr} {pos p : Pos} {R S : VR} {Rs : List VR} {i j : Int} {k : Bool} {A : HR} {r : Res} {T : Ts} {rest : List Stmt}
theorem eqv_dec {α : Type} [DatQ α] [DecidableEq α] (x y : α) : PyData.eqv (DatQ.py x) (DatQ.py y) = decide (x = y) := by
  have h := DatQ.eqv x y
  by_cases e : x = y
  · rw [decide_eq_true e]; exact h.mpr e
  · rw [decide_eq_false e]
    cases q : PyData.eqv (DatQ.py x) (DatQ.py y) with
    | false => rfl
    | true => exact absurd (h.mp q) e
variable {α β γ : Type}
theorem hEqQ [DatQ α] [DecidableEq α] {x y : α} (hx : DatQ.can x = true) (hy : DatQ.can y = true) (h64 : DatQ.depth α ≤ 64) : ∀ v w F H Q, Held F M H → (rp X.K x).p F v → (rp X.K y).p F w → Post F M (.val (rB (decide (x = y)))) Q → rEqD X.K v w H Q :=
  fun v w F H Q h e1 e2 q => ⟨_, _, DatQ.dp X.K F H v x h.ex e1, DatQ.dp X.K F H w y h.ex e2, DatQ.sh hx h64, DatQ.sh hy h64, q _ F H (Same.refl F) h (by rw [eqv_dec]; rfl)⟩
theorem hNeQ [DatQ α] [DecidableEq α] {x y : α} (hx : DatQ.can x = true) (hy : DatQ.can y = true) (h64 : DatQ.depth α ≤ 64) : ∀ v w F H Q, Held F M H → (rp X.K x).p F v → (rp X.K y).p F w → Post F M (.val (rB (!decide (x = y)))) Q → rNeD X.K v w H Q :=
  fun v w F H Q h e1 e2 q => ⟨_, _, DatQ.dp X.K F H v x h.ex e1, DatQ.dp X.K F H w y h.ex e2, DatQ.sh hx h64, DatQ.sh hy h64, q _ F H (Same.refl F) h (by rw [eqv_dec]; rfl)⟩
theorem ev_eqQ [DatQ α] [DecidableEq α] {x y : α} (hu : X.A.units + 64 < cLine) (ha : Ev X ρ M a M1 (.val (rp X.K x))) (hb : Ev X ρ M1 b M2 (.val (rp X.K y))) (hx : DatQ.can x = true) (hy : DatQ.can y = true) (h64 : DatQ.depth α ≤ 64 := by decide) : Ev X ρ M (.Compare a [.Eq] [b] pos) M2 (.val (rB (decide (x = y)))) := ev_cmp (op_eqD hu) ha hb (hEqQ hx hy h64) (nomark _)
theorem ev_neQ [DatQ α] [DecidableEq α] {x y : α} (hu : X.A.units + 64 < cLine) (ha : Ev X ρ M a M1 (.val (rp X.K x))) (hb : Ev X ρ M1 b M2 (.val (rp X.K y))) (hx : DatQ.can x = true) (hy : DatQ.can y = true) (h64 : DatQ.depth α ≤ 64 := by decide) : Ev X ρ M (.Compare a [.NotEq] [b] pos) M2 (.val (rB (!decide (x = y)))) := ev_cmp (op_neD hu) ha hb (hNeQ hx hy h64) (nomark _)
theorem et_eqQ [DatQ α] [DecidableEq α] {x y : α} (hu : X.A.units + 64 < cLine) (ha : Ev X ρ M a M1 (.val (rp X.K x))) (hb : Ev X ρ M1 b M2 (.val (rp X.K y))) (hx : DatQ.can x = true) (hy : DatQ.can y = true) (h64 : DatQ.depth α ≤ 64 := by decide) : Et X ρ M (.Compare a [.Eq] [b] pos) M2 (decide (x = y)) := et_cmp (op_eqD hu) ha hb (hEqQ hx hy h64) (nomark _)
theorem et_neQ [DatQ α] [DecidableEq α] {x y : α} (hu : X.A.units + 64 < cLine) (ha : Ev X ρ M a M1 (.val (rp X.K x))) (hb : Ev X ρ M1 b M2 (.val (rp X.K y))) (hx : DatQ.can x = true) (hy : DatQ.can y = true) (h64 : DatQ.depth α ≤ 64 := by decide) : Et X ρ M (.Compare a [.NotEq] [b] pos) M2 (!decide (x = y)) := et_cmp (op_neD hu) ha hb (hNeQ hx hy h64) (nomark _)

/-! ### small things -/
theorem ev_ifq {t : Bool} {R1 R2 : VR} (hc : Et X ρ M c M1 t) (h1 : t = true → Ev X ρ M1 a M1 (.val R1)) (h2 : t = false → Ev X ρ M1 b M1 (.val R2)) : Ev X ρ M (.IfExp c a b pos) M1 (.val (if t = true then R1 else R2)) :=
  ev_ifx hc (fun e => by subst e; exact h1 rfl) (fun e => by subst e; exact h2 rfl)
theorem ev_revL {kk : Nat} {p1 p2 p3 : Pos} [Dat α] {xs : List α} (ha : Ev X ρ M a M1 (.val R)) (hs : IsL X.K M1 R (xs.map (rp X.K))) : Ev X ρ M (.Subscript a (.Slice none none (some (.UnaryOp .USub (.Constant (.int 1) kk p1) p2)) p3) pos) M1 (.new (hD X.K xs.reverse)) := fun σ H F Q hd en q =>
  we_of (pe_revL pe_w) (ha σ H F _ hd en fun v F1 H1 s1 h1 r1 => by
    obtain ⟨b, vs, rfl, hq, rs, hz⟩ := hs F1 H1 v h1 r1
    have rr := rs.rev
    rw [← List.map_reverse] at rr
    exact ⟨b, vs, rfl, hq, fun l hl => (q.shift s1).newL h1 hl rr (by rw [List.length_reverse]; exact hz)⟩)
theorem ev_bits {apos : Pos} (ha : Ev X ρ M a M1 (.val (rI i))) (hb : attributeBase a "bit_length" X.env (eval a X.env) = eval a X.env := by rfl) (hl : (apos.endLine == pos.line) = true := by rfl) : Ev X ρ M (.Call (.Attribute a "bit_length" apos) [] [] pos) M1 (.val (rI ((Builtin.Int.intBits i : Nat) : Int))) := fun σ H F Q hd en q =>
  we_of (pe_bits pe_w hb hl) (ha σ H F _ hd en fun v F1 H1 s1 h1 r1 => ⟨i, r1, q _ F1 H1 s1 h1 rfl⟩)
theorem ev_all {bs : List Bool} (z : X.mg "all" = none) (ha : Ev X ρ M a M1 (.val R)) (hs : IsL X.K M1 R (bs.map (rp X.K))) (hc : X.calm = true := by rfl) (hg : Gl X "all" := by rfl) (he : starEach [a] X.env = (false, eval a X.env) :: starEach [] X.env := by rfl) : Ev X ρ M (.Call (.Name "all" p) [a] [] pos) M1 (.val (rB (bs.all id))) :=
  ev_b1 (cr_all hc) z (by decide +kernel) ha (fun v F H Q h r q => by
    obtain ⟨b, vs, rfl, hq, rs, hz⟩ := hs F H v h r
    have e := rs.bools
    subst e
    exact ⟨b, bs, rfl, hq, q _ F H (Same.refl F) h rfl⟩) hg (he := he)
theorem ev_any {bs : List Bool} (z : X.mg "any" = none) (ha : Ev X ρ M a M1 (.val R)) (hs : IsL X.K M1 R (bs.map (rp X.K))) (hc : X.calm = true := by rfl) (hg : Gl X "any" := by rfl) (he : starEach [a] X.env = (false, eval a X.env) :: starEach [] X.env := by rfl) : Ev X ρ M (.Call (.Name "any" p) [a] [] pos) M1 (.val (rB (bs.any id))) :=
  ev_b1 (cr_any hc) z (by decide +kernel) ha (fun v F H Q h r q => by
    obtain ⟨b, vs, rfl, hq, rs, hz⟩ := hs F H v h r
    have e := rs.bools
    subst e
    exact ⟨b, bs, rfl, hq, q _ F H (Same.refl F) h rfl⟩) hg (he := he)
theorem et_int (h : Ev X ρ M e M1 (.val (rI i))) (he : ∀ whole, isTrue e X.env whole = (do let v ← whole; standAt e.pos; holding [v] (truthy v)) := by intro _; rfl) : Et X ρ M e M1 (decide (i ≠ 0)) := fun σ H F Q hd en q =>
  wt_of (pt_truth pe_w he) (h σ H F _ hd en fun v F1 H1 s1 h1 r1 => ⟨i != 0, by rw [show v = V.int i from r1]; rfl, by
    have e : (i != 0) = decide (i ≠ 0) := by rw [bne, Bool.beq_eq_decide_eq]; simp
    rw [e]; exact q F1 H1 s1 h1⟩)
theorem et_lst [Dat α] {xs : List α} (h : Ev X ρ M e M1 (.val R)) (hs : IsL X.K M1 R (xs.map (rp X.K))) (he : ∀ whole, isTrue e X.env whole = (do let v ← whole; standAt e.pos; holding [v] (truthy v)) := by intro _; rfl) : Et X ρ M e M1 (!xs.isEmpty) := fun σ H F Q hd en q =>
  wt_of (pt_truth pe_w he) (h σ H F _ hd en fun v F1 H1 s1 h1 r1 => by
    obtain ⟨b, vs, rfl, hq, rs, hz⟩ := hs F1 H1 v h1 r1
    have e : vs.isEmpty = xs.isEmpty := by
      have hl := rs.length
      rw [List.length_map] at hl
      cases vs <;> cases xs <;> simp_all
    exact ⟨_, .inl ⟨vs, hq, rfl⟩, by rw [e]; exact q F1 H1 s1 h1⟩)
/-- isinstance of a built-in type -/
def IsTy (K : PySem.W.Frag) (M : Mem) (R : VR) (t : String) : Prop := ∀ F H v, Held F M H → R.p F v → TyX K H v (.type t)
theorem tyx_int {K : PySem.W.Frag} : IsTy K M (rI i) "int" := fun F H v h r => by rw [show v = V.int i from r]; exact .base (.int i)
theorem tyx_bool {K : PySem.W.Frag} : IsTy K M (rB k) "bool" := fun F H v h r => by rw [show v = V.bl k from r]; exact .base (.bl k)
theorem tyx_str {K : PySem.W.Frag} {x : Str} : IsTy K M (rS x) "str" := fun F H v h r => by rw [show v = V.str x from r]; exact .base (.str x)
theorem tyx_list {K : PySem.W.Frag} : IsTy K M (rL Rs) "list" := fun F H v h r => by
  obtain ⟨a, vs, rfl, h1, _⟩ := r
  exact .base (.lst (h.ex _ _ h1))
theorem ev_isi {T t : String} {ans : Bool} {pn : Pos} (z : X.mg "isinstance" = none) (zT : X.mg (Str.ofString T) = none) (ha : Ev X ρ M a M1 (.val R)) (ty : IsTy X.K M1 R t) (hk : kitB t T = some ans) (hv : bootBuiltins (Str.ofString T) = some (.type T) := by decide +kernel)
    (hg : Gl X "isinstance" := by rfl) (hgT : Gl X (Str.ofString T) := by rfl) (hn : Str.ofString T ≠ "__name__" := by decide) (hdb : (Str.ofString T == ("__debug__" : Str)) = false := by decide)
    (he : starEach [a, .Name (Str.ofString T) pn] X.env = (false, eval a X.env) :: starEach [.Name (Str.ofString T) pn] X.env := by rfl) : Ev X ρ M (.Call (.Name "isinstance" p) [a, .Name (Str.ofString T) pn] [] pos) M1 (.val (rB ans)) := fun σ H F Q hd en q =>
  we_of (pe_callB call_isi hg z (by decide +kernel) (pa_cons pe_w (pa_cons (pe_bltn (v := .ty T) hgT zT hv rfl hn hdb) pa_nil) he) (he := he)) (ha σ H F _ hd en fun v F1 H1 s1 h1 r1 =>
    ⟨v, .ty T, .type t, .type T, ans, rfl, .ty T, ty F1 H1 v h1 r1, kit_ty hk, q _ F1 H1 s1 h1 rfl⟩)
/-- an owned thing is handed on: to the caller, as new -/
theorem ev_own (i n : Nat) {q : Addr} {x : Str} (hR : ρ[i]? = some (some (rA q))) (hn : M[n]? = some (q, A)) (hN : X.N[i]? = some x := by rfl) (hv : Vis X.env.scope x := by first | exact Or.inl rfl | exact Or.inr (Or.inl rfl) | exact Or.inr (Or.inr rfl))
    (hd : (x == ("__debug__" : Str)) = false := by decide) (hcd : (x == ("__classdict__" : Str)) = false := by decide) : Ev X ρ M (.Name x pos) (M.eraseIdx n) (.new A) := fun σ H F Q h e qq => by
  obtain ⟨v, hv', r⟩ := e.get hR
  refine we_of (pe_var hN hv hd hcd) ⟨v, hv', ?_⟩
  rw [show v = V.ref q from r]
  exact qq q F H (Same.refl F) (h.perm (perm_erase hn))
/-- the end of a def without a return -/
theorem ss_fall {Mf : Mem} {Q : VK} (s : List.Sublist Mf M) (q : ∀ F1, Same F0 F1 → Post F1 Mf (.val rN) Q) : SS X F0 ρ M [] (fun _ => { nx := fun _ H' => Q .non H', rt := Q }) := fun F1 e σ H F f hd en => wss_of pss_nil ((((q F1 e).sub s).shift f) .non F H (Same.refl F) hd rfl)
theorem ss_turnW {ρt : Type} {St : β → Rho} {Mm : β → Mem} {s : β} (l : Le ρ (St s)) (sb : List.Sublist (Mm s) M) : SS X F0 ρ M [] (turnT (ρ' := ρt) St Mm (.nx s) T) := fun F1 e σ H F f hd en => wss_of pss_nil ⟨s, rfl, F, f, hd.sub sb, en.le l⟩
theorem compM_pureN (f : α → γ) : ∀ xs : List α, compM (fun (_ : Unit) y => some (some (f y), ())) xs () = some (xs.map f, ())
  | [] => rfl
  | x :: xs => by
    show (compM _ xs ()).map _ = _
    rw [compM_pureN f xs]
    rfl
theorem compM_pureF (c : α → Bool) (f : α → γ) : ∀ xs : List α, compM (fun (_ : Unit) y => some (if c y = true then some (f y) else none, ())) xs () = some ((xs.filter c).map f, ())
  | [] => rfl
  | x :: xs => by
    show (compM _ xs ()).map _ = _
    rw [compM_pureF c f xs, List.filter_cons]
    show some _ = _
    split <;> simp
/-! ### ranges as lists -/
def ErO (X : Cx) (ρ : Rho) (M : Mem) (e : Expr) (M' : Mem) (xs : List Int) : Prop := ∃ lo n, xs = rng lo n ∧ n ≤ sizeLine ∧ Er X ρ M e M' lo n
theorem er_O1 {xs : List Int} (z : X.mg "range" = none) (ha : Ev X ρ M a M1 (.val (rI i))) (h : rgO 0 i = some xs) (hg : Gl X "range" := by rfl) (hs : starEach [a] X.env = [(false, eval a X.env)] := by rfl) : ErO X ρ M (.Call (.Name "range" p) [a] [] pos) M1 xs := by
  obtain ⟨h0, rfl⟩ := ifs h
  refine ⟨0, _, rfl, z16 ▸ h0.2.2.2.2, ?_⟩
  rw [Int.sub_zero]
  exact er_1 z ha h0.2.2.2.1 h0.2.2.1 hg hs
theorem er_O2 {xs : List Int} (z : X.mg "range" = none) (ha : Ev X ρ M a M1 (.val (rI i))) (hb : Ev X ρ M1 b M2 (.val (rI j))) (h : rgO i j = some xs) (hg : Gl X "range" := by rfl) (hs : starEach [a, b] X.env = [(false, eval a X.env), (false, eval b X.env)] := by rfl)
    (hs2 : starEach [b] X.env = [(false, eval b X.env)] := by rfl) : ErO X ρ M (.Call (.Name "range" p) [a, b] [] pos) M2 xs := by
  obtain ⟨h0, rfl⟩ := ifs h
  exact ⟨i, _, rfl, z16 ▸ h0.2.2.2.2, er_2 z ha hb ⟨h0.1, h0.2.1, h0.2.2.1, h0.2.2.2.1⟩ hg hs hs2⟩
theorem ev_popAtO (n : Nat) [Dat α] {xs : List α} {t : α × List α} {q : Addr} {xx : Expr} {pa : Pos} (hv : Ev X ρ M xx M1 (.val (rA q))) (ha : Ev X ρ M1 e M2 (.val (rI i))) (hl : ∃ Ss, M1[n]? = some (q, hL Ss)) (hn : M2[n]? = some (q, hD X.K xs)) (hp : popA xs i = some t)
    (k : M1k X xx "pop" e pa pos := by exact ⟨rfl, rfl, rfl, rfl, rfl⟩) : Ev X ρ M (.Call (.Attribute xx "pop" pa) [e] [] pos) (M2.set n (q, hD X.K t.2)) (.val (rp X.K t.1)) := by
  unfold popA at hp
  cases hj : ixN xs.length i with
  | none => rw [hj] at hp; cases hp
  | some j =>
    rw [hj] at hp
    simp only [Option.bind_some] at hp
    cases hx : xs[j]? with
    | none => rw [hx] at hp; cases hp
    | some z =>
      rw [hx] at hp
      cases hp
      obtain ⟨_, b1, b2, b3⟩ := ixN_seq hj
      have e : hD X.K (xs.eraseIdx j) = hL ((xs.map (rp X.K)).eraseIdx j) := by unfold hD; rw [map_erase]
      show Ev X ρ M _ (M2.set n (q, hD X.K (xs.eraseIdx j))) (.val (rp X.K z))
      rw [e]
      exact ev_m1 PySem.F.plainAttrs_list PySem.F.slot_list_pop PySem.F.type_list_pop mt_popAt hv (tyL hl) ha (fun v w F H Q h r1 r2 qq => by
        obtain ⟨o, g1, ⟨vs, rfl, g2, g3⟩, _⟩ := h.get hn
        obtain ⟨u, hz1, hz2⟩ := g2.get (i := j) (R := rp X.K z) (by rw [List.getElem?_map, hx]; rfl)
        have hlen : vs.length = xs.length := by rw [g2.length, List.length_map]
        have g4 : xs.length ≤ 16777216 := by rw [← hlen]; exact z16 ▸ g3
        exact ⟨q, vs, i, j, u, r1, by rw [show w = V.int i from r2], g1, by omega, by omega, by rw [hlen]; exact (ixN_seq hj).1, hz1, qq u F _ (Same.refl F) (h.set hn ⟨_, rfl, g2.erase j, Nat.le_trans (len_erase vs j) g3⟩) hz2⟩) k
end
section
variable {X : Cx} {F0 : Hp} {ρ : Rho} {M M1 M2 M' : Mem} {c e iter elt : Expr} {ifs : List Expr} {pos px spos py : Pos} {R : VR} {i : Nat} {x : Str} {rest body : List Stmt} {T : Ts} {β γ ρt : Type} {scope : Scope}
theorem ev_lcO (i : Nat) (nd : X.N.Nodup) {f : β → Int → Option (Option γ × β)} {xs : List Int} {s0 sf : β} {ys : List γ} (hm : compM f xs s0 = some (ys, sf)) (h : γ → VR) (Mm : β → Mem)
    (he : ErO X ρ M iter (Mm s0) xs) (ok : blkC X.N X.env.scope scope (ownOf x i) = true)
    (turn : ∀ b y u Mx, y ∈ xs → f b y = some u → ∃ M1, ∀ s H0 C cl fp, Ec (Blk X scope s H0 C cl fp) (ρ.set i (some (rI y))) (Mm b ++ Mx) ifs elt (u.1.map h) M1 (Mm u.2 ++ Mx))
    (hc : X.calm = true := by rfl) (hi : X.N[i]? = some x := by rfl) (hx : ∀ s H C cl fp, Loc (Blk X scope s H C cl fp).env.scope x := by intro _ _ _ _ _; first | exact Or.inl rfl | exact Or.inr rfl)
    (hf : ∀ s H C cl fp, (Blk X scope s H C cl fp).fn x = true ∨ (Blk X scope s H C cl fp).env.scope.names.lookup x = some .local := by intro _ _ _ _ _; first | exact .inr rfl | exact .inl rfl)
    (hs : ∀ x, foldedSetIterable iter X.env x = pure x := by intro _; rfl) : Ev X ρ M (.ListComp elt [⟨.Name x px, iter, ifs, 0⟩] scope pos) (Mm sf) (.new (Pw.hL (ys.map h))) := by
  obtain ⟨lo, n, rfl, hz, er⟩ := he
  exact ev_lcR i nd hm hz h Mm er ok (fun b y u Mx h1 h2 hu => turn b y u Mx (rng_mem.mpr ⟨h1, h2⟩) hu) hc hi hx hf hs
theorem ss_lcO (j i : Nat) (nd : X.N.Nodup) {y : Str} {f : β → Int → Option (Option γ × β)} {xs : List Int} {s0 sf : β} {ys : List γ} (hm : compM f xs s0 = some (ys, sf)) (h : γ → VR) (Mm : β → Mem)
    (he : ErO X ρ M iter (Mm s0) xs) (ok : blkC X.N X.env.scope scope (ownOf x i) = true)
    (turn : ∀ b y u Mx, y ∈ xs → f b y = some u → ∃ M1, ∀ s H0 C cl fp, Ec (Blk X scope s H0 C cl fp) (ρ.set i (some (rI y))) (Mm b ++ Mx) ifs elt (u.1.map h) M1 (Mm u.2 ++ Mx))
    (hr : ∀ q, SS X F0 (ρ.set j (some (rA q))) ((q, Pw.hL (ys.map h)) :: Mm sf) rest T)
    (hc : X.calm = true := by rfl) (hj : X.N[j]? = some y := by rfl) (hyl : X.env.scope.names.lookup y = some .local := by rfl) (hsw : swapsWith (.ListComp elt [⟨.Name x px, iter, ifs, 0⟩] scope pos) (some (.Name y py)) spos.line X.env = pure true := by exact sw_true rfl rfl rfl (by decide +kernel)) (hi : X.N[i]? = some x := by rfl) (hx : ∀ s H C cl fp, Loc (Blk X scope s H C cl fp).env.scope x := by intro _ _ _ _ _; first | exact Or.inl rfl | exact Or.inr rfl)
    (hf : ∀ s H C cl fp, (Blk X scope s H C cl fp).fn x = true ∨ (Blk X scope s H C cl fp).env.scope.names.lookup x = some .local := by intro _ _ _ _ _; first | exact .inr rfl | exact .inl rfl)
    (hs : ∀ x, foldedSetIterable iter X.env x = pure x := by intro _; rfl) : SS X F0 ρ M (.Assign [.Name y py] (.ListComp elt [⟨.Name x px, iter, ifs, 0⟩] scope pos) spos :: rest) T := by
  obtain ⟨lo, n, rfl, hz, er⟩ := he
  exact ss_lcR j i nd hm hz h Mm er ok (fun b y u Mx h1 h2 hu => turn b y u Mx (rng_mem.mpr ⟨h1, h2⟩) hu) hr hc hj hyl hsw hi hx hf hs
theorem ss_forCO (i : Nat) (nd : X.N.Nodup) {xs : List Int} (St : β → Rho) (Mm : β → Mem) (f : β → Int → Option (Ctl β ρt)) {s0 : β} {out : Ctl β ρt} (hm : forC f xs s0 = some out)
    (he : ErO X ρ M iter M1 xs) (h0 : Le ρ (St s0)) (h0M : List.Sublist (Mm s0) M1)
    (turn : ∀ s y c, y ∈ xs → f s y = some c → (∀ r, c = .rt r → out = .rt r) → SS X F0 ((St s).set i (some (rI y))) (Mm s) body (turnT St Mm c T))
    (h : ∀ s, out = .nx s → SS X F0 (St s) (Mm s) rest T)
    (hp : PassesOwn (model X.prog X.w) X.A X.env X.xe := by exact PassesOwn.never) (hc : X.calm = true := by rfl) (hi : X.N[i]? = some x := by rfl) (hx : Loc X.env.scope x := by first | exact Or.inl rfl | exact Or.inr rfl)
    (hf : X.fn x = true ∨ X.env.scope.names.lookup x = some .local := by first | exact .inl rfl | exact .inr rfl) (hs : ∀ x, foldedSetIterable iter X.env x = pure x := by intro _; rfl) (hrt : ∀ F F', (T F).rt = (T F').rt := by intros; rfl) : SS X F0 ρ M (.For (.Name x px) iter body [] pos :: rest) T := by
  obtain ⟨lo, n, rfl, hz, er⟩ := he
  exact ss_forRC i nd St Mm f hm er h0 h0M (fun s y c h1 h2 hc hr => turn s y c (rng_mem.mpr ⟨h1, h2⟩) hc hr) h hp hc hi hx hf hs hrt
theorem ss_forMO (i : Nat) (nd : X.N.Nodup) {xs : List Int} (St : β → Rho) (Mm : β → Mem) (f : β → Int → Option β) {s0 out : β} (hm : loopM f xs s0 = some out)
    (he : ErO X ρ M iter M1 xs) (h0 : Le ρ (St s0)) (h0M : List.Sublist (Mm s0) M1)
    (turn : ∀ s y s', y ∈ xs → f s y = some s' → SS X F0 ((St s).set i (some (rI y))) (Mm s) body (nxT (fun F1 => { T F1 with ct := At F1 (St s') (Mm s'), bk := fun _ _ => False }) (St s') (Mm s')))
    (h : SS X F0 (St out) (Mm out) rest T)
    (hp : PassesOwn (model X.prog X.w) X.A X.env X.xe := by exact PassesOwn.never) (hc : X.calm = true := by rfl) (hi : X.N[i]? = some x := by rfl) (hx : Loc X.env.scope x := by first | exact Or.inl rfl | exact Or.inr rfl)
    (hf : X.fn x = true ∨ X.env.scope.names.lookup x = some .local := by first | exact .inl rfl | exact .inr rfl) (hs : ∀ x, foldedSetIterable iter X.env x = pure x := by intro _; rfl) (hrt : ∀ F F', (T F).rt = (T F').rt := by intros; rfl) : SS X F0 ρ M (.For (.Name x px) iter body [] pos :: rest) T := by
  obtain ⟨lo, n, rfl, hz, er⟩ := he
  exact ss_forRM i nd St Mm f hm er h0 h0M (fun s y c h1 h2 hc => turn s y c (rng_mem.mpr ⟨h1, h2⟩) hc) h hp hc hi hx hf hs hrt
end
/-! ### sorted of data -/
section
variable {X : Cx}
theorem each_vals {ok : V × PyData → Prop} : ∀ {us : List Value} {bs : List (V × PyData)}, PySem.W.EachIs (fun u b => RelV b.1 u ∧ ok b) us bs → Vals (bs.map Prod.fst) us
  | _, [], h => by cases h; exact .nil
  | _, b :: bs, h => by
    cases h with
    | cons r t => exact .cons r.1 (each_vals t)
theorem vals_each {I : V × PyData → Value → Prop} : ∀ {us : List Value} {bs : List (V × PyData)}, Vals (bs.map Prod.fst) us → (∀ b ∈ bs, ∀ u, RelV b.1 u → I b u) → PySem.W.EachIs (fun u b => I b u) us bs
  | us, [], h, _ => by
    have h : Vals [] us := h
    cases h; exact .nil
  | us, b :: bs, h, k => by
    have h : Vals (b.1 :: bs.map Prod.fst) us := h
    cases h with
    | cons r t => exact .cons (k b List.mem_cons_self _ r) (vals_each t fun b hb => k b (List.mem_cons_of_mem _ hb))
theorem cr_sortedDat (hu : X.A.units + 64 < cLine) : CallR X (.builtin "sorted") (fun vs H Q => ∃ (a : Addr) (bs : List (V × PyData)), vs = [V.ref a] ∧ SqL X.K H a (bs.map Prod.fst) ∧ (∀ b ∈ bs, Dp X.K H b.1 b.2 ∧ b.2.depth ≤ 60) ∧
    PySem.W.AllAlike (bs.map Prod.snd) ∧ PySem.W.Sortable (bs.map Prod.snd) ∧ ∀ p, H p = none → Q (.ref p) (upd H p (.lst ((bs.mergeSort (PySem.W.dataLe false Prod.snd)).map Prod.fst)))) := by
  intro pins s σ H vs us Q I r h
  obtain ⟨a, bs, rfl, hs, hd, hal, hk, q⟩ := h
  obtain ⟨its, rv, hl, hz⟩ := I.list hs
  rw [Vals.ref1 r]
  rw [List.length_map] at hz
  refine PySem.W.sorted_data (R := fun u b => RelV b.1 u ∧ True) (enc := Prod.snd) (bs := bs) hl.isList (vals_each (I := fun b u => RelV b.1 u ∧ True) rv fun b hb u hu => ⟨hu, trivial⟩)
    (vals_each (I := fun b u => ∃ as, Reads s.heap u b.2 as) rv fun b hb u hu => Dp.reads I b.2 b.1 u (hd b hb).1 hu) hal hk hz (fun b hb => by have := (hd b hb).2; omega) fun out ho eo => ?_
  obtain ⟨ep, he'⟩ := PyProof.Rows.sortedAll_at s.heap its out.toArray
  have hv := each_vals eo
  have hlen : ((bs.mergeSort (PySem.W.dataLe false Prod.snd)).map Prod.fst).length ≤ sizeLine := by rw [List.length_map, List.length_mergeSort]; exact hz
  exact ⟨.ref _, upd H (s.heap.objs.size + 1) (.lst ((bs.mergeSort (PySem.W.dataLe false Prod.snd)).map Prod.fst)), I.laid (t' := s.toks) (fun _ _ => PyProof.Rows.sortedAll_old) (Nat.le_succ _) ⟨hlen, out, ep, hv, he'⟩, rfl, q _ (I.hok.fresh (Nat.le_succ _))⟩
end
/-- kinds that sort -/
class DatS (α : Type) extends DatQ α where
  alike : ∀ x y : α, PySem.W.alike (py x) (py y) = true
  srt : (∀ x : α, ∃ y r, py x = .tuple (y :: r)) ∨ ∀ x : α, py x ≠ .none ∧ ∀ xs, py x ≠ .tuple xs
theorem alikeAll_map {α : Type} [DatS α] : ∀ xs ys : List α, PySem.W.alikeAll (xs.map DatQ.py) (ys.map DatQ.py) = true
  | [], _ => by simp [PySem.W.alikeAll]
  | _ :: _, [] => by simp [PySem.W.alikeAll]
  | x :: xs, y :: ys => by
    rw [List.map_cons, List.map_cons, PySem.W.alikeAll, DatS.alike, alikeAll_map xs ys]; rfl
instance : DatS Int where
  alike := fun x y => by show PySem.W.alike (.int x) (.int y) = true; simp [PySem.W.alike]
  srt := .inr fun x => ⟨(fun z => by cases z), fun _ z => by cases z⟩
instance {α : Type} [DatS α] : DatS (List α) where
  alike := fun x y => by show PySem.W.alike (.list _) (.list _) = true; rw [PySem.W.alike]; exact alikeAll_map x y
  srt := .inr fun x => ⟨(fun z => by cases z), fun _ z => by cases z⟩
instance {α β : Type} [DatS α] [DatS β] : DatS (T2 α β) where
  alike := fun x y => by
    show PySem.W.alike (.tuple [_, _]) (.tuple [_, _]) = true
    simp only [PySem.W.alike, PySem.W.alikeAll, DatS.alike, Bool.and_self]
  srt := .inl fun x => ⟨_, _, rfl⟩
end Pw

namespace Pw
open PySem PySem.Spec PyProof.Rows L2
open Dat (rp)

/-! ### sorted, of things that are alike -/
def dsort {α : Type} [DatS α] (xs : List α) : List α := xs.mergeSort (PySem.W.dataLe false DatQ.py)
section
variable {X : Cx} {ρ : Rho} {M M1 M2 : Mem} {a b c e : Expr} {pos p : Pos} {R S : VR} {i j : Int}
theorem ev_powK {v : Int} (ha : Ev X ρ M a M1 (.val (rI i))) (hb : Ev X ρ M1 b M2 (.val (rI j))) (h : CPow i j) (e : i ^ j.toNat = v) : Ev X ρ M (.BinOp a .Pow b pos) M2 (.val (rI v)) := by subst e; exact ev_pow ha hb h
theorem rps_zip {α : Type} {F : Hp} (f : α → VR) : ∀ {vs : List V} {xs : List α}, Rps F vs (xs.map f) → ∀ z ∈ vs.zip xs, (f z.2).p F z.1
  | _, [], h => by cases h; simp
  | _, x :: xs, h => by
    cases h with
    | cons r t =>
      intro z hz
      rw [List.zip_cons_cons] at hz
      rcases List.mem_cons.mp hz with rfl | hz
      · exact r
      · exact rps_zip f t z hz
theorem rps_of_all {α : Type} {F : Hp} (f : α → VR) : ∀ (zs : List (V × α)), (∀ z ∈ zs, (f z.2).p F z.1) → Rps F (zs.map Prod.fst) ((zs.map Prod.snd).map f)
  | [], _ => .nil
  | z :: zs, h => .cons (h z List.mem_cons_self) (rps_of_all f zs fun y hy => h y (List.mem_cons_of_mem _ hy))
theorem ev_sortedD {α : Type} [DatS α] {xs : List α} (hu : X.A.units + 64 < cLine) (z : X.mg "sorted" = none) (ha : Ev X ρ M a M1 (.val R)) (hs : IsL X.K M1 R (xs.map (rp X.K))) (h60 : DatQ.depth α ≤ 60 := by decide) (hg : Gl X "sorted" := by rfl)
    (he : starEach [a] X.env = (false, eval a X.env) :: starEach [] X.env := by rfl) : Ev X ρ M (.Call (.Name "sorted" p) [a] [] pos) M1 (.new (hD X.K (dsort xs))) :=
  ev_b1 (cr_sortedDat hu) z (by decide +kernel) ha (fun v F H Q h r q => by
    obtain ⟨p, vs, rfl, hq, rs, hz⟩ := hs F H v h r
    have hl : vs.length = xs.length := by have := rs.length; rwa [List.length_map] at this
    have hz1 := rps_zip (rp X.K) rs
    have e1 : (vs.zip xs).map Prod.fst = vs := List.map_fst_zip (by omega)
    have e2 : (vs.zip xs).map Prod.snd = xs := List.map_snd_zip (by omega)
    refine ⟨p, (vs.zip xs).map (fun z => (z.1, DatQ.py z.2)), rfl, ?_, fun b hb => ?_, ?_, ?_, fun l hl2 => ?_⟩
    · rw [List.map_map, show (Prod.fst ∘ fun z : V × α => (z.1, DatQ.py z.2)) = Prod.fst from rfl, e1]; exact hq
    · obtain ⟨z, hz, rfl⟩ := List.mem_map.mp hb
      exact ⟨DatQ.dp X.K F H z.1 z.2 h.ex (hz1 z hz), Nat.le_trans (DatQ.dep z.2) h60⟩
    · intro d hd d' hd'
      rw [List.map_map] at hd hd'
      obtain ⟨z, _, rfl⟩ := List.mem_map.mp hd
      obtain ⟨z', _, rfl⟩ := List.mem_map.mp hd'
      exact DatS.alike z.2 z'.2
    · rcases DatS.srt (α := α) with k | k
      · refine .inl fun d hd => ?_
        rw [List.map_map] at hd
        obtain ⟨z, _, rfl⟩ := List.mem_map.mp hd
        obtain ⟨y, r, e⟩ := k z.2
        exact ⟨y, r, e⟩
      · refine .inr fun d hd => ?_
        rw [List.map_map] at hd
        obtain ⟨z, _, rfl⟩ := List.mem_map.mp hd
        exact k z.2
    · have m1 : (((vs.zip xs).mergeSort (fun a b => PySem.W.dataLe false DatQ.py a.2 b.2)).map (fun z : V × α => (z.1, DatQ.py z.2))) = ((vs.zip xs).map (fun z : V × α => (z.1, DatQ.py z.2))).mergeSort (PySem.W.dataLe false Prod.snd) :=
        List.map_mergeSort (fun a _ b _ => rfl)
      have m2 : (((vs.zip xs).mergeSort (fun a b => PySem.W.dataLe false DatQ.py a.2 b.2)).map Prod.snd) = ((vs.zip xs).map Prod.snd).mergeSort (PySem.W.dataLe false DatQ.py) :=
        List.map_mergeSort (fun a _ b _ => rfl)
      rw [e2] at m2
      rw [← m1, List.map_map, show (Prod.fst ∘ fun z : V × α => (z.1, DatQ.py z.2)) = Prod.fst from rfl]
      refine q.newL h hl2 ?_ ?_
      · show Rps F _ ((dsort xs).map (rp X.K))
        unfold dsort
        rw [← m2]
        exact rps_of_all (rp X.K) _ fun z hz => hz1 z (List.mem_mergeSort.mp hz)
      · rw [List.length_map, List.length_mergeSort, List.length_zip]
        omega) hg (he := he)

/-! ### max(.., default=i) of ints -/
def maxI (xs : List Int) (d : Int) : Int := match xs with
  | [] => d
  | y :: ys => ys.foldl max y
theorem reads_ints {h : Heap} {its : List Value} {ns : List Int} (e : IntsAre its ns) : ∃ as, ReadsAll h its (ns.map .int) as := by
  induction e with
  | nil => exact ⟨[], .nil⟩
  | cons n t r ih =>
    obtain ⟨as, q⟩ := ih
    exact ⟨_, .cons (.int n t) q⟩
theorem cr_maxDef (hc : X.calm = true) (hu : X.A.units + 64 < cLine) : CallRK X (.builtin "max") [Str.ofString "default"] (fun vs zs H Q => ∃ (a : Addr) (ns : List Int) (d : Int), vs = [V.ref a] ∧ zs = [V.int d] ∧ SqL X.K H a (ns.map V.int) ∧ Q (.int (maxI ns d)) H) := by
  intro pins s σ H vs zs us ws Q I r rz h
  obtain ⟨a, ns, d, rfl, rfl, hs, q⟩ := h
  obtain rfl := Vals.ref1 r
  obtain ⟨w1, rfl, e1⟩ := vals1 rz
  obtain ⟨t, rfl⟩ : ∃ t, w1 = Value.int d t := e1
  obtain ⟨its, rv, hl, hz⟩ := I.list hs
  obtain ⟨as, ra⟩ := reads_ints (h := s.heap) rv.ints
  have al : PySem.W.AlikeAll (ns.map PyData.int) := by
    refine ⟨fun x hx y hy => ?_, fun x hx => ?_⟩
    · obtain ⟨n, _, rfl⟩ := List.mem_map.mp hx
      obtain ⟨m, _, rfl⟩ := List.mem_map.mp hy
      simp [PySem.W.alike]
    · obtain ⟨n, _, rfl⟩ := List.mem_map.mp hx
      exact fun z => by cases z
  refine PySem.W.max_list_default (I.ok.hd hc) hl.isList ra al (by rw [PySem.W.depth_ints]; omega) (fun e h' tk k => ?_) fun y ys i v h' tk bs e hv rd k => ?_
  · have en : ns = [] := List.map_eq_nil_iff.mp e
    subst en
    exact ⟨.int d, H, I.kept k, ⟨t, rfl⟩, q⟩
  · cases ns with
    | nil => cases e
    | cons n ns =>
      rw [List.map_cons, List.cons.injEq] at e
      obtain ⟨e1, e2⟩ := e
      subst e1 e2
      rw [PySem.W.maxD_ints] at rd
      obtain ⟨t', rfl, _⟩ := reads_int_inv rd
      exact ⟨.int _, H, I.kept k, ⟨t', rfl⟩, q⟩
theorem ev_maxD {ns : List Int} {d : Int} {kp : Pos} (hu : X.A.units + 64 < cLine) (z : X.mg "max" = none) (ha : Ev X ρ M a M1 (.val R)) (hs : IsL X.K M1 R (ns.map (rp X.K))) (hb : Ev X ρ M1 b M1 (.val (rI d))) (hc : X.calm = true := by rfl) (hg : Gl X "max" := by rfl)
    (he : backTo pos (starEach [a] X.env) = (false, eval a X.env) :: backTo pos (starEach [] X.env) := by rfl) (he1 : starEach [a] X.env = (false, eval a X.env) :: starEach [] X.env := by rfl) (hpl : (backTo pos (starEach [a] X.env)).any (·.1) = false := by rfl)
    (hall : (backToKw pos (keywordEach [⟨some "default", b, kp⟩] X.env)).all (·.1.isSome) = true := by rfl) (hnone : (backToKw pos (keywordEach [⟨some "default", b, kp⟩] X.env)).any (·.1.isNone) = false := by rfl) (hks : (backToKw pos (keywordEach [⟨some "default", b, kp⟩] X.env)).filterMap (·.1) = [Str.ofString "default"] := by rfl) :
    Ev X ρ M (.Call (.Name "max" p) [a] [⟨some "default", b, kp⟩] pos) M1 (.val (rI (maxI ns d))) := fun σ H F Q hd en q =>
  we_of (pe_callBK (cr_maxDef hc hu) hg z (by decide +kernel) (pa_cons pe_w pa_nil he1) (pk_cons pe_w pk_nil) (by decide) (by decide) he hpl hall hnone hks) (ha σ H F _ hd en fun v F1 H1 s1 h1 r1 => hb σ H1 F1 _ h1 (en.mono s1) fun w F2 H2 s2 h2 r2 => by
    obtain ⟨p, vs, rfl, hq, rs, hz⟩ := hs F2 H2 v h2 (R.mono s2 r1)
    have e := rs.ints
    subst e
    exact ⟨p, ns, d, rfl, by rw [show w = V.int d from r2], hq, q _ F2 H2 (s1.trans s2) h2 rfl⟩)
end

/-! ### the law's end -/
section
variable {P : Program} {w : World} {K : PySem.W.Frag} {mg : Str → Option Value} {base : Heap}
theorem Fn.of {x : Str} {st : Stmt} {N ps : List Str} {k : Nat} {C : Ct} {f : Addr} {fd : FuncData} (G : Fun K x x st f fd) (S : FnScope N ps (defScope st))
    (len : ∀ Rs M0 M1 r, C Rs M0 M1 r → Rs.length = ps.length)
    (body : ∀ f cdv A outer s H E (Q : VK) Rs M0 M1 r Mr F, Room k (A.deeper (envOfC x (defScope st) s.heap.objs.size f cdv)) → C Rs M0 M1 r → (∀ F1, Same F F1 → Post F1 (M1 ++ Mr) r Q) →
      SS (BX P w K mg base N x st f cdv A outer s H E) F (Rs.map some ++ List.replicate (N.length - Rs.length) none) (M0 ++ Mr) (defBody st) (fun _ => { nx := fun _ H' => Q .non H', rt := Q })) :
    FnOk P w K mg base CX0 (k + 1) f fd ps (spOf C) := by
  refine G.ok S (fun vs H Q E h => ?_) (fun cdv A outer s H vs Q E hr h => ?_)
  · obtain ⟨Rs, M0, M1, r, Mr, F', hc, _, r', _⟩ := h
    rw [r'.length]; exact len _ _ _ _ hc
  · obtain ⟨Rs, M0, M1, r, Mr, F', hc, hd, r', q⟩ := h
    obtain ⟨t, D1, a, bb, c⟩ := body f cdv A outer s H E Q Rs M0 M1 r Mr F' hr hc (fun F1 e => q.shift e) F' (Same.refl F') (L2.start N vs) H F' (Same.refl F') hd (EnvR.start N r')
    exact ⟨WSs _ (defBody st), pss_w, t, D1, a, bb, c⟩
end
theorem Held.ofAll (H : Hp) : Held H [] H := ⟨Same.refl H, fun _ h => by simp at h, List.nodup_nil⟩
theorem rps_ints {K : PySem.W.Frag} {F : Hp} : ∀ ns : List Int, Rps F (ns.map V.int) (ns.map (rp K))
  | [] => .nil
  | _ :: ns => .cons rfl (rps_ints ns)
theorem rLs_of {K : PySem.W.Frag} {H : Hp} {a : Addr} {ns : List Int} (h : SqL K H a (ns.map V.int)) (hl : ns.length ≤ 63) : (rLs K (ns.map (rp K))).p H (.ref a) :=
  ⟨a, ns.map V.int, rfl, h, rps_ints ns, by rw [List.length_map]; exact Nat.le_trans hl (by decide)⟩
end Pw

namespace Pw
open PySem PySem.Spec PyProof.Rows L2
open Dat (rp)
/-! ### a def with a lambda: its table of code objects is owned -/
def hTab (q : Str) : HR := ⟨fun F o => ∃ ps : Array Value, o = .tbl ps ∧ TriplesOk ps.toList ∧ ∀ (pos : Pos) (cv : Value), codeAmong pos ps.toList = some cv → ∃ c, cv = .ref c ∧ F c = some (LamX.CodeO c q),
  fun e ⟨ps, h1, h2, h3⟩ => ⟨ps, h1, h2, fun pos cv h => by obtain ⟨c, a, b⟩ := h3 pos cv h; exact ⟨c, a, e _ _ b⟩⟩⟩
/-- a def of the text whose code object stands at a known place, with its table at P -/
def StandT (K : PySem.W.Frag) (mg : Str → Option Value) (base : Heap) (P : Addr) (x : Str) (st : Stmt) : Prop :=
  ∃ (f : Addr) (fd : FuncData) (c : Addr), mg x = some (.ref f) ∧ PySem.W.keepIn K (.ref f) = true ∧ LamX.TabB base mg c P ∧
    ∃ (oc : Value) (od : Option Addr) (kV doc pm : Value) (an : Option Addr) (ct : Value) (osl : Array (Option Value)),
      fd = PySem.W.fnOf x x (defArgs st) (defBody st) (defScope st) .none kV doc pm an (.ref c) ct ∧ K.lookup f = some ⟨oc, od, .func fd, osl⟩ ∧ PySem.W.codeIn K (.ref c) x = true
section
variable {P : Program} {w : World} {K : PySem.W.Frag} {mg : Str → Option Value} {base : Heap}
theorem Def.ofT {x : Str} {st : Stmt} {N ps : List Str} {k : Nat} {C : Ct} {tb : Addr} (G : StandT K mg base tb x st) (S : FnScope N ps (defScope st))
    (b : ∀ (kV doc pm : Value) (an : Option Addr) (cdv ct : Value) (us : List Value), us.length = ps.length → bindArgs (PySem.W.fnOf x x (defArgs st) (defBody st) (defScope st) .none kV doc pm an cdv ct) ⟨us, []⟩ = pure (ps.zip us))
    (len : ∀ Rs M0 M1 r, C Rs M0 M1 r → Rs.length = ps.length)
    (body : ∀ f cdv, (∃ c, cdv = .ref c ∧ LamX.TabB base mg c tb) → ∀ A outer s H E (Q : VK) Rs M0 M1 r Mr F, Room k (A.deeper (envOfC x (defScope st) s.heap.objs.size f cdv)) → C Rs M0 M1 r → (∀ F1, Same F F1 → Post F1 (M1 ++ Mr) r Q) →
      SS (BX P w K mg base N x st f cdv A outer s H E) F (Rs.map some ++ List.replicate (N.length - Rs.length) none) (M0 ++ Mr) (defBody st) (fun _ => { nx := fun _ H' => Q .non H', rt := Q })) :
    Def P w K mg base x (k + 1) ps C := by
  obtain ⟨f, fd, c, g, kp, TB, oc, od, kV, doc, pm, an, ct, osl, rfl, lk, hcd⟩ := G
  refine ⟨f, _, ?_, g, kp, .all (b kV doc pm an (.ref c) ct)⟩
  refine fn_of lk hcd S (fun vs H Q E h => ?_) fun A outer s H vs Q E hr h => ?_
  · obtain ⟨Rs, M0, M1, r, Mr, F', hc, _, r', _⟩ := h
    rw [r'.length]; exact len _ _ _ _ hc
  · obtain ⟨Rs, M0, M1, r, Mr, F', hc, hd, r', q⟩ := h
    obtain ⟨t, D1, a, bb, h⟩ := body f (.ref c) ⟨c, rfl, TB⟩ A outer s H E Q Rs M0 M1 r Mr F' hr hc (fun F1 e => q.shift e) F' (Same.refl F') (L2.start N vs) H F' (Same.refl F') hd (EnvR.start N r')
    exact ⟨WSs (BX P w K mg base N x st f (.ref c) A outer s H E) (defBody st), PSs.nox (t := WSs (BX P w K mg base N x st f (.ref c) A outer s H E) (defBody st)) pss_w, t, D1, a, bb, h⟩
end
/-! ### sorted by (len(part), part) -/
def lkey (l : List Int) : PyData := DatQ.py (⟨(l.length : Int), l⟩ : T2 Int (List Int))
def lsort (xs : List (List Int)) : List (List Int) := xs.mergeSort (PySem.W.dataLe false lkey)
section
variable {X : Cx} {ρ : Rho} {M M1 M2 M3 M' Mr M0 : Mem} {a b c e : Expr} {es : List Expr} {pos p : Pos} {R S : VR} {Rs Ss : List VR} {res r : Res} {i j : Int} {x : Str} {k : Nat} {ps : List Str} {C : Ct}
end
end Pw

namespace Pw
open PySem PySem.Spec PyProof.Rows L2
open Dat (rp)
/-! ### lambda part: (len(part), part), called -/
theorem lam_len_run {prog : Program} {w : World} {A : Around} {E : Value → Shared → Prop} {s : Shared} {f c' pa : Addr} {params : Arguments} {scope : Scope} {pm ctv : Value} {qual : Str} {mg mb : Str → Option Value} {its : Array Value} {Q : Value → Shared → Prop} {p1 p2 p3 p4 p5 : Pos} {x1} {y : Str}
    (hroom : A.depth < recursionLimit)
    (ho : s.heap.get? f = some (PySem.W.kla_obj "<lambda>" qual params (.Tuple [.Call (.Name "len" p1) [.Name y p2] [] p3, .Name y p4] x1 p5) scope [] pm c' ctv)) (hcd : s.heap.CodeRec (.ref c') qual)
    (glob : s.heap.Ns mainGlobals mg) (hm : mg ("len" : Str) = none) (blt : s.heap.Ns builtinsNs mb) (hmb : mb ("len" : Str) = some (.builtin "len")) (lim : s.heap.NoLimit) (hdy : (y == ("__debug__" : Str)) = false) (hp : s.heap.IsList pa its) (hz : (its.size : Int) < 2 ^ 63)
    (hbind : bindArgs (PySem.W.kla_fn "<lambda>" qual params (.Tuple [.Call (.Name "len" p1) [.Name y p2] [] p3, .Name y p4] x1 p5) scope [] pm (.ref c') ctv) ⟨[Value.ref pa], []⟩ = pure [(y, Value.ref pa)])
    (hk : scope.kind = .function) (hco : scope.isCoroutine = false) (hgen : scope.isGenerator = false) (hnc : ∀ x ∈ scope.names, x.2 ≠ .cell) (hl : scope.names.lookup y = some NameKind.local) (hlen : scope.names.lookup ("len" : Str) = some NameKind.globalImplicit)
    (q : ∀ h' tk t T, (∀ b o, s.heap.get? b = some o → h'.get? b = some o) → s.heap.objs.size ≤ T → h'.get? T = some { cls := .type "tuple", data := .seq #[.int its.size t, .ref pa] } → Q (.ref T) { s with heap := h', toks := tk }) :
    wpAny (model prog w) A (call (.ref f) [.ref pa]) Q E s := by
  refine wpAny_call (PySem.W.kla_callFunE hroom ho rfl hco hgen rfl hcd ?_)
  rw [hbind]
  refine wpAny_pure (wpAny_newFunctionEnv hnc (fun y hy => ?_) (fun h₁ hns hsb => ⟨?_, ?_⟩) hk)
  · rw [List.mem_singleton.mp hy]; exact hl
  · exact lim.fresh _ hsb
  have kp : ∀ b o, s.heap.get? b = some o → h₁.get? b = some o := fun b o e => hsb.extBut b o (Nat.ne_of_lt (Heap.lt_size e)) (Heap.get?_push_of_some _ e)
  have sz : s.heap.objs.size ≤ h₁.objs.size := by
    obtain ⟨o, es, ep, e, _⟩ := hns
    exact Nat.le_of_lt (Heap.lt_size e)
  have hpart : (fun x => ([(y, Value.ref pa)] : List (Str × Value)).reverse.lookup x) y = some (.ref pa) := by simp [List.lookup]
  refine PySem.W.kla_codeExpr ?_
  refine wpAny_Tuple_spliced (args_cons ?_ rfl)
  refine Call_ (Calls.Name_function_global hk hlen (Calls.loadGlobal_builtin (glob.keeps kp) hm (blt.keeps kp) hmb ?_)) rfl
  refine callWith_builtin1 (args_cons (wpAny_Name (wpAny_loadName_local hk hl hns hpart ?_) hdy) rfl) rfl rfl
  refine args_nil ?_
  obtain ⟨o, e1, e2⟩ := hp
  refine Calls.call_len_list (items := its) ⟨o, kp _ _ e1, e2⟩ hz ?_
  refine args_cons (wpAny_Name (wpAny_loadName_local hk hl hns hpart ?_) hdy) rfl
  refine args_nil ⟨(show 2 ≤ sizeLine by decide), ?_⟩
  exact q _ _ _ _ (fun b o e => Heap.get?_push_of_some _ (kp b o e)) sz (Heap.get?_push_size _ rfl)

/-! ### a heap cut off -/
def cutH (h : Heap) (L : Addr) : Heap := { objs := h.objs.extract 0 L }
theorem cutH_ix (objs : Array Obj) (L b : Nat) (hb : b < L) : (objs.extract 0 L)[b]? = objs[b]? := by
  rw [Array.getElem?_extract]
  split
  · rw [Nat.zero_add]
  · rename_i h1
    have : objs.size ≤ b := by
      rw [Nat.sub_zero] at h1
      by_cases h2 : b < objs.size
      · exact absurd (Nat.lt_min.mpr ⟨hb, h2⟩) h1
      · exact Nat.le_of_not_lt h2
    rw [Array.getElem?_eq_none this]
theorem cutH_get {h : Heap} {L b : Addr} (hb : b < L) : (cutH h L).get? b = h.get? b := by
  have e := cutH_ix h.objs L b hb
  unfold Heap.get?
  rw [show (cutH h L).objs[b]? = h.objs[b]? from e]
theorem cutH_none {h : Heap} {L b : Addr} (hb : L ≤ b) : (cutH h L).get? b = none := by
  refine Heap.get?_none_of_le ?_
  show (h.objs.extract 0 L).size ≤ b
  rw [Array.size_extract]
  exact Nat.le_trans (Nat.le_trans (Nat.sub_le _ _) (Nat.min_le_left _ _)) hb
theorem cutH_size {h : Heap} {L : Addr} : (cutH h L).objs.size ≤ L := by
  show (h.objs.extract 0 L).size ≤ L
  rw [Array.size_extract]
  exact Nat.le_trans (Nat.sub_le _ _) (Nat.min_le_left _ _)
theorem cutH_sub {h : Heap} {L b : Addr} {o : Obj} (e : (cutH h L).get? b = some o) : h.get? b = some o ∧ b < L := by
  by_cases hb : b < L
  · rw [cutH_get hb] at e; exact ⟨e, hb⟩
  · rw [cutH_none (Nat.le_of_not_lt hb)] at e; cases e
/-- all that lies above L -/
def above (h : Heap) (L : Addr) : List (Addr × Obj) := (List.range h.objs.size).filterMap fun b => if b ≤ L then none else (h.get? b).map fun o => (b, o)
theorem mem_above {h : Heap} {L : Addr} {p : Addr × Obj} : p ∈ above h L ↔ L < p.1 ∧ h.get? p.1 = some p.2 := by
  unfold above
  rw [List.mem_filterMap]
  constructor
  · rintro ⟨b, hb, e⟩
    split at e
    · cases e
    · rename_i hl
      cases q : h.get? b with
      | none => rw [q] at e; cases e
      | some o =>
        rw [q] at e
        cases e
        exact ⟨Nat.lt_of_not_le hl, q⟩
  · rintro ⟨h1, h2⟩
    refine ⟨p.1, List.mem_range.mpr (Heap.lt_size h2), ?_⟩
    rw [if_neg (Nat.not_le_of_lt h1), h2]
    rfl
theorem obj_there {P : Program} {w : World} {H : Hp} {h : Heap} {a : Addr} {o : HO} (x : ObjOk P w H h a o) : ∃ u, h.get? a = some u := by
  cases o with
  | lst xs => obtain ⟨_, _, _, _, e⟩ := x; exact ⟨_, e⟩
  | tup xs => obtain ⟨_, _, _, o, e, _⟩ := x; exact ⟨_, e⟩
  | dK kvs => obtain ⟨_, _, _, _, o, _, _, e, _⟩ := x; exact ⟨_, e⟩
  | dT kvs => obtain ⟨_, _, _, _, o, _, _, e, _⟩ := x; exact ⟨_, e⟩
  | set S n => obtain ⟨o, _, _, _, e, _⟩ := x; exact ⟨_, e⟩
  | ins C dx fs => obtain ⟨_, _, _, e, _⟩ := x; exact ⟨_, e⟩
  | own y => obtain ⟨_, e⟩ := x; exact ⟨_, e⟩
  | xd fs => obtain ⟨_, ⟨_, _, _, e, _⟩, _⟩ := x; exact ⟨_, e⟩
  | rng lo hi => obtain ⟨_, _, _, e⟩ := x; exact ⟨_, e⟩
  | frz ob u => obtain ⟨e, _⟩ := x; exact ⟨_, e⟩
  | tbl ps => exact ⟨_, show h.get? a = some _ from x⟩
  | met f y => exact ⟨_, show h.get? a = some _ from x⟩
  | ext φ => obtain ⟨_, ⟨_, e⟩, _⟩ := x; exact ⟨_, e⟩
section
variable {X : Cx} {pins : List (Addr × Obj)} {σ : L2.St} {H : Hp} {s : Shared} {h' : Heap}
/-- all objects but the frame's locals are kept, these keep their names, one is new -/
theorem Inv.relaid {m : Str → Option Value} {D : Addr} {o : HO} {tk : Nat} (I : Inv X pins σ H s) (hm : ∀ (i : Nat) (x : Str) (v : V), X.N[i]? = some x → σ[i]? = some (some v) → Vis X.env.scope x → ∃ u, RelV v u ∧ Look X.env s.heap m x u)
    (k : ∀ b o, b ≠ X.env.locals → s.heap.get? b = some o → h'.get? b = some o) (hns : h'.Ns X.env.locals m) (hD : s.heap.get? D = none) (hDL : D ≠ X.env.locals) (new : ObjOk X.prog X.w (upd H D o) h' D o) :
    Inv X pins σ (upd H D o) { s with heap := h', toks := tk } := by
  have nD : H D = none := by
    cases q : H D with
    | none => rfl
    | some u =>
      obtain ⟨z, e⟩ := obj_there (I.hok D u q)
      rw [hD] at e; cases e
  have at_ : ∀ b, b ≠ D → upd H D o b = H b := fun b h => upd_ne h
  have neD : ∀ b u, s.heap.get? b = some u → b ≠ D := fun b u e z => by rw [z, hD] at e; cases e
  have neT : ∀ b u, H b = some u → b ≠ D := fun b u e z => by rw [z, nD] at e; cases e
  have neL : ∀ b u, H b = some u → b ≠ X.env.locals := fun b u e z => by rw [z, I.free] at e; cases e
  have old : ∀ b u, X.s_0.heap.get? b = some u → b ≠ X.env.locals := fun b u e z => by
    have h1 := Heap.lt_size e
    rw [z] at h1
    exact Nat.lt_irrefl _ (Nat.lt_of_lt_of_le h1 I.ok.above)
  refine ⟨I.ok, I.os, I.bare, ⟨fun b ob e n1 n2 n3 => ?_, fun b ob e n1 n2 n3 => ?_, fun b ob e n1 n2 => ?_, fun b ob e n1 => ?_, fun b xs e => ?_, fun b ob u e => ?_, fun b ps e => ?_⟩, ⟨m, hns, fun i x v e1 e2 e3 => ?_⟩, fun x c e => ?_, ?_, fun x c e => ?_, fun p hp => ?_, fun b u e => ?_, I.len⟩
  · exact k b ob (old b ob e) (I.base.keep b ob e n1 n2 n3)
  · obtain ⟨sl, z⟩ := I.base.slot b ob e n1 n2 n3
    exact ⟨sl, k b _ (old b ob e) z⟩
  · obtain ⟨sl, z⟩ := I.base.any e n1 n2
    rw [at_ b (neD b _ z)]
    exact I.base.free b ob e n1 n2
  · obtain ⟨u, z⟩ := I.base.there b ob e n1
    exact ⟨u, k b u (old b ob e) z⟩
  · have z := I.base.tups b xs e
    rw [at_ b (neT b _ z)]; exact z
  · have z := I.base.frzs b ob u e
    rw [at_ b (neT b _ z)]; exact z
  · obtain ⟨more, z⟩ := I.base.tbls b ps e
    exact ⟨more, by rw [at_ b (neT b _ z)]; exact z⟩
  · obtain ⟨u, r, l⟩ := hm i x v e1 e2 e3
    refine ⟨u, r, ?_⟩
    rcases l with ⟨l1, l2⟩ | ⟨l1, c, l2, oc, l3, l4⟩
    · exact .inl ⟨l1, l2⟩
    · exact .inr ⟨l1, c, l2, oc, k c oc (I.cne x c l2) l3, l4⟩
  · obtain ⟨v, oc, l3, l4⟩ := I.cell x c e
    exact ⟨v, oc, k c oc (I.cne x c e) l3, l4⟩
  · rw [at_ _ hDL.symm]; exact I.free
  · obtain ⟨v, oc, l3, l4⟩ := I.cell x c e
    rw [at_ c (neD c _ l3)]; exact I.freeC x c e
  · obtain ⟨p1, p2, p3, p4, p5⟩ := I.pin p hp
    exact ⟨k _ _ p3 p1, by rw [at_ _ (neD _ _ p1)]; exact p2, p3, p4, p5⟩
  · by_cases hb : b = D
    · subst hb
      rw [upd_same] at e
      cases e
      exact new
    · rw [at_ b hb] at e
      refine (I.hok b u e).stay (fun c z hc q => k c z ?_ q) (fun c hc => by rw [at_ c (neT c _ hc)]; exact hc) fun c xs hc => by rw [at_ c (neT c _ hc)]; exact hc
      rcases hc with hc | hc
      · rw [hc]; exact neL b _ e
      · exact neL c _ hc
end
end Pw

namespace Pw
open PySem PySem.Spec PyProof.Rows L2
open Dat (rp)
/-- a list of lists of ints that stand below n -/
def rBd (n : Nat) (K : PySem.W.Frag) (xs : List (List Int)) : VR := ⟨fun F v => ∃ a vs, v = .ref a ∧ F a = some (.lst vs) ∧ Rps F vs (xs.map (rp K)) ∧ vs.length ≤ sizeLine ∧ ∀ u ∈ vs, ∀ b, u = V.ref b → b < n,
  fun e ⟨a, vs, h1, h2, h3, h4, h5⟩ => ⟨a, vs, h1, e _ _ h2, h3.mono e, h4, h5⟩⟩
theorem each_zip {α : Type} {I : Value → V × α → Prop} : ∀ {vs : List V} {its : List Value} {xs : List α}, Vals vs its → vs.length = xs.length → (∀ z ∈ vs.zip xs, ∀ u, RelV z.1 u → I u z) → PySem.W.EachIs I its (vs.zip xs)
  | [], _, [], h, _, _ => by cases h; exact .nil
  | [], _, _ :: _, _, e, _ => by cases e
  | _ :: _, _, [], _, e, _ => by cases e
  | v :: vs, _, x :: xs, h, e, k => by
    cases h with
    | cons r t =>
      rw [List.zip_cons_cons]
      exact .cons (k (v, x) (by rw [List.zip_cons_cons]; exact List.mem_cons_self) _ r) (each_zip t (by simpa using e) fun z hz => k z (by rw [List.zip_cons_cons]; exact List.mem_cons_of_mem _ hz))
theorem each_fst {α : Type} {ok : Value → V × α → Prop} : ∀ {us : List Value} {bs : List (V × α)}, PySem.W.EachIs (fun u b => RelV b.1 u ∧ ok u b) us bs → Vals (bs.map Prod.fst) us
  | _, [], h => by cases h; exact .nil
  | _, b :: bs, h => by
    cases h with
    | cons r t => exact .cons r.1 (each_fst t)
section
variable {X : Cx} {pins : List (Addr × Obj)} {σ : L2.St} {H : Hp} {s : Shared}
theorem sort_lam {F : Hp} {a f c' : Addr} {vs : List V} {xs : List (List Int)} {params : Arguments} {scope : Scope} {pm ctv : Value} {qual : Str} {p1 p2 p3 p4 p5 : Pos} {x1} {y : Str} {Q : VK} (I : Inv X pins σ H s) (ex : Same F H) (ha : F a = some (.lst vs)) (hr : Rps F vs (xs.map (rp X.K))) (hz : vs.length ≤ sizeLine) (hlt : ∀ u ∈ vs, ∀ b, u = V.ref b → b < X.env.locals)
    (hu : X.A.units + 64 < cLine) (hroom : X.A.depth < recursionLimit)
    (hf : s.heap.get? f = some (PySem.W.kla_obj "<lambda>" qual params (.Tuple [.Call (.Name "len" p1) [.Name y p2] [] p3, .Name y p4] x1 p5) scope [] pm c' ctv)) (hfn : f ≠ X.env.locals) (hco : H c' = some (LamX.CodeO c' qual))
    (hm : X.mg ("len" : Str) = none) (hdy : (y == ("__debug__" : Str)) = false)
    (hbind : ∀ u, bindArgs (PySem.W.kla_fn "<lambda>" qual params (.Tuple [.Call (.Name "len" p1) [.Name y p2] [] p3, .Name y p4] x1 p5) scope [] pm (.ref c') ctv) ⟨[u], []⟩ = pure [(y, u)])
    (hk : scope.kind = .function) (hco2 : scope.isCoroutine = false) (hgen : scope.isGenerator = false) (hnc : ∀ x ∈ scope.names, x.2 ≠ .cell) (hl : scope.names.lookup y = some NameKind.local) (hlen : scope.names.lookup ("len" : Str) = some NameKind.globalImplicit)
    (q : ∀ D vs', H D = none → Rps F vs' ((lsort xs).map (rp X.K)) → vs'.length ≤ sizeLine → Q (.ref D) (upd H D (.lst vs'))) :
    wpAny (model X.prog X.w) X.A (call (.builtin "sorted") [.ref a] [(Str.ofString "key", .ref f)]) (EP X pins σ Q) X.xe s := by
  obtain ⟨its, rv, pl, hz'⟩ := I.list (SqL.of (K := X.K) (ex _ _ ha))
  obtain ⟨m, hn, hloc⟩ := I.loc
  have hlv : vs.length = xs.length := by have := hr.length; rwa [List.length_map] at this
  have hz1 := rps_zip (rp X.K) hr
  have e1 : (vs.zip xs).map Prod.fst = vs := List.map_fst_zip (by omega)
  have e2 : (vs.zip xs).map Prod.snd = xs := List.map_snd_zip (by omega)
  have fr0 : Fr (cutH s.heap X.env.locals) X.env.locals s.heap m := ⟨hn, fun b o e => (cutH_sub e).1, cutH_size⟩
  have n0 : News (cutH s.heap X.env.locals) X.env.locals s.heap (above s.heap X.env.locals) := fun p hp => ⟨(mem_above.mp hp).2, Nat.ne_of_gt (mem_above.mp hp).1, cutH_none (Nat.le_of_lt (mem_above.mp hp).1)⟩
  have keepAll : ∀ {h : Heap} {own : List (Addr × Obj)}, Fr (cutH s.heap X.env.locals) X.env.locals h m → News (cutH s.heap X.env.locals) X.env.locals h (above s.heap X.env.locals ++ own) → ∀ b o, b ≠ X.env.locals → s.heap.get? b = some o → h.get? b = some o := fun {h own} F' N' b o hb e => by
    by_cases hb2 : b < X.env.locals
    · exact F'.keep b o (by rw [cutH_get hb2]; exact e)
    · exact (N' (b, o) (List.mem_append_left _ (mem_above.mpr ⟨Nat.lt_of_le_of_ne (Nat.le_of_not_lt hb2) (Ne.symm hb), e⟩))).1
  have hbase : ∀ b o, X.base.get? b = some o → b ≠ X.env.locals := fun b o e z => by
    have h1 := Heap.lt_size e
    rw [z] at h1
    exact Nat.lt_irrefl _ (Nat.lt_of_lt_of_le h1 (Nat.le_trans I.ok.bsz I.ok.above))
  have hparts : PySem.W.EachIs (fun (u : Value) (b : V × List Int) => RelV b.1 u ∧ ∃ (pa : Addr) (ws : List Value) (n : Nat), b.1 = V.ref pa ∧ pa < X.env.locals ∧ s.heap.get? pa = some { cls := .type "list", data := .seq ws.toArray n } ∧ IntsAre ws b.2) its (vs.zip xs) := by
    refine each_zip rv hlv fun z hz u r => ⟨r, ?_⟩
    obtain ⟨pa, ws, q1, q2, q3, q4⟩ := hz1 z hz
    have ew := q3.ints
    subst ew
    obtain ⟨_, its2, n, r2, e⟩ := I.hok pa _ (ex _ _ q2)
    exact ⟨pa, its2, n, q1, hlt z.1 (List.of_mem_zip hz).1 pa q1, e, r2.ints⟩
  obtain ⟨mb, hb1, hb2⟩ := I.mod.blt
  refine PySem.W.sorted_key_data_frame (b := false) (bs := vs.zip xs) (fun b : V × List Int => lkey b.2) fr0 n0 pl.isList hparts ?_ ?_ (by rw [List.length_zip]; omega) ?_ (PyProof.Rows.ksk_s1 _ _) (fun _ => PyProof.Rows.ksk_l1 _ _) (fun x => PyProof.Rows.ksk_t1 f x) ?_ ?_
  · intro d hd d' hd'
    obtain ⟨z, _, rfl⟩ := List.mem_map.mp hd
    obtain ⟨z', _, rfl⟩ := List.mem_map.mp hd'
    exact DatS.alike (α := T2 Int (List Int)) _ _
  · refine .inl fun d hd => ?_
    obtain ⟨z, _, rfl⟩ := List.mem_map.mp hd
    exact ⟨_, _, rfl⟩
  · intro z hz
    have h2 : (lkey z.2).depth ≤ DatQ.depth (T2 Int (List Int)) := DatQ.dep _
    have h3 : DatQ.depth (T2 Int (List Int)) = 2 := rfl
    omega
  · rintro v z ⟨rv2, pa, ws, n, g1, g2, g3, g4⟩ hz h tk own F' N'
    have kp := keepAll F' N'
    rw [g1] at rv2
    obtain rfl : v = Value.ref pa := rv2
    obtain ⟨⟨oc, us, t, k1, k2, k3⟩, _⟩ := I.hok c' _ hco
    have cne : c' ≠ X.env.locals := fun z => by rw [z, I.free] at hco; cases hco
    have g5 : h.get? pa = some { cls := .type "list", data := .seq ws.toArray n } := kp pa _ (Nat.ne_of_lt g2) g3
    have hlen2 : ws.length = z.2.length := g4.length
    have hzw : ws.length ≤ sizeLine := by
      obtain ⟨pa', ws', q1, q2, q3, q4⟩ := hz1 z hz
      have ew := q3.ints
      subst ew
      rw [List.length_map] at q4
      omega
    refine lam_len_run (mg := X.mg) (mb := mb) (its := ws.toArray) (s := { s with heap := h, toks := tk }) hroom (kp f _ hfn hf) ⟨c', oc, us, t, rfl, kp c' _ cne k1, k2, k3⟩ (I.mod.glob.keeps fun b o e => kp b o (hbase b o e) (I.bk b o e)) hm (hb1.keeps fun b o e => kp b o (hbase b o e) (I.bk b o e))
      ((hb2 _ (by decide)).trans (by decide +kernel)) (I.mod.nolimit.keeps fun b o e => kp b o (hbase b o e) (I.bk b o e)) hdy ⟨_, g5, rfl, n, rfl⟩ ?_ (hbind _) hk hco2 hgen hnc hl hlen fun h' tk' t T kk hT eT => ?_
    · have := line63
      rw [List.size_toArray]
      omega
    · have hTL : X.env.locals < T := Nat.lt_of_lt_of_le F'.ns.lt hT
      refine ⟨h', tk', [(T, { cls := .type "tuple", data := .seq #[.int ws.toArray.size t, .ref pa] })], rfl, fun h2 c1 c2 => ?_, ?_, F'.kept kk, fun p hp => ?_⟩
      · have d1 : h2.get? pa = some { cls := .type "list", data := .seq ws.toArray n } := c1 pa _ (by rw [cutH_get g2]; exact g3)
        have d2 := c2 _ List.mem_cons_self
        obtain ⟨as, ra⟩ := reads_ints (h := h2) g4
        rw [List.size_toArray, hlen2] at d2
        exact ⟨_, .tuple d2 rfl rfl (.cons (.int _ _) (.cons (.list d1 rfl rfl (show ReadsAll h2 ws.toArray.toList (z.2.map PyData.int) as by rw [List.toList_toArray]; exact ra)) .nil))⟩
      · intro p hp
        rw [List.mem_singleton.mp hp]
      · rcases List.mem_append.mp hp with hp | hp
        · exact ⟨kk _ _ (N' p hp).1, (N' p hp).2⟩
        · rw [List.mem_singleton.mp hp]
          exact ⟨eT, Nat.ne_of_gt hTL, cutH_none (Nat.le_of_lt hTL)⟩
  · intro D out c h' tk F' N' hD ho eo
    have kp : ∀ b o, b ≠ X.env.locals → s.heap.get? b = some o → h'.get? b = some o := fun b o hb e => by
      by_cases hb2 : b < X.env.locals
      · exact F'.keep b o (by rw [cutH_get hb2]; exact e)
      · exact (N' (b, o) (List.mem_cons_of_mem _ (mem_above.mpr ⟨Nat.lt_of_le_of_ne (Nat.le_of_not_lt hb2) (Ne.symm hb), e⟩))).1
    have nd := N' _ List.mem_cons_self
    have hnone : s.heap.get? D = none := by
      cases e : s.heap.get? D with
      | none => rfl
      | some u =>
        by_cases hb2 : D < X.env.locals
        · have z := nd.2.2
          rw [show (cutH s.heap X.env.locals).get? D = some u by rw [cutH_get hb2]; exact e] at z
          cases z
        · exact absurd (hD (D, u) (mem_above.mpr ⟨Nat.lt_of_le_of_ne (Nat.le_of_not_lt hb2) (Ne.symm nd.2.1), e⟩)) (Nat.lt_irrefl _)
    have hDn : H D = none := by
      cases q : H D with
      | none => rfl
      | some u =>
        obtain ⟨z, e⟩ := obj_there (I.hok D u q)
        rw [hnone] at e; cases e
    have m2 : (((vs.zip xs).mergeSort (PySem.W.dataLe false fun b : V × List Int => lkey b.2)).map Prod.snd) = ((vs.zip xs).map Prod.snd).mergeSort (PySem.W.dataLe false lkey) :=
      List.map_mergeSort (fun a _ b _ => rfl)
    rw [e2] at m2
    have hlen : (((vs.zip xs).mergeSort (PySem.W.dataLe false fun b : V × List Int => lkey b.2)).map Prod.fst).length ≤ sizeLine := by
      rw [List.length_map, List.length_mergeSort, List.length_zip]
      omega
    refine ⟨.ref D, upd H D (.lst (((vs.zip xs).mergeSort (PySem.W.dataLe false fun b : V × List Int => lkey b.2)).map Prod.fst)), Inv.relaid I hloc kp F'.ns hnone nd.2.1 ⟨hlen, out, c, each_fst eo, nd.1⟩, rfl, q D _ hDn ?_ hlen⟩
    unfold lsort
    rw [← m2]
    exact rps_of_all (rp X.K) _ fun z hz => hz1 z (List.mem_mergeSort.mp hz)
end
/-! ### a lambda without captured names is made: the table of its def grows, or has it -/
section
variable {X : Cx} {pins : List (Addr × Obj)} {σ : L2.St} {H F : Hp} {M : Mem} {s : Shared}
theorem held_ext {F : Hp} {M : Mem} {H : Hp} {c : Addr} {o : HO} (h : Held F M H) (hc : H c = none) : Held (upd F c o) M (upd H c o) := (h.ice hc).2
theorem lam_at {c tb : Addr} {n : Nat} {params : Arguments} {body : Expr} {scope : Scope} {pos : Pos} {E : Value → Shared → Prop} {Q : Value → Shared → Prop} (I : Inv X pins σ H s) (TB : LamX.TabB X.base X.mg c tb) (hcode : X.env.code = .ref c) (hd : Held F M H)
    (hn : M[n]? = some (tb, hTab (X.env.qual ++ "<lambda>"))) (hdef : defaultsOf params X.env = ([], [])) (hfree : ∀ y ∈ scope.names, y.2 ≠ .free)
    (h : ∀ (f c' : Addr) (pm ctv : Value) (F1 H1 : Hp) (s' : Shared), Inv X pins σ H1 s' → Same F F1 → Held F1 M H1 → s'.heap.get? f = some (PySem.W.kla_obj "<lambda>" (X.env.qual ++ "<lambda>") params body scope (cloFrom X.env.cells scope.names []) pm c' ctv) →
      F1 c' = some (LamX.CodeO c' (X.env.qual ++ "<lambda>")) → Q (.ref f) s') :
    wpAny (model X.prog X.w) X.A (eval (.Lambda params body scope pos) X.env) Q E s := by
  obtain ⟨o, hP, ⟨ps, rfl, ht, ha⟩, fP⟩ := hd.get hn
  have hP : H tb = some (.tbl ps) := hP
  have obj : s.heap.get? tb = some { cls := .none, data := .fields ps } := I.hok tb _ hP
  have bi : s.heap.BuiltinsAt X.mg tb := TB.bm.keeps I.bk
  have clo := closure_ok (env := X.env) (scope := scope) fun y hy e => absurd e (hfree y hy)
  refine PySem.W.kla_eval hdef ?_
  cases hc : codeAmong pos ps.toList with
  | some cv =>
    obtain ⟨c', e, known⟩ := ha pos cv hc
    subst e
    refine PySem.W.kla_makeFunctionHit (mg := X.mg) (c := c) (P := tb) (ps := ps) clo I.ok.glob (I.mod.glob.keeps I.bk) hcode (TB.code.keeps I.bk) obj ht hc bi fun ctv h' tk hx hsz => ?_
    exact h h'.objs.size c' _ ctv F H _ (I.kept fun b o e => Heap.get?_push_of_some _ (hx b o e)) (Same.refl F) hd (Heap.get?_push_size _ rfl) known
  | none =>
    refine PySem.W.kla_makeFunction (mg := X.mg) (c := c) (P := tb) (ps := ps) clo I.ok.glob (I.mod.glob.keeps I.bk) hcode (TB.code.keeps I.bk) obj ht hc TB.gP bi fun c' ctv h' tk hx hge hlt hrec htb => ?_
    obtain ⟨c2, oc, vs, t, e2, hoc, hdat, hv⟩ := hrec
    cases e2
    have nC : H c' = none := I.hok.fresh hge
    have J := LamX.inv_table (t' := tk) (more := #[rawInt pos.line, rawInt pos.col, .ref c']) (h' := h'.push (PySem.W.kla_obj "<lambda>" (X.env.qual ++ "<lambda>") params body scope (cloFrom X.env.cells scope.names []) ((X.mg "__name__").getD .none) c' ctv)) (q := X.env.qual ++ "<lambda>") I hP
      (fun b o hb e => Heap.get?_push_of_some _ (hx b o hb e)) (Heap.get?_push_of_some _ htb) hge ⟨oc, vs, t, Heap.get?_push_of_some _ hoc, hdat, hv⟩
    have ne : c' ≠ tb := fun z => by rw [z, hP] at nC; cases nC
    have nC2 : upd H tb (.tbl (ps ++ #[rawInt pos.line, rawInt pos.col, .ref c'])) c' = none := by rw [upd_ne ne]; exact nC
    obtain ⟨sm, _⟩ := hd.ice (o := LamX.CodeO c' (X.env.qual ++ "<lambda>")) nC
    have fresh := (hd.fresh nC).1
    have grown : Held F M (upd H tb (.tbl (ps ++ #[rawInt pos.line, rawInt pos.col, .ref c']))) → Held (upd F c' (LamX.CodeO c' (X.env.qual ++ "<lambda>"))) M (upd (upd H tb (.tbl (ps ++ #[rawInt pos.line, rawInt pos.col, .ref c']))) c' (LamX.CodeO c' (X.env.qual ++ "<lambda>"))) := fun k => held_ext k nC2
    have eL : (ps ++ #[rawInt pos.line, rawInt pos.col, .ref c']).toList = ps.toList ++ [rawInt pos.line, rawInt pos.col, .ref c'] := by simp
    refine h h'.objs.size c' _ ctv (upd F c' (LamX.CodeO c' (X.env.qual ++ "<lambda>"))) _ _ J sm ?_ (Heap.get?_push_size _ rfl) upd_same
    -- the table, grown
    have h0 := (held_ext (o := LamX.CodeO c' (X.env.qual ++ "<lambda>")) hd nC).set (A' := hTab (X.env.qual ++ "<lambda>")) (o := .tbl (ps ++ #[rawInt pos.line, rawInt pos.col, .ref c'])) hn ⟨_, rfl, by rw [eL]; exact PySem.TriplesOk_snoc _ _ _ _ ht, fun p' cv hcv => by
      rw [eL] at hcv
      rcases LamX.among_app _ ht hcv with z | z
      · obtain ⟨c0, e1, e2⟩ := ha p' cv z
        exact ⟨c0, e1, sm _ _ e2⟩
      · exact ⟨c', z, upd_same⟩⟩
    have es : M.set n (tb, hTab (X.env.qual ++ "<lambda>")) = M := by
      apply List.ext_getElem?
      intro i
      rw [List.getElem?_set]
      split
      · rename_i e
        subst e
        split
        · rw [hn]
        · rename_i e2
          rw [List.getElem?_eq_none (Nat.le_of_not_lt e2)]
      · rfl
    rw [es] at h0
    have comm : upd (upd H c' (LamX.CodeO c' (X.env.qual ++ "<lambda>"))) tb (.tbl (ps ++ #[rawInt pos.line, rawInt pos.col, .ref c'])) = upd (upd H tb (.tbl (ps ++ #[rawInt pos.line, rawInt pos.col, .ref c']))) c' (LamX.CodeO c' (X.env.qual ++ "<lambda>")) := by
      funext b
      by_cases h1 : b = tb
      · rw [h1, upd_same, upd_ne ne.symm, upd_same]
      · rw [upd_ne h1]
        by_cases h2 : b = c'
        · rw [h2, upd_same, upd_same]
        · rw [upd_ne h2, upd_ne h2, upd_ne h1]
    rw [comm] at h0
    exact h0
end
/-! ### sorted(xs, key=lambda part: (len(part), part)) -/
section
variable {X : Cx} {ρ : Rho} {M M1 : Mem} {a : Expr} {pos p lpos kp p1 p2 p3 p4 p5 : Pos} {x1 : Nat} {y : Str} {params : Arguments} {scope : Scope}
theorem ev_sortLen {k : Nat} {c tb : Addr} {xs : List (List Int)} (n : Nat) (TB : LamX.TabB X.base X.mg c tb) (hcode : X.env.code = .ref c) (hr : Room k X.A) (z : X.mg ("sorted" : Str) = none) (zl : X.mg ("len" : Str) = none)
    (ha : Ev X ρ M a M1 (.val (rBd X.env.locals X.K xs))) (hn : M1[n]? = some (tb, hTab (X.env.qual ++ "<lambda>")))
    (hg : Gl X "sorted" := by rfl) (he : backTo pos (starEach [a] X.env) = (false, eval a X.env) :: backTo pos (starEach [] X.env) := by rfl) (he1 : starEach [a] X.env = (false, eval a X.env) :: starEach [] X.env := by rfl) (hpl : (backTo pos (starEach [a] X.env)).any (·.1) = false := by rfl)
    (hall : (backToKw pos (keywordEach [⟨some "key", .Lambda params (.Tuple [.Call (.Name "len" p1) [.Name y p2] [] p3, .Name y p4] x1 p5) scope lpos, kp⟩] X.env)).all (·.1.isSome) = true := by rfl)
    (hnone : (backToKw pos (keywordEach [⟨some "key", .Lambda params (.Tuple [.Call (.Name "len" p1) [.Name y p2] [] p3, .Name y p4] x1 p5) scope lpos, kp⟩] X.env)).any (·.1.isNone) = false := by rfl)
    (hks : (backToKw pos (keywordEach [⟨some "key", .Lambda params (.Tuple [.Call (.Name "len" p1) [.Name y p2] [] p3, .Name y p4] x1 p5) scope lpos, kp⟩] X.env)).filterMap (·.1) = [Str.ofString "key"] := by rfl)
    (hdef : defaultsOf params X.env = ([], []) := by rfl) (hcl : cloFrom X.env.cells scope.names [] = [] := by rfl) (hfree : ∀ y ∈ scope.names, y.2 ≠ .free := by decide)
    (hbind : ∀ (pm cdv ctv u : Value), bindArgs (PySem.W.kla_fn "<lambda>" (X.env.qual ++ "<lambda>") params (.Tuple [.Call (.Name "len" p1) [.Name y p2] [] p3, .Name y p4] x1 p5) scope [] pm cdv ctv) ⟨[u], []⟩ = pure [(y, u)] := by intros; rfl)
    (hk : scope.kind = .function := by rfl) (hco2 : scope.isCoroutine = false := by rfl) (hgen : scope.isGenerator = false := by rfl) (hnc : ∀ x ∈ scope.names, x.2 ≠ .cell := by decide) (hl : scope.names.lookup y = some NameKind.local := by rfl) (hlen : scope.names.lookup ("len" : Str) = some NameKind.globalImplicit := by rfl) (hdy : (y == ("__debug__" : Str)) = false := by decide) :
    Ev X ρ M (.Call (.Name "sorted" p) [a] [⟨some "key", .Lambda params (.Tuple [.Call (.Name "len" p1) [.Name y p2] [] p3, .Name y p4] x1 p5) scope lpos, kp⟩] pos) M1 (.new (hD X.K (lsort xs))) := by
  intro σ H F Q hd en q
  refine we_of (t := fun σ H Q => ∃ F, Held F M H ∧ EnvR F σ ρ ∧ Post F M1 (.new (hD X.K (lsort xs))) Q) ⟨fun pins s σ H Q I h => ?_⟩ ⟨F, hd, en, q⟩
  obtain ⟨F, hd, en, q⟩ := h
  refine wpAny_Call_Name_kw (ld_blt (u := .builtin "sorted") I hg z (by decide +kernel) ?_)
  refine PyProof.Rows.callWith_kw (thn ((pa_cons pe_w pa_nil he1).run pos pins s σ H (fun vs H1 => ∃ v F1, vs = [v] ∧ Same F F1 ∧ Held F1 M1 H1 ∧ (rBd X.env.locals X.K xs).p F1 v) I
    (ha σ H F _ hd en fun v F1 H1 s1 h1 r1 => ⟨v, F1, rfl, s1, h1, r1⟩)) fun us s1 ⟨vs, H1, I1, r1, v, F1, ev, sm1, h1, b1⟩ => ?_) he hpl hall hnone
  subst ev
  obtain ⟨l, ws, rfl, g1, g2, g3, g4⟩ := b1
  obtain rfl := Vals.ref1 r1
  rw [hks]
  show wpAny _ _ (evalAll ((do let v ← eval (.Lambda params (.Tuple [.Call (.Name "len" p1) [.Name y p2] [] p3, .Name y p4] x1 p5) scope lpos) X.env; standAt pos; pure v) :: [])) _ _ s1
  refine wpAny_evalAll_cons (wpAny_bind (lam_at I1 TB hcode h1 hn hdef hfree fun f c' pm ctv F2 H2 s2 I2 sm2 h2 hf hco => ?_))
  rw [hcl] at hf
  refine wpAny_bind (wpAny_standAt (wpAny_pure (wpAny_evalAll_nil ?_)))
  have fne : f ≠ X.env.locals := fun z => by
    obtain ⟨m, ⟨o', es, ep, ho', hd', _⟩, _⟩ := I2.loc
    rw [z, ho'] at hf
    cases hf
    cases hd'
  exact sort_lam (F := F2) I2 h2.ex (sm2 _ _ g1) (g2.mono sm2) g3 g4 hr.units hr.depth hf fne (h2.ex _ _ hco) zl hdy (fun u => hbind pm (.ref c') ctv u) hk hco2 hgen hnc hl hlen fun D vs' hDn rr zz => (q.shift (sm1.trans sm2)).newL h2 hDn rr zz
end
end Pw

namespace Pw
open PySem PySem.Spec PyProof.Rows L2
open Dat (rp)
/-! ### a def whose body may know that all that is known at its entry lies below its frame -/
section
variable {P : Program} {w : World} {K : PySem.W.Frag} {mg : Str → Option Value} {base : Heap}
theorem fn_low {x : Str} {st : Stmt} {N ps : List Str} {k : Nat} {f c : Addr} {kV doc pm ct oc : Value} {an od : Option Addr} {osl : Array (Option Value)} {sp : Sp}
    (lk : K.lookup f = some ⟨oc, od, .func (PySem.W.fnOf x x (defArgs st) (defBody st) (defScope st) .none kV doc pm an (.ref c) ct), osl⟩) (hcd : PySem.W.codeIn K (.ref c) x = true) (S : FnScope N ps (defScope st)) (len : ∀ vs H Q E, sp vs H Q E → vs.length = ps.length)
    (hbody : ∀ (A : Around) (outer : List Env) (s : Shared) (H : Hp) (vs : List V) (Q : VK) (E : XK), HOk P w H s.heap → Room k (A.deeper (envOfC x (defScope st) s.heap.objs.size f (.ref c))) → sp vs H Q E →
      ∃ t, PSs (cxOf CX0 P w K mg base N x (defScope st) f (.ref c) A outer s H E) (defBody st) t ∧ t { nx := fun _ H' => Q .non H', rt := Q } (L2.start N vs) H) :
    FnOk P w K mg base CX0 (k + 1) f (PySem.W.fnOf x x (defArgs st) (defBody st) (defScope st) .none kV doc pm an (.ref c) ct) ps sp := by
  refine ⟨len, fun A outer s H args us vs Q E hr e0 hb r hsp => ?_⟩
  have keep0 : ∀ b o, base.get? b = some o → s.heap.get? b = some o := fun b o e => (e0.bs b o e).1
  have inK : K.In s.heap := e0.mod.kin.keeps keep0
  refine codeAny_call_function hr.depth (inK _ _ lk) rfl S.co S.gen rfl (PySem.W.codeRec_of inK hcd) (hb _ _ _ _ ?_)
  refine wpAny_newFunctionEnv_cells S.kind (fun ⟨n, v⟩ hy => ?_) fun env he s1 x1 => ?_
  · rcases S.par n (List.of_mem_zip hy).1 with q | q
    · exact .inl q
    · exact .inr ⟨q, PySem.W.cellsFrom_some _ _ _ (.inl q)⟩
  subst he
  refine ⟨(e0.mod.nolimit.keeps keep0).keeps x1.toInCall.keep, codeAny_func ?_⟩
  obtain ⟨t, ht, hq⟩ := hbody A outer s H vs Q E e0.hok (hr.deeper _) hsp
  have I := inv_start (CX := CX0) (E := E) S hr.hd e0 (len _ _ _ _ hsp) r x1
  refine wpAny_mono (ht.run [] s1 (L2.start N vs) H _ I hq) (fun fl s' hs => ?_) fun e s' hs => hs
  cases fl with
  | ret u =>
    obtain ⟨v, σ', H', J, rv, q⟩ := hs
    exact ⟨v, H', J.os, J.bare, J.base, J.hok, rv, q⟩
  | next =>
    obtain ⟨σ', H', J, q⟩ := hs
    exact ⟨V.non, H', J.os, J.bare, J.base, J.hok, rfl, q⟩
  | brk => obtain ⟨_, _, _, q⟩ := hs; exact False.elim q
  | cont => obtain ⟨_, _, _, q⟩ := hs; exact False.elim q
/-- as Def.ofT; in the body the first parameter's lists are known to stand below the frame -/
theorem Def.low {x : Str} {st : Stmt} {N : List Str} {p : Str} {k : Nat} {C : Ct} {D : List (List Int) → Mem → Mem → Res → Prop} {tb : Addr} (G : StandT K mg base tb x st) (S : FnScope N [p] (defScope st))
    (b : ∀ (kV doc pm : Value) (an : Option Addr) (cdv ct : Value) (us : List Value), us.length = [p].length → bindArgs (PySem.W.fnOf x x (defArgs st) (defBody st) (defScope st) .none kV doc pm an cdv ct) ⟨us, []⟩ = pure ([p].zip us))
    (len : ∀ Rs M0 M1 r, C Rs M0 M1 r → ∃ xs : List (List Int), Rs = [rp K xs] ∧ D xs M0 M1 r)
    (body : ∀ f cdv, (∃ c, cdv = .ref c ∧ LamX.TabB base mg c tb) → ∀ A outer s H E (Q : VK) (xs : List (List Int)) M0 M1 r Mr F, Room k (A.deeper (envOfC x (defScope st) s.heap.objs.size f cdv)) → D xs M0 M1 r → (∀ F1, Same F F1 → Post F1 (M1 ++ Mr) r Q) →
      SS (BX P w K mg base N x st f cdv A outer s H E) F (some (rBd s.heap.objs.size K xs) :: List.replicate (N.length - 1) none) (M0 ++ Mr) (defBody st) (fun _ => { nx := fun _ H' => Q .non H', rt := Q })) :
    Def P w K mg base x (k + 1) [p] C := by
  obtain ⟨f, fd, c, g, kp, TB, oc, od, kV, doc, pm, an, ct, osl, rfl, lk, hcd⟩ := G
  refine ⟨f, _, ?_, g, kp, .all (b kV doc pm an (.ref c) ct)⟩
  refine fn_low lk hcd S (fun vs H Q E h => ?_) fun A outer s H vs Q E ok hr h => ?_
  · obtain ⟨Rs, M0, M1, r, Mr, F', hc, _, r', _⟩ := h
    obtain ⟨xs, rfl, hD⟩ := len _ _ _ _ hc
    rw [r'.length]; rfl
  · obtain ⟨Rs, M0, M1, r, Mr, F', hc, hd, r', q⟩ := h
    obtain ⟨xs, rfl, hD⟩ := len _ _ _ _ hc
    have r'' : Rps F' vs [rBd s.heap.objs.size K xs] := by
      cases r' with
      | cons r1 t1 =>
        cases t1
        refine .cons ?_ .nil
        obtain ⟨l, ws, q1, q2, q3, q4⟩ := r1
        refine ⟨l, ws, q1, q2, q3, q4, fun u hu bb eu => ?_⟩
        obtain ⟨i, hi, hiu⟩ := List.mem_iff_getElem.mp hu
        have hl : ws.length = xs.length := by have := q3.length; rwa [List.length_map] at this
        have hz : (u, xs[i]'(by omega)) ∈ ws.zip xs := by
          rw [← hiu]
          exact List.mem_iff_getElem.mpr ⟨i, by rw [List.length_zip]; omega, by simp⟩
        obtain ⟨pa, w2, e1, e2, e3, e4⟩ := rps_zip (rp K) q3 _ hz
        have e1 : u = V.ref pa := e1
        rw [eu] at e1
        cases e1
        exact (ok bb _ (hd.ex _ _ e2)).lt
    obtain ⟨t, D1, a, bb, h⟩ := body f (.ref c) ⟨c, rfl, TB⟩ A outer s H E Q xs M0 M1 r Mr F' hr hD (fun F1 e => q.shift e) F' (Same.refl F') (L2.start N vs) H F' (Same.refl F') hd (EnvR.start N r'')
    exact ⟨WSs (BX P w K mg base N x st f (.ref c) A outer s H E) (defBody st), PSs.nox (t := WSs (BX P w K mg base N x st f (.ref c) A outer s H E) (defBody st)) pss_w, t, D1, a, bb, h⟩
end
end Pw

namespace Pw
open PySem PySem.Spec PyProof.Rows L2
open Dat (rp)
/-! ### the end of a law some of whose defs make lambdas -/
theorem walk_tab {l : PySem.W.OpenLaw} {n k : Nat} {q : Program} {loose : List Str} {XP : (Str → Option Value) → Heap → Prop} {YP : World → Heap → Prop} {d : DefRec} {K : Params → PySem.W.Frag} {x : Str}
    (hn : l.most = some n) (hn2 : n ≤ sizeLine) (hdf : d.params.defaults = []) (hr : Room k callerA) (hY : ∀ (w : World) (h : Heap), YP w h → (K w.params).In h)
    (F : ∀ (w : World) (mg mb : Str → Option Value) (loose' : List Str) (mean : ExcName → Option Value) (fa : Addr) (h : Heap), (K w.params).In h → Top q loose' mean mg mb h → mg d.name = some (.ref fa) → LamX.LawAtS l w (K w.params) CX0 k n x mg fa h) :
    PySem.W.WalkO q loose XP YP l.row.toRowW d [] (fun f vs => PySem.call f vs) := by
  refine Att.attach_callB hn hdf fun w s₀ s₁ mg mb fa o pm cd doc a vs ns G Y ho hd hcd hmg hobj hints hlen hbits hg => ?_
  obtain ⟨fd, cs, sp, hT, nT, C, hb, hsp, hF⟩ := F w mg mb _ _ fa _ (hY w _ Y) G.T hmg
  exact LamX.law_callTs (hY w _ Y) G.T.g G.T.b G.T.builtins G.T.nolimit hg hT nT C G.T.bmain hobj hints (Nat.le_trans hlen hn2) hr hF hb (fun H hH hS => hsp H a ns hlen hbits hH hS) fun H e s' h => h
theorem walk_bits {l : PySem.W.OpenLaw} {n k : Nat} {q : Program} {loose : List Str} {XP : (Str → Option Value) → Heap → Prop} {YP : World → Heap → Prop} {d : DefRec} {K : Params → PySem.W.Frag} {sp : PySem.W.Frag → Sp} {x : Str}
    (hn : l.most = some n) (hn2 : n ≤ sizeLine) (hdf : d.params.defaults = []) (hr : Room k callerA) (hY : ∀ (w : World) (h : Heap), YP w h → (K w.params).In h)
    (F : ∀ (w : World) (mg : Str → Option Value) (fa : Addr) (h : Heap), (K w.params).In h → h.Ns mainGlobals mg → mg d.name = some (.ref fa) →
      ∃ fd : FuncData, (∀ (s : Shared) (u : Value), BindsTo s fd ⟨[u], []⟩ [(x, u)]) ∧ ∀ base : Heap, (K w.params).In base → base.Ns mainGlobals mg → FnOk l.prog w (K w.params) mg base CX0 k fa fd [x] (sp (K w.params)))
    (hsp : ∀ (K : PySem.W.Frag) (H : Hp) (a : Addr) (ns : List Int), ns.length ≤ n → (∀ z ∈ ns, Builtin.Int.intBits z ≤ 1048576) → SqL K H a (ns.map V.int) → sp K [.ref a] H (fun v _ => v = .bl true) fun _ _ _ => False) :
    PySem.W.WalkO q loose XP YP l.row.toRowW d [] (fun f vs => PySem.call f vs) :=
  L2.walk_ofB (CX := fun _ => CX0) (sp := fun w => sp (K w.params)) hn hn2 hdf hr hY F (fun w H a ns h1 h2 _ h3 => hsp _ H a ns h1 h2 h3) (fun _ _ _ _ _ h => h)
/-- what is known but for the tables -/
def noTab (H : Hp) (P : Addr) : Hp := fun b => if b = P then none else H b
theorem noTab_held {H : Hp} {P : Addr} {q : Str} (h : H P = some (.tbl #[])) : Held (noTab H P) [(P, hTab q)] H := by
  refine ⟨fun b o e => ?_, fun p hp => ?_, by simp⟩
  · unfold noTab at e
    split at e
    · cases e
    · exact e
  · rw [List.mem_singleton.mp hp]
    exact ⟨_, h, ⟨#[], rfl, trivial, fun pos cv hc => by
      have z : codeAmong pos [] = some cv := hc
      simp [codeAmong] at z⟩, if_pos rfl⟩
theorem noTab_seq {K : PySem.W.Frag} {H : Hp} {P a : Addr} {xs : List V} (h : H P = some (.tbl #[])) (s : SqL K H a xs) : SqL K (noTab H P) a xs := by
  have ne : ∀ u, H a = some u → (∀ ps, u ≠ .tbl ps) → noTab H P a = some u := fun u e n => by
    unfold noTab
    rw [if_neg fun z => by rw [z, h] at e; cases e; exact n _ rfl]
    exact e
  rcases s with (s | ⟨o, s⟩) | s
  · exact .inl (.inl (ne _ s fun ps z => by cases z))
  · exact .inl (.inr ⟨o, ne _ s fun ps z => by cases z⟩)
  · exact .inr s
end Pw

namespace G32
open PySem PySem.Spec PyProof.Rows L2 Pw
open Dat (rp)
structure Purse where
  cells : (List Int)
  a1 : Int
  a2 : Int
  a3 : Int
  a4 : Int
def hPurse (K : PySem.W.Frag) (p : Purse) : HR := hL [(rp K (p.cells : (List Int))), (rI p.a1), (rI p.a2), (rI p.a3), (rI p.a4)]
def m__law_purse (script : (List Int)) : Option (Purse) :=
  some (⟨(((cut script none (some (63 : Int)))).map fun (y1 : Int) => (if y1 < 0 then -y1 else y1)), (0 : Int), (0 : Int), (1 : Int), (0 : Int)⟩ : Purse)
def m__law_draw (purse : Purse) (size : Int) : Option (Int × Purse) :=
  (if ((decide (purse.a2 = (0 : Int))) && (decide (purse.a1 < ((purse.cells).length : Int)))) = true then ((atI purse.cells purse.a1).bind fun t2 => (if (decide ((1000000000000000000 : Int) ≤ t2)) = true then some ⟨purse.cells, (purse.a1 + (1 : Int)), t2, purse.a3, purse.a4⟩ else some ⟨purse.cells, (purse.a1 + (1 : Int)), purse.a2, ((((purse.a3 * (48271 : Int)) + t2) + (1 : Int)) % (2147483647 : Int)), purse.a4⟩ : Option (Purse)).bind fun j3 => some j3) else some purse : Option (Purse)).bind fun j1 => if (decide ((0 : Int) < j1.a2)) = true then ((modO j1.a2 size).bind fun t4 => ((divO j1.a2 size).bind fun t5 => some (t4, ⟨j1.cells, j1.a1, t5, j1.a3, j1.a4⟩))) else ((mulO (((j1.a3 * (16807 : Int)) + ((j1.a4 + (1 : Int)) * (7919 : Int))) % (2147483647 : Int)) (((((j1.a3 * (16807 : Int)) + ((j1.a4 + (1 : Int)) * (7919 : Int))) % (2147483647 : Int)) / (3001 : Int)) + (7 : Int))).bind fun t6 => (modO ((t6 / (11 : Int)) % (1000003 : Int)) size).bind fun t7 => some (t7, ⟨j1.cells, j1.a1, j1.a2, (((j1.a3 * (16807 : Int)) + ((j1.a4 + (1 : Int)) * (7919 : Int))) % (2147483647 : Int)), (j1.a4 + (1 : Int))⟩))
def m__law_arranged (purse : Purse) (sets : (List (List Int))) : Option ((List (List Int)) × Purse) :=
  ((rgO 0 ((sets).length : Int)).bind fun r5 => (loopM (fun (s7 : ((List (List Int)) × (List (List Int)) × Purse)) (y6 : Int) => ((m__law_draw s7.2.2 ((s7.2.1).length : Int)).bind fun t8 => (popA s7.2.1 t8.1).bind fun t9 => ((m__law_draw t8.2 (4 : Int)).bind fun t10 => (if (decide (t10.1 = (1 : Int))) = true then some ((t9.1).reverse) else some t9.1 : Option ((List Int))).bind fun j11 => (if (decide (t10.1 = (2 : Int))) = true then ((catO j11 (cut j11 none (some (1 : Int)))).bind fun t13 => some t13) else some j11 : Option ((List Int))).bind fun j12 => (if (decide (t10.1 = (3 : Int))) = true then ((catO (cut j12 (some (1 : Int)) none) (cut j12 none (some (1 : Int)))).bind fun t15 => (catO t15 (cut j12 (some (-(1 : Int))) none)).bind fun t16 => some t16) else some j12 : Option ((List Int))).bind fun j14 => ((appO s7.1 j14).bind fun t17 => some (t17, t9.2, t10.2))))) r5 ([], ((sets).map fun (y1 : (List Int)) => y1), purse)).bind fun t18 => some (t18.1, t18.2.2))
def m__law_with_more (purse : Purse) (sets : (List (List Int))) : Option ((List (List Int)) × Purse) :=
  ((rgO 0 (2 : Int)).bind fun r4 => (loopM (fun (s6 : ((List (List Int)) × Purse)) (y5 : Int) => ((m__law_draw s6.2 (6 : Int)).bind fun t7 => (if ((decide (t7.1 = (0 : Int))) && (decide ((0 : Int) < ((sets).length : Int)))) = true then ((m__law_draw t7.2 ((sets).length : Int)).bind fun t9 => (atI sets t9.1).bind fun t10 => ((m__law_draw t9.2 (12 : Int)).bind fun t11 => (catO t10 [t11.1]).bind fun t12 => (dsortI t12).bind fun t13 => (appO s6.1 t13).bind fun t14 => some (t14, t11.2))) else some (s6.1, t7.2) : Option ((List (List Int)) × Purse)).bind fun j8 => (if ((decide (t7.1 = (1 : Int))) && (decide ((0 : Int) < ((sets).length : Int)))) = true then ((m__law_draw j8.2 ((sets).length : Int)).bind fun t16 => (atI sets t16.1).bind fun t17 => (appO j8.1 t17).bind fun t18 => some (t18, t16.2)) else some (j8.1, j8.2) : Option ((List (List Int)) × Purse)).bind fun j15 => (((if (decide (t7.1 = (2 : Int))) = true then ((m__law_draw j15.2 (4 : Int)).bind fun t19 => some ((decide (t19.1 = (0 : Int))), t19.2)) else some (false, j15.2))).bind fun t20 => if t20.1 = true then ((appO j15.1 []).bind fun t21 => some (t21, t20.2)) else some (j15.1, t20.2)))) r4 (((sets).map fun (y1 : (List Int)) => y1), purse)).bind fun t22 => some (t22.1, t22.2))
def m__law_members (purse : Purse) (many : Int) : Option ((List Int) × Purse) :=
  ((rgO 0 many).bind fun r3 => (loopM (fun (s5 : ((List Int) × (List Int) × Purse)) (y4 : Int) => ((m__law_draw s5.2.2 ((s5.2.1).length : Int)).bind fun t6 => (popA s5.2.1 t6.1).bind fun t7 => (appO s5.1 t7.1).bind fun t8 => some (t8, t7.2, t6.2))) r3 ([], ((List.range 12).map Int.ofNat), purse)).bind fun t9 => some ((isort t9.1), t9.2.2))
def m__law_small (purse : Purse) : Option ((List (List Int)) × Purse) :=
  ((m__law_draw purse (7 : Int)).bind fun t1 => (m__law_members t1.2 ((1 : Int) + t1.1)).bind fun t2 => ((m__law_draw t2.2 (7 : Int)).bind fun t4 => (rgO 0 t4.1).bind fun r5 => (loopM (fun (s7 : ((List (List Int)) × Purse)) (y6 : Int) => ((m__law_draw s7.2 (3 : Int)).bind fun t8 => (rgO 0 ((1 : Int) + t8.1)).bind fun r9 => (compM (fun (s11 : (Purse)) (y10 : Int) => ((m__law_draw s11 ((t2.1).length : Int)).bind fun t12 => (atI t2.1 t12.1).bind fun t13 => some (some t13, (t12.2)))) r9 (t8.2)).bind fun t14 => ((dsortI t14.1).bind fun t16 => (appO s7.1 t16).bind fun t17 => some (t17, t14.2)))) r5 ([], t4.2)).bind fun t18 => some (t18.1, t18.2)))
def m__law_arbitrary (purse : Purse) (members : (List Int)) (count : Int) : Option ((List (List Int)) × Purse) :=
  ((rgO 0 count).bind fun r2 => (loopM (fun (s4 : ((List (List Int)) × Purse)) (y3 : Int) => ((shlO (1 : Int) ((members).length : Int)).bind fun t5 => (m__law_draw s4.2 t5).bind fun t6 => ((rgO 0 ((members).length : Int)).bind fun r7 => (compM (fun (s9 : Unit) (y8 : Int) => ((shrO t6.1 y8).bind fun t11 => (if (decide ((Builtin.bitAnd t11 (1 : Int)) ≠ 0)) = true then ((atI members y8).bind fun t12 => some (some t12, ())) else some (none, ())))) r7 ()).bind fun t13 => (appO s4.1 t13.1).bind fun t14 => some (t14, t6.2)))) r2 ([], purse)).bind fun t15 => some (t15.1, t15.2))
def m__law_groups (purse : Purse) : Option ((List (List Int)) × Purse) :=
  ((m__law_draw purse (6 : Int)).bind fun t3 => (rgO 0 ((1 : Int) + t3.1)).bind fun r4 => (loopM (fun (s6 : ((List (List Int)) × (List Int) × Purse)) (y5 : Int) => ((m__law_draw s6.2.2 (4 : Int)).bind fun t8 => (rgO 0 ((1 : Int) + t8.1)).bind fun r9 => (loopM (fun (s11 : ((List Int) × (List Int) × Purse)) (y10 : Int) => if (decide ((0 : Int) < ((s11.2.1).length : Int))) = true then ((m__law_draw s11.2.2 ((s11.2.1).length : Int)).bind fun t12 => (popA s11.2.1 t12.1).bind fun t13 => (appO s11.1 t13.1).bind fun t14 => some (t14, t13.2, t12.2)) else some (s11.1, s11.2.1, s11.2.2)) r9 ([], s6.2.1, t8.2)).bind fun t15 => if (decide ((0 : Int) < ((t15.1).length : Int))) = true then ((appO s6.1 (isort t15.1)).bind fun t16 => some (t16, t15.2.1, t15.2.2)) else some (s6.1, t15.2.1, t15.2.2))) r4 ([], ((List.range 12).map Int.ofNat), t3.2)).bind fun t17 => some (t17.1, t17.2.2))
def m__law_pairs (purse : Purse) : Option ((List (List Int)) × Purse) :=
  ((m__law_draw purse (6 : Int)).bind fun t1 => (m__law_members t1.2 ((2 : Int) + t1.1)).bind fun t2 => ((rgO 0 ((t2.1).length : Int)).bind fun r4 => (loopM (fun (s6 : ((List (List Int)))) (y5 : Int) => ((rgO 0 y5).bind fun r7 => (loopM (fun (s9 : ((List (List Int)))) (y8 : Int) => ((atI t2.1 y8).bind fun t10 => (atI t2.1 y5).bind fun t11 => (appO s9 [t10, t11]).bind fun t12 => some t12)) r7 s6).bind fun t13 => some t13)) r4 []).bind fun t14 => some (t14, t2.2)))
def m__law_all_but_one (purse : Purse) : Option ((List (List Int)) × Purse) :=
  ((m__law_draw purse (11 : Int)).bind fun t1 => (m__law_members t1.2 ((2 : Int) + t1.1)).bind fun t2 => ((rgO 0 ((t2.1).length : Int)).bind fun r3 => (compM (fun (s5 : Unit) (y4 : Int) => ((catO (cut t2.1 none (some y4)) (cut t2.1 (some (y4 + (1 : Int))) none)).bind fun t6 => some (some t6, ()))) r3 ()).bind fun t7 => some (t7.1, t2.2)))
def m__law_sets (purse : Purse) : Option ((List (List Int)) × Purse) :=
  ((m__law_draw purse (8 : Int)).bind fun t1 => if (decide (t1.1 < (2 : Int))) = true then ((m__law_small t1.2).bind fun t2 => some (t2.1, t2.2)) else if ((decide (t1.1 = (2 : Int))) || (decide (t1.1 = (3 : Int)))) = true then ((m__law_draw t1.2 (9 : Int)).bind fun t3 => (m__law_members t3.2 t3.1).bind fun t4 => ((m__law_draw t4.2 (7 : Int)).bind fun t5 => (m__law_arbitrary t5.2 t4.1 t5.1).bind fun t6 => some (t6.1, t6.2))) else if (decide (t1.1 = (4 : Int))) = true then ((m__law_groups t1.2).bind fun t7 => some (t7.1, t7.2)) else if (decide (t1.1 = (5 : Int))) = true then ((m__law_pairs t1.2).bind fun t8 => some (t8.1, t8.2)) else if (decide (t1.1 = (6 : Int))) = true then ((m__law_all_but_one t1.2).bind fun t9 => some (t9.1, t9.2)) else ((m__law_draw t1.2 (12 : Int)).bind fun t10 => (m__law_arbitrary t10.2 ((List.range 12).map Int.ofNat) ((1 : Int) + t10.1)).bind fun t11 => some (t11.1, t11.2)))
def m__law_mask (members : (List Int)) : Option (Int) :=
  (loopM (fun (s2 : (Int)) (y1 : Int) => ((shlO (1 : Int) y1).bind fun t3 => some (Builtin.bitOr s2 t3))) members (0 : Int)).bind fun t4 => some t4
def m__law_ordered (masks : (List Int)) : Option ((List (List Int))) :=
  ((compM (fun (s2 : Unit) (y1 : Int) => ((rgO 0 (12 : Int)).bind fun r3 => (compM (fun (s5 : Unit) (y4 : Int) => ((shrO y1 y4).bind fun t7 => (if (decide ((Builtin.bitAnd t7 (1 : Int)) ≠ 0)) = true then some (some y4, ()) else some (none, ())))) r3 ()).bind fun t8 => some (some t8.1, ()))) masks ()).bind fun t9 => some (((dsort ((t9.1).map fun (y11 : (List Int)) => (⟨((y11).length : Int), y11⟩ : (T2 Int (List Int)))))).map fun (y13 : (T2 Int (List Int))) => y13.x1))
def m__law_has_smaller (mask : Int) (masks : (List Int)) : Option (Bool) :=
  (forC (ρ := (Bool)) (fun (s2 : Unit) (y1 : Int) => if ((!decide (y1 = mask)) && (decide ((Builtin.bitAnd y1 mask) = y1))) = true then some (.rt true) else some (.nx ())) masks ()).bind fun t3 => match t3 with | .rt r => some r | .bk _ => none | .nx t3' => some false
def m__law_least (masks : (List Int)) : Option ((List Int)) :=
  ((dsortI masks).bind fun t1 => (compM (fun (s3 : Unit) (y2 : Int) => ((m__law_has_smaller y2 masks).bind fun t5 => (if (!t5) = true then some (some y2, ()) else some (none, ())))) t1 ()).bind fun t6 => some t6.1)
def m__law_meets_all (sub : Int) (masks : (List Int)) : Option (Bool) :=
  (forC (ρ := (Bool)) (fun (s2 : Unit) (y1 : Int) => if (decide ((Builtin.bitAnd sub y1) = (0 : Int))) = true then some (.rt false) else some (.nx ())) masks ()).bind fun t3 => match t3 with | .rt r => some r | .bk _ => none | .nx t3' => some true
def m__law_is_least (number : Int) (table : (List Bool)) (size : Int) : Option (Bool) :=
  ((rgO 0 size).bind fun r1 => (forC (ρ := (Bool)) (fun (s3 : Unit) (y2 : Int) => ((shrO number y2).bind fun t4 => ((if (decide ((Builtin.bitAnd t4 (1 : Int)) ≠ 0)) = true then ((shlO (1 : Int) y2).bind fun t5 => (atI table (Builtin.bitXor number t5)).bind fun t6 => some (t6)) else some (false))).bind fun t7 => if t7 = true then some (.rt false) else some (.nx ()))) r1 ()).bind fun t8 => match t8 with | .rt r => some r | .bk _ => none | .nx t8' => some true)
def m__law_hitting (masks : (List Int)) : Option ((List Int)) :=
  (loopM (fun (s2 : (Int)) (y1 : Int) => some (Builtin.bitOr s2 y1)) masks (0 : Int)).bind fun t3 => ((rgO 0 (12 : Int)).bind fun r4 => (compM (fun (s6 : Unit) (y5 : Int) => ((shrO t3 y5).bind fun t8 => (if (decide ((Builtin.bitAnd t8 (1 : Int)) ≠ 0)) = true then some (some y5, ()) else some (none, ())))) r4 ()).bind fun t9 => (loopM (fun (s12 : ((List Int))) (y11 : Int) => ((compM (fun (s14 : Unit) (y13 : Int) => ((shlO (1 : Int) y11).bind fun t15 => some (some (Builtin.bitOr y13 t15), ()))) s12 ()).bind fun t16 => (catO s12 t16.1).bind fun t17 => some t17)) t9.1 [(0 : Int)]).bind fun t18 => ((compM (fun (s20 : Unit) (y19 : Int) => ((m__law_meets_all y19 masks).bind fun t21 => some (some t21, ()))) t18 ()).bind fun t22 => ((rgO 0 ((t18).length : Int)).bind fun r25 => (loopM (fun (s27 : ((List Int))) (y26 : Int) => ((atI t22.1 y26).bind fun t28 => ((if t28 = true then ((m__law_is_least y26 t22.1 ((t9.1).length : Int)).bind fun t29 => some (t29)) else some (false))).bind fun t30 => if t30 = true then ((atI t18 y26).bind fun t31 => (appO s27 t31).bind fun t32 => some t32) else some s27)) r25 []).bind fun t33 => some t33)))
def m_distinct (facts : (List Int)) : Option ((List Int)) :=
  ((dsortI facts).bind fun t1 => some t1)
def m_contains_one (mask : Int) (others : (List Int)) : Option (Bool) :=
  (forC (ρ := (Bool)) (fun (s2 : Unit) (y1 : Int) => if (decide ((Builtin.bitAnd mask y1) = y1)) = true then some (.rt true) else some (.nx ())) others ()).bind fun t3 => match t3 with | .rt r => some r | .bk _ => none | .nx t3' => some false
def m_least_masks (masks : (List Int)) : Option ((List Int)) :=
  ((m_distinct masks).bind fun t2 => (loopM (fun (s4 : ((List Int))) (y3 : Int) => ((m_contains_one y3 s4).bind fun t5 => if (!t5) = true then ((appO s4 y3).bind fun t6 => some t6) else some s4)) t2 []).bind fun t7 => some t7)
def m_mask_of (numbers : (List Int)) : Option (Int) :=
  (loopM (fun (s2 : (Int)) (y1 : Int) => ((shlO (1 : Int) y1).bind fun t3 => some (Builtin.bitOr s2 t3))) numbers (0 : Int)).bind fun t4 => some t4
def m_in_length_order (lists : (List (List Int))) : Option ((List (List Int))) :=
  some (lsort lists)
def m_numbers_in (mask : Int) : Option ((List Int)) :=
  ((rgO 0 ((Builtin.Int.intBits mask : Nat) : Int)).bind fun r1 => (compM (fun (s3 : Unit) (y2 : Int) => ((shrO mask y2).bind fun t5 => (if (decide ((Builtin.bitAnd t5 (1 : Int)) ≠ 0)) = true then some (some y2, ()) else some (none, ())))) r1 ()).bind fun t6 => some t6.1)
def m_least_only (sets : (List (List Int))) : Option ((List (List Int))) :=
  ((compM (fun (s2 : Unit) (y1 : (List Int)) => ((m_mask_of y1).bind fun t3 => some (some t3, ()))) sets ()).bind fun t4 => (m_least_masks t4.1).bind fun t5 => ((compM (fun (s7 : Unit) (y6 : Int) => ((m_numbers_in y6).bind fun t8 => some (some t8, ()))) t5 ()).bind fun t9 => (m_in_length_order t9.1).bind fun t10 => some t10))
def m__law_same (told : (List (List Int))) (due : (List (List Int))) : Option (Bool) :=
  if ((!true) || (!decide (((told).length : Int) = ((due).length : Int)))) = true then some false else ((rgO 0 ((due).length : Int)).bind fun r1 => (forC (ρ := (Bool)) (fun (s3 : Unit) (y2 : Int) => ((atI told y2).bind fun t4 => if (!true) = true then some (.rt false) else ((atI told y2).bind fun t5 => (forC (ρ := (Bool)) (fun (s7 : Unit) (y6 : Int) => if ((!true) || false) = true then some (.rt false) else some (.nx ())) t5 ()).bind fun t8 => match t8 with | .rt r => some (.rt r) | .bk _ => none | .nx t8' => ((atI told y2).bind fun t9 => (atI due y2).bind fun t10 => if (!decide ((t9 : (List Int)) = (t10 : (List Int)))) = true then some (.rt false) else some (.nx ()))))) r1 ()).bind fun t11 => match t11 with | .rt r => some r | .bk _ => none | .nx t11' => some true)
def m_missing_table (masks : (List Int)) : Option ((List Bool)) :=
  ((shlO (1 : Int) (maxI ((masks).map fun (y1 : Int) => ((Builtin.Int.intBits y1 : Nat) : Int)) 0)).bind fun t3 => ((repO false ((t3 - (1 : Int)) + (1 : Int))).bind fun t4 => (loopM (fun (s7 : ((List Bool))) (y6 : Int) => ((setO s7 (Builtin.bitXor (t3 - (1 : Int)) y6) true).bind fun t8 => some t8)) masks t4).bind fun t9 => ((rgO 0 (maxI ((masks).map fun (y1 : Int) => ((Builtin.Int.intBits y1 : Nat) : Int)) 0)).bind fun r10 => (loopM (fun (s12 : ((List Bool))) (y11 : Int) => ((rgO 0 ((t3 - (1 : Int)) + (1 : Int))).bind fun r13 => (loopM (fun (s15 : ((List Bool))) (y14 : Int) => ((atI s15 y14).bind fun t16 => ((if t16 = true then ((shrO y14 y11).bind fun t17 => some ((decide ((Builtin.bitAnd t17 (1 : Int)) ≠ 0)))) else some (false))).bind fun t18 => if t18 = true then ((shlO (1 : Int) y11).bind fun t19 => (setO s15 (Builtin.bitXor y14 t19) true).bind fun t20 => some t20) else some s15)) r13 s12).bind fun t21 => some t21)) r10 t9).bind fun t22 => some t22)))
def m_hitting_sets (sets : (List (List Int))) : Option ((List (List Int))) :=
  ((compM (fun (s2 : Unit) (y1 : (List Int)) => ((m_mask_of y1).bind fun t3 => some (some t3, ()))) sets ()).bind fun t4 => (m_least_masks t4.1).bind fun t5 => ((m_missing_table t5).bind fun t6 => ((rgO 0 ((t6).length : Int)).bind fun r8 => (loopM (fun (s10 : ((List (List Int)))) (y9 : Int) => ((m_numbers_in y9).bind fun t11 => ((atI t6 y9).bind fun t12 => ((if (!t12) = true then ((compM (fun (s14 : Unit) (y13 : Int) => ((shlO (1 : Int) y13).bind fun t15 => (atI t6 (Builtin.bitXor y9 t15)).bind fun t16 => some (some t16, ()))) t11 ()).bind fun t17 => some (((t17.1).all id))) else some (false))).bind fun t18 => if t18 = true then ((appO s10 t11).bind fun t19 => some t19) else some s10))) r8 []).bind fun t20 => ((m_in_length_order t20).bind fun t21 => some t21))))
def m_law (script : (List Int)) : Option (Bool) :=
  ((m__law_purse script).bind fun t1 => ((m__law_sets t1).bind fun t3 => (m__law_with_more t3.2 t3.1).bind fun t4 => (m__law_arranged t4.2 t4.1).bind fun t5 => ((compM (fun (s7 : Unit) (y6 : (List Int)) => ((m__law_mask y6).bind fun t8 => some (some t8, ()))) t5.1 ()).bind fun t9 => ((m__law_least t9.1).bind fun t11 => (m__law_ordered t11).bind fun t12 => ((m__law_hitting t9.1).bind fun t13 => (m__law_ordered t13).bind fun t14 => ((m_least_only ((t5.1).map fun (y15 : (List Int)) => y15)).bind fun t18 => ((m__law_same t18 t12).bind fun t19 => if ((!t19) || (!decide ((((t5.1).map fun (y15 : (List Int)) => y15) : (List (List Int))) = (t5.1 : (List (List Int)))))) = true then some false else ((m_hitting_sets ((t5.1).map fun (y15 : (List Int)) => y15)).bind fun t20 => ((m__law_same t20 t14).bind fun t21 => if ((!t21) || (!decide ((((t5.1).map fun (y15 : (List Int)) => y15) : (List (List Int))) = (t5.1 : (List (List Int)))))) = true then some false else ((m_hitting_sets ((t12).map fun (y22 : (List Int)) => y22)).bind fun t24 => (m__law_same t24 t14).bind fun t25 => if (!t25) = true then some false else ((m_least_only ((t14).map fun (y26 : (List Int)) => y26)).bind fun t28 => (m__law_same t28 t14).bind fun t29 => if (!t29) = true then some false else if (decide ((24 : Int) < ((t14).length : Int))) = true then some true else ((m_hitting_sets ((t14).map fun (y30 : (List Int)) => y30)).bind fun t32 => (m__law_same t32 t12).bind fun t33 => some t33))))))))))))
end G32

namespace G32
open PySem PySem.Spec PyProof.Rows L2 Pw
/-! ### loops, evaluated -/
section
variable {α β γ ρ : Type}
theorem loopM_inv {f : β → α → Option β} {xs : List α} {s : β} (I : List α → β → Prop) (h0 : I [] s) (step : ∀ pre x post s, xs = pre ++ x :: post → I pre s → ∃ s', f s x = some s' ∧ I (pre ++ [x]) s') : ∃ t, loopM f xs s = some t ∧ I xs t := by
  have key : ∀ (post pre : List α) (s : β), xs = pre ++ post → I pre s → ∃ t, loopM f post s = some t ∧ I xs t := by
    intro post
    induction post with
    | nil => intro pre s e h; rw [List.append_nil] at e; subst e; exact ⟨s, rfl, h⟩
    | cons x post ih =>
      intro pre s e h
      obtain ⟨s', e1, h1⟩ := step pre x post s e h
      obtain ⟨t, e2, h2⟩ := ih (pre ++ [x]) s' (by rw [e]; simp) h1
      exact ⟨t, by show (f s x).bind _ = _; rw [e1]; exact e2, h2⟩
  exact key xs [] s rfl h0
theorem compM_inv {f : β → α → Option (Option γ × β)} {xs : List α} {s : β} (I : List α → List γ → β → Prop) (h0 : I [] [] s) (step : ∀ pre x post ys s, xs = pre ++ x :: post → I pre ys s → ∃ o s', f s x = some (o, s') ∧ I (pre ++ [x]) (ys ++ o.toList) s') : ∃ ys t, compM f xs s = some (ys, t) ∧ I xs ys t := by
  have key : ∀ (post pre : List α) (ys : List γ) (s : β), xs = pre ++ post → I pre ys s → ∃ zs t, compM f post s = some (zs, t) ∧ I xs (ys ++ zs) t := by
    intro post
    induction post with
    | nil => intro pre ys s e h; rw [List.append_nil] at e; subst e; exact ⟨[], s, rfl, by rw [List.append_nil]; exact h⟩
    | cons x post ih =>
      intro pre ys s e h
      obtain ⟨o, s', e1, h1⟩ := step pre x post ys s e h
      obtain ⟨zs, t, e2, h2⟩ := ih (pre ++ [x]) _ s' (by rw [e]; simp) h1
      refine ⟨o.toList ++ zs, t, ?_, by rw [← List.append_assoc]; exact h2⟩
      show (f s x).bind _ = _
      rw [e1]
      show (compM f post s').map _ = _
      rw [e2]
      rfl
  obtain ⟨ys, t, e, h⟩ := key xs [] [] s rfl h0
  exact ⟨ys, t, e, h⟩
theorem compM_mapU {f : Unit → α → Option (Option γ × Unit)} {xs : List α} (g : α → γ) (h : ∀ x ∈ xs, f () x = some (some (g x), ())) : compM f xs () = some (xs.map g, ()) := by
  induction xs with
  | nil => rfl
  | cons x xs ih =>
    show (f () x).bind _ = _
    rw [h x List.mem_cons_self]
    show (compM f xs ()).map _ = _
    rw [ih fun y hy => h y (List.mem_cons_of_mem _ hy)]
    rfl
theorem compM_filU {f : Unit → α → Option (Option γ × Unit)} {xs : List α} (p : α → Bool) (g : α → γ) (h : ∀ x ∈ xs, f () x = some (if p x = true then some (g x) else none, ())) : compM f xs () = some ((xs.filter p).map g, ()) := by
  induction xs with
  | nil => rfl
  | cons x xs ih =>
    show (f () x).bind _ = _
    rw [h x List.mem_cons_self]
    show (compM f xs ()).map _ = _
    rw [ih fun y hy => h y (List.mem_cons_of_mem _ hy), List.filter_cons]
    by_cases hp : p x = true
    · simp [hp]
    · simp [hp]
theorem forC_any {f : Unit → α → Option (Ctl Unit ρ)} {xs : List α} (c : α → Bool) (r : ρ) (h : ∀ x ∈ xs, f () x = some (if c x = true then .rt r else .nx ())) : forC f xs () = some (if xs.any c = true then .rt r else .nx ()) := by
  induction xs with
  | nil => rfl
  | cons x xs ih =>
    show (f () x).bind _ = _
    rw [h x List.mem_cons_self, List.any_cons]
    by_cases hc : c x = true
    · rw [if_pos hc, hc]; rfl
    · rw [if_neg hc]
      have : c x = false := by simpa using hc
      rw [this, Bool.false_or]
      exact ih fun y hy => h y (List.mem_cons_of_mem _ hy)
end
/-! ### bits -/
abbrev cI (n : Nat) : Int := (n : Int)
theorem and_nat (a b : Nat) : Builtin.bitAnd (a : Int) (b : Int) = ((a &&& b : Nat) : Int) := by
  unfold Builtin.bitAnd
  simp
theorem not_not (x : Int) : Builtin.bitNot (Builtin.bitNot x) = x := by
  unfold Builtin.bitNot
  omega
theorem or_nat (a b : Nat) : Builtin.bitOr (a : Int) (b : Int) = ((a ||| b : Nat) : Int) := by
  unfold Builtin.bitOr Builtin.bitAnd
  have h1 : decide (0 ≤ Builtin.bitNot (a : Int)) = false := by unfold Builtin.bitNot; simp; omega
  have h2 : decide (0 ≤ Builtin.bitNot (b : Int)) = false := by unfold Builtin.bitNot; simp; omega
  rw [h1, h2]
  simp only [not_not, Int.toNat_natCast]
theorem shr_nat (a i : Nat) : shrO (a : Int) (i : Int) = some ((a / 2 ^ i : Nat) : Int) := by
  unfold shrO
  rw [if_pos (by omega)]
  simp
theorem bit_nat (a i : Nat) : decide (Builtin.bitAnd ((a / 2 ^ i : Nat) : Int) 1 ≠ 0) = Nat.testBit a i := by
  have e : Builtin.bitAnd ((a / 2 ^ i : Nat) : Int) 1 = (((a / 2 ^ i) % 2 : Nat) : Int) := by
    rw [PyProof.Rows.bitAnd_m1]; omega
  rw [e, Nat.testBit_eq_decide_div_mod_eq]
  have h := Nat.mod_two_eq_zero_or_one (a / 2 ^ i)
  rcases h with h | h <;> simp [h]
theorem shl_nat (i : Nat) (h : i ≤ 1000) : shlO (1 : Int) (i : Int) = some ((2 ^ i : Nat) : Int) := by
  unfold shlO
  rw [if_pos (by refine ⟨by omega, by omega, by decide⟩)]
  simp
theorem and_le_sub (a b : Nat) : (a ^^^ b) + 2 * (a &&& b) = a + b := by
  induction a using Nat.strongRecOn generalizing b with
  | _ a ih =>
    by_cases ha : a = 0
    · subst ha; simp
    · have h1 := ih (a / 2) (by omega) (b / 2)
      have e1 : (a ^^^ b) / 2 = a / 2 ^^^ b / 2 := by
        apply Nat.eq_of_testBit_eq; intro i
        simp [Nat.testBit_div_two]
      have e2 : (a &&& b) / 2 = a / 2 &&& b / 2 := by
        apply Nat.eq_of_testBit_eq; intro i
        simp [Nat.testBit_div_two]
      have m1 : (a ^^^ b) % 2 = (a % 2 + b % 2) % 2 := by
        have ha := Nat.mod_two_eq_zero_or_one a
        have hb := Nat.mod_two_eq_zero_or_one b
        have := Nat.xor_mod_two_pow (a := a) (b := b) (n := 1)
        simp only [Nat.pow_one] at this
        rw [this]
        rcases ha with h | h <;> rcases hb with h' | h' <;> rw [h, h'] <;> rfl
      have m2 : (a &&& b) % 2 = a % 2 * (b % 2) := by
        have ha := Nat.mod_two_eq_zero_or_one a
        have hb := Nat.mod_two_eq_zero_or_one b
        have := Nat.and_mod_two_pow (a := a) (b := b) (n := 1)
        simp only [Nat.pow_one] at this
        rw [this]
        rcases ha with h | h <;> rcases hb with h' | h' <;> rw [h, h'] <;> rfl
      have ha := Nat.mod_two_eq_zero_or_one a
      have hb := Nat.mod_two_eq_zero_or_one b
      have d1 := Nat.div_add_mod (a ^^^ b) 2
      have d2 := Nat.div_add_mod (a &&& b) 2
      have d3 := Nat.div_add_mod a 2
      have d4 := Nat.div_add_mod b 2
      rcases ha with h | h <;> rcases hb with h' | h' <;> rw [h, h'] at m1 m2 <;> omega
theorem xor_nat (a b : Nat) : Builtin.bitXor (a : Int) (b : Int) = ((a ^^^ b : Nat) : Int) := by
  rw [PyProof.Rows.bitXor_and, and_nat]
  have := and_le_sub a b
  omega
end G32

namespace G32
open PySem PySem.Spec PyProof.Rows L2 Pw
/-! ### masks as sets -/
abbrev T (m i : Nat) : Bool := Nat.testBit m i
def sub (a b : Nat) : Prop := ∀ i, T a i = true → T b i = true
theorem sub_iff {a b : Nat} : a &&& b = a ↔ sub a b := by
  constructor
  · intro h i hi
    rw [← h, T, Nat.testBit_and, Bool.and_eq_true] at hi
    exact hi.2
  · intro h
    apply Nat.eq_of_testBit_eq
    intro i
    rw [Nat.testBit_and]
    cases e : Nat.testBit a i with
    | false => rfl
    | true => rw [show Nat.testBit b i = true from h i e]; rfl
theorem sub_le {a b : Nat} (h : sub a b) : a ≤ b := by
  rw [← sub_iff.mpr h]
  exact Nat.and_le_right
theorem sub_lt {a b : Nat} (h : sub a b) (ne : a ≠ b) : a < b := Nat.lt_of_le_of_ne (sub_le h) ne
theorem sub_trans {a b c : Nat} (h : sub a b) (h' : sub b c) : sub a c := fun i e => h' i (h i e)
theorem sub_anti {a b : Nat} (h : sub a b) (h' : sub b a) : a = b := Nat.le_antisymm (sub_le h) (sub_le h')
theorem t_lt {m i : Nat} (hm : m < 4096) (h : T m i = true) : i < 12 := by
  rcases Nat.lt_or_ge i 12 with k | k
  · exact k
  · have : m < 2 ^ i := Nat.lt_of_lt_of_le hm (show 2 ^ 12 ≤ 2 ^ i from Nat.pow_le_pow_right (by decide) k)
    rw [T, Nat.testBit_lt_two_pow this] at h
    cases h
theorem t_clr {m j i : Nat} (h : T m j = true) : T (m ^^^ 2 ^ j) i = true ↔ T m i = true ∧ i ≠ j := by
  rw [T, Nat.testBit_xor, Nat.testBit_two_pow]
  by_cases e : j = i
  · subst e; rw [show Nat.testBit m j = true from h]; simp
  · have e' : i ≠ j := fun z => e z.symm
    simp [e, e']
theorem clr_lt {m j : Nat} (h : T m j = true) : m ^^^ 2 ^ j < m := by
  refine sub_lt (fun i e => ((t_clr h).mp e).1) fun z => ?_
  have := (t_clr (i := j) h).mp (by rw [z]; exact h)
  exact this.2 rfl
def asc (P : Nat → Bool) : List Nat := (List.range 4096).filter P
theorem mem_asc {P : Nat → Bool} {m : Nat} : m ∈ asc P ↔ m < 4096 ∧ P m = true := by
  unfold asc
  rw [List.mem_filter, List.mem_range]
theorem asc_lt (P : Nat → Bool) : (asc P).Pairwise (· < ·) := List.Pairwise.filter _ List.pairwise_lt_range
theorem asc_congr {P Q : Nat → Bool} (h : ∀ m, m < 4096 → P m = Q m) : asc P = asc Q := List.filter_congr fun m hm => h m (List.mem_range.mp hm)
def isMin (ms : List Nat) (m : Nat) : Bool := decide (m ∈ ms) && !(ms.any fun y => !decide (y = m) && decide (y &&& m = y))
def hits (ms : List Nat) (w : Nat) : Bool := !(ms.any fun y => decide (w &&& y = 0))
def MH (ms : List Nat) (w : Nat) : Bool := hits ms w && (List.range 12).all fun j => !(T w j && hits ms (w ^^^ 2 ^ j))
theorem isMin_iff {ms : List Nat} {m : Nat} : isMin ms m = true ↔ m ∈ ms ∧ ∀ y ∈ ms, sub y m → y = m := by
  unfold isMin
  rw [Bool.and_eq_true, decide_eq_true_eq, Bool.not_eq_true', List.any_eq_false]
  refine and_congr_right fun _ => forall_congr' fun y => forall_congr' fun hy => ?_
  rw [Bool.and_eq_true, Bool.not_eq_true', decide_eq_false_iff_not, decide_eq_true_eq, sub_iff]
  constructor
  · intro h hs
    by_cases e : y = m
    · exact e
    · exact absurd ⟨e, hs⟩ h
  · rintro h ⟨h1, h2⟩
    exact h1 (h h2)
theorem meet_iff {w y : Nat} : w &&& y = 0 ↔ ¬ ∃ i, T w i = true ∧ T y i = true := by
  constructor
  · rintro h ⟨i, h1, h2⟩
    have : Nat.testBit (w &&& y) i = true := by rw [Nat.testBit_and, show Nat.testBit w i = true from h1, show Nat.testBit y i = true from h2]; rfl
    rw [h, Nat.zero_testBit] at this
    cases this
  · intro h
    apply Nat.eq_of_testBit_eq
    intro i
    rw [Nat.zero_testBit, Nat.testBit_and]
    cases e : Nat.testBit w i with
    | false => rfl
    | true =>
      cases e2 : Nat.testBit y i with
      | false => rfl
      | true => exact absurd ⟨i, e, e2⟩ h
theorem hits_iff {ms : List Nat} {w : Nat} : hits ms w = true ↔ ∀ y ∈ ms, ∃ i, T w i = true ∧ T y i = true := by
  unfold hits
  rw [Bool.not_eq_true', List.any_eq_false]
  refine forall_congr' fun y => forall_congr' fun hy => ?_
  rw [decide_eq_true_eq, meet_iff, Classical.not_not]
theorem MH_iff {ms : List Nat} {w : Nat} (hw : w < 4096) : MH ms w = true ↔ hits ms w = true ∧ ∀ j, T w j = true → hits ms (w ^^^ 2 ^ j) = false := by
  unfold MH
  rw [Bool.and_eq_true, List.all_eq_true]
  refine and_congr_right fun _ => ?_
  constructor
  · intro h j hj
    have := h j (List.mem_range.mpr (t_lt hw hj))
    rw [hj] at this
    simpa using this
  · intro h j _
    cases e : T w j with
    | false => rfl
    | true => rw [h j e]; rfl
theorem exists_min {ms : List Nat} : ∀ m, m ∈ ms → ∃ m0, isMin ms m0 = true ∧ sub m0 m := by
  intro m
  induction m using Nat.strongRecOn with
  | _ m ih =>
    intro hm
    by_cases h : isMin ms m = true
    · exact ⟨m, h, fun _ e => e⟩
    · rw [isMin_iff] at h
      have : ∃ y, y ∈ ms ∧ sub y m ∧ y ≠ m := by
        refine Classical.byContradiction fun k => h ⟨hm, fun y hy hs => Classical.byContradiction fun ne => k ⟨y, hy, hs, ne⟩⟩
      obtain ⟨y, hy, hs, ne⟩ := this
      obtain ⟨m0, h1, h2⟩ := ih y (sub_lt hs ne) hy
      exact ⟨m0, h1, sub_trans h2 hs⟩
theorem exists_MH {ms : List Nat} : ∀ c, c < 4096 → hits ms c = true → ∃ w, w < 4096 ∧ MH ms w = true ∧ sub w c := by
  intro c
  induction c using Nat.strongRecOn with
  | _ c ih =>
    intro hc hh
    by_cases h : MH ms c = true
    · exact ⟨c, hc, h, fun _ e => e⟩
    · rw [MH_iff hc] at h
      have : ∃ j, T c j = true ∧ hits ms (c ^^^ 2 ^ j) = true := by
        refine Classical.byContradiction fun k => h ⟨hh, fun j hj => ?_⟩
        cases e : hits ms (c ^^^ 2 ^ j) with
        | false => rfl
        | true => exact absurd ⟨j, hj, e⟩ k
      obtain ⟨j, hj, hk⟩ := this
      have lt := clr_lt hj
      obtain ⟨w, h1, h2, h3⟩ := ih _ lt (by omega) hk
      exact ⟨w, h1, h2, fun i e => ((t_clr hj).mp (h3 i e)).1⟩
theorem hits_mono {ms : List Nat} {w w' : Nat} (s : sub w w') (h : hits ms w = true) : hits ms w' = true := by
  rw [hits_iff] at h ⊢
  intro y hy
  obtain ⟨i, h1, h2⟩ := h y hy
  exact ⟨i, s i h1, h2⟩
theorem MH_anti {ms : List Nat} {w w' : Nat} (hw' : w' < 4096) (h : MH ms w = true) (h' : MH ms w' = true) (s : sub w w') (hw : w < 4096) : w = w' := by
  refine Classical.byContradiction fun ne => ?_
  have : ∃ j, T w' j = true ∧ T w j = false := by
    refine Classical.byContradiction fun k => ne (sub_anti s fun i e => ?_)
    cases q : T w i with
    | true => rfl
    | false => exact absurd ⟨i, e, q⟩ k
  obtain ⟨j, h1, h2⟩ := this
  have h3 := ((MH_iff hw').mp h').2 j h1
  have h4 : hits ms (w' ^^^ 2 ^ j) = true := hits_mono (fun i e => (t_clr h1).mpr ⟨s i e, fun z => by rw [z, h2] at e; cases e⟩) ((MH_iff hw).mp h).1
  rw [h3] at h4
  cases h4
/-- what hits the least masks hits all -/
theorem hits_least {ms ms' : List Nat} (h : ∀ m, m ∈ ms' ↔ isMin ms m = true) (w : Nat) : hits ms' w = hits ms w := by
  rw [Bool.eq_iff_iff, hits_iff, hits_iff]
  constructor
  · intro k y hy
    obtain ⟨m0, h1, h2⟩ := exists_min y hy
    obtain ⟨i, a, b⟩ := k m0 ((h m0).mpr h1)
    exact ⟨i, a, h2 i b⟩
  · intro k y hy
    exact k y (isMin_iff.mp ((h y).mp hy)).1
theorem hits_same {ms ms' : List Nat} (h : ∀ m, m ∈ ms' ↔ m ∈ ms) (w : Nat) : hits ms' w = hits ms w := by
  rw [Bool.eq_iff_iff, hits_iff, hits_iff]
  exact ⟨fun k y hy => k y ((h y).mpr hy), fun k y hy => k y ((h y).mp hy)⟩
theorem MH_congr {ms ms' : List Nat} (h : ∀ w, hits ms' w = hits ms w) (w : Nat) : MH ms' w = MH ms w := by
  unfold MH
  simp only [h]
/-- the least ones of an antichain are all -/
theorem min_MH {ms ms2 : List Nat} (h : ∀ m, m ∈ ms2 ↔ m < 4096 ∧ MH ms m = true) (m : Nat) (hm : m < 4096) : isMin ms2 m = MH ms m := by
  rw [Bool.eq_iff_iff, isMin_iff]
  constructor
  · intro k; exact ((h m).mp k.1).2
  · intro k
    refine ⟨(h m).mpr ⟨hm, k⟩, fun y hy s => ?_⟩
    obtain ⟨h1, h2⟩ := (h y).mp hy
    exact MH_anti hm h2 k s h1
/-- what hits all least hitting sets holds a mask -/
theorem hits_dual {ms ms2 : List Nat} (hms : ∀ m ∈ ms, m < 4096) (h : ∀ m, m ∈ ms2 ↔ m < 4096 ∧ MH ms m = true) (w : Nat) : hits ms2 w = true ↔ ∃ m ∈ ms, sub m w := by
  rw [hits_iff]
  constructor
  · intro k
    refine Classical.byContradiction fun no => ?_
    have hc : hits ms (4095 ^^^ (w &&& 4095)) = true := by
      rw [hits_iff]
      intro y hy
      refine Classical.byContradiction fun k2 => no ⟨y, hy, fun i e => ?_⟩
      refine Classical.byContradiction fun nw => k2 ⟨i, ?_, e⟩
      have hi : i < 12 := t_lt (hms y hy) e
      have q : T w i = false := by simpa using nw
      rw [T, Nat.testBit_xor, Nat.testBit_and, show Nat.testBit w i = false from q, show (4095 : Nat) = 2 ^ 12 - 1 from rfl, Nat.testBit_two_pow_sub_one]
      simp [hi]
    have hlt : 4095 ^^^ (w &&& 4095) < 4096 := Nat.xor_lt_two_pow (n := 12) (by decide) (Nat.and_lt_two_pow _ (by decide))
    obtain ⟨m, h1, h2, h3⟩ := exists_MH _ hlt hc
    obtain ⟨i, a, b⟩ := k m ((h m).mpr ⟨h1, h2⟩)
    have c := h3 i b
    have hi : i < 12 := t_lt h1 b
    rw [T, Nat.testBit_xor, Nat.testBit_and, show Nat.testBit w i = true from a, show (4095 : Nat) = 2 ^ 12 - 1 from rfl, Nat.testBit_two_pow_sub_one] at c
    simp [hi] at c
  · rintro ⟨m, hm, s⟩ y hy
    obtain ⟨h1, h2⟩ := (h y).mp hy
    obtain ⟨i, a, b⟩ := hits_iff.mp ((MH_iff h1).mp h2).1 m hm
    exact ⟨i, s i b, a⟩
theorem dual {ms ms2 : List Nat} (hms : ∀ m ∈ ms, m < 4096) (h : ∀ m, m ∈ ms2 ↔ m < 4096 ∧ MH ms m = true) (w : Nat) (hw : w < 4096) : MH ms2 w = isMin ms w := by
  rw [Bool.eq_iff_iff, MH_iff hw, isMin_iff, hits_dual hms h]
  have e : ∀ j, (hits ms2 (w ^^^ 2 ^ j) = false ↔ ¬ ∃ m ∈ ms, sub m (w ^^^ 2 ^ j)) := fun j => by
    rw [← hits_dual hms h, Bool.not_eq_true]
  simp only [e]
  constructor
  · rintro ⟨⟨m, hm, s⟩, k⟩
    have all : ∀ y ∈ ms, sub y w → y = w := fun y hy sy => by
      refine Classical.byContradiction fun ne => ?_
      have : ∃ j, T w j = true ∧ T y j = false := by
        refine Classical.byContradiction fun k => ne (sub_anti sy fun i e => ?_)
        cases q : T y i with
        | true => rfl
        | false => exact absurd ⟨i, e, q⟩ k
      obtain ⟨j, h1, h2⟩ := this
      exact k j h1 ⟨y, hy, fun i e => (t_clr h1).mpr ⟨sy i e, fun z => by rw [z, h2] at e; cases e⟩⟩
    have := all m hm s
    exact ⟨this ▸ hm, all⟩
  · rintro ⟨hm, k⟩
    refine ⟨⟨w, hm, fun _ e => e⟩, fun j hj ⟨m, h1, h2⟩ => ?_⟩
    have h3 : m = w := k m h1 fun i e => ((t_clr hj).mp (h2 i e)).1
    have h4 := (t_clr hj).mp (h2 j (by rw [h3]; exact hj))
    exact h4.2 rfl
/-- not all masks are least hitting sets -/
theorem MH_few (ms : List Nat) : (asc (MH ms)).length ≤ 4094 := by
  have hp : ∀ P : Nat → Bool, (asc P).length + (asc fun m => !P m).length = 4096 := fun P => by
    unfold asc
    have key : ∀ l : List Nat, (l.filter P).length + (l.filter fun m => !P m).length = l.length := fun l => by
      induction l with
      | nil => rfl
      | cons x l ih =>
        rw [List.filter_cons, List.filter_cons]
        cases P x <;> simp <;> omega
    rw [key, List.length_range]
  have h := hp (MH ms)
  have two : ∃ a b, a < b ∧ b < 4096 ∧ MH ms a = false ∧ MH ms b = false := by
    have s01 : sub 0 1 := fun i e => by rw [T, Nat.zero_testBit] at e; cases e
    have s03 : sub 0 3 := fun i e => by rw [T, Nat.zero_testBit] at e; cases e
    have s13 : sub 1 3 := sub_iff.mp (by decide)
    have n01 : ¬ (MH ms 0 = true ∧ MH ms 1 = true) := fun ⟨a, b⟩ => absurd (MH_anti (by decide) a b s01 (by decide)) (by decide)
    have n03 : ¬ (MH ms 0 = true ∧ MH ms 3 = true) := fun ⟨a, b⟩ => absurd (MH_anti (by decide) a b s03 (by decide)) (by decide)
    have n13 : ¬ (MH ms 1 = true ∧ MH ms 3 = true) := fun ⟨a, b⟩ => absurd (MH_anti (by decide) a b s13 (by decide)) (by decide)
    cases h0 : MH ms 0 with
    | true =>
      refine ⟨1, 3, by decide, by decide, ?_, ?_⟩
      · cases h1 : MH ms 1 with
        | false => rfl
        | true => exact absurd ⟨h0, h1⟩ n01
      · cases h1 : MH ms 3 with
        | false => rfl
        | true => exact absurd ⟨h0, h1⟩ n03
    | false =>
      cases h1 : MH ms 1 with
      | false => exact ⟨0, 1, by decide, by decide, h0, h1⟩
      | true =>
        refine ⟨0, 3, by decide, by decide, h0, ?_⟩
        cases h3 : MH ms 3 with
        | false => rfl
        | true => exact absurd ⟨h1, h3⟩ n13
  obtain ⟨a, b, hab, hb, ha', hb'⟩ := two
  have m1 : a ∈ asc fun m => !MH ms m := mem_asc.mpr ⟨by omega, by rw [ha']; rfl⟩
  have m2 : b ∈ asc fun m => !MH ms m := mem_asc.mpr ⟨hb, by rw [hb']; rfl⟩
  have : 2 ≤ (asc fun m => !MH ms m).length := by
    match e : (asc fun m => !MH ms m), m1, m2 with
    | [], m1, _ => simp at m1
    | [x], m1, m2 =>
      rw [List.mem_singleton] at m1 m2
      omega
    | _ :: _ :: _, _, _ => simp
  omega
end G32

namespace G32
open PySem PySem.Spec PyProof.Rows L2 Pw
section
variable {α β γ δ ρ : Type}
theorem compM_mapH {f : Unit → β → Option (Option γ × Unit)} (h : α → β) (g : α → γ) {xs : List α} (k : ∀ x ∈ xs, f () (h x) = some (some (g x), ())) : compM f (xs.map h) () = some (xs.map g, ()) := by
  induction xs with
  | nil => rfl
  | cons x xs ih =>
    show (f () (h x)).bind _ = _
    rw [k x List.mem_cons_self]
    show (compM f (xs.map h) ()).map _ = _
    rw [ih fun y hy => k y (List.mem_cons_of_mem _ hy)]
    rfl
theorem compM_filH {f : Unit → β → Option (Option γ × Unit)} (h : α → β) (p : α → Bool) (g : α → γ) {xs : List α} (k : ∀ x ∈ xs, f () (h x) = some (if p x = true then some (g x) else none, ())) : compM f (xs.map h) () = some ((xs.filter p).map g, ()) := by
  induction xs with
  | nil => rfl
  | cons x xs ih =>
    show (f () (h x)).bind _ = _
    rw [k x List.mem_cons_self]
    show (compM f (xs.map h) ()).map _ = _
    rw [ih fun y hy => k y (List.mem_cons_of_mem _ hy), List.filter_cons]
    by_cases hp : p x = true
    · simp [hp]
    · simp [hp]
theorem forC_anyH {f : Unit → β → Option (Ctl Unit ρ)} (h : α → β) (c : α → Bool) (r : ρ) {xs : List α} (k : ∀ x ∈ xs, f () (h x) = some (if c x = true then .rt r else .nx ())) : forC f (xs.map h) () = some (if xs.any c = true then .rt r else .nx ()) := by
  induction xs with
  | nil => rfl
  | cons x xs ih =>
    show (f () (h x)).bind _ = _
    rw [k x List.mem_cons_self, List.any_cons]
    by_cases hc : c x = true
    · rw [if_pos hc, hc]; rfl
    · rw [if_neg hc]
      have : c x = false := by simpa using hc
      rw [this, Bool.false_or]
      exact ih fun y hy => k y (List.mem_cons_of_mem _ hy)
end
theorem rgO_nat {n : Nat} (h : n ≤ 16777216) : rgO 0 (n : Int) = some ((List.range n).map cI) := by
  unfold rgO
  rw [if_pos (by refine ⟨by decide, by decide, by omega, by omega, by omega⟩)]
  unfold rng
  congr 1
  rw [show ((n : Int) - 0).toNat = n by omega]
  apply List.map_congr_left
  intro k _
  show (0 : Int) + (k : Int) = (k : Int)
  omega
def mk (l : List Nat) : Nat := l.foldl (fun a n => a ||| 2 ^ n) 0
theorem t_fold (l : List Nat) : ∀ (a i : Nat), T (l.foldl (fun a n => a ||| 2 ^ n) a) i = (T a i || decide (i ∈ l)) := by
  induction l with
  | nil => intro a i; simp
  | cons x l ih =>
    intro a i
    rw [List.foldl_cons, ih, T, Nat.testBit_or, Nat.testBit_two_pow]
    by_cases e : x = i
    · subst e; simp
    · have : ¬ i = x := fun z => e z.symm
      simp [e, this, List.mem_cons]
theorem t_mk (l : List Nat) (i : Nat) : T (mk l) i = decide (i ∈ l) := by
  unfold mk
  rw [t_fold]
  simp [T]
theorem lt_of_t {m n : Nat} (h : ∀ i, T m i = true → i < n) : m < 2 ^ n := by
  refine Nat.lt_of_not_le fun k => ?_
  obtain ⟨i, h1, h2⟩ := Nat.exists_ge_and_testBit_of_ge_two_pow k
  have := h i h2
  omega
theorem mk_lt {l : List Nat} (h : ∀ n ∈ l, n < 12) : mk l < 4096 := lt_of_t (n := 12) fun i e => by
  rw [t_mk, decide_eq_true_eq] at e
  exact h i e
def bits (m : Nat) : List Nat := (List.range 12).filter (T m)
def bitsI (m : Nat) : List Int := (bits m).map cI
theorem bits_lt {m n : Nat} (h : n ∈ bits m) : n < 12 := List.mem_range.mp (List.mem_filter.mp h).1
theorem mk_bits {m : Nat} (h : m < 4096) : mk (bits m) = m := by
  apply Nat.eq_of_testBit_eq
  intro i
  show T _ i = T m i
  rw [t_mk, Bool.eq_iff_iff, decide_eq_true_eq]
  unfold bits
  rw [List.mem_filter, List.mem_range]
  exact ⟨fun k => k.2, fun k => ⟨t_lt h k, k⟩⟩
theorem fold_eval (l : List Nat) (h : ∀ n ∈ l, n < 12) : ∀ a : Nat, loopM (fun (s2 : Int) (y1 : Int) => (shlO (1 : Int) y1).bind fun t3 => some (Builtin.bitOr s2 t3)) (l.map cI) (cI a) = some (cI (l.foldl (fun a n => a ||| 2 ^ n) a)) := by
  induction l with
  | nil => intro a; rfl
  | cons x l ih =>
    intro a
    show ((shlO 1 (cI x)).bind _).bind _ = _
    rw [shl_nat x (by have := h x List.mem_cons_self; omega)]
    show loopM _ (l.map cI) (Builtin.bitOr (a : Int) ((2 ^ x : Nat) : Int)) = _
    rw [or_nat]
    exact ih (fun n hn => h n (List.mem_cons_of_mem _ hn)) _
theorem mask_of_eval {l : List Nat} (h : ∀ n ∈ l, n < 12) : m_mask_of (l.map cI) = some (cI (mk l)) := by
  unfold m_mask_of
  rw [show (0 : Int) = cI 0 from rfl, fold_eval l h]
  rfl
theorem law_mask_eval {l : List Nat} (h : ∀ n ∈ l, n < 12) : m__law_mask (l.map cI) = some (cI (mk l)) := by
  unfold m__law_mask
  rw [show (0 : Int) = cI 0 from rfl, fold_eval l h]
  rfl
theorem row_eval (m n : Nat) : compM (fun (s : Unit) (y : Int) => ((shrO (cI m) y).bind fun t => (if (decide ((Builtin.bitAnd t (1 : Int)) ≠ 0)) = true then some (some y, ()) else some (none, ())))) ((List.range n).map cI) () = some (((List.range n).filter (T m)).map cI, ()) := by
  refine compM_filH cI (T m) cI fun i _ => ?_
  rw [shr_nat]
  show (if decide (Builtin.bitAnd ((m / 2 ^ i : Nat) : Int) 1 ≠ 0) = true then _ else _) = _
  rw [bit_nat]
  show (if T m i = true then _ else _) = _
  by_cases e : T m i = true
  · rw [if_pos e, if_pos e]
  · rw [if_neg e, if_neg e]
theorem lsort_pairs (rows : List (List Int)) : (dsort (rows.map fun y : List Int => (⟨((y).length : Int), y⟩ : T2 Int (List Int)))).map (fun p => p.x1) = lsort rows := by
  unfold dsort lsort
  have e : (rows.mergeSort (PySem.W.dataLe false lkey)).map (fun y : List Int => (⟨((y).length : Int), y⟩ : T2 Int (List Int))) = (rows.map fun y : List Int => (⟨((y).length : Int), y⟩ : T2 Int (List Int))).mergeSort (PySem.W.dataLe false DatQ.py) := List.map_mergeSort fun a _ b _ => rfl
  rw [← e, List.map_map]
  have : ((fun p : T2 Int (List Int) => p.x1) ∘ fun y : List Int => (⟨((y).length : Int), y⟩ : T2 Int (List Int))) = id := rfl
  rw [this, List.map_id]
theorem ordered_eval (ms : List Nat) : m__law_ordered (ms.map cI) = some (lsort (ms.map bitsI)) := by
  unfold m__law_ordered
  rw [compM_mapH (g := bitsI) cI fun m hm => by
    rw [show rgO 0 (12 : Int) = some ((List.range 12).map cI) from rgO_nat (n := 12) (by decide)]
    show (compM _ _ ()).bind _ = _
    rw [row_eval]
    rfl]
  show some _ = _
  rw [lsort_pairs]
theorem numbers_in_eval {m : Nat} (h : m < 4096) : m_numbers_in (cI m) = some (bitsI m) := by
  unfold m_numbers_in
  have h1 : Builtin.Int.intBits (cI m) ≤ 12 := intBits_le_iff.mpr (by rw [Int.natAbs_natCast]; exact h)
  have h2 : m < 2 ^ Builtin.Int.intBits (cI m) := by have := intBits_le_iff.mp (Nat.le_refl (Builtin.Int.intBits (cI m))); rwa [Int.natAbs_natCast] at this
  rw [rgO_nat (by omega)]
  show (compM _ _ ()).bind _ = _
  rw [row_eval]
  unfold bitsI bits
  have key : ∀ k, Builtin.Int.intBits (cI m) + k = 12 → (List.range 12).filter (T m) = (List.range (Builtin.Int.intBits (cI m))).filter (T m) := fun k e => by
    rw [← e, List.range_add, List.filter_append]
    have : ((List.range k).map fun x => Builtin.Int.intBits (cI m) + x).filter (T m) = [] := by
      rw [List.filter_eq_nil_iff]
      intro a ha hT
      obtain ⟨b, _, rfl⟩ := List.mem_map.mp ha
      have : m < 2 ^ (Builtin.Int.intBits (cI m) + b) := Nat.lt_of_lt_of_le h2 (Nat.pow_le_pow_right (by decide) (by omega))
      rw [T, Nat.testBit_lt_two_pow this] at hT
      cases hT
    rw [this, List.append_nil]
  exact congrArg (fun l => some (List.map cI l)) (key (12 - Builtin.Int.intBits (cI m)) (by omega)).symm
theorem cI_inj {a b : Nat} : cI a = cI b ↔ a = b := Int.ofNat_inj
theorem dsI_eval {ms : List Nat} (h : ∀ m ∈ ms, m < 4096) : dsI (ms.map cI) = (asc fun m => decide (m ∈ ms)).map cI := by
  refine rising_eq (dsI_sorted _) ?_ fun k => ?_
  · rw [List.pairwise_map]
    exact (asc_lt _).imp fun h => Int.ofNat_lt.mpr h
  · rw [dsI_mem, List.mem_map, List.mem_map]
    constructor
    · rintro ⟨m, hm, rfl⟩
      exact ⟨m, mem_asc.mpr ⟨h m hm, decide_eq_true hm⟩, rfl⟩
    · rintro ⟨m, hm, rfl⟩
      exact ⟨m, of_decide_eq_true (mem_asc.mp hm).2, rfl⟩
theorem dsortI_eval {ms : List Nat} (h : ∀ m ∈ ms, m < 4096) (hl : ms.length ≤ 4094) : dsortI (ms.map cI) = some ((asc fun m => decide (m ∈ ms)).map cI) := by
  unfold dsortI
  rw [if_pos (by rw [List.length_map]; omega), dsI_eval h]
theorem smaller_eval (m : Nat) (ms : List Nat) : m__law_has_smaller (cI m) (ms.map cI) = some (ms.any fun y => !decide (y = m) && decide (y &&& m = y)) := by
  unfold m__law_has_smaller
  rw [forC_anyH cI (fun y => !decide (y = m) && decide (y &&& m = y)) true fun y _ => by
    rw [and_nat]
    have e1 : decide (cI y = cI m) = decide (y = m) := by simp only [cI_inj]
    have e2 : decide (((y &&& m : Nat) : Int) = cI y) = decide (y &&& m = y) := by simp only [cI_inj]
    rw [e1, e2]
    split <;> rfl]
  generalize (ms.any fun y => !decide (y = m) && decide (y &&& m = y)) = b
  cases b <;> rfl
theorem nodup_len : ∀ (l m : List Nat), l.Nodup → (∀ x ∈ l, x ∈ m) → l.length ≤ m.length
  | [], _, _, _ => Nat.zero_le _
  | x :: l, m, nd, h => by
    obtain ⟨h1, h2⟩ := List.nodup_cons.mp nd
    have hx := h x List.mem_cons_self
    have := nodup_len l (m.erase x) h2 fun y hy => (List.mem_erase_of_ne (show y ≠ x from fun e => h1 (by rw [← e]; exact hy))).mpr (h y (List.mem_cons_of_mem _ hy))
    have e := List.length_erase_of_mem hx
    have := List.length_pos_of_mem hx
    rw [List.length_cons]
    omega
theorem asc_length_le {ms : List Nat} {P : Nat → Bool} (h : ∀ m, P m = true → m ∈ ms) : (asc P).length ≤ ms.length := by
  have nd : (asc P).Nodup := (asc_lt P).imp fun h => Nat.ne_of_lt h
  exact nodup_len _ _ nd fun m hm => h m (mem_asc.mp hm).2
theorem filter_asc (P Q : Nat → Bool) : (asc P).filter Q = asc fun m => P m && Q m := by
  unfold asc
  rw [List.filter_filter]
  exact List.filter_congr fun m _ => Bool.and_comm _ _
theorem law_least_eval {ms : List Nat} (h : ∀ m ∈ ms, m < 4096) (hl : ms.length ≤ 4094) : m__law_least (ms.map cI) = some ((asc (isMin ms)).map cI) := by
  unfold m__law_least
  rw [dsortI_eval h hl]
  show (compM _ _ ()).bind _ = _
  rw [compM_filH cI (fun m => !(ms.any fun y => !decide (y = m) && decide (y &&& m = y))) cI fun m _ => by
    rw [smaller_eval]
    show (if _ then _ else _) = _
    split <;> rfl]
  show some _ = some _
  rw [filter_asc]
  rfl
theorem contains_eval (m : Nat) (ms : List Nat) : m_contains_one (cI m) (ms.map cI) = some (ms.any fun y => decide (m &&& y = y)) := by
  unfold m_contains_one
  rw [forC_anyH cI (fun y => decide (m &&& y = y)) true fun y _ => by
    rw [and_nat]
    have e2 : decide (((m &&& y : Nat) : Int) = cI y) = decide (m &&& y = y) := by simp only [cI_inj]
    rw [e2]
    split <;> rfl]
  generalize (ms.any fun y => decide (m &&& y = y)) = b
  cases b <;> rfl
theorem meets_eval (m : Nat) (ms : List Nat) : m__law_meets_all (cI m) (ms.map cI) = some (hits ms m) := by
  unfold m__law_meets_all hits
  rw [forC_anyH cI (fun y => decide (m &&& y = 0)) false fun y _ => by
    rw [and_nat]
    have e2 : decide (((m &&& y : Nat) : Int) = (0 : Int)) = decide (m &&& y = 0) := by
      have := cI_inj (a := m &&& y) (b := 0)
      exact decide_eq_decide.mpr this
    rw [e2]
    split <;> rfl]
  generalize (ms.any fun y => decide (m &&& y = 0)) = b
  cases b <;> rfl
/-- the least masks, taken in ascending order -/
theorem least_masks_eval {ms : List Nat} (h : ∀ m ∈ ms, m < 4096) (hl : ms.length ≤ 4094) : m_least_masks (ms.map cI) = some ((asc (isMin ms)).map cI) := by
  unfold m_least_masks m_distinct
  rw [dsortI_eval h hl]
  show ((some ((asc fun m => decide (m ∈ ms)).map cI)).bind fun t2 => _) = _
  show (loopM _ _ []).bind _ = _
  have len : (asc fun m => decide (m ∈ ms)).length ≤ 4094 := Nat.le_trans (asc_length_le fun m e => of_decide_eq_true e) hl
  have loop : ∀ (post pre : List Nat), asc (fun m => decide (m ∈ ms)) = pre ++ post → loopM (fun (s4 : List Int) (y3 : Int) => ((m_contains_one y3 s4).bind fun t5 => if (!t5) = true then ((appO s4 y3).bind fun t6 => some t6) else some s4)) (post.map cI) ((pre.filter (isMin ms)).map cI) = some (((pre ++ post).filter (isMin ms)).map cI) := by
    intro post
    induction post with
    | nil => intro pre _; rw [List.append_nil]; rfl
    | cons x post ih =>
      intro pre e
      have hx : x ∈ ms := of_decide_eq_true (mem_asc.mp (show x ∈ asc (fun m => decide (m ∈ ms)) by rw [e]; simp)).2
      have pw := asc_lt fun m => decide (m ∈ ms)
      rw [e, List.pairwise_append] at pw
      have before : ∀ y ∈ pre, y < x := fun y hy => pw.2.2 y hy x List.mem_cons_self
      have inpre : ∀ y, y ∈ ms → y < x → y ∈ pre := fun y hy lt => by
        have : y ∈ asc (fun m => decide (m ∈ ms)) := mem_asc.mpr ⟨h y hy, decide_eq_true hy⟩
        rw [e] at this
        rcases List.mem_append.mp this with k | k
        · exact k
        · rcases List.mem_cons.mp k with k | k
          · omega
          · have := (List.pairwise_cons.mp pw.2.1).1 y k
            omega
      have hlen : (pre.filter (isMin ms)).length < 16777216 := by
        have := List.length_filter_le (isMin ms) pre
        rw [e, List.length_append] at len
        omega
      have any_iff : ((pre.filter (isMin ms)).any fun y => decide (x &&& y = y)) = !isMin ms x := by
        rw [Bool.eq_iff_iff, List.any_eq_true, Bool.not_eq_true', ← Bool.not_eq_true, isMin_iff]
        constructor
        · rintro ⟨y, hy, s⟩ ⟨_, k⟩
          obtain ⟨h1, h2⟩ := List.mem_filter.mp hy
          have hs : sub y x := sub_iff.mp (by rw [Nat.and_comm]; exact of_decide_eq_true s)
          have := k y (isMin_iff.mp h2).1 hs
          have := before y h1
          omega
        · intro k
          have : ∃ y, y ∈ ms ∧ sub y x ∧ y ≠ x := Classical.byContradiction fun no => k ⟨hx, fun y hy hs => Classical.byContradiction fun ne => no ⟨y, hy, hs, ne⟩⟩
          obtain ⟨y, hy, hs, ne⟩ := this
          obtain ⟨m0, g1, g2⟩ := exists_min y hy
          have g3 := sub_trans g2 hs
          have lt : m0 < x := Nat.lt_of_le_of_lt (sub_le g2) (sub_lt hs ne)
          exact ⟨m0, List.mem_filter.mpr ⟨inpre m0 (isMin_iff.mp g1).1 lt, g1⟩, decide_eq_true (by rw [Nat.and_comm]; exact sub_iff.mpr g3)⟩
      show ((m_contains_one (cI x) ((pre.filter (isMin ms)).map cI)).bind _).bind _ = _
      rw [contains_eval, any_iff]
      have e2 : pre ++ x :: post = (pre ++ [x]) ++ post := by simp
      have ih2 := ih (pre ++ [x]) (by rw [e, e2])
      rw [e2, ← ih2]
      cases hm : isMin ms x with
      | true =>
        show ((appO _ _).bind _).bind _ = _
        unfold appO
        rw [if_pos (by rw [List.length_map]; exact hlen)]
        show loopM _ _ _ = loopM _ _ _
        congr 1
        rw [List.filter_append, List.filter_cons, hm]
        simp
      | false =>
        show loopM _ _ _ = loopM _ _ _
        congr 1
        rw [List.filter_append, List.filter_cons, hm]
        simp
  have := loop (asc fun m => decide (m ∈ ms)) [] (List.nil_append _).symm
  rw [List.filter_nil, List.map_nil, List.nil_append] at this
  rw [this, filter_asc]
  show some _ = some _
  congr 2
  refine asc_congr fun m _ => ?_
  cases e : isMin ms m with
  | false => simp
  | true => rw [decide_eq_true (isMin_iff.mp e).1]; rfl
end G32

namespace G32
open PySem PySem.Spec PyProof.Rows L2 Pw
/-! ### the order of the told lists -/
theorem lle (a b : List Int) : PySem.W.dataLe false lkey a b = if a.length = b.length then decide (a ≤ b) else decide (a.length ≤ b.length) := by
  have h1 : ∀ p q : List Int, PySem.W.dataLt (.list (q.map .int)) (.list (p.map .int)) = !decide (p ≤ q) := fun p q => by
    have h := congrFun (congrFun (PySem.W.dataLe_rows (fun x : List Int => x)) p) q
    rw [PySem.W.dataLe_eq] at h
    have h : (!PySem.W.dataLt (.list (q.map .int)) (.list (p.map .int))) = decide (p ≤ q) := h
    rw [← h, Bool.not_not]
  have h2 : ∀ p q : Int, PySem.W.dataLt (.int q) (.int p) = !decide (p ≤ q) := fun p q => by
    have h := congrFun (congrFun (PySem.W.dataLe_int (fun x : Int => x)) p) q
    rw [PySem.W.dataLe_eq] at h
    have h : (!PySem.W.dataLt (.int q) (.int p)) = decide (p ≤ q) := h
    rw [← h, Bool.not_not]
  rw [PySem.W.dataLe_eq]
  show (!PySem.W.dataLt (lkey b) (lkey a)) = _
  show (!PySem.W.dataLt (.tuple [.int (b.length : Int), .list (b.map .int)]) (.tuple [.int (a.length : Int), .list (a.map .int)])) = _
  rw [PySem.W.dataLt_pair (by simp [PySem.W.alike]) (by rw [PySem.W.alike]; exact PySem.W.alike_ints b a), h1, h2]
  have e1 : PyData.eqv (.int (b.length : Int)) (.int (a.length : Int)) = decide (a.length = b.length) := by
    have := DatQ.eqv (α := Int) (b.length : Int) (a.length : Int)
    rw [Bool.eq_iff_iff, decide_eq_true_eq]
    refine this.trans ?_
    omega
  have e2 : PyData.eqv (.list (b.map .int)) (.list (a.map .int)) = decide (a = b) := by
    have := DatQ.eqv (α := List Int) b a
    rw [Bool.eq_iff_iff, decide_eq_true_eq]
    exact this.trans ⟨fun h => h.symm, fun h => h.symm⟩
  rw [e1, e2]
  by_cases hl : a.length = b.length
  · rw [if_pos (decide_eq_true hl), if_pos hl]
    by_cases he : a = b
    · rw [if_pos (decide_eq_true he)]
      subst he
      simp [List.le_refl]
    · rw [if_neg (by simpa using he), Bool.not_not]
  · rw [if_neg (by simpa using hl), if_neg hl, Bool.not_not]
    simp
theorem lle_antisymm {a b : List Int} (h1 : PySem.W.dataLe false lkey a b = true) (h2 : PySem.W.dataLe false lkey b a = true) : a = b := by
  rw [lle] at h1 h2
  by_cases hl : a.length = b.length
  · rw [if_pos hl, decide_eq_true_eq] at h1
    rw [if_pos hl.symm, decide_eq_true_eq] at h2
    exact List.le_antisymm h1 h2
  · rw [if_neg hl, decide_eq_true_eq] at h1
    rw [if_neg (fun z => hl z.symm), decide_eq_true_eq] at h2
    omega
theorem lle_total (a b : List Int) : (PySem.W.dataLe false lkey a b || PySem.W.dataLe false lkey b a) = true := by
  rw [lle, lle, Bool.or_eq_true]
  by_cases hl : a.length = b.length
  · rw [if_pos hl, if_pos hl.symm, decide_eq_true_eq, decide_eq_true_eq]
    exact List.le_total a b
  · rw [if_neg hl, if_neg (fun z => hl z.symm), decide_eq_true_eq, decide_eq_true_eq]
    omega
theorem lle_trans {a b c : List Int} (h1 : PySem.W.dataLe false lkey a b = true) (h2 : PySem.W.dataLe false lkey b c = true) : PySem.W.dataLe false lkey a c = true := by
  rw [lle] at h1 h2 ⊢
  by_cases hab : a.length = b.length
  · by_cases hbc : b.length = c.length
    · rw [if_pos hab, decide_eq_true_eq] at h1
      rw [if_pos hbc, decide_eq_true_eq] at h2
      rw [if_pos (hab.trans hbc), decide_eq_true_eq]
      exact List.le_trans h1 h2
    · rw [if_neg hbc, decide_eq_true_eq] at h2
      rw [if_neg (by omega), decide_eq_true_eq]
      omega
  · rw [if_neg hab, decide_eq_true_eq] at h1
    by_cases hbc : b.length = c.length
    · rw [if_neg (by omega), decide_eq_true_eq]
      omega
    · rw [if_neg hbc, decide_eq_true_eq] at h2
      rw [if_neg (by omega), decide_eq_true_eq]
      omega
theorem lsort_perm {xs ys : List (List Int)} (p : xs.Perm ys) : lsort xs = lsort ys := by
  unfold lsort
  have p2 : (xs.mergeSort (PySem.W.dataLe false lkey)).Perm (ys.mergeSort (PySem.W.dataLe false lkey)) := (List.mergeSort_perm _ _).trans (p.trans (List.mergeSort_perm _ _).symm)
  have s1 := List.pairwise_mergeSort (le := PySem.W.dataLe false lkey) (fun a b c h1 h2 => lle_trans h1 h2) lle_total xs
  have s2 := List.pairwise_mergeSort (le := PySem.W.dataLe false lkey) (fun a b c h1 h2 => lle_trans h1 h2) lle_total ys
  exact p2.eq_of_pairwise (fun a b _ _ h1 h2 => lle_antisymm h1 h2) s1 s2
theorem mem_lsort {xs : List (List Int)} {x : List Int} : x ∈ lsort xs ↔ x ∈ xs := by unfold lsort; exact List.mem_mergeSort
theorem lsort_length (xs : List (List Int)) : (lsort xs).length = xs.length := List.length_mergeSort _
end G32

namespace G32
open PySem PySem.Spec PyProof.Rows L2 Pw
/-! ### tables -/
def tab (N : Nat) (P : Nat → Bool) : List Bool := (List.range N).map P
theorem tab_len (N : Nat) (P : Nat → Bool) : (tab N P).length = N := by unfold tab; simp
theorem ixN_nat {n j : Nat} (h : j < n) : ixN n (j : Int) = some j := by
  unfold ixN
  rw [if_pos (by omega), if_pos (by omega)]
  simp
theorem atI_nat {α : Type} {xs : List α} {j : Nat} (h : j < xs.length) : atI xs (j : Int) = xs[j]? := by
  unfold atI
  rw [ixN_nat h]
  rfl
theorem tab_at {N j : Nat} {P : Nat → Bool} (h : j < N) : atI (tab N P) (j : Int) = some (P j) := by
  rw [atI_nat (by rw [tab_len]; exact h)]
  unfold tab
  rw [List.getElem?_map, List.getElem?_range h]
  rfl
theorem tab_set {N j : Nat} {P : Nat → Bool} (h : j < N) : setO (tab N P) (j : Int) true = some (tab N fun w => P w || decide (w = j)) := by
  unfold setO
  rw [ixN_nat (by rw [tab_len]; exact h)]
  show some _ = some _
  congr 1
  apply List.ext_getElem?
  intro i
  unfold tab
  rw [List.getElem?_set, List.getElem?_map, List.getElem?_map]
  by_cases e : j = i
  · subst e
    rw [if_pos rfl, if_pos (by simpa using h), List.getElem?_range h]
    simp
  · rw [if_neg e]
    cases q : (List.range N)[i]? with
    | none => rfl
    | some k =>
      have hi : i < N := by have := (List.getElem?_eq_some_iff.mp q).1; simpa using this
      rw [List.getElem?_range hi] at q
      cases q
      have : ¬ i = j := fun z => e z.symm
      simp [this]
theorem tab_congr {N : Nat} {P Q : Nat → Bool} (h : ∀ w, w < N → P w = Q w) : tab N P = tab N Q := List.map_congr_left fun w hw => h w (List.mem_range.mp hw)
/-- clearing bits below n: w lies in c, and what is missing lies below n -/
def under (n c w : Nat) : Prop := sub w c ∧ ∀ i, T c i = true → T w i = false → i < n
theorem or_lt {w k n : Nat} (hw : w < 2 ^ n) (hk : k < n) : w ||| 2 ^ k < 2 ^ n := Nat.or_lt_two_pow hw (Nat.pow_lt_pow_right (by decide) hk)
theorem t_or (w k i : Nat) : T (w ||| 2 ^ k) i = true ↔ T w i = true ∨ i = k := by
  rw [T, Nat.testBit_or, Nat.testBit_two_pow, Bool.or_eq_true, decide_eq_true_eq]
  exact or_congr Iff.rfl ⟨fun h => h.symm, fun h => h.symm⟩
theorem clr_or {w j k : Nat} (hj : T j k = true) : (w = j ^^^ 2 ^ k) ↔ (T w k = false ∧ w ||| 2 ^ k = j) := by
  constructor
  · rintro rfl
    refine ⟨?_, ?_⟩
    · cases e : T (j ^^^ 2 ^ k) k with
      | false => rfl
      | true => exact absurd rfl ((t_clr hj).mp e).2
    · refine sub_anti (fun i e => ?_) fun i e => ?_
      · rcases (t_or _ _ _).mp e with e | e
        · exact ((t_clr hj).mp e).1
        · rw [e]; exact hj
      · rw [t_or]
        by_cases z : i = k
        · exact .inr z
        · exact .inl ((t_clr hj).mpr ⟨e, z⟩)
  · rintro ⟨h1, rfl⟩
    refine sub_anti (fun i e => ?_) fun i e => ?_
    · exact (t_clr hj).mpr ⟨(t_or _ _ _).mpr (.inl e), fun z => by rw [z, h1] at e; cases e⟩
    · obtain ⟨e1, e2⟩ := (t_clr hj).mp e
      rcases (t_or _ _ _).mp e1 with e | e
      · exact e
      · exact absurd e e2
theorem under_succ {n c w : Nat} : under (n + 1) c w ↔ under n c w ∨ (T w n = false ∧ under n c (w ||| 2 ^ n)) := by
  constructor
  · rintro ⟨h1, h2⟩
    by_cases q : T c n = true ∧ T w n = false
    · refine .inr ⟨q.2, fun i e => ?_, fun i e1 e2 => ?_⟩
      · rcases (t_or _ _ _).mp e with e | e
        · exact h1 i e
        · rw [e]; exact q.1
      · have : ¬ (T w i = true ∨ i = n) := by rw [← t_or, e2]; decide
        have nw : T w i = false := by simpa using fun z => this (.inl z)
        have := h2 i e1 nw
        have : i ≠ n := fun z => (by assumption : ¬ (T w i = true ∨ i = n)) (.inr z)
        omega
    · refine .inl ⟨h1, fun i e1 e2 => ?_⟩
      have := h2 i e1 e2
      have : i ≠ n := fun z => q ⟨z ▸ e1, z ▸ e2⟩
      omega
  · rintro (⟨h1, h2⟩ | ⟨h0, h1, h2⟩)
    · exact ⟨h1, fun i e1 e2 => Nat.lt_succ_of_lt (h2 i e1 e2)⟩
    · refine ⟨fun i e => h1 i ((t_or _ _ _).mpr (.inl e)), fun i e1 e2 => ?_⟩
      by_cases z : i = n
      · omega
      · have : T (w ||| 2 ^ n) i = false := by
          cases q : T (w ||| 2 ^ n) i with
          | false => rfl
          | true => rcases (t_or _ _ _).mp q with k | k
                    · rw [e2] at k; cases k
                    · exact absurd k z
        exact Nat.lt_succ_of_lt (h2 i e1 this)
theorem fold_max (L : List Nat) : ∀ a : Nat, (L.map cI).foldl max (cI a) = cI (L.foldl max a) := by
  induction L with
  | nil => intro a; rfl
  | cons x L ih =>
    intro a
    rw [List.map_cons, List.foldl_cons, List.foldl_cons, ← ih]
    congr 1
    show max (a : Int) (x : Int) = ((max a x : Nat) : Int)
    omega
theorem foldmax_ge (L : List Nat) : ∀ a : Nat, a ≤ L.foldl max a ∧ ∀ x ∈ L, x ≤ L.foldl max a := by
  induction L with
  | nil => intro a; exact ⟨Nat.le_refl _, fun x h => by simp at h⟩
  | cons x L ih =>
    intro a
    rw [List.foldl_cons]
    obtain ⟨h1, h2⟩ := ih (max a x)
    refine ⟨by omega, fun y hy => ?_⟩
    rcases List.mem_cons.mp hy with rfl | hy
    · omega
    · exact h2 y hy
theorem foldmax_le (L : List Nat) (B : Nat) : ∀ a : Nat, a ≤ B → (∀ x ∈ L, x ≤ B) → L.foldl max a ≤ B := by
  induction L with
  | nil => intro a h _; exact h
  | cons x L ih =>
    intro a h k
    rw [List.foldl_cons]
    have := k x List.mem_cons_self
    exact ih _ (by omega) fun y hy => k y (List.mem_cons_of_mem _ hy)
theorem maxI_eval {ms : List Nat} (h : ∀ m ∈ ms, m < 4096) : ∃ W : Nat, maxI ((ms.map cI).map fun y1 : Int => ((Builtin.Int.intBits y1 : Nat) : Int)) 0 = cI W ∧ W ≤ 12 ∧ ∀ m ∈ ms, m < 2 ^ W := by
  cases ms with
  | nil => exact ⟨0, rfl, by decide, fun m hm => by simp at hm⟩
  | cons x ms =>
    have hb : ∀ m, m ∈ x :: ms → Builtin.Int.intBits (cI m) ≤ 12 := fun m hm => intBits_le_iff.mpr (by rw [Int.natAbs_natCast]; exact h m hm)
    refine ⟨(ms.map fun m => Builtin.Int.intBits (cI m)).foldl max (Builtin.Int.intBits (cI x)), ?_, ?_, ?_⟩
    · rw [← fold_max]
      show List.foldl max _ _ = _
      rw [List.map_map, List.map_map]
      rfl
    · refine foldmax_le _ 12 _ (hb x List.mem_cons_self) fun y hy => ?_
      obtain ⟨m, hm, rfl⟩ := List.mem_map.mp hy
      exact hb m (List.mem_cons_of_mem _ hm)
    · intro m hm
      have k : m < 2 ^ Builtin.Int.intBits (cI m) := by have := intBits_le_iff.mp (Nat.le_refl (Builtin.Int.intBits (cI m))); rwa [Int.natAbs_natCast] at this
      obtain ⟨g1, g2⟩ := foldmax_ge (ms.map fun m => Builtin.Int.intBits (cI m)) (Builtin.Int.intBits (cI x))
      refine Nat.lt_of_lt_of_le k (Nat.pow_le_pow_right (by decide) ?_)
      rcases List.mem_cons.mp hm with rfl | hm
      · exact g1
      · exact g2 _ (List.mem_map_of_mem hm)
theorem range_split {N : Nat} {pre post : List Int} {x : Int} (e : (List.range N).map cI = pre ++ x :: post) : x = cI pre.length ∧ pre.length < N := by
  have h1 : ((List.range N).map cI)[pre.length]? = some x := by rw [e]; simp
  rw [List.getElem?_map] at h1
  have hl : pre.length < N := by
    have := congrArg List.length e
    simp at this
    omega
  rw [List.getElem?_range hl] at h1
  exact ⟨(Option.some.inj h1).symm, hl⟩
theorem loopM_cons {α β : Type} (f : β → α → Option β) (x : α) (xs : List α) (s : β) : loopM f (x :: xs) s = (f s x).bind (loopM f xs) := rfl
/-- the complements are marked -/
theorem fill_eval {W : Nat} {ms : List Nat} (hlt : ∀ m ∈ ms, m < 2 ^ W) : ∀ (post pre : List Nat), (∀ m ∈ post, m ∈ ms) →
    loopM (fun (s7 : List Bool) (y6 : Int) => (setO s7 (Builtin.bitXor (cI (2 ^ W - 1)) y6) true).bind fun t8 => some t8) (post.map cI) (tab (2 ^ W) fun w => pre.any fun m => decide (w = (2 ^ W - 1) ^^^ m)) = some (tab (2 ^ W) fun w => (pre ++ post).any fun m => decide (w = (2 ^ W - 1) ^^^ m)) := by
  have hpos : 0 < 2 ^ W := Nat.two_pow_pos W
  intro post
  induction post with
  | nil => intro pre _; rw [List.append_nil]; rfl
  | cons x post ih =>
    intro pre hp
    have complt : (2 ^ W - 1) ^^^ x < 2 ^ W := Nat.xor_lt_two_pow (by omega) (hlt x (hp x List.mem_cons_self))
    have ih2 := ih (pre ++ [x]) fun m hm => hp m (List.mem_cons_of_mem _ hm)
    rw [show pre ++ x :: post = (pre ++ [x]) ++ post by simp, ← ih2, List.map_cons]
    rw [loopM_cons, xor_nat, tab_set complt, Option.bind_some, Option.bind_some]
    refine congrArg (loopM _ _) (tab_congr fun w _ => ?_)
    simp
/-- one round -/
theorem round_eval {W k : Nat} (hk : k < W) (h12 : W ≤ 12) (P : Nat → Bool) : ∃ P2 : Nat → Bool, loopM (fun (s15 : List Bool) (y14 : Int) => ((atI s15 y14).bind fun t16 => ((if t16 = true then ((shrO y14 (cI k)).bind fun t17 => some ((decide ((Builtin.bitAnd t17 (1 : Int)) ≠ 0)))) else some (false))).bind fun t18 => if t18 = true then ((shlO (1 : Int) (cI k)).bind fun t19 => (setO s15 (Builtin.bitXor y14 t19) true).bind fun t20 => some t20) else some s15))
      ((List.range (2 ^ W)).map cI) (tab (2 ^ W) P) = some (tab (2 ^ W) P2) ∧ ∀ w, w < 2 ^ W → (P2 w = true ↔ P w = true ∨ (T w k = false ∧ P (w ||| 2 ^ k) = true)) := by
  have key := loopM_inv (f := fun (s15 : List Bool) (y14 : Int) => ((atI s15 y14).bind fun t16 => ((if t16 = true then ((shrO y14 (cI k)).bind fun t17 => some ((decide ((Builtin.bitAnd t17 (1 : Int)) ≠ 0)))) else some (false))).bind fun t18 => if t18 = true then ((shlO (1 : Int) (cI k)).bind fun t19 => (setO s15 (Builtin.bitXor y14 t19) true).bind fun t20 => some t20) else some s15))
    (xs := (List.range (2 ^ W)).map cI) (s := tab (2 ^ W) P)
    (fun pr s => ∃ P2 : Nat → Bool, s = tab (2 ^ W) P2 ∧ ∀ w, w < 2 ^ W → (P2 w = true ↔ P w = true ∨ (T w k = false ∧ P (w ||| 2 ^ k) = true ∧ w ||| 2 ^ k < pr.length)))
    ⟨P, rfl, fun w hw => ⟨.inl, fun z => z.elim id fun ⟨_, _, z⟩ => absurd z (Nat.not_lt_zero _)⟩⟩ ?gs
  case gs =>
    rintro pr x po s ex2 ⟨P2, rfl, hP2⟩
    obtain ⟨rfl, hj⟩ := range_split ex2
    have done : ∀ w, (w ||| 2 ^ k < (pr ++ [cI pr.length]).length ↔ w ||| 2 ^ k < pr.length ∨ w ||| 2 ^ k = pr.length) := fun w => by
      rw [List.length_append, List.length_singleton]; omega
    have at_j : P2 pr.length = true ↔ P pr.length = true := by
      rw [hP2 _ hj]
      refine ⟨fun z => z.elim id fun ⟨g1, _, g3⟩ => ?_, .inl⟩
      have : pr.length ≤ pr.length ||| 2 ^ k := Nat.left_le_or
      omega
    by_cases b : P2 pr.length = true ∧ T pr.length k = true
    · refine ⟨tab (2 ^ W) fun w => P2 w || decide (w = pr.length ^^^ 2 ^ k), ?_, _, rfl, fun w hw => ?_⟩
      · rw [tab_at hj, Option.bind_some, if_pos b.1, shr_nat, Option.bind_some, bit_nat, Option.bind_some, if_pos (show Nat.testBit pr.length k = true from b.2), shl_nat _ (by omega), Option.bind_some, xor_nat, tab_set (Nat.lt_trans (clr_lt b.2) hj), Option.bind_some]
      · rw [Bool.or_eq_true, decide_eq_true_eq, hP2 w hw, done w, clr_or b.2, or_assoc]
        refine or_congr Iff.rfl ?_
        constructor
        · rintro (⟨g1, g2, g3⟩ | ⟨g1, g2⟩)
          · exact ⟨g1, g2, .inl g3⟩
          · exact ⟨g1, by rw [g2]; exact at_j.mp b.1, .inr g2⟩
        · rintro ⟨g1, g2, g3 | g3⟩
          · exact .inl ⟨g1, g2, g3⟩
          · exact .inr ⟨g1, g3⟩
    · refine ⟨tab (2 ^ W) P2, ?_, P2, rfl, fun w hw => ?_⟩
      · rw [tab_at hj, Option.bind_some]
        by_cases b1 : P2 pr.length = true
        · rw [if_pos b1, shr_nat, Option.bind_some, bit_nat, Option.bind_some, if_neg (fun z => b ⟨b1, z⟩)]
        · rw [if_neg b1, Option.bind_some, if_neg (by decide)]
      · rw [hP2 w hw, done w]
        refine or_congr Iff.rfl ?_
        constructor
        · rintro ⟨g1, g2, g3⟩
          exact ⟨g1, g2, .inl g3⟩
        · rintro ⟨g1, g2, g3 | g3⟩
          · exact ⟨g1, g2, g3⟩
          · refine absurd ⟨at_j.mpr (by rw [← g3]; exact g2), ?_⟩ b
            rw [← g3, t_or]
            exact .inr rfl
  obtain ⟨t, e, P2, rfl, hP2⟩ := key
  refine ⟨P2, e, fun w hw => ?_⟩
  rw [hP2 w hw, List.length_map, List.length_range]
  exact or_congr Iff.rfl ⟨fun ⟨a, b, _⟩ => ⟨a, b⟩, fun ⟨a, b⟩ => ⟨a, b, or_lt hw hk⟩⟩
theorem rounds_eval {W : Nat} {ms : List Nat} (h12 : W ≤ 12) (hlt : ∀ m ∈ ms, m < 2 ^ W) : ∃ P : Nat → Bool,
    loopM (fun (s12 : List Bool) (y11 : Int) => ((rgO 0 (cI (2 ^ W))).bind fun r13 => (loopM (fun (s15 : List Bool) (y14 : Int) => ((atI s15 y14).bind fun t16 => ((if t16 = true then ((shrO y14 y11).bind fun t17 => some ((decide ((Builtin.bitAnd t17 (1 : Int)) ≠ 0)))) else some (false))).bind fun t18 => if t18 = true then ((shlO (1 : Int) y11).bind fun t19 => (setO s15 (Builtin.bitXor y14 t19) true).bind fun t20 => some t20) else some s15)) r13 s12).bind fun t21 => some t21))
      ((List.range W).map cI) (tab (2 ^ W) fun w => ms.any fun m => decide (w = (2 ^ W - 1) ^^^ m)) = some (tab (2 ^ W) P) ∧ ∀ w, w < 2 ^ W → (P w = true ↔ ∃ m ∈ ms, under W ((2 ^ W - 1) ^^^ m) w) := by
  have h4096 : 2 ^ W ≤ 4096 := Nat.pow_le_pow_right (by decide) h12
  have key := loopM_inv (f := fun (s12 : List Bool) (y11 : Int) => ((rgO 0 (cI (2 ^ W))).bind fun r13 => (loopM (fun (s15 : List Bool) (y14 : Int) => ((atI s15 y14).bind fun t16 => ((if t16 = true then ((shrO y14 y11).bind fun t17 => some ((decide ((Builtin.bitAnd t17 (1 : Int)) ≠ 0)))) else some (false))).bind fun t18 => if t18 = true then ((shlO (1 : Int) y11).bind fun t19 => (setO s15 (Builtin.bitXor y14 t19) true).bind fun t20 => some t20) else some s15)) r13 s12).bind fun t21 => some t21))
    (xs := (List.range W).map cI) (s := tab (2 ^ W) fun w => ms.any fun m => decide (w = (2 ^ W - 1) ^^^ m))
    (fun pre s => ∃ P : Nat → Bool, s = tab (2 ^ W) P ∧ ∀ w, w < 2 ^ W → (P w = true ↔ ∃ m ∈ ms, under pre.length ((2 ^ W - 1) ^^^ m) w)) ?h0 ?hs
  case h0 =>
    refine ⟨fun w => ms.any fun m => decide (w = (2 ^ W - 1) ^^^ m), rfl, fun w hw => ?_⟩
    rw [List.any_eq_true]
    refine exists_congr fun m => and_congr_right fun hm => ?_
    rw [decide_eq_true_eq]
    constructor
    · rintro rfl
      exact ⟨fun _ e => e, fun i e1 e2 => by rw [e1] at e2; cases e2⟩
    · rintro ⟨h1, h2⟩
      refine sub_anti h1 fun i e => ?_
      cases q : T w i with
      | true => rfl
      | false => exact absurd (h2 i e q) (Nat.not_lt_zero _)
  case hs =>
    rintro pre x post s ex ⟨P, rfl, hP⟩
    obtain ⟨rfl, hk⟩ := range_split ex
    obtain ⟨P2, e, hP2⟩ := round_eval hk h12 P
    refine ⟨tab (2 ^ W) P2, ?_, P2, rfl, fun w hw => ?_⟩
    · rw [rgO_nat (Nat.le_trans h4096 (by decide)), Option.bind_some, e, Option.bind_some]
    · rw [hP2 w hw, List.length_append, List.length_singleton]
      have ow := or_lt hw hk
      rw [hP w hw]
      simp only [under_succ, exists_or, and_or_left]
      refine or_congr Iff.rfl ?_
      constructor
      · rintro ⟨g1, g2⟩
        obtain ⟨m, hm, g3⟩ := (hP _ ow).mp g2
        exact ⟨m, hm, g1, g3⟩
      · rintro ⟨m, hm, g1, g3⟩
        exact ⟨g1, (hP _ ow).mpr ⟨m, hm, g3⟩⟩
  obtain ⟨t, e, P, rfl, hP⟩ := key
  exact ⟨P, e, fun w hw => by rw [hP w hw, List.length_map, List.length_range]⟩
theorem rep_eval {N : Nat} (h : N ≤ 4096) : repO false (cI N) = some (tab N fun _ => false) := by
  unfold repO
  rw [if_pos ⟨Int.natCast_nonneg _, Int.ofNat_le.mpr (Nat.le_trans h (show 4096 ≤ 16777216 by decide))⟩]
  refine congrArg some ?_
  unfold tab
  rw [List.map_const', List.length_range]
  exact congrArg (fun n => List.replicate n false) (Int.toNat_natCast _)
theorem under_full {W w m : Nat} (hw : w < 2 ^ W) (hm : m < 2 ^ W) : under W ((2 ^ W - 1) ^^^ m) w ↔ ¬ ∃ i, T w i = true ∧ T m i = true := by
  have hpos : 0 < 2 ^ W := Nat.two_pow_pos W
  have tfull : ∀ i, T (2 ^ W - 1) i = decide (i < W) := fun i => Nat.testBit_two_pow_sub_one W i
  have tcomp : ∀ i, T ((2 ^ W - 1) ^^^ m) i = (decide (i < W) != T m i) := fun i => by
    rw [T, Nat.testBit_xor, ← tfull]
  have small : ∀ {x i : Nat}, x < 2 ^ W → T x i = true → i < W := fun {x i} hx e => by
    refine Nat.lt_of_not_le fun z => ?_
    have := Nat.testBit_lt_two_pow (Nat.lt_of_lt_of_le hx (Nat.pow_le_pow_right (by decide) z))
    rw [show Nat.testBit x i = true from e] at this
    cases this
  constructor
  · rintro ⟨h1, _⟩ ⟨i, a, b⟩
    have := h1 i a
    rw [tcomp, b] at this
    have := small hw a
    simp_all
  · intro k
    refine ⟨fun i e => ?_, fun i e1 e2 => small (Nat.xor_lt_two_pow (by omega) hm) e1⟩
    rw [tcomp]
    have hi := small hw e
    have : T m i = false := by
      cases q : T m i with
      | false => rfl
      | true => exact absurd ⟨i, e, q⟩ k
    rw [this]
    simp [hi]
/-- missing_table: what misses some mask -/
theorem missing_eval {ms : List Nat} (h : ∀ m ∈ ms, m < 4096) : ∃ W : Nat, W ≤ 12 ∧ (∀ m ∈ ms, m < 2 ^ W) ∧ m_missing_table (ms.map cI) = some (tab (2 ^ W) fun w => !hits ms w) := by
  obtain ⟨W, hW, h12, hlt⟩ := maxI_eval h
  refine ⟨W, h12, hlt, ?_⟩
  have hpos : 0 < 2 ^ W := Nat.two_pow_pos W
  have h4096 : 2 ^ W ≤ 4096 := Nat.pow_le_pow_right (by decide) h12
  have full : ((2 ^ W : Nat) : Int) - 1 = cI (2 ^ W - 1) := by show _ = ((2 ^ W - 1 : Nat) : Int); omega
  have fullp : cI (2 ^ W - 1) + 1 = cI (2 ^ W) := by show ((2 ^ W - 1 : Nat) : Int) + 1 = ((2 ^ W : Nat) : Int); omega
  obtain ⟨P, e, hP⟩ := rounds_eval h12 hlt
  have fill := fill_eval hlt ms [] fun _ hm => hm
  have e0 : (fun w => ([] : List Nat).any fun m => decide (w = (2 ^ W - 1) ^^^ m)) = fun _ => false := rfl
  rw [e0, List.nil_append] at fill
  unfold m_missing_table
  rw [hW, shl_nat W (by omega), Option.bind_some, full, fullp, rep_eval h4096, Option.bind_some, fill, Option.bind_some, rgO_nat (Nat.le_trans h12 (by decide)), Option.bind_some, e, Option.bind_some]
  refine congrArg some (tab_congr fun w hw => ?_)
  rw [Bool.eq_iff_iff, hP w hw, Bool.not_eq_true', ← Bool.not_eq_true, hits_iff]
  constructor
  · rintro ⟨m, hm, u⟩ k
    exact (under_full hw (hlt m hm)).mp u (k m hm)
  · intro k
    exact Classical.byContradiction fun no => k fun m hm => Classical.byContradiction fun nm => no ⟨m, hm, (under_full hw (hlt m hm)).mpr nm⟩
end G32

namespace G32
open PySem PySem.Spec PyProof.Rows L2 Pw
/-! ### the module's functions -/
abbrev sI (s : List Nat) : List Int := s.map cI
theorem masks_eval {sets : List (List Nat)} (h : ∀ s ∈ sets, ∀ n ∈ s, n < 12) : compM (fun (_ : Unit) (y1 : List Int) => ((m_mask_of y1).bind fun t3 => some (some t3, ()))) (sets.map sI) () = some ((sets.map mk).map cI, ()) := by
  rw [compM_mapH sI (fun s => cI (mk s)) fun s hs => by rw [mask_of_eval (h s hs)]; rfl, List.map_map]
  rfl
theorem masks_lt {sets : List (List Nat)} (h : ∀ s ∈ sets, ∀ n ∈ s, n < 12) : ∀ m ∈ sets.map mk, m < 4096 := fun m hm => by
  obtain ⟨s, hs, rfl⟩ := List.mem_map.mp hm
  exact mk_lt (h s hs)
theorem least_only_eval {sets : List (List Nat)} (h : ∀ s ∈ sets, ∀ n ∈ s, n < 12) (hl : sets.length ≤ 4094) : m_least_only (sets.map sI) = some (lsort ((asc (isMin (sets.map mk))).map bitsI)) := by
  unfold m_least_only
  rw [masks_eval h, Option.bind_some]
  dsimp only
  rw [least_masks_eval (masks_lt h) (by rw [List.length_map]; exact hl), Option.bind_some, compM_mapH cI bitsI fun m hm => by rw [numbers_in_eval (mem_asc.mp hm).1]; rfl]
  rfl
theorem all_bits (w : Nat) (f : Nat → Bool) : (bits w).all f = (List.range 12).all fun j => !(T w j && !f j) := by
  unfold bits
  rw [Bool.eq_iff_iff, List.all_eq_true, List.all_eq_true]
  constructor
  · intro h j hj
    cases e : T w j with
    | false => rfl
    | true => rw [h j (List.mem_filter.mpr ⟨hj, e⟩)]; rfl
  · intro h j hj
    obtain ⟨h1, h2⟩ := List.mem_filter.mp hj
    have := h j h1
    rw [h2] at this
    simpa using this
theorem MH_bits (ms : List Nat) (w : Nat) : MH ms w = (hits ms w && (bits w).all fun j => !hits ms (w ^^^ 2 ^ j)) := by
  unfold MH
  rw [all_bits]
  simp only [Bool.not_not]
theorem filter_range_asc {N : Nat} {P : Nat → Bool} (hN : N ≤ 4096) (h : ∀ w, w < 4096 → P w = true → w < N) : (List.range N).filter P = asc P := by
  unfold asc
  have e : (4096 : Nat) = N + (4096 - N) := by omega
  rw [e, List.range_add, List.filter_append]
  have : ((List.range (4096 - N)).map fun x => N + x).filter P = [] := by
    rw [List.filter_eq_nil_iff]
    intro a ha hP
    obtain ⟨b, hb, rfl⟩ := List.mem_map.mp ha
    have := List.mem_range.mp hb
    have := h (N + b) (by omega) hP
    omega
  rw [this, List.append_nil]
theorem MH_range {ms : List Nat} {W w : Nat} (hlt : ∀ m ∈ ms, m < 2 ^ W) (hw : w < 4096) (h : MH ms w = true) : w < 2 ^ W := by
  obtain ⟨h1, h2⟩ := (MH_iff hw).mp h
  refine lt_of_t fun j hj => ?_
  have h3 := h2 j hj
  rw [← Bool.not_eq_true, hits_iff] at h3
  have : ∃ y, y ∈ ms ∧ ¬ ∃ i, T (w ^^^ 2 ^ j) i = true ∧ T y i = true := Classical.byContradiction fun no => h3 fun y hy => Classical.byContradiction fun ne => no ⟨y, hy, ne⟩
  obtain ⟨y, hy, ne⟩ := this
  obtain ⟨i, a, b⟩ := hits_iff.mp h1 y hy
  by_cases e : i = j
  · subst e
    refine Nat.lt_of_not_le fun z => ?_
    have := Nat.testBit_lt_two_pow (Nat.lt_of_lt_of_le (hlt y hy) (Nat.pow_le_pow_right (by decide) z))
    rw [show Nat.testBit y i = true from b] at this
    cases this
  · exact absurd ⟨i, (t_clr hj).mpr ⟨a, e⟩, b⟩ ne
theorem hitting_loop {N : Nat} (hN : N ≤ 4096) (L : List Nat) : loopM (fun (s10 : List (List Int)) (y9 : Int) => ((m_numbers_in y9).bind fun t11 => ((atI (tab N fun w => !hits L w) y9).bind fun t12 => ((if (!t12) = true then ((compM (fun (s14 : Unit) (y13 : Int) => ((shlO (1 : Int) y13).bind fun t15 => (atI (tab N fun w => !hits L w) (Builtin.bitXor y9 t15)).bind fun t16 => some (some t16, ()))) t11 ()).bind fun t17 => some (((t17.1).all id))) else some (false))).bind fun t18 => if t18 = true then ((appO s10 t11).bind fun t19 => some t19) else some s10)))
    ((List.range N).map cI) [] = some (((List.range N).filter (MH L)).map bitsI) := by
  have key := loopM_inv (f := fun (s10 : List (List Int)) (y9 : Int) => ((m_numbers_in y9).bind fun t11 => ((atI (tab N fun w => !hits L w) y9).bind fun t12 => ((if (!t12) = true then ((compM (fun (s14 : Unit) (y13 : Int) => ((shlO (1 : Int) y13).bind fun t15 => (atI (tab N fun w => !hits L w) (Builtin.bitXor y9 t15)).bind fun t16 => some (some t16, ()))) t11 ()).bind fun t17 => some (((t17.1).all id))) else some (false))).bind fun t18 => if t18 = true then ((appO s10 t11).bind fun t19 => some t19) else some s10)))
    (xs := (List.range N).map cI) (s := []) (fun pre s => s = ((List.range pre.length).filter (MH L)).map bitsI) rfl ?hs
  case hs =>
    rintro pre x post s ex rfl
    obtain ⟨rfl, hw⟩ := range_split ex
    have hw2 : pre.length < 4096 := Nat.lt_of_lt_of_le hw hN
    refine ⟨_, ?_, rfl⟩
    rw [numbers_in_eval hw2, Option.bind_some, tab_at hw, Option.bind_some, Bool.not_not]
    have inner : hits L pre.length = true → compM (fun (s14 : Unit) (y13 : Int) => ((shlO (1 : Int) y13).bind fun t15 => (atI (tab N fun w => !hits L w) (Builtin.bitXor (cI pre.length) t15)).bind fun t16 => some (some t16, ()))) (bitsI pre.length) () = some ((bits pre.length).map (fun j => !hits L (pre.length ^^^ 2 ^ j)), ()) := fun _ => by
      unfold bitsI
      refine compM_mapH cI _ fun j hj => ?_
      have hT : T pre.length j = true := (List.mem_filter.mp hj).2
      rw [shl_nat j (by have := bits_lt hj; omega), Option.bind_some, xor_nat, tab_at (Nat.lt_trans (clr_lt hT) hw), Option.bind_some]
    have e18 : (if hits L pre.length = true then ((compM (fun (s14 : Unit) (y13 : Int) => ((shlO (1 : Int) y13).bind fun t15 => (atI (tab N fun w => !hits L w) (Builtin.bitXor (cI pre.length) t15)).bind fun t16 => some (some t16, ()))) (bitsI pre.length) ()).bind fun t17 => some (((t17.1).all id))) else some (false)) = some (MH L pre.length) := by
      by_cases b : hits L pre.length = true
      · rw [if_pos b, inner b, Option.bind_some, MH_bits, b, Bool.true_and, List.all_map]
        rfl
      · rw [if_neg b, MH_bits]
        have : hits L pre.length = false := by simpa using b
        rw [this]
        rfl
    rw [e18, Option.bind_some, List.length_append, List.length_singleton, List.range_succ, List.filter_append, List.map_append]
    by_cases b : MH L pre.length = true
    · rw [if_pos b]
      unfold appO
      rw [if_pos, Option.bind_some]
      · rw [List.filter_cons, if_pos b]
        rfl
      · rw [List.length_map]
        have := List.length_filter_le (MH L) (List.range pre.length)
        rw [List.length_range] at this
        exact Nat.lt_of_le_of_lt this (Nat.lt_trans hw2 (by decide))
    · rw [if_neg b, List.filter_cons, if_neg b]
      simp
  obtain ⟨t, e, rfl⟩ := key
  rw [e, List.length_map, List.length_range]
theorem hitting_sets_eval {sets : List (List Nat)} (h : ∀ s ∈ sets, ∀ n ∈ s, n < 12) (hl : sets.length ≤ 4094) : m_hitting_sets (sets.map sI) = some (lsort ((asc (MH (sets.map mk))).map bitsI)) := by
  have hL : ∀ m ∈ asc (isMin (sets.map mk)), m < 4096 := fun m hm => (mem_asc.mp hm).1
  obtain ⟨W, h12, hlt, em⟩ := missing_eval hL
  have hN : 2 ^ W ≤ 4096 := Nat.pow_le_pow_right (by decide) h12
  unfold m_hitting_sets
  rw [masks_eval h, Option.bind_some]
  dsimp only
  rw [least_masks_eval (masks_lt h) (by rw [List.length_map]; exact hl), Option.bind_some, em, Option.bind_some, tab_len, rgO_nat (Nat.le_trans hN (by decide)), Option.bind_some, hitting_loop hN, Option.bind_some, filter_range_asc hN fun w hw hM => MH_range hlt hw hM]
  unfold m_in_length_order
  rw [Option.bind_some]
  have e : asc (MH (asc (isMin (sets.map mk)))) = asc (MH (sets.map mk)) := asc_congr fun m _ => MH_congr (hits_least fun m => by
    rw [mem_asc]
    exact ⟨fun k => k.2, fun k => ⟨masks_lt h m (isMin_iff.mp k).1, k⟩⟩) m
  rw [e]
end G32

namespace G32
open PySem PySem.Spec PyProof.Rows L2 Pw
/-! ### the law's own hitting sets -/
/-- the parts of l, by number -/
def dv (l : List Nat) (i : Nat) : Nat := mk (((List.range l.length).filter (T i)).map fun r => l.getD r 0)
theorem t_dv (l : List Nat) (i j : Nat) : T (dv l i) j = true ↔ ∃ r, r < l.length ∧ T i r = true ∧ l.getD r 0 = j := by
  unfold dv
  rw [t_mk, decide_eq_true_eq, List.mem_map]
  simp only [List.mem_filter, List.mem_range, and_assoc]
def parts (l : List Nat) : List Nat := (List.range (2 ^ l.length)).map (dv l)
theorem parts_snoc (l : List Nat) (n : Nat) : parts (l ++ [n]) = parts l ++ (parts l).map (· ||| 2 ^ n) := by
  unfold parts
  rw [List.length_append, List.length_singleton, Nat.pow_succ, Nat.mul_two, List.range_add, List.map_append, List.map_map, List.map_map]
  have gd : ∀ r, r < l.length → (l ++ [n]).getD r 0 = l.getD r 0 := fun r hr => by
    rw [List.getD_eq_getElem?_getD, List.getD_eq_getElem?_getD, List.getElem?_append_left hr]
  have gl : (l ++ [n]).getD l.length 0 = n := by rw [List.getD_eq_getElem?_getD]; simp
  congr 1
  · apply List.map_congr_left
    intro i hi
    have hi := List.mem_range.mp hi
    refine sub_anti (fun j e => ?_) fun j e => ?_
    · obtain ⟨r, h1, h2, h3⟩ := (t_dv _ _ _).mp e
      have hr : r < l.length := by
        rw [List.length_append, List.length_singleton] at h1
        refine Nat.lt_of_not_le fun z => ?_
        have : r = l.length := by omega
        rw [this, T, Nat.testBit_lt_two_pow hi] at h2
        cases h2
      exact (t_dv _ _ _).mpr ⟨r, hr, h2, by rw [← gd r hr]; exact h3⟩
    · obtain ⟨r, h1, h2, h3⟩ := (t_dv _ _ _).mp e
      exact (t_dv _ _ _).mpr ⟨r, by rw [List.length_append]; omega, h2, by rw [gd r h1]; exact h3⟩
  · apply List.map_congr_left
    intro i hi
    have hi := List.mem_range.mp hi
    show dv (l ++ [n]) (2 ^ l.length + i) = dv l i ||| 2 ^ n
    have hbit : ∀ r, r < l.length → T (2 ^ l.length + i) r = T i r := fun r hr => Nat.testBit_two_pow_add_gt hr i
    have htop : T (2 ^ l.length + i) l.length = true := by
      rw [T, Nat.testBit_two_pow_add_eq, Nat.testBit_lt_two_pow hi]
      rfl
    refine sub_anti (fun j e => ?_) fun j e => ?_
    · obtain ⟨r, h1, h2, h3⟩ := (t_dv _ _ _).mp e
      rw [List.length_append, List.length_singleton] at h1
      rw [t_or]
      by_cases hr : r < l.length
      · exact .inl ((t_dv _ _ _).mpr ⟨r, hr, by rw [← hbit r hr]; exact h2, by rw [← gd r hr]; exact h3⟩)
      · have : r = l.length := by omega
        rw [this, gl] at h3
        exact .inr h3.symm
    · rcases (t_or _ _ _).mp e with e | e
      · obtain ⟨r, h1, h2, h3⟩ := (t_dv _ _ _).mp e
        exact (t_dv _ _ _).mpr ⟨r, by rw [List.length_append]; omega, by rw [hbit r h1]; exact h2, by rw [gd r h1]; exact h3⟩
      · exact (t_dv _ _ _).mpr ⟨l.length, by rw [List.length_append, List.length_singleton]; omega, htop, by rw [gl, e]⟩
theorem parts_len (l : List Nat) : (parts l).length = 2 ^ l.length := by unfold parts; simp
theorem parts_eval {l : List Nat} (h : ∀ n ∈ l, n < 12) (hl : l.length ≤ 12) : loopM (fun (s12 : List Int) (y11 : Int) => ((compM (fun (s14 : Unit) (y13 : Int) => ((shlO (1 : Int) y11).bind fun t15 => some (some (Builtin.bitOr y13 t15), ()))) s12 ()).bind fun t16 => (catO s12 t16.1).bind fun t17 => some t17)) (l.map cI) [(0 : Int)] = some ((parts l).map cI) := by
  have key := loopM_inv (f := fun (s12 : List Int) (y11 : Int) => ((compM (fun (s14 : Unit) (y13 : Int) => ((shlO (1 : Int) y11).bind fun t15 => some (some (Builtin.bitOr y13 t15), ()))) s12 ()).bind fun t16 => (catO s12 t16.1).bind fun t17 => some t17))
    (xs := l.map cI) (s := [(0 : Int)]) (fun pre s => s = (parts (l.take pre.length)).map cI) rfl ?hs
  case hs =>
    rintro pre x post s ex rfl
    have hlen : pre.length < l.length := by
      have := congrArg List.length ex
      simp at this
      omega
    have hx : x = cI (l[pre.length]'hlen) := by
      have h1 : (l.map cI)[pre.length]? = some x := by rw [ex]; simp
      rw [List.getElem?_map, List.getElem?_eq_getElem hlen] at h1
      exact (Option.some.inj h1).symm
    subst hx
    have tk : l.take (pre.length + 1) = l.take pre.length ++ [l[pre.length]] := by rw [List.take_succ, List.getElem?_eq_getElem hlen]; rfl
    have hn := h _ (List.getElem_mem hlen)
    refine ⟨_, ?_, rfl⟩
    rw [compM_mapH cI (fun v => cI (v ||| 2 ^ l[pre.length])) fun v _ => by
      rw [shl_nat _ (by omega), Option.bind_some, or_nat], Option.bind_some]
    unfold catO
    rw [if_pos, Option.bind_some, List.length_append, List.length_singleton, tk, parts_snoc, List.map_append, List.map_map]
    · rfl
    · rw [List.length_map, List.length_map, parts_len, List.length_take]
      have : 2 ^ min pre.length l.length ≤ 2 ^ 12 := Nat.pow_le_pow_right (by decide) (by omega)
      omega
  obtain ⟨t, e, rfl⟩ := key
  rw [e, List.length_map, List.take_length]
theorem used_eval (l : List Nat) : ∀ a : Nat, loopM (fun (s2 : Int) (y1 : Int) => some (Builtin.bitOr s2 y1)) (l.map cI) (cI a) = some (cI (l.foldl (· ||| ·) a)) := by
  induction l with
  | nil => intro a; rfl
  | cons x l ih =>
    intro a
    rw [List.map_cons, loopM_cons, Option.bind_some, or_nat]
    exact ih _
theorem used_eval0 (l : List Nat) : loopM (fun (s2 : Int) (y1 : Int) => some (Builtin.bitOr s2 y1)) (l.map cI) (0 : Int) = some (cI (l.foldl (· ||| ·) 0)) := used_eval l 0
theorem t_used (l : List Nat) : ∀ a i, T (l.foldl (· ||| ·) a) i = true ↔ T a i = true ∨ ∃ y ∈ l, T y i = true := by
  induction l with
  | nil => intro a i; simp
  | cons x l ih =>
    intro a i
    rw [List.foldl_cons, ih, T, Nat.testBit_or, Bool.or_eq_true]
    simp only [List.mem_cons, exists_eq_or_imp, or_assoc]
theorem is_least_eval {N k i : Nat} {Q : Nat → Bool} (hk : k ≤ 12) (hi : i < N) : m__law_is_least (cI i) (tab N Q) (cI k) = some (!(List.range k).any fun r => T i r && Q (i ^^^ 2 ^ r)) := by
  unfold m__law_is_least
  rw [rgO_nat (by omega), Option.bind_some, forC_anyH cI (fun r => T i r && Q (i ^^^ 2 ^ r)) false fun r hr => by
    have hr := List.mem_range.mp hr
    rw [shr_nat, Option.bind_some, bit_nat]
    by_cases e : Nat.testBit i r = true
    · rw [if_pos e, shl_nat r (by omega), Option.bind_some, xor_nat, tab_at (Nat.lt_trans (clr_lt e) hi), Option.bind_some, Option.bind_some, show T i r = true from e, Bool.true_and]
      split <;> rfl
    · rw [if_neg e, Option.bind_some]
      have : T i r = false := by simpa using e
      rw [this]
      rfl]
  generalize ((List.range k).any fun r => T i r && Q (i ^^^ 2 ^ r)) = b
  cases b <;> rfl
theorem dv_clr {l : List Nat} {i r : Nat} (nd : l.Nodup) (hr : r < l.length) (e : T i r = true) : dv l (i ^^^ 2 ^ r) = dv l i ^^^ 2 ^ l.getD r 0 := by
  have on : T (dv l i) (l.getD r 0) = true := (t_dv _ _ _).mpr ⟨r, hr, e, rfl⟩
  refine sub_anti (fun j h => ?_) fun j h => ?_
  · obtain ⟨q, h1, h2, h3⟩ := (t_dv _ _ _).mp h
    obtain ⟨h4, h5⟩ := (t_clr e).mp h2
    refine (t_clr on).mpr ⟨(t_dv _ _ _).mpr ⟨q, h1, h4, h3⟩, fun z => h5 ?_⟩
    rw [← h3, List.getD_eq_getElem?_getD, List.getD_eq_getElem?_getD, List.getElem?_eq_getElem h1, List.getElem?_eq_getElem hr] at z
    exact (List.getElem_inj nd).mp z
  · obtain ⟨h1, h2⟩ := (t_clr on).mp h
    obtain ⟨q, h3, h4, h5⟩ := (t_dv _ _ _).mp h1
    exact (t_dv _ _ _).mpr ⟨q, h3, (t_clr e).mpr ⟨h4, fun z => h2 (by rw [← h5, z])⟩, h5⟩
theorem law_hitting_eval {ms : List Nat} (h : ∀ m ∈ ms, m < 4096) : ∃ found : List Nat, m__law_hitting (ms.map cI) = some (found.map cI) ∧ found.Perm (asc (MH ms)) := by
  have hu : ms.foldl (· ||| ·) 0 < 4096 := lt_of_t (n := 12) fun i e => by
    rcases (t_used _ _ _).mp e with e | ⟨y, hy, e⟩
    · rw [T, Nat.zero_testBit] at e; cases e
    · exact t_lt (h y hy) e
  have hmem : ∀ n, n ∈ bits (ms.foldl (· ||| ·) 0) ↔ ∃ y ∈ ms, T y n = true := fun n => by
    unfold bits
    rw [List.mem_filter, List.mem_range, t_used]
    constructor
    · rintro ⟨_, k | k⟩
      · rw [T, Nat.zero_testBit] at k; cases k
      · exact k
    · rintro ⟨y, hy, e⟩
      exact ⟨t_lt (h y hy) e, .inr ⟨y, hy, e⟩⟩
  generalize hl : bits (ms.foldl (· ||| ·) 0) = l at hmem
  have hlt : ∀ n ∈ l, n < 12 := fun n hn => by rw [← hl] at hn; exact bits_lt hn
  have nd : l.Nodup := by rw [← hl]; unfold bits; exact List.Pairwise.filter _ List.nodup_range
  have hlen : l.length ≤ 12 := by
    rw [← hl]; unfold bits
    have := List.length_filter_le (T (ms.foldl (· ||| ·) 0)) (List.range 12)
    rwa [List.length_range] at this
  have hN : 2 ^ l.length ≤ 4096 := Nat.pow_le_pow_right (by decide) hlen
  have dlt : ∀ i, dv l i < 4096 := fun i => lt_of_t (n := 12) fun j e => by
    obtain ⟨r, h1, _, h3⟩ := (t_dv _ _ _).mp e
    rw [← h3, List.getD_eq_getElem?_getD, List.getElem?_eq_getElem h1]
    exact hlt _ (List.getElem_mem h1)
  -- what is kept
  have cond : ∀ i, (hits ms (dv l i) && !(List.range l.length).any fun r => T i r && hits ms (dv l (i ^^^ 2 ^ r))) = MH ms (dv l i) := fun i => by
    rw [Bool.eq_iff_iff, MH_iff (dlt i), Bool.and_eq_true, Bool.not_eq_true', List.any_eq_false]
    refine and_congr_right fun _ => ?_
    constructor
    · intro k j hj
      obtain ⟨r, h1, h2, h3⟩ := (t_dv _ _ _).mp hj
      have := k r (List.mem_range.mpr h1)
      rw [h2, Bool.true_and, dv_clr nd h1 h2, h3] at this
      simpa using this
    · intro k r hr
      have hr := List.mem_range.mp hr
      rw [Bool.and_eq_true]
      rintro ⟨e, z⟩
      rw [dv_clr nd hr e, k _ ((t_dv _ _ _).mpr ⟨r, hr, e, rfl⟩)] at z
      cases z
  refine ⟨((List.range (2 ^ l.length)).filter fun i => MH ms (dv l i)).map (dv l), ?_, ?_⟩
  · unfold m__law_hitting
    rw [used_eval0, Option.bind_some, show rgO 0 (12 : Int) = some ((List.range 12).map cI) from rgO_nat (n := 12) (by decide), Option.bind_some, row_eval, Option.bind_some]
    dsimp only
    rw [show (List.range 12).filter (T (ms.foldl (· ||| ·) 0)) = l from hl, parts_eval hlt hlen, Option.bind_some, compM_mapH cI (hits ms) fun v _ => by rw [meets_eval]; rfl, Option.bind_some]
    dsimp only
    have et : (parts l).map (hits ms) = tab (2 ^ l.length) fun i => hits ms (dv l i) := by unfold parts tab; rw [List.map_map]; rfl
    rw [et, List.length_map, List.length_map, parts_len, rgO_nat (Nat.le_trans hN (by decide)), Option.bind_some]
    have key := loopM_inv (f := fun (s27 : List Int) (y26 : Int) => ((atI (tab (2 ^ l.length) fun i => hits ms (dv l i)) y26).bind fun t28 => ((if t28 = true then ((m__law_is_least y26 (tab (2 ^ l.length) fun i => hits ms (dv l i)) (l.length : Int)).bind fun t29 => some (t29)) else some (false))).bind fun t30 => if t30 = true then ((atI ((parts l).map cI) y26).bind fun t31 => (appO s27 t31).bind fun t32 => some t32) else some s27))
      (xs := (List.range (2 ^ l.length)).map cI) (s := []) (fun pre s => s = (((List.range pre.length).filter fun i => MH ms (dv l i)).map (dv l)).map cI) rfl ?hs
    case hs =>
      rintro pre x post s ex rfl
      obtain ⟨rfl, hw⟩ := range_split ex
      refine ⟨_, ?_, rfl⟩
      rw [tab_at hw, Option.bind_some]
      have e30 : ((if hits ms (dv l pre.length) = true then ((m__law_is_least (cI pre.length) (tab (2 ^ l.length) fun i => hits ms (dv l i)) (l.length : Int)).bind fun t29 => some (t29)) else some (false))) = some (MH ms (dv l pre.length)) := by
        rw [← cond]
        by_cases b : hits ms (dv l pre.length) = true
        · rw [if_pos b, is_least_eval hlen hw, Option.bind_some, b, Bool.true_and]
        · rw [if_neg b]
          have : hits ms (dv l pre.length) = false := by simpa using b
          rw [this, Bool.false_and]
      rw [e30, Option.bind_some, List.length_append, List.length_singleton, List.range_succ, List.filter_append, List.map_append, List.map_append]
      by_cases b : MH ms (dv l pre.length) = true
      · rw [if_pos b, atI_nat (by rw [List.length_map, parts_len]; exact hw), List.getElem?_map]
        have ep : (parts l)[pre.length]? = some (dv l pre.length) := by unfold parts; rw [List.getElem?_map, List.getElem?_range hw]; rfl
        rw [ep]
        unfold appO
        show (if _ then some _ else none : Option (List Int)).bind _ = _
        rw [if_pos, Option.bind_some, List.filter_cons, if_pos b]
        · rfl
        · rw [List.length_map, List.length_map]
          have := List.length_filter_le (fun i => MH ms (dv l i)) (List.range pre.length)
          rw [List.length_range] at this
          exact Nat.lt_of_le_of_lt this (Nat.lt_of_lt_of_le hw (Nat.le_trans hN (by decide)))
      · rw [if_neg b, List.filter_cons, if_neg b]
        simp
    obtain ⟨t, e, rfl⟩ := key
    have e : loopM _ ((List.range (2 ^ l.length)).map cI) ([] : List Int) = _ := e
    rw [e, Option.bind_some, List.length_map, List.length_range]
  · -- the same members, once each
    have inj : ∀ i j, i < 2 ^ l.length → j < 2 ^ l.length → dv l i = dv l j → i = j := fun i j hi hj e => by
      have small : ∀ {x r : Nat}, x < 2 ^ l.length → T x r = true → r < l.length := fun {x r} hx e => by
        refine Nat.lt_of_not_le fun z => ?_
        have := Nat.testBit_lt_two_pow (Nat.lt_of_lt_of_le hx (Nat.pow_le_pow_right (by decide) z))
        rw [show Nat.testBit x r = true from e] at this
        cases this
      have half : ∀ i j, i < 2 ^ l.length → dv l i = dv l j → sub i j := fun i j hi e r hr => by
        have h1 := small hi hr
        have : T (dv l j) (l.getD r 0) = true := by rw [← e]; exact (t_dv _ _ _).mpr ⟨r, h1, hr, rfl⟩
        obtain ⟨q, h2, h3, h4⟩ := (t_dv _ _ _).mp this
        rw [List.getD_eq_getElem?_getD, List.getD_eq_getElem?_getD, List.getElem?_eq_getElem h1, List.getElem?_eq_getElem h2] at h4
        have : q = r := (List.getElem_inj nd).mp h4
        rw [← this]; exact h3
      exact sub_anti (half i j hi e) (half j i hj e.symm)
    have n1 : (((List.range (2 ^ l.length)).filter fun i => MH ms (dv l i)).map (dv l)).Nodup := by
      rw [List.nodup_iff_pairwise_ne, List.pairwise_map]
      have : ((List.range (2 ^ l.length)).filter fun i => MH ms (dv l i)).Nodup := List.Pairwise.filter _ List.nodup_range
      refine List.Pairwise.imp_of_mem (fun {a b} ha hb ne e => ne ?_) (List.nodup_iff_pairwise_ne.mp this)
      exact inj a b (List.mem_range.mp (List.mem_filter.mp ha).1) (List.mem_range.mp (List.mem_filter.mp hb).1) e
    have n2 : (asc (MH ms)).Nodup := (asc_lt _).imp fun h => Nat.ne_of_lt h
    refine (List.perm_ext_iff_of_nodup n1 n2).mpr fun w => ?_
    rw [mem_asc, List.mem_map]
    constructor
    · rintro ⟨i, hi, rfl⟩
      exact ⟨dlt i, (List.mem_filter.mp hi).2⟩
    · rintro ⟨hw, hM⟩
      obtain ⟨g1, g2⟩ := (MH_iff hw).mp hM
      have inl : ∀ j, T w j = true → ∃ r, r < l.length ∧ l.getD r 0 = j := fun j hj => by
        have h3 := g2 j hj
        rw [← Bool.not_eq_true, hits_iff] at h3
        have : ∃ y, y ∈ ms ∧ ¬ ∃ i, T (w ^^^ 2 ^ j) i = true ∧ T y i = true := Classical.byContradiction fun no => h3 fun y hy => Classical.byContradiction fun ne => no ⟨y, hy, ne⟩
        obtain ⟨y, hy, ne⟩ := this
        obtain ⟨i, a, b⟩ := hits_iff.mp g1 y hy
        have : i = j := Classical.byContradiction fun z => ne ⟨i, (t_clr hj).mpr ⟨a, z⟩, b⟩
        subst this
        obtain ⟨r, hr, e⟩ := List.mem_iff_getElem.mp ((hmem i).mpr ⟨y, hy, b⟩)
        exact ⟨r, hr, by rw [List.getD_eq_getElem?_getD, List.getElem?_eq_getElem hr]; exact e⟩
      have ew : dv l (mk ((List.range l.length).filter fun r => T w (l.getD r 0))) = w := by
        refine sub_anti (fun j e => ?_) fun j e => ?_
        · obtain ⟨r, h1, h2, h3⟩ := (t_dv _ _ _).mp e
          rw [t_mk, decide_eq_true_eq, List.mem_filter] at h2
          rw [← h3]; exact h2.2
        · obtain ⟨r, hr, e2⟩ := inl j e
          refine (t_dv _ _ _).mpr ⟨r, hr, ?_, e2⟩
          rw [t_mk, decide_eq_true_eq, List.mem_filter, List.mem_range]
          exact ⟨hr, by rw [e2]; exact e⟩
      refine ⟨_, List.mem_filter.mpr ⟨List.mem_range.mpr (lt_of_t fun r e => ?_), by rw [ew]; exact hM⟩, ew⟩
      rw [t_mk, decide_eq_true_eq, List.mem_filter, List.mem_range] at e
      exact e.1
end G32

namespace G32
open PySem PySem.Spec PyProof.Rows L2 Pw
theorem same_refl {L : List (List Int)} (hl : L.length ≤ 4096) : m__law_same L L = some true := by
  unfold m__law_same
  rw [if_neg (by simp), rgO_nat (Nat.le_trans hl (by decide)), Option.bind_some, forC_anyH cI (fun _ => false) false fun i hi => by
    have hi := List.mem_range.mp hi
    rw [atI_nat hi, List.getElem?_eq_getElem hi, Option.bind_some, if_neg (by decide), Option.bind_some]
    have inner : forC (ρ := Bool) (fun (s7 : Unit) (y6 : Int) => if ((!true) || false) = true then some (.rt false) else some (.nx ())) L[i] () = some (.nx ()) := by
      have := forC_any (f := fun (s7 : Unit) (y6 : Int) => if ((!true) || false) = true then some (Ctl.rt false) else some (.nx ())) (xs := L[i]) (fun _ => false) false fun x _ => rfl
      rw [this]
      simp
    rw [inner, Option.bind_some]
    show (some L[i]).bind _ = _
    rw [Option.bind_some, Option.bind_some, if_neg (by simp)]
    rfl]
  rw [show (List.range L.length).any (fun _ => false) = false by simp]
  rfl
/-- the told lists as lists of naturals -/
def un (x : List Int) : List Nat := x.map Int.toNat
theorem un_sI (s : List Nat) : un (sI s) = s := by
  unfold un
  rw [List.map_map]
  have : (Int.toNat ∘ cI) = id := by funext n; exact Int.toNat_natCast n
  rw [this, List.map_id]
theorem un_lsort (ms : List Nat) : ∃ R : List (List Nat), lsort (ms.map bitsI) = R.map sI ∧ R.Perm (ms.map bits) := by
  refine ⟨(lsort (ms.map bitsI)).map un, ?_, ?_⟩
  · rw [List.map_map]
    symm
    have : ∀ x ∈ lsort (ms.map bitsI), (sI ∘ un) x = x := fun x hx => by
      obtain ⟨m, _, rfl⟩ := List.mem_map.mp (mem_lsort.mp hx)
      show sI (un (sI (bits m))) = sI (bits m)
      rw [un_sI]
    conv => rhs; rw [← List.map_id (lsort (ms.map bitsI))]
    exact List.map_congr_left this
  · have p : (lsort (ms.map bitsI)).Perm (ms.map bitsI) := List.mergeSort_perm _ _
    have p2 := p.map un
    rw [List.map_map] at p2
    have : ms.map (un ∘ bitsI) = ms.map bits := List.map_congr_left fun m _ => un_sI (bits m)
    rwa [this] at p2
theorem mk_mem {ms : List Nat} {R : List (List Nat)} (h : ∀ m ∈ ms, m < 4096) (p : R.Perm (ms.map bits)) (m : Nat) : m ∈ R.map mk ↔ m ∈ ms := by
  rw [List.mem_map]
  constructor
  · rintro ⟨s, hs, rfl⟩
    obtain ⟨m, hm, rfl⟩ := List.mem_map.mp (p.mem_iff.mp hs)
    rw [mk_bits (h m hm)]; exact hm
  · intro hm
    exact ⟨bits m, p.mem_iff.mpr (List.mem_map_of_mem hm), mk_bits (h m hm)⟩
theorem R_lt {ms : List Nat} {R : List (List Nat)} (p : R.Perm (ms.map bits)) : ∀ s ∈ R, ∀ n ∈ s, n < 12 := fun s hs n hn => by
  obtain ⟨m, hm, rfl⟩ := List.mem_map.mp (p.mem_iff.mp hs)
  exact bits_lt hn
theorem law_masks_eval {sets : List (List Nat)} (h : ∀ s ∈ sets, ∀ n ∈ s, n < 12) : compM (fun (_ : Unit) (y1 : List Int) => ((m__law_mask y1).bind fun t3 => some (some t3, ()))) (sets.map sI) () = some ((sets.map mk).map cI, ()) := by
  rw [compM_mapH sI (fun s => cI (mk s)) fun s hs => by rw [law_mask_eval (h s hs)]; rfl, List.map_map]
  rfl
theorem law_from {script : List Int} {p0 p1 p2 p3 : Purse} {s1 s2 : List (List Int)} {S : List (List Nat)} (e1 : m__law_purse script = some p0) (e2 : m__law_sets p0 = some (s1, p1)) (e3 : m__law_with_more p1 s1 = some (s2, p2))
    (e4 : m__law_arranged p2 s2 = some (S.map sI, p3)) (h : ∀ s ∈ S, ∀ n ∈ s, n < 12) (hl : S.length ≤ 4094) : m_law script = some true := by
  have hm := masks_lt h
  have hml : (S.map mk).length ≤ 4094 := by rw [List.length_map]; exact hl
  obtain ⟨found, ef, pf⟩ := law_hitting_eval hm
  have t14 : lsort (found.map bitsI) = lsort ((asc (MH (S.map mk))).map bitsI) := lsort_perm (pf.map bitsI)
  have lt1 : ∀ m ∈ asc (isMin (S.map mk)), m < 4096 := fun m hm => (mem_asc.mp hm).1
  have lt2 : ∀ m ∈ asc (MH (S.map mk)), m < 4096 := fun m hm => (mem_asc.mp hm).1
  obtain ⟨R1, r1, q1⟩ := un_lsort (asc (isMin (S.map mk)))
  obtain ⟨R2, r2, q2⟩ := un_lsort (asc (MH (S.map mk)))
  have len1 : R1.length ≤ 4094 := by
    rw [q1.length_eq, List.length_map]
    exact Nat.le_trans (asc_length_le fun m e => (isMin_iff.mp e).1) hml
  have len2 : R2.length ≤ 4094 := by
    rw [q2.length_eq, List.length_map]
    exact MH_few _
  have min1 : ∀ m, m ∈ R1.map mk ↔ isMin (S.map mk) m = true := fun m => by
    rw [mk_mem lt1 q1, mem_asc]
    exact ⟨fun k => k.2, fun k => ⟨hm m (isMin_iff.mp k).1, k⟩⟩
  have mh2 : ∀ m, m ∈ R2.map mk ↔ m < 4096 ∧ MH (S.map mk) m = true := fun m => by rw [mk_mem lt2 q2, mem_asc]
  have eqA : asc (MH (R1.map mk)) = asc (MH (S.map mk)) := asc_congr fun m _ => MH_congr (hits_least min1) m
  have eqB : asc (isMin (R2.map mk)) = asc (MH (S.map mk)) := asc_congr fun m hmm => min_MH mh2 m hmm
  have eqC : asc (MH (R2.map mk)) = asc (isMin (S.map mk)) := asc_congr fun m hmm => dual hm mh2 m hmm
  have same1 : m__law_same (R1.map sI) (R1.map sI) = some true := same_refl (by rw [List.length_map]; omega)
  have same2 : m__law_same (R2.map sI) (R2.map sI) = some true := same_refl (by rw [List.length_map]; omega)
  have idm : ∀ L : List (List Int), L.map (fun y : List Int => y) = L := fun L => List.map_id' L
  unfold m_law
  rw [e1, Option.bind_some, e2, Option.bind_some]
  dsimp only
  rw [e3, Option.bind_some]
  dsimp only
  rw [e4, Option.bind_some]
  dsimp only
  rw [law_masks_eval h, Option.bind_some]
  dsimp only
  rw [law_least_eval hm hml, Option.bind_some, ordered_eval, Option.bind_some, ef, Option.bind_some, ordered_eval, Option.bind_some, t14]
  simp only [idm]
  rw [least_only_eval h hl, Option.bind_some, hitting_sets_eval h hl, r1, r2, same1, Option.bind_some, if_neg (by simp), Option.bind_some, same2, Option.bind_some, if_neg (by simp), hitting_sets_eval (R_lt q1) len1, Option.bind_some, eqA, r2, same2, Option.bind_some, if_neg (by simp), least_only_eval (R_lt q2) len2, Option.bind_some, eqB, r2, same2, Option.bind_some, if_neg (by simp),
    hitting_sets_eval (R_lt q2) len2, eqC, r1, Option.bind_some, same1, Option.bind_some]
  split <;> rfl
end G32

namespace G32
open PySem PySem.Spec PyProof.Rows L2 Pw
/-! ### what is drawn -/
structure PV (p : Purse) : Prop where
  a1 : 0 ≤ p.a1
  a2 : 0 ≤ p.a2
  a3 : 0 ≤ p.a3
  b3 : p.a3 < 2147483647
  a4 : 0 ≤ p.a4
  cs : ∀ c ∈ p.cells, 0 ≤ c
theorem log_lt {x : Int} {k : Nat} (hk : 0 < k) (h0 : 0 ≤ x) (h : x < 2 ^ k) : x.natAbs.log2 < k := by
  by_cases e : x.natAbs = 0
  · rw [e, Nat.log2_zero]; exact hk
  · rw [Nat.log2_lt e]
    have : ((x.natAbs : Nat) : Int) < ((2 ^ k : Nat) : Int) := by
      rw [Int.natAbs_of_nonneg h0]
      exact_mod_cast h
    exact_mod_cast this
theorem at_ok {α : Type} {xs : List α} {d : Int} (h0 : 0 ≤ d) (h : d < xs.length) : ∃ x, atI xs d = some x ∧ x ∈ xs := by
  obtain ⟨n, rfl⟩ := Int.eq_ofNat_of_zero_le h0
  have hn : n < xs.length := by omega
  refine ⟨xs[n], ?_, List.getElem_mem hn⟩
  rw [show ((n : Nat) : Int) = (n : Int) from rfl, atI_nat hn, List.getElem?_eq_getElem hn]
theorem pop_ok {α : Type} {xs : List α} {d : Int} (h0 : 0 ≤ d) (h : d < xs.length) : ∃ x ys, popA xs d = some (x, ys) ∧ x ∈ xs ∧ (∀ y ∈ ys, y ∈ xs) ∧ ys.length + 1 = xs.length := by
  obtain ⟨n, rfl⟩ := Int.eq_ofNat_of_zero_le h0
  have hn : n < xs.length := by omega
  refine ⟨xs[n], xs.eraseIdx n, ?_, List.getElem_mem hn, fun y hy => List.mem_of_mem_eraseIdx hy, ?_⟩
  · unfold popA
    rw [show ((n : Nat) : Int) = (n : Int) from rfl, ixN_nat hn, Option.bind_some, List.getElem?_eq_getElem hn]
    rfl
  · rw [List.length_eraseIdx, if_pos hn]; omega
theorem cut_sub {α : Type} {xs : List α} {lo hi : Option Int} : (∀ x ∈ cut xs lo hi, x ∈ xs) ∧ (cut xs lo hi).length ≤ xs.length := by
  unfold cut
  refine ⟨fun x hx => List.mem_of_mem_drop (List.mem_of_mem_take hx), ?_⟩
  rw [List.length_take, List.length_drop]
  omega
theorem app_ok {α : Type} {xs : List α} {y : α} (h : xs.length < 16777216) : appO xs y = some (xs ++ [y]) := if_pos h
theorem cat_ok {α : Type} {xs ys : List α} (h : xs.length + ys.length ≤ 16777216) : catO xs ys = some (xs ++ ys) := if_pos h
theorem draw_ok {p : Purse} {size : Int} (h : PV p) (h0 : 0 < size) (h1 : size ≤ 4096) : ∃ d p', m__law_draw p size = some (d, p') ∧ 0 ≤ d ∧ d < size ∧ PV p' := by
  -- the cell
  have first : ∃ j, (if ((decide (p.a2 = (0 : Int))) && (decide (p.a1 < ((p.cells).length : Int)))) = true then ((atI p.cells p.a1).bind fun t2 => (if (decide ((1000000000000000000 : Int) ≤ t2)) = true then some ⟨p.cells, (p.a1 + (1 : Int)), t2, p.a3, p.a4⟩ else some ⟨p.cells, (p.a1 + (1 : Int)), p.a2, ((((p.a3 * (48271 : Int)) + t2) + (1 : Int)) % (2147483647 : Int)), p.a4⟩ : Option (Purse)).bind fun j3 => some j3) else some p : Option (Purse)) = some j ∧ PV j := by
    by_cases c : ((decide (p.a2 = (0 : Int))) && (decide (p.a1 < ((p.cells).length : Int)))) = true
    · rw [if_pos c]
      rw [Bool.and_eq_true, decide_eq_true_eq, decide_eq_true_eq] at c
      obtain ⟨t, e, ht⟩ := at_ok h.a1 c.2
      rw [e, Option.bind_some]
      have := h.cs t ht
      by_cases c2 : decide ((1000000000000000000 : Int) ≤ t) = true
      · rw [if_pos c2]
        exact ⟨_, rfl, ⟨by have := h.a1; show 0 ≤ p.a1 + 1; omega, this, h.a3, h.b3, h.a4, h.cs⟩⟩
      · rw [if_neg c2]
        exact ⟨_, rfl, ⟨by have := h.a1; show 0 ≤ p.a1 + 1; omega, h.a2, Int.emod_nonneg _ (by decide), Int.emod_lt_of_pos _ (by decide), h.a4, h.cs⟩⟩
    · rw [if_neg c]
      exact ⟨p, rfl, h⟩
  obtain ⟨j, e, hj⟩ := first
  unfold m__law_draw
  rw [e, Option.bind_some]
  have ml : ∀ x : Int, modO x size = some (x % size) := fun x => if_pos h0
  have dl : ∀ x : Int, divO x size = some (x / size) := fun x => if_pos ⟨h0, Nat.lt_trans (log_lt (k := 13) (by decide) (by omega) (by omega)) (by decide)⟩
  by_cases c : decide ((0 : Int) < j.a2) = true
  · rw [if_pos c, ml, Option.bind_some, dl, Option.bind_some]
    refine ⟨_, _, rfl, Int.emod_nonneg _ (by omega), Int.emod_lt_of_pos _ h0, ⟨hj.a1, ?_, hj.a3, hj.b3, hj.a4, hj.cs⟩⟩
    exact Int.ediv_nonneg hj.a2 (by omega)
  · rw [if_neg c]
    have g0 : 0 ≤ (((j.a3 * (16807 : Int)) + ((j.a4 + (1 : Int)) * (7919 : Int))) % (2147483647 : Int)) := Int.emod_nonneg _ (by decide)
    have g1 : (((j.a3 * (16807 : Int)) + ((j.a4 + (1 : Int)) * (7919 : Int))) % (2147483647 : Int)) < 2147483647 := Int.emod_lt_of_pos _ (by decide)
    generalize (((j.a3 * (16807 : Int)) + ((j.a4 + (1 : Int)) * (7919 : Int))) % (2147483647 : Int)) = A at g0 g1
    have mu : mulO A (A / 3001 + 7) = some (A * (A / 3001 + 7)) := by
      unfold mulO
      rw [if_pos]
      have l1 := log_lt (k := 31) (by decide) g0 (by omega)
      have l2 := log_lt (x := A / 3001 + 7) (k := 31) (by decide) (by omega) (by omega)
      omega
    rw [mu, Option.bind_some, ml, Option.bind_some]
    exact ⟨_, _, rfl, Int.emod_nonneg _ (by omega), Int.emod_lt_of_pos _ h0, ⟨hj.a1, hj.a2, g0, g1, by have := hj.a4; show 0 ≤ j.a4 + 1; omega, hj.cs⟩⟩
theorem purse_ok (script : List Int) : ∃ p, m__law_purse script = some p ∧ PV p := by
  refine ⟨_, rfl, ⟨Int.le_refl _, Int.le_refl _, (by decide : (0 : Int) ≤ 1), (by decide : (1 : Int) < 2147483647), Int.le_refl _, fun c hc => ?_⟩⟩
  obtain ⟨x, _, rfl⟩ := List.mem_map.mp hc
  show 0 ≤ if x < 0 then -x else x
  split <;> omega
def okI (x : Int) : Prop := 0 ≤ x ∧ x < 12
structure okS (c : Nat) (s : List Int) : Prop where
  all : ∀ x ∈ s, okI x
  len : s.length ≤ c
structure okL (c N : Nat) (L : List (List Int)) : Prop where
  all : ∀ s ∈ L, okS c s
  len : L.length ≤ N
theorem pool12 : okS 12 ((List.range 12).map Int.ofNat) := ⟨fun x hx => by
  obtain ⟨n, hn, rfl⟩ := List.mem_map.mp hx
  have := List.mem_range.mp hn
  exact ⟨Int.natCast_nonneg n, by show (n : Int) < 12; omega⟩, by decide⟩
theorem okS.snoc {c : Nat} {s : List Int} {x : Int} (h : okS c s) (hx : okI x) : okS (c + 1) (s ++ [x]) := ⟨fun y hy => by
  rcases List.mem_append.mp hy with hy | hy
  · exact h.all y hy
  · rw [List.mem_singleton.mp hy]; exact hx, by rw [List.length_append, List.length_singleton]; have := h.len; omega⟩
theorem okS.app {c d : Nat} {s t : List Int} (h : okS c s) (k : okS d t) : okS (c + d) (s ++ t) := ⟨fun y hy => by
  rcases List.mem_append.mp hy with hy | hy
  · exact h.all y hy
  · exact k.all y hy, by rw [List.length_append]; have := h.len; have := k.len; omega⟩
theorem okS.mono {c d : Nat} {s : List Int} (h : okS c s) (k : c ≤ d) : okS d s := ⟨h.all, Nat.le_trans h.len k⟩
theorem okS.cut {c : Nat} {s : List Int} {lo hi : Option Int} (h : okS c s) : okS c (Pw.cut s lo hi) := ⟨fun x hx => h.all x (cut_sub.1 x hx), Nat.le_trans cut_sub.2 h.len⟩
theorem okL.snoc {c N : Nat} {L : List (List Int)} {s : List Int} (h : okL c N L) (hs : okS c s) : okL c (N + 1) (L ++ [s]) := ⟨fun y hy => by
  rcases List.mem_append.mp hy with hy | hy
  · exact h.all y hy
  · rw [List.mem_singleton.mp hy]; exact hs, by rw [List.length_append, List.length_singleton]; have := h.len; omega⟩
theorem okL.mono {c d N M : Nat} {L : List (List Int)} (h : okL c N L) (k : c ≤ d) (k2 : N ≤ M) : okL d M L := ⟨fun s hs => (h.all s hs).mono k, Nat.le_trans h.len k2⟩
theorem dsI_len (xs : List Int) : (dsI xs).length ≤ xs.length := by
  unfold dsI
  rw [(isort_perm _).length_eq]
  induction xs with
  | nil => exact Nat.le_refl _
  | cons x xs ih =>
    rw [List.foldr_cons]
    split
    · exact Nat.le_succ_of_le ih
    · rw [List.length_cons, List.length_cons]; omega
theorem ds_ok {c : Nat} {s : List Int} (h : okS c s) (hc : c ≤ 4000) : ∃ t, dsortI s = some t ∧ okS c t := by
  unfold dsortI
  rw [if_pos (by have := h.len; omega)]
  exact ⟨_, rfl, ⟨fun x hx => h.all x (dsI_mem.mp hx), Nat.le_trans (dsI_len s) h.len⟩⟩
theorem isort_ok {c : Nat} {s : List Int} (h : okS c s) : okS c (isort s) ∧ (isort s).length = s.length :=
  ⟨⟨fun x hx => h.all x ((isort_perm s).mem_iff.mp hx), by rw [(isort_perm s).length_eq]; exact h.len⟩, (isort_perm s).length_eq⟩
theorem members_ok {p : Purse} {many : Int} (h : PV p) (h0 : 0 ≤ many) (h1 : many ≤ 12) : ∃ r p', m__law_members p many = some (r, p') ∧ okS 12 r ∧ (r.length : Int) = many ∧ PV p' := by
  obtain ⟨n, rfl⟩ := Int.eq_ofNat_of_zero_le h0
  unfold m__law_members
  rw [show rgO 0 ((n : Nat) : Int) = some ((List.range n).map cI) from rgO_nat (by omega), Option.bind_some]
  obtain ⟨t, e, hc, hp, hl, hv⟩ := loopM_inv (f := fun (s5 : ((List Int) × (List Int) × Purse)) (y4 : Int) => ((m__law_draw s5.2.2 ((s5.2.1).length : Int)).bind fun t6 => (popA s5.2.1 t6.1).bind fun t7 => (appO s5.1 t7.1).bind fun t8 => some (t8, t7.2, t6.2)))
    (xs := (List.range n).map cI) (s := ([], ((List.range 12).map Int.ofNat), p)) (fun pre s => (okS pre.length s.1 ∧ s.1.length = pre.length) ∧ okS 12 s.2.1 ∧ s.2.1.length + pre.length = 12 ∧ PV s.2.2)
    ⟨⟨⟨fun x hx => by simp at hx, Nat.le_refl _⟩, rfl⟩, pool12, by simp, h⟩ fun pre x post s ex ⟨⟨a1, a2⟩, a3, a4, a5⟩ => by
      obtain ⟨_, hk⟩ := range_split ex
      have hpos : 0 < s.2.1.length := by omega
      obtain ⟨d, p', e1, d0, d1, v⟩ := draw_ok (size := (s.2.1.length : Int)) a5 (by omega) (by omega)
      obtain ⟨y, ys, e2, m1, m2, m3⟩ := pop_ok d0 d1
      refine ⟨(s.1 ++ [y], ys, p'), ?_, ⟨?_, ?_⟩, ⟨fun z hz => a3.all z (m2 z hz), by have := a3.len; show ys.length ≤ 12; omega⟩, ?_, v⟩
      · rw [e1, Option.bind_some]
        dsimp only
        rw [e2, Option.bind_some]
        dsimp only
        rw [app_ok (by omega), Option.bind_some]
      · rw [List.length_append, List.length_singleton]
        exact a1.snoc (a3.all y m1)
      · rw [List.length_append, List.length_append, List.length_singleton, List.length_singleton, a2]
      · rw [List.length_append, List.length_singleton]; show ys.length + _ = 12; omega
  rw [e, Option.bind_some]
  rw [List.length_map, List.length_range] at hc
  obtain ⟨k1, k2⟩ := isort_ok hc.1
  exact ⟨_, _, rfl, k1.mono (by omega), by rw [k2, hc.2], hv⟩
end G32

namespace G32
open PySem PySem.Spec PyProof.Rows L2 Pw
def Ok {β : Type} (o : Option β) (P : β → Prop) : Prop := ∃ b, o = some b ∧ P b
section
variable {α β γ : Type}
theorem Ok.bind {o : Option α} {f : α → Option β} {P : α → Prop} {Q : β → Prop} (h : Ok o P) (k : ∀ a, P a → Ok (f a) Q) : Ok (o.bind f) Q := by
  obtain ⟨a, rfl, p⟩ := h
  exact k a p
theorem Ok.pure {b : β} {P : β → Prop} (h : P b) : Ok (some b) P := ⟨b, rfl, h⟩
theorem Ok.ite {c : Prop} [Decidable c] {x y : Option β} {P : β → Prop} (h1 : c → Ok x P) (h2 : ¬ c → Ok y P) : Ok (if c then x else y) P := by
  by_cases h : c
  · rw [if_pos h]; exact h1 h
  · rw [if_neg h]; exact h2 h
theorem Ok.imp {o : Option β} {P Q : β → Prop} (h : Ok o P) (k : ∀ b, P b → Q b) : Ok o Q := by
  obtain ⟨b, e, p⟩ := h
  exact ⟨b, e, k b p⟩
theorem loopOk {f : β → α → Option β} {xs : List α} {s : β} (I : Nat → β → Prop) (h0 : I 0 s) (step : ∀ i x s, i < xs.length → x ∈ xs → I i s → Ok (f s x) (I (i + 1))) : Ok (loopM f xs s) (I xs.length) := by
  obtain ⟨t, e, h⟩ := loopM_inv (f := f) (xs := xs) (s := s) (fun pre s => I pre.length s) h0 fun pre x post s ex hI => by
    obtain ⟨s', e, h⟩ := step pre.length x s (by rw [ex]; simp) (by rw [ex]; simp) hI
    exact ⟨s', e, by rw [List.length_append, List.length_singleton]; exact h⟩
  exact ⟨t, e, h⟩
theorem compOk {f : β → α → Option (Option γ × β)} {xs : List α} {s : β} (I : Nat → List γ → β → Prop) (h0 : I 0 [] s) (step : ∀ i x ys s, i < xs.length → x ∈ xs → I i ys s → Ok (f s x) (fun r => I (i + 1) (ys ++ r.1.toList) r.2)) : Ok (compM f xs s) (fun r => I xs.length r.1 r.2) := by
  obtain ⟨ys, t, e, h⟩ := compM_inv (f := f) (xs := xs) (s := s) (fun pre ys s => I pre.length ys s) h0 fun pre x post ys s ex hI => by
    obtain ⟨⟨o, s'⟩, e, h⟩ := step pre.length x ys s (by rw [ex]; simp) (by rw [ex]; simp) hI
    exact ⟨o, s', e, by rw [List.length_append, List.length_singleton]; exact h⟩
  exact ⟨(ys, t), e, h⟩
end
theorem drawO {p : Purse} {size : Int} (h : PV p) (h0 : 0 < size) (h1 : size ≤ 4096) : Ok (m__law_draw p size) (fun r => 0 ≤ r.1 ∧ r.1 < size ∧ PV r.2) := by
  obtain ⟨d, p', e, h⟩ := draw_ok h h0 h1
  exact ⟨(d, p'), e, h⟩
theorem atO {α : Type} {xs : List α} {d : Int} (h0 : 0 ≤ d) (h : d < xs.length) : Ok (atI xs d) (fun x => x ∈ xs) := at_ok h0 h
theorem popO {α : Type} {xs : List α} {d : Int} (h0 : 0 ≤ d) (h : d < xs.length) : Ok (popA xs d) (fun t => t.1 ∈ xs ∧ (∀ y ∈ t.2, y ∈ xs) ∧ t.2.length + 1 = xs.length) := by
  obtain ⟨x, ys, e, k⟩ := pop_ok h0 h
  exact ⟨(x, ys), e, k⟩
theorem appK {α : Type} {xs : List α} {y : α} (h : xs.length < 16777216) : Ok (appO xs y) (fun t => t = xs ++ [y]) := ⟨_, app_ok h, rfl⟩
theorem catK {α : Type} {xs ys : List α} (h : xs.length + ys.length ≤ 16777216) : Ok (catO xs ys) (fun t => t = xs ++ ys) := ⟨_, cat_ok h, rfl⟩
theorem rgK {n : Int} (h0 : 0 ≤ n) (h : n ≤ 4096) : Ok (rgO 0 n) (fun r => (r.length : Int) = n ∧ ∀ x ∈ r, 0 ≤ x ∧ x < n) := by
  obtain ⟨k, rfl⟩ := Int.eq_ofNat_of_zero_le h0
  refine ⟨_, rgO_nat (n := k) (by omega), by simp, fun x hx => ?_⟩
  obtain ⟨i, hi, rfl⟩ := List.mem_map.mp hx
  have := List.mem_range.mp hi
  exact ⟨Int.natCast_nonneg i, Int.ofNat_lt.mpr this⟩
theorem membersO {p : Purse} {many : Int} (h : PV p) (h0 : 0 ≤ many) (h1 : many ≤ 12) : Ok (m__law_members p many) (fun r => okS 12 r.1 ∧ (r.1.length : Int) = many ∧ PV r.2) := by
  obtain ⟨r, p', e, k⟩ := members_ok h h0 h1
  exact ⟨(r, p'), e, k⟩
theorem nilL {c : Nat} : okL c 0 [] := ⟨fun s hs => by simp at hs, Nat.le_refl _⟩
theorem nilS : okS 0 [] := ⟨fun s hs => by simp at hs, Nat.le_refl _⟩
/-- what a def that makes lists gives -/
abbrev Made (c N : Nat) (r : List (List Int) × Purse) : Prop := okL c N r.1 ∧ PV r.2
theorem smallO {p : Purse} (h : PV p) : Ok (m__law_small p) (Made 24 200) := by
  unfold m__law_small
  refine (drawO h (by decide) (by decide)).bind fun t1 ⟨a1, a2, a3⟩ => (membersO a3 (by omega) (by omega)).bind fun t2 ⟨b1, b2, b3⟩ => (drawO b3 (by decide) (by decide)).bind fun t4 ⟨c1, c2, c3⟩ => (rgK c1 (by omega)).bind fun r5 ⟨d1, d2⟩ => ?_
  refine (loopOk (fun i (s : List (List Int) × Purse) => okL 24 i s.1 ∧ PV s.2) ⟨nilL, c3⟩ fun i y s hi hy ⟨e1, e2⟩ => ?_).bind fun t18 ⟨f1, f2⟩ => Ok.pure ⟨f1.mono (Nat.le_refl _) (by omega), f2⟩
  refine (drawO e2 (by decide) (by decide)).bind fun t8 ⟨g1, g2, g3⟩ => (rgK (by omega) (by omega)).bind fun r9 ⟨k1, k2⟩ => ?_
  refine (compOk (fun i (ys : List Int) (s : Purse) => okS i ys ∧ PV s) ⟨nilS, g3⟩ fun i y ys s hi hy ⟨l1, l2⟩ => ?_).bind fun t14 ⟨m1, m2⟩ => ?_
  · exact (drawO l2 (by omega) (by omega)).bind fun t12 ⟨n1, n2, n3⟩ => (atO n1 n2).bind fun t13 o => Ok.pure ⟨l1.snoc (b1.all _ o), n3⟩
  · obtain ⟨t16, q1, q2⟩ := ds_ok (m1.mono (show r9.length ≤ 24 by omega)) (by decide)
    exact Ok.bind ⟨t16, q1, q2⟩ fun t q => (appK (by have := e1.len; omega)).bind fun t17 e => Ok.pure ⟨by rw [e]; exact e1.snoc q, m2⟩
theorem arbitraryO {p : Purse} {ms : List Int} {count : Int} (h : PV p) (hm : okS 12 ms) (h0 : 0 ≤ count) (h1 : count ≤ 200) : Ok (m__law_arbitrary p ms count) (Made 24 200) := by
  unfold m__law_arbitrary
  refine (rgK h0 (by omega)).bind fun r2 ⟨a1, a2⟩ => ?_
  refine (loopOk (fun i (s : List (List Int) × Purse) => okL 24 i s.1 ∧ PV s.2) ⟨nilL, h⟩ fun i y s hi hy ⟨e1, e2⟩ => ?_).bind fun t15 ⟨f1, f2⟩ => Ok.pure ⟨f1.mono (Nat.le_refl _) (by omega), f2⟩
  have hl := hm.len
  rw [shl_nat ms.length (by omega), Option.bind_some]
  have p1 : 2 ^ ms.length ≤ 2 ^ 12 := Nat.pow_le_pow_right (by decide) hl
  have p0 := Nat.two_pow_pos ms.length
  refine (drawO e2 (by omega) (by omega)).bind fun t6 ⟨g1, g2, g3⟩ => (rgK (by omega) (by omega)).bind fun r7 ⟨k1, k2⟩ => ?_
  refine (compOk (fun i (ys : List Int) (_ : Unit) => okS i ys) nilS fun i y ys s hi hy l1 => ?_).bind fun t13 m1 => ?_
  · obtain ⟨y0, y1⟩ := k2 y hy
    refine Ok.bind (P := fun _ => True) ⟨_, if_pos y0, trivial⟩ fun t11 _ => Ok.ite (fun c => (atO y0 y1).bind fun t12 o => Ok.pure (l1.snoc (hm.all _ o))) fun c => Ok.pure ?_
    show okS (i + 1) (ys ++ [])
    rw [List.append_nil]
    exact l1.mono (Nat.le_succ _)
  · exact (appK (by have := e1.len; omega)).bind fun t14 e => Ok.pure ⟨by rw [e]; exact e1.snoc (m1.mono (by omega)), g3⟩
theorem groupsO {p : Purse} (h : PV p) : Ok (m__law_groups p) (Made 24 200) := by
  unfold m__law_groups
  refine (drawO h (by decide) (by decide)).bind fun t3 ⟨a1, a2, a3⟩ => (rgK (by omega) (by omega)).bind fun r4 ⟨b1, b2⟩ => ?_
  refine (loopOk (fun i (s : List (List Int) × List Int × Purse) => okL 24 i s.1 ∧ okS 12 s.2.1 ∧ PV s.2.2) ⟨nilL, pool12, a3⟩ fun i y s hi hy ⟨e1, e2, e3⟩ => ?_).bind fun t17 ⟨f1, f2, f3⟩ => Ok.pure ⟨f1.mono (Nat.le_refl _) (by omega), f3⟩
  refine (drawO e3 (by decide) (by decide)).bind fun t8 ⟨g1, g2, g3⟩ => (rgK (by omega) (by omega)).bind fun r9 ⟨k1, k2⟩ => ?_
  refine (loopOk (fun i (s : List Int × List Int × Purse) => okS i s.1 ∧ okS 12 s.2.1 ∧ PV s.2.2) ⟨nilS, e2, g3⟩ fun i y s hi hy ⟨l1, l2, l3⟩ => ?_).bind fun t15 ⟨m1, m2, m3⟩ => ?_
  · refine Ok.ite (fun c => ?_) fun c => Ok.pure ⟨l1.mono (Nat.le_succ _), l2, l3⟩
    have c := of_decide_eq_true c
    have := l2.len
    exact (drawO l3 c (by omega)).bind fun t12 ⟨n1, n2, n3⟩ => (popO n1 n2).bind fun t13 ⟨o1, o2, o3⟩ => (appK (by have := l1.len; omega)).bind fun t14 e => Ok.pure ⟨by rw [e]; exact l1.snoc (l2.all _ o1), ⟨fun z hz => l2.all z (o2 z hz), by show t13.2.length ≤ 12; omega⟩, n3⟩
  · refine Ok.ite (fun c => ?_) fun c => Ok.pure ⟨e1.mono (Nat.le_refl _) (Nat.le_succ _), m2, m3⟩
    exact (appK (by have := e1.len; omega)).bind fun t16 e => Ok.pure ⟨by rw [e]; exact e1.snoc ((isort_ok m1).1.mono (by omega)), m2, m3⟩
theorem pairsO {p : Purse} (h : PV p) : Ok (m__law_pairs p) (Made 24 200) := by
  unfold m__law_pairs
  refine (drawO h (by decide) (by decide)).bind fun t1 ⟨a1, a2, a3⟩ => (membersO a3 (by omega) (by omega)).bind fun t2 ⟨b1, b2, b3⟩ => (rgK (by omega) (by omega)).bind fun r4 ⟨c1, c2⟩ => ?_
  refine (loopOk (fun i (s : List (List Int)) => okL 24 (12 * i) s) nilL fun i y s hi hy e1 => ?_).bind fun t14 f1 => Ok.pure ⟨f1.mono (Nat.le_refl _) (by omega), b3⟩
  obtain ⟨y0, y1⟩ := c2 y hy
  refine (rgK y0 (by omega)).bind fun r7 ⟨g1, g2⟩ => ?_
  refine (loopOk (fun j (s : List (List Int)) => okL 24 (12 * i + j) s) e1 fun j x s hj hx k1 => ?_).bind fun t13 m1 => Ok.pure (m1.mono (Nat.le_refl _) (by omega))
  obtain ⟨x0, x1⟩ := g2 x hx
  exact (atO x0 (by omega)).bind fun t10 o1 => (atO y0 y1).bind fun t11 o2 => (appK (by have := k1.len; omega)).bind fun t12 e => Ok.pure (by
    rw [e]
    exact k1.snoc ⟨fun z hz => by
      rcases List.mem_cons.mp hz with rfl | hz
      · exact b1.all _ o1
      · rw [List.mem_singleton.mp hz]; exact b1.all _ o2, (show 2 ≤ 24 by decide)⟩)
theorem all_but_oneO {p : Purse} (h : PV p) : Ok (m__law_all_but_one p) (Made 24 200) := by
  unfold m__law_all_but_one
  refine (drawO h (by decide) (by decide)).bind fun t1 ⟨a1, a2, a3⟩ => (membersO a3 (by omega) (by omega)).bind fun t2 ⟨b1, b2, b3⟩ => (rgK (by omega) (by omega)).bind fun r3 ⟨c1, c2⟩ => ?_
  refine (compOk (fun i (ys : List (List Int)) (_ : Unit) => okL 24 i ys) nilL fun i y ys s hi hy l1 => ?_).bind fun t7 m1 => Ok.pure ⟨m1.mono (Nat.le_refl _) (by omega), b3⟩
  exact (catK (by
    have h1 := (cut_sub (xs := t2.1) (lo := none) (hi := some y)).2
    have h2 := (cut_sub (xs := t2.1) (lo := some (y + 1)) (hi := none)).2
    omega)).bind fun t6 e => Ok.pure (l1.snoc (by rw [e]; exact b1.cut.app b1.cut))
theorem setsO {p : Purse} (h : PV p) : Ok (m__law_sets p) (Made 24 200) := by
  unfold m__law_sets
  refine (drawO h (by decide) (by decide)).bind fun t1 ⟨a1, a2, a3⟩ => ?_
  refine Ok.ite (fun _ => (smallO a3).bind fun t k => Ok.pure k) fun _ => Ok.ite (fun _ => ?_) fun _ => Ok.ite (fun _ => (groupsO a3).bind fun t k => Ok.pure k) fun _ => Ok.ite (fun _ => (pairsO a3).bind fun t k => Ok.pure k) fun _ => Ok.ite (fun _ => (all_but_oneO a3).bind fun t k => Ok.pure k) fun _ => ?_
  · exact (drawO a3 (by decide) (by decide)).bind fun t3 ⟨b1, b2, b3⟩ => (membersO b3 b1 (by omega)).bind fun t4 ⟨c1, c2, c3⟩ => (drawO c3 (by decide) (by decide)).bind fun t5 ⟨d1, d2, d3⟩ => (arbitraryO d3 c1 d1 (by omega)).bind fun t k => Ok.pure k
  · exact (drawO a3 (by decide) (by decide)).bind fun t10 ⟨b1, b2, b3⟩ => (arbitraryO b3 pool12 (by omega) (by omega)).bind fun t k => Ok.pure k
theorem moreO {p : Purse} {sets : List (List Int)} (h : PV p) (hs : okL 24 200 sets) : Ok (m__law_with_more p sets) (Made 25 206) := by
  unfold m__law_with_more
  have hlen := hs.len
  refine (rgK (by decide) (by decide)).bind fun r4 ⟨a1, a2⟩ => ?_
  refine (loopOk (fun i (s : List (List Int) × Purse) => okL 25 (200 + 3 * i) s.1 ∧ PV s.2) ⟨by rw [List.map_id']; exact hs.mono (by decide) (by decide), h⟩ fun i y s hi hy ⟨e1, e2⟩ => ?_).bind fun t22 ⟨f1, f2⟩ => Ok.pure ⟨f1.mono (Nat.le_refl _) (by omega), f2⟩
  have hi : i < 2 := by omega
  have sz := e1.len
  refine (drawO e2 (by decide) (by decide)).bind fun t7 ⟨g1, g2, g3⟩ => ?_
  refine Ok.bind (P := fun j8 : List (List Int) × Purse => okL 25 (200 + 3 * i + 1) j8.1 ∧ PV j8.2) (Ok.ite (fun c => ?_) fun c => Ok.pure ⟨e1.mono (Nat.le_refl _) (by omega), g3⟩) fun j8 ⟨k1, k2⟩ => ?_
  · rw [Bool.and_eq_true, decide_eq_true_eq, decide_eq_true_eq] at c
    refine (drawO g3 c.2 (by omega)).bind fun t9 ⟨l1, l2, l3⟩ => (atO l1 l2).bind fun t10 o => (drawO l3 (by decide) (by decide)).bind fun t11 ⟨n1, n2, n3⟩ => ?_
    have ho := hs.all _ o
    refine (catK (by have := ho.len; show t10.length + 1 ≤ _; omega)).bind fun t12 e => ?_
    obtain ⟨t13, q1, q2⟩ := ds_ok (s := t12) (c := 25) (by rw [e]; exact ho.snoc ⟨n1, n2⟩) (by decide)
    exact Ok.bind ⟨t13, q1, q2⟩ fun t q => (appK (by omega)).bind fun t14 e => Ok.pure ⟨by rw [e]; exact e1.snoc q, n3⟩
  have sz2 := k1.len
  refine Ok.bind (P := fun j15 : List (List Int) × Purse => okL 25 (200 + 3 * i + 2) j15.1 ∧ PV j15.2) (Ok.ite (fun c => ?_) fun c => Ok.pure ⟨k1.mono (Nat.le_refl _) (by omega), k2⟩) fun j15 ⟨l1, l2⟩ => ?_
  · rw [Bool.and_eq_true, decide_eq_true_eq, decide_eq_true_eq] at c
    exact (drawO k2 c.2 (by omega)).bind fun t16 ⟨l1, l2, l3⟩ => (atO l1 l2).bind fun t17 o => (appK (by omega)).bind fun t18 e => Ok.pure ⟨by rw [e]; exact k1.snoc ((hs.all _ o).mono (by decide)), l3⟩
  have sz3 := l1.len
  refine Ok.bind (P := fun t20 : Bool × Purse => PV t20.2) (Ok.ite (fun c => (drawO l2 (by decide) (by decide)).bind fun t19 ⟨m1, m2, m3⟩ => Ok.pure m3) fun c => Ok.pure l2) fun t20 m => ?_
  exact Ok.ite (fun c => (appK (by omega)).bind fun t21 e => Ok.pure ⟨by rw [e]; exact (l1.snoc (nilS.mono (by decide))).mono (Nat.le_refl _) (by omega), m⟩) fun c => Ok.pure ⟨l1.mono (Nat.le_refl _) (by omega), m⟩
theorem arrangedO {p : Purse} {sets : List (List Int)} (h : PV p) (hs : okL 25 206 sets) : Ok (m__law_arranged p sets) (Made 200 206) := by
  unfold m__law_arranged
  have hlen := hs.len
  refine (rgK (by omega) (by omega)).bind fun r5 ⟨a1, a2⟩ => ?_
  refine (loopOk (fun i (s : List (List Int) × List (List Int) × Purse) => okL 200 i s.1 ∧ (okL 25 206 s.2.1 ∧ s.2.1.length + i = sets.length) ∧ PV s.2.2) ⟨nilL, ⟨by rw [List.map_id']; exact hs, by rw [List.map_id']; rfl⟩, h⟩ fun i y s hi hy ⟨e1, ⟨e2, e3⟩, e4⟩ => ?_).bind fun t18 ⟨f1, f2, f3⟩ => Ok.pure ⟨f1.mono (Nat.le_refl _) (by omega), f3⟩
  have s1 := e1.len
  have s2 := e2.len
  refine (drawO e4 (by omega) (by omega)).bind fun t8 ⟨g1, g2, g3⟩ => (popO g1 g2).bind fun t9 ⟨k1, k2, k3⟩ => (drawO g3 (by decide) (by decide)).bind fun t10 ⟨l1, l2, l3⟩ => ?_
  have ho := e2.all _ k1
  refine Ok.bind (P := okS 25) (Ok.ite (fun c => Ok.pure ⟨fun x hx => ho.all x (List.mem_reverse.mp hx), by rw [List.length_reverse]; exact ho.len⟩) fun c => Ok.pure ho) fun j11 m1 => ?_
  have z1 := m1.len
  refine Ok.bind (P := okS 50) (Ok.ite (fun c => (catK (by have := (m1.cut (lo := none) (hi := some 1)).len; omega)).bind fun t13 e => Ok.pure (by rw [e]; exact m1.app m1.cut)) fun c => Ok.pure (m1.mono (by decide))) fun j12 m2 => ?_
  have z2 := m2.len
  refine Ok.bind (P := okS 200) (Ok.ite (fun c => (catK (by have h1 := (m2.cut (lo := none) (hi := some 1)).len; have h2 := (m2.cut (lo := some 1) (hi := none)).len; omega)).bind fun t15 e => (catK (by
    have h1 := (m2.cut (lo := none) (hi := some 1)).len
    have h2 := (m2.cut (lo := some 1) (hi := none)).len
    have h3 := (m2.cut (lo := some (-1)) (hi := none)).len
    rw [e, List.length_append]
    omega)).bind fun t16 e2 => Ok.pure (by rw [e2, e]; exact ((m2.cut.app m2.cut).app m2.cut).mono (by decide))) fun c => Ok.pure (m2.mono (by decide))) fun j14 m3 => ?_
  exact (appK (by omega)).bind fun t17 e => Ok.pure ⟨by rw [e]; exact e1.snoc m3, ⟨⟨fun z hz => e2.all z (k2 z hz), by show t9.2.length ≤ 206; omega⟩, by show t9.2.length + (i + 1) = sets.length; omega⟩, l3⟩
theorem law_ok (ns : List Int) (hl : ns.length ≤ 63) (hb : ∀ z ∈ ns, Builtin.Int.intBits z ≤ 1048576) : m_law ns = some true := by
  obtain ⟨p0, e0, v0⟩ := purse_ok ns
  obtain ⟨⟨s1, p1⟩, e1, o1, v1⟩ := setsO v0
  obtain ⟨⟨s2, p2⟩, e2, o2, v2⟩ := moreO v1 o1
  obtain ⟨⟨s3, p3⟩, e3, o3, v3⟩ := arrangedO v2 o2
  have o3 : okL 200 206 s3 := o3
  have es : (s3.map un).map sI = s3 := by
    rw [List.map_map]
    conv => rhs; rw [← List.map_id s3]
    refine List.map_congr_left fun s hs => ?_
    show (s.map Int.toNat).map cI = s
    rw [List.map_map]
    conv => rhs; rw [← List.map_id s]
    exact List.map_congr_left fun x hx => Int.toNat_of_nonneg ((o3.all s hs).all x hx).1
  refine law_from e0 e1 e2 (S := s3.map un) (p3 := p3) (by rw [es]; exact e3) (fun s hs n hn => ?_) (by rw [List.length_map]; have := o3.len; omega)
  obtain ⟨s', hs', rfl⟩ := List.mem_map.mp hs
  obtain ⟨x, hx, rfl⟩ := List.mem_map.mp hn
  have := (o3.all s' hs').all x hx
  unfold okI at this
  omega
end G32

namespace G32
open PySem PySem.Spec PyProof.Rows L2 Pw
open Dat (rp)
def topS (i : Nat) : Stmt := PySem.Challenge.pw_factferry_k32_least_hitting_sets.main.body.getD i (.Pass ⟨0, 0, 0, 0⟩)
structure Tops (K : PySem.W.Frag) (mg : Str → Option Value) (base : Heap) (tb_in_length_order : Addr) : Prop where
  z_abs : mg "abs" = none
  z_all : mg "all" = none
  z_bool : mg "bool" = none
  z_int : mg "int" = none
  z_isinstance : mg "isinstance" = none
  z_len : mg "len" = none
  z_list : mg "list" = none
  z_max : mg "max" = none
  z_range : mg "range" = none
  z_set : mg "set" = none
  z_sorted : mg "sorted" = none
  s__law_purse : Stand K mg "_law_purse" (topS 12)
  s__law_draw : Stand K mg "_law_draw" (topS 13)
  s__law_arranged : Stand K mg "_law_arranged" (topS 22)
  s__law_with_more : Stand K mg "_law_with_more" (topS 21)
  s__law_members : Stand K mg "_law_members" (topS 14)
  s__law_small : Stand K mg "_law_small" (topS 15)
  s__law_arbitrary : Stand K mg "_law_arbitrary" (topS 16)
  s__law_groups : Stand K mg "_law_groups" (topS 17)
  s__law_pairs : Stand K mg "_law_pairs" (topS 18)
  s__law_all_but_one : Stand K mg "_law_all_but_one" (topS 19)
  s__law_sets : Stand K mg "_law_sets" (topS 20)
  s__law_mask : Stand K mg "_law_mask" (topS 23)
  s__law_ordered : Stand K mg "_law_ordered" (topS 24)
  s__law_has_smaller : Stand K mg "_law_has_smaller" (topS 25)
  s__law_least : Stand K mg "_law_least" (topS 26)
  s__law_meets_all : Stand K mg "_law_meets_all" (topS 27)
  s__law_is_least : Stand K mg "_law_is_least" (topS 28)
  s__law_hitting : Stand K mg "_law_hitting" (topS 29)
  s_distinct : Stand K mg "distinct" (topS 1)
  s_contains_one : Stand K mg "contains_one" (topS 9)
  s_least_masks : Stand K mg "least_masks" (topS 8)
  s_mask_of : Stand K mg "mask_of" (topS 6)
  s_in_length_order : StandT K mg base tb_in_length_order "in_length_order" (topS 10)
  s_numbers_in : Stand K mg "numbers_in" (topS 7)
  s_least_only : Stand K mg "least_only" (topS 3)
  s__law_same : Stand K mg "_law_same" (topS 30)
  s_missing_table : Stand K mg "missing_table" (topS 5)
  s_hitting_sets : Stand K mg "hitting_sets" (topS 4)
def c__law_purse (K : PySem.W.Frag) : Ct := fun Rs M0 M1 r => ∃ (script : (List Int)) (res : (Purse)), Rs = [(rLs K ((script : List Int).map (rp K)))] ∧ M0 = [] ∧ M1 = [] ∧ r = .new (hPurse K res) ∧ m__law_purse script = some res
theorem sc__law_purse : FnScope ["script", "cell"] ["script"] (defScope (topS 12)) := ⟨rfl, rfl, rfl, by decide +kernel, rfl, by decide +kernel, by decide +kernel⟩
def c__law_draw (K : PySem.W.Frag) : Ct := fun Rs M0 M1 r => ∃ (a_purse : Addr) (purse : Purse) (size : Int) (res : (Int × Purse)), Rs = [rA a_purse, (rI size)] ∧ M0 = [(a_purse, (hPurse K purse))] ∧ M1 = [(a_purse, (hPurse K res.2))] ∧ r = .val (rI res.1) ∧ m__law_draw purse size = some res
theorem sc__law_draw : FnScope ["purse", "size", "cell", "digit"] ["purse", "size"] (defScope (topS 13)) := ⟨rfl, rfl, rfl, by decide +kernel, rfl, by decide +kernel, by decide +kernel⟩
def c__law_arranged (K : PySem.W.Frag) : Ct := fun Rs M0 M1 r => ∃ (a_purse : Addr) (purse : Purse) (sets : (List (List Int))) (res : ((List (List Int)) × Purse)), Rs = [rA a_purse, (rp K (sets : (List (List Int))))] ∧ M0 = [(a_purse, (hPurse K purse))] ∧ M1 = [(a_purse, (hPurse K res.2))] ∧ r = .new (hD K (res.1 : (List (List Int)))) ∧ m__law_arranged purse sets = some res
theorem sc__law_arranged : FnScope ["purse", "sets", "rest", "passed", "k", "one", "way"] ["purse", "sets"] (defScope (topS 22)) := ⟨rfl, rfl, rfl, by decide +kernel, rfl, by decide +kernel, by decide +kernel⟩
def c__law_with_more (K : PySem.W.Frag) : Ct := fun Rs M0 M1 r => ∃ (a_purse : Addr) (purse : Purse) (sets : (List (List Int))) (res : ((List (List Int)) × Purse)), Rs = [rA a_purse, (rp K (sets : (List (List Int))))] ∧ M0 = [(a_purse, (hPurse K purse))] ∧ M1 = [(a_purse, (hPurse K res.2))] ∧ r = .new (hD K (res.1 : (List (List Int)))) ∧ m__law_with_more purse sets = some res
theorem sc__law_with_more : FnScope ["purse", "sets", "more", "k", "one", "way"] ["purse", "sets"] (defScope (topS 21)) := ⟨rfl, rfl, rfl, by decide +kernel, rfl, by decide +kernel, by decide +kernel⟩
def c__law_members (K : PySem.W.Frag) : Ct := fun Rs M0 M1 r => ∃ (a_purse : Addr) (purse : Purse) (many : Int) (res : ((List Int) × Purse)), Rs = [rA a_purse, (rI many)] ∧ M0 = [(a_purse, (hPurse K purse))] ∧ M1 = [(a_purse, (hPurse K res.2))] ∧ r = .new (hD K (res.1 : (List Int))) ∧ m__law_members purse many = some res
theorem sc__law_members : FnScope ["purse", "many", "pool", "chosen", "k"] ["purse", "many"] (defScope (topS 14)) := ⟨rfl, rfl, rfl, by decide +kernel, rfl, by decide +kernel, by decide +kernel⟩
def c__law_small (K : PySem.W.Frag) : Ct := fun Rs M0 M1 r => ∃ (a_purse : Addr) (purse : Purse) (res : ((List (List Int)) × Purse)), Rs = [rA a_purse] ∧ M0 = [(a_purse, (hPurse K purse))] ∧ M1 = [(a_purse, (hPurse K res.2))] ∧ r = .new (hD K (res.1 : (List (List Int)))) ∧ m__law_small purse = some res
theorem sc__law_small : FnScope ["purse", "members", "sets", "k", "row", "j"] ["purse"] (defScope (topS 15)) := ⟨rfl, rfl, rfl, by decide +kernel, rfl, by decide +kernel, by decide +kernel⟩
def c__law_arbitrary (K : PySem.W.Frag) : Ct := fun Rs M0 M1 r => ∃ (a_purse : Addr) (purse : Purse) (members : (List Int)) (count : Int) (res : ((List (List Int)) × Purse)), Rs = [rA a_purse, (rp K (members : (List Int))), (rI count)] ∧ M0 = [(a_purse, (hPurse K purse))] ∧ M1 = [(a_purse, (hPurse K res.2))] ∧ r = .new (hD K (res.1 : (List (List Int)))) ∧ m__law_arbitrary purse members count = some res
theorem sc__law_arbitrary : FnScope ["purse", "members", "count", "sets", "k", "mask", "j"] ["purse", "members", "count"] (defScope (topS 16)) := ⟨rfl, rfl, rfl, by decide +kernel, rfl, by decide +kernel, by decide +kernel⟩
def c__law_groups (K : PySem.W.Frag) : Ct := fun Rs M0 M1 r => ∃ (a_purse : Addr) (purse : Purse) (res : ((List (List Int)) × Purse)), Rs = [rA a_purse] ∧ M0 = [(a_purse, (hPurse K purse))] ∧ M1 = [(a_purse, (hPurse K res.2))] ∧ r = .new (hD K (res.1 : (List (List Int)))) ∧ m__law_groups purse = some res
theorem sc__law_groups : FnScope ["purse", "pool", "sets", "k", "row", "j"] ["purse"] (defScope (topS 17)) := ⟨rfl, rfl, rfl, by decide +kernel, rfl, by decide +kernel, by decide +kernel⟩
def c__law_pairs (K : PySem.W.Frag) : Ct := fun Rs M0 M1 r => ∃ (a_purse : Addr) (purse : Purse) (res : ((List (List Int)) × Purse)), Rs = [rA a_purse] ∧ M0 = [(a_purse, (hPurse K purse))] ∧ M1 = [(a_purse, (hPurse K res.2))] ∧ r = .new (hD K (res.1 : (List (List Int)))) ∧ m__law_pairs purse = some res
theorem sc__law_pairs : FnScope ["purse", "members", "sets", "k", "j"] ["purse"] (defScope (topS 18)) := ⟨rfl, rfl, rfl, by decide +kernel, rfl, by decide +kernel, by decide +kernel⟩
def c__law_all_but_one (K : PySem.W.Frag) : Ct := fun Rs M0 M1 r => ∃ (a_purse : Addr) (purse : Purse) (res : ((List (List Int)) × Purse)), Rs = [rA a_purse] ∧ M0 = [(a_purse, (hPurse K purse))] ∧ M1 = [(a_purse, (hPurse K res.2))] ∧ r = .new (hD K (res.1 : (List (List Int)))) ∧ m__law_all_but_one purse = some res
theorem sc__law_all_but_one : FnScope ["purse", "members", "k"] ["purse"] (defScope (topS 19)) := ⟨rfl, rfl, rfl, by decide +kernel, rfl, by decide +kernel, by decide +kernel⟩
def c__law_sets (K : PySem.W.Frag) : Ct := fun Rs M0 M1 r => ∃ (a_purse : Addr) (purse : Purse) (res : ((List (List Int)) × Purse)), Rs = [rA a_purse] ∧ M0 = [(a_purse, (hPurse K purse))] ∧ M1 = [(a_purse, (hPurse K res.2))] ∧ r = .new (hD K (res.1 : (List (List Int)))) ∧ m__law_sets purse = some res
theorem sc__law_sets : FnScope ["purse", "way", "members"] ["purse"] (defScope (topS 20)) := ⟨rfl, rfl, rfl, by decide +kernel, rfl, by decide +kernel, by decide +kernel⟩
def c__law_mask (K : PySem.W.Frag) : Ct := fun Rs M0 M1 r => ∃ (members : (List Int)) (res : (Int)), Rs = [(rp K (members : (List Int)))] ∧ M0 = [] ∧ M1 = [] ∧ r = .val (rI res) ∧ m__law_mask members = some res
theorem sc__law_mask : FnScope ["members", "mask", "one"] ["members"] (defScope (topS 23)) := ⟨rfl, rfl, rfl, by decide +kernel, rfl, by decide +kernel, by decide +kernel⟩
def c__law_ordered (K : PySem.W.Frag) : Ct := fun Rs M0 M1 r => ∃ (masks : (List Int)) (res : ((List (List Int)))), Rs = [(rp K (masks : (List Int)))] ∧ M0 = [] ∧ M1 = [] ∧ r = .new (hD K (res : (List (List Int)))) ∧ m__law_ordered masks = some res
theorem sc__law_ordered : FnScope ["masks", "rows", "mask", "pair", "k", "row"] ["masks"] (defScope (topS 24)) := ⟨rfl, rfl, rfl, by decide +kernel, rfl, by decide +kernel, by decide +kernel⟩
def c__law_has_smaller (K : PySem.W.Frag) : Ct := fun Rs M0 M1 r => ∃ (mask : Int) (masks : (List Int)) (res : (Bool)), Rs = [(rI mask), (rp K (masks : (List Int)))] ∧ M0 = [] ∧ M1 = [] ∧ r = .val (rB res) ∧ m__law_has_smaller mask masks = some res
theorem sc__law_has_smaller : FnScope ["mask", "masks", "other"] ["mask", "masks"] (defScope (topS 25)) := ⟨rfl, rfl, rfl, by decide +kernel, rfl, by decide +kernel, by decide +kernel⟩
def c__law_least (K : PySem.W.Frag) : Ct := fun Rs M0 M1 r => ∃ (masks : (List Int)) (res : ((List Int))), Rs = [(rp K (masks : (List Int)))] ∧ M0 = [] ∧ M1 = [] ∧ r = .new (hD K (res : (List Int))) ∧ m__law_least masks = some res
theorem sc__law_least : FnScope ["masks", "mask"] ["masks"] (defScope (topS 26)) := ⟨rfl, rfl, rfl, by decide +kernel, rfl, by decide +kernel, by decide +kernel⟩
def c__law_meets_all (K : PySem.W.Frag) : Ct := fun Rs M0 M1 r => ∃ (sub : Int) (masks : (List Int)) (res : (Bool)), Rs = [(rI sub), (rp K (masks : (List Int)))] ∧ M0 = [] ∧ M1 = [] ∧ r = .val (rB res) ∧ m__law_meets_all sub masks = some res
theorem sc__law_meets_all : FnScope ["sub", "masks", "mask"] ["sub", "masks"] (defScope (topS 27)) := ⟨rfl, rfl, rfl, by decide +kernel, rfl, by decide +kernel, by decide +kernel⟩
def c__law_is_least (K : PySem.W.Frag) : Ct := fun Rs M0 M1 r => ∃ (number : Int) (table : (List Bool)) (size : Int) (res : (Bool)), Rs = [(rI number), (rp K (table : (List Bool))), (rI size)] ∧ M0 = [] ∧ M1 = [] ∧ r = .val (rB res) ∧ m__law_is_least number table size = some res
theorem sc__law_is_least : FnScope ["number", "table", "size", "k"] ["number", "table", "size"] (defScope (topS 28)) := ⟨rfl, rfl, rfl, by decide +kernel, rfl, by decide +kernel, by decide +kernel⟩
def c__law_hitting (K : PySem.W.Frag) : Ct := fun Rs M0 M1 r => ∃ (masks : (List Int)) (res : ((List Int))), Rs = [(rp K (masks : (List Int)))] ∧ M0 = [] ∧ M1 = [] ∧ r = .new (hD K (res : (List Int))) ∧ m__law_hitting masks = some res
theorem sc__law_hitting : FnScope ["masks", "union", "mask", "members", "subsets", "one", "table", "found", "number", "k", "sub"] ["masks"] (defScope (topS 29)) := ⟨rfl, rfl, rfl, by decide +kernel, rfl, by decide +kernel, by decide +kernel⟩
def c_distinct (K : PySem.W.Frag) : Ct := fun Rs M0 M1 r => ∃ (facts : (List Int)) (res : ((List Int))), Rs = [(rp K (facts : (List Int)))] ∧ M0 = [] ∧ M1 = [] ∧ r = .new (hD K (res : (List Int))) ∧ m_distinct facts = some res
theorem sc_distinct : FnScope ["facts"] ["facts"] (defScope (topS 1)) := ⟨rfl, rfl, rfl, by decide +kernel, rfl, by decide +kernel, by decide +kernel⟩
def c_contains_one (K : PySem.W.Frag) : Ct := fun Rs M0 M1 r => ∃ (mask : Int) (a_others : Addr) (others : (List Int)) (res : (Bool)), Rs = [(rI mask), rA a_others] ∧ M0 = [(a_others, (hD K (others : (List Int))))] ∧ M1 = [(a_others, (hD K (others : (List Int))))] ∧ r = .val (rB res) ∧ m_contains_one mask others = some res
theorem sc_contains_one : FnScope ["mask", "others", "other"] ["mask", "others"] (defScope (topS 9)) := ⟨rfl, rfl, rfl, by decide +kernel, rfl, by decide +kernel, by decide +kernel⟩
def c_least_masks (K : PySem.W.Frag) : Ct := fun Rs M0 M1 r => ∃ (masks : (List Int)) (res : ((List Int))), Rs = [(rp K (masks : (List Int)))] ∧ M0 = [] ∧ M1 = [] ∧ r = .new (hD K (res : (List Int))) ∧ m_least_masks masks = some res
theorem sc_least_masks : FnScope ["masks", "kept", "mask"] ["masks"] (defScope (topS 8)) := ⟨rfl, rfl, rfl, by decide +kernel, rfl, by decide +kernel, by decide +kernel⟩
def c_mask_of (K : PySem.W.Frag) : Ct := fun Rs M0 M1 r => ∃ (numbers : (List Int)) (res : (Int)), Rs = [(rp K (numbers : (List Int)))] ∧ M0 = [] ∧ M1 = [] ∧ r = .val (rI res) ∧ m_mask_of numbers = some res
theorem sc_mask_of : FnScope ["numbers", "mask", "number"] ["numbers"] (defScope (topS 6)) := ⟨rfl, rfl, rfl, by decide +kernel, rfl, by decide +kernel, by decide +kernel⟩
def c_in_length_order (K : PySem.W.Frag) (tb_in_length_order : Addr) : Ct := fun Rs M0 M1 r => ∃ (lists : (List (List Int))) (res : ((List (List Int)))), Rs = [(rp K (lists : (List (List Int))))] ∧ M0 = [(tb_in_length_order, (hTab "in_length_order.<locals>.<lambda>"))] ∧ M1 = [(tb_in_length_order, (hTab "in_length_order.<locals>.<lambda>"))] ∧ r = .new (hD K (res : (List (List Int)))) ∧ m_in_length_order lists = some res
theorem sc_in_length_order : FnScope ["lists"] ["lists"] (defScope (topS 10)) := ⟨rfl, rfl, rfl, by decide +kernel, rfl, by decide +kernel, by decide +kernel⟩
def c_numbers_in (K : PySem.W.Frag) : Ct := fun Rs M0 M1 r => ∃ (mask : Int) (res : ((List Int))), Rs = [(rI mask)] ∧ M0 = [] ∧ M1 = [] ∧ r = .new (hD K (res : (List Int))) ∧ m_numbers_in mask = some res
theorem sc_numbers_in : FnScope ["mask", "number"] ["mask"] (defScope (topS 7)) := ⟨rfl, rfl, rfl, by decide +kernel, rfl, by decide +kernel, by decide +kernel⟩
def c_least_only (K : PySem.W.Frag) (tb_in_length_order : Addr) : Ct := fun Rs M0 M1 r => ∃ (sets : (List (List Int))) (res : ((List (List Int)))), Rs = [(rp K (sets : (List (List Int))))] ∧ M0 = [(tb_in_length_order, (hTab "in_length_order.<locals>.<lambda>"))] ∧ M1 = [(tb_in_length_order, (hTab "in_length_order.<locals>.<lambda>"))] ∧ r = .new (hD K (res : (List (List Int)))) ∧ m_least_only sets = some res
theorem sc_least_only : FnScope ["sets", "masks", "numbers", "mask"] ["sets"] (defScope (topS 3)) := ⟨rfl, rfl, rfl, by decide +kernel, rfl, by decide +kernel, by decide +kernel⟩
def c__law_same (K : PySem.W.Frag) : Ct := fun Rs M0 M1 r => ∃ (told : (List (List Int))) (due : (List (List Int))) (res : (Bool)), Rs = [(rp K (told : (List (List Int)))), (rp K (due : (List (List Int))))] ∧ M0 = [] ∧ M1 = [] ∧ r = .val (rB res) ∧ m__law_same told due = some res
theorem sc__law_same : FnScope ["told", "due", "k", "one"] ["told", "due"] (defScope (topS 30)) := ⟨rfl, rfl, rfl, by decide +kernel, rfl, by decide +kernel, by decide +kernel⟩
def c_missing_table (K : PySem.W.Frag) : Ct := fun Rs M0 M1 r => ∃ (masks : (List Int)) (res : ((List Bool))), Rs = [(rp K (masks : (List Int)))] ∧ M0 = [] ∧ M1 = [] ∧ r = .new (hD K (res : (List Bool))) ∧ m_missing_table masks = some res
theorem sc_missing_table : FnScope ["masks", "width", "full", "missed", "mask", "number", "way"] ["masks"] (defScope (topS 5)) := ⟨rfl, rfl, rfl, by decide +kernel, rfl, by decide +kernel, by decide +kernel⟩
def c_hitting_sets (K : PySem.W.Frag) (tb_in_length_order : Addr) : Ct := fun Rs M0 M1 r => ∃ (sets : (List (List Int))) (res : ((List (List Int)))), Rs = [(rp K (sets : (List (List Int))))] ∧ M0 = [(tb_in_length_order, (hTab "in_length_order.<locals>.<lambda>"))] ∧ M1 = [(tb_in_length_order, (hTab "in_length_order.<locals>.<lambda>"))] ∧ r = .new (hD K (res : (List (List Int)))) ∧ m_hitting_sets sets = some res
theorem sc_hitting_sets : FnScope ["sets", "masks", "missed", "found", "way", "numbers", "number"] ["sets"] (defScope (topS 4)) := ⟨rfl, rfl, rfl, by decide +kernel, rfl, by decide +kernel, by decide +kernel⟩
def c_law (K : PySem.W.Frag) (tb_in_length_order : Addr) : Ct := fun Rs M0 M1 r => ∃ (script : (List Int)) (res : (Bool)), Rs = [(rLs K ((script : List Int).map (rp K)))] ∧ M0 = [(tb_in_length_order, (hTab "in_length_order.<locals>.<lambda>"))] ∧ M1 = [(tb_in_length_order, (hTab "in_length_order.<locals>.<lambda>"))] ∧ r = .val (rB res) ∧ m_law script = some res
theorem sc_law : FnScope ["script", "purse", "passed", "masks", "least", "hitting", "handed", "told", "one"] ["script"] (defScope (topS 31)) := ⟨rfl, rfl, rfl, by decide +kernel, rfl, by decide +kernel, by decide +kernel⟩
section
variable {P : Program} {w : World} {K : PySem.W.Frag} {mg : Str → Option Value} {base : Heap} {tb_in_length_order : Addr}
theorem ok__law_purse (T : Tops K mg base tb_in_length_order) : Def P w K mg base "_law_purse" 1 ["script"] (c__law_purse K) := by
  refine Def.of T.s__law_purse sc__law_purse (fun _ _ _ _ _ _ us hl => match us, hl with | [_], _ => rfl) (fun Rs M0 M1 r ⟨_, _, e, _⟩ => by rw [e]; rfl) (fun f cdv A outer s H E Q Rs M0 M1 r Mr F hr hc q => ?_)
  obtain ⟨script, res, rfl, rfl, rfl, rfl, hm⟩ := hc
  unfold m__law_purse at hm
  cases hm
  exact ss_ret (ev_list (ea_cons (ev_fr (ev_lc 1 sc__law_purse.nd (f := fun (_ : Unit) y1 => some (some (if y1 < 0 then -y1 else y1), ())) (compM_pureN _ _) (rp K) (rp K) (fun _ => Mr) (ev_fr (ev_slD (ev_var 0 rfl) eo_none (eo_some ev_int) isl_sc)) (fun _ _ => isl_fr) (show blkC ["script", "cell"] (defScope (topS 12)) _ _ = true by decide +kernel) (fun _ y1 u Mx hy hu => by cases hu; exact ⟨_, fun s H0 C cl fp => ec_all (ev_abs T.z_abs (ev_intI T.z_int (ev_var 1 rfl)))⟩))) (ea_cons ev_int (ea_cons ev_int (ea_cons ev_int (ea_cons ev_int ea_nil)))))) (.refl _) q
theorem ok__law_draw (T : Tops K mg base tb_in_length_order) : Def P w K mg base "_law_draw" 1 ["purse", "size"] (c__law_draw K) := by
  refine Def.of T.s__law_draw sc__law_draw (fun _ _ _ _ _ _ us hl => match us, hl with | [_, _], _ => rfl) (fun Rs M0 M1 r ⟨_, _, _, _, e, _⟩ => by rw [e]; rfl) (fun f cdv A outer s H E Q Rs M0 M1 r Mr F hr hc q => ?_)
  obtain ⟨a_purse, purse, size, res, rfl, rfl, rfl, rfl, hm⟩ := hc
  unfold m__law_draw at hm
  obtain ⟨j1, h_j1, hm⟩ := bsome hm
  refine ss_if (ρ' := [some (rA a_purse), some (rI size), none, none]) (M' := (a_purse, (hPurse K j1)) :: Mr) (et_w (ew_and (et_eqS (α := Int) (ev_ixL (ev_var 0 rfl) ev_int (isl_ow 0 rfl) rfl) ev_int) (fun _ => (ew_and1 (et_lt (ev_ixL (ev_var 0 rfl) ev_int (isl_ow 0 rfl) rfl) (ev_lenLD T.z_len (ev_ixL (ev_var 0 rfl) ev_int (isl_ow 0 rfl) rfl) isl_fr)))))) (fun hk => ?_) (fun hk => ?_) ?_
  · have hm := h_j1
    clear h_j1
    rw [if_pos hk] at hm
    obtain ⟨t2, h_t2, hm⟩ := bsome hm
    refine ss_set (R := (rI t2)) 2 sc__law_draw.nd (ev_ixLD (ev_ixL (ev_var 0 rfl) ev_int (isl_ow 0 rfl) rfl) (ev_ixL (ev_var 0 rfl) ev_int (isl_ow 0 rfl) rfl) isl_fr h_t2) ?_
    refine ss_setix 0 (ev_add (ev_ixL (ev_var 0 rfl) ev_int (isl_ow 0 rfl) rfl) ev_int) (ev_var 0 rfl) ev_int rfl rfl ?_
    obtain ⟨j3, h_j3, hm⟩ := bsome hm
    refine ss_if (ρ' := [some (rA a_purse), some (rI size), some (rI t2), none]) (M' := (a_purse, (hPurse K j3)) :: Mr) (et_ge (ev_var 2 rfl) (ev_powK (v := 1000000000000000000) ev_int ev_int ⟨by decide, by decide, by decide⟩ (by decide))) (fun hk => ?_) (fun hk => ?_) ?_
    · have hm := h_j3
      clear h_j3
      rw [if_pos hk] at hm
      refine ss_setix 0 (ev_var 2 rfl) (ev_var 0 rfl) ev_int rfl rfl ?_
      cases hm
      exact ss_endW (.keep (.keep (.keep (.drop (.nil))))) (.cons₂ _ (.refl _))
    · have hm := h_j3
      clear h_j3
      rw [if_neg (ne_t hk)] at hm
      refine ss_setix 0 (ev_mod (ev_intI T.z_int (ev_add (ev_add (ev_mulR (ev_ixL (ev_var 0 rfl) ev_int (isl_ow 0 rfl) rfl) ev_int (by decide)) (ev_var 2 rfl)) ev_int)) ev_int (by decide)) (ev_var 0 rfl) ev_int rfl rfl ?_
      cases hm
      exact ss_endW (.keep (.keep (.keep (.drop (.nil))))) (.cons₂ _ (.refl _))
    cases hm
    exact ss_endW (.keep (.keep (.drop (.drop (.nil))))) (.cons₂ _ (.refl _))
  · have hm := h_j1
    clear h_j1
    rw [if_neg (ne_t hk)] at hm
    cases hm
    exact ss_endW (.keep (.keep (.drop (.drop (.nil))))) (.cons₂ _ (.refl _))
  refine ss_ifR (et_gt (ev_ixL (ev_var 0 rfl) ev_int (isl_ow 0 rfl) rfl) ev_int) (fun hk => ?_) (fun hk => ?_)
  · rw [if_pos hk] at hm
    obtain ⟨t4, h_t4, hm⟩ := bsome hm
    refine ss_set (R := (rI t4)) 3 sc__law_draw.nd (ev_modO (ev_intI T.z_int (ev_ixL (ev_var 0 rfl) ev_int (isl_ow 0 rfl) rfl)) (ev_var 1 rfl) h_t4) ?_
    obtain ⟨t5, h_t5, hm⟩ := bsome hm
    refine ss_setix 0 (ev_divO (ev_ixL (ev_var 0 rfl) ev_int (isl_ow 0 rfl) rfl) (ev_var 1 rfl) h_t5) (ev_var 0 rfl) ev_int rfl rfl ?_
    cases hm
    exact ss_ret (ev_var 3 rfl) (.cons₂ _ (.refl _)) q
  · rw [if_neg (ne_t hk)] at hm
    refine ss_setix 0 (ev_add (ev_ixL (ev_var 0 rfl) ev_int (isl_ow 0 rfl) rfl) ev_int) (ev_var 0 rfl) ev_int rfl rfl ?_
    refine ss_setix 0 (ev_mod (ev_intI T.z_int (ev_add (ev_mulR (ev_ixL (ev_var 0 rfl) ev_int (isl_ow 0 rfl) rfl) ev_int (by decide)) (ev_mulR (ev_ixL (ev_var 0 rfl) ev_int (isl_ow 0 rfl) rfl) ev_int (by decide)))) ev_int (by decide)) (ev_var 0 rfl) ev_int rfl rfl ?_
    obtain ⟨t6, h_t6, hm⟩ := bsome hm
    obtain ⟨t7, h_t7, hm⟩ := bsome hm
    cases hm
    exact ss_ret (ev_modO (ev_mod (ev_intI T.z_int (ev_fdiv (ev_mulO (ev_ixL (ev_var 0 rfl) ev_int (isl_ow 0 rfl) rfl) (ev_add (ev_fdiv (ev_ixL (ev_var 0 rfl) ev_int (isl_ow 0 rfl) rfl) ev_int ⟨by decide, by decide⟩) ev_int) h_t6) ev_int ⟨by decide, by decide⟩)) ev_int (by decide)) (ev_var 1 rfl) h_t7) (.cons₂ _ (.refl _)) q
theorem ok__law_arranged (T : Tops K mg base tb_in_length_order) : Def P w K mg base "_law_arranged" 2 ["purse", "sets"] (c__law_arranged K) := by
  refine Def.of T.s__law_arranged sc__law_arranged (fun _ _ _ _ _ _ us hl => match us, hl with | [_, _], _ => rfl) (fun Rs M0 M1 r ⟨_, _, _, _, e, _⟩ => by rw [e]; rfl) (fun f cdv A outer s H E Q Rs M0 M1 r Mr F hr hc q => ?_)
  obtain ⟨a_purse, purse, sets, res, rfl, rfl, rfl, rfl, hm⟩ := hc
  unfold m__law_arranged at hm
  refine ss_lc 2 5 sc__law_arranged.nd (f := fun (_ : Unit) y1 => some (some y1, ())) (compM_pureN _ _) (rp K) (rp K) (fun _ => (a_purse, (hPurse K purse)) :: Mr) (ev_var 1 rfl) (fun _ _ => isl_fr) (show blkC ["purse", "sets", "rest", "passed", "k", "one", "way"] (defScope (topS 22)) _ _ = true by decide +kernel) (fun _ y1 u Mx hy hu => by cases hu; exact ⟨_, fun s H0 C cl fp => ec_all (ev_fr (ev_listL T.z_list (ev_var 5 rfl) isl_fr))⟩) (fun q3 => ?_)
  refine ss_new (A := (hD K ([] : (List (List Int))))) 3 sc__law_arranged.nd (ev_list ea_nil) (fun q4 => ?_)
  obtain ⟨r5, h_r5, hm⟩ := bsome hm
  obtain ⟨t18, h_t18, hm⟩ := bsome hm
  refine ss_forMO 4 sc__law_arranged.nd (fun s7 => [some (rA a_purse), some (rp K (sets : (List (List Int)))), some (rA q3), some (rA q4), none, none, none]) (fun s7 => (q4, (hD K (s7.1 : (List (List Int))))) :: (q3, (hD K (s7.2.1 : (List (List Int))))) :: (a_purse, (hPurse K s7.2.2)) :: Mr) _ h_t18 (er_O1 T.z_range (ev_lenLD T.z_len (ev_var 1 rfl) isl_fr) h_r5) (.keep (.keep (.keep (.keep (.drop (.drop (.drop (.nil)))))))) (.refl _) (fun s7 y6 s' hy hm => ?_) ?_
  · obtain ⟨t8, h_t8, hm⟩ := bsome hm
    obtain ⟨t9, h_t9, hm⟩ := bsome hm
    refine ss_set (R := (rp K (t9.1 : (List Int)))) 5 sc__law_arranged.nd (ev_popAtO (α := (List Int)) 1 (ev_var 2 rfl) (ev_call1 2 (ok__law_draw T) (hr.mono (by decide)) (ea_cons (ev_var 0 rfl) (ea_cons (ev_lenLD T.z_len (ev_var 2 rfl) (isl_ow 1 rfl)) ea_nil)) rfl ⟨_, _, _, _, rfl, rfl, rfl, rfl, h_t8⟩) ⟨_, rfl⟩ rfl h_t9) ?_
    obtain ⟨t10, h_t10, hm⟩ := bsome hm
    refine ss_set (R := (rI t10.1)) 6 sc__law_arranged.nd (ev_call1 2 (ok__law_draw T) (hr.mono (by decide)) (ea_cons (ev_var 0 rfl) (ea_cons ev_int ea_nil)) rfl ⟨_, _, _, _, rfl, rfl, rfl, rfl, h_t10⟩) ?_
    obtain ⟨j11, h_j11, hm⟩ := bsome hm
    refine ss_if (ρ' := [some (rA a_purse), some (rp K (sets : (List (List Int)))), some (rA q3), some (rA q4), some (rI y6), some (rp K (j11 : (List Int))), some (rI t10.1)]) (M' := (q4, (hD K (s7.1 : (List (List Int))))) :: (q3, (hD K (t9.2 : (List (List Int))))) :: (a_purse, (hPurse K t10.2)) :: Mr) (et_eqS (α := Int) (ev_var 6 rfl) ev_int) (fun hk => ?_) (fun hk => ?_) ?_
    · have hm := h_j11
      clear h_j11
      rw [if_pos hk] at hm
      refine ss_set (R := (rp K ((t9.1).reverse : (List Int)))) 5 sc__law_arranged.nd (ev_fr (ev_revL (ev_var 5 rfl) isl_fr)) ?_
      cases hm
      exact ss_endW (.keep (.keep (.keep (.keep (.keep (.keep (.keep (.nil)))))))) (.cons₂ _ (.cons₂ _ (.cons₂ _ (.refl _))))
    · have hm := h_j11
      clear h_j11
      rw [if_neg (ne_t hk)] at hm
      cases hm
      exact ss_endW (.keep (.keep (.keep (.keep (.keep (.keep (.keep (.nil)))))))) (.cons₂ _ (.cons₂ _ (.cons₂ _ (.refl _))))
    obtain ⟨j12, h_j12, hm⟩ := bsome hm
    refine ss_if (ρ' := [some (rA a_purse), some (rp K (sets : (List (List Int)))), some (rA q3), some (rA q4), some (rI y6), some (rp K (j12 : (List Int))), some (rI t10.1)]) (M' := (q4, (hD K (s7.1 : (List (List Int))))) :: (q3, (hD K (t9.2 : (List (List Int))))) :: (a_purse, (hPurse K t10.2)) :: Mr) (et_eqS (α := Int) (ev_var 6 rfl) ev_int) (fun hk => ?_) (fun hk => ?_) ?_
    · have hm := h_j12
      clear h_j12
      rw [if_pos hk] at hm
      obtain ⟨t13, h_t13, hm⟩ := bsome hm
      refine ss_set (R := (rp K (t13 : (List Int)))) 5 sc__law_arranged.nd (ev_fr (ev_catO (ev_var 5 rfl) (ev_fr (ev_slD (ev_var 5 rfl) eo_none (eo_some ev_int) isl_fr)) islh_fr islh_fr h_t13)) ?_
      cases hm
      exact ss_endW (.keep (.keep (.keep (.keep (.keep (.keep (.keep (.nil)))))))) (.cons₂ _ (.cons₂ _ (.cons₂ _ (.refl _))))
    · have hm := h_j12
      clear h_j12
      rw [if_neg (ne_t hk)] at hm
      cases hm
      exact ss_endW (.keep (.keep (.keep (.keep (.keep (.keep (.keep (.nil)))))))) (.cons₂ _ (.cons₂ _ (.cons₂ _ (.refl _))))
    obtain ⟨j14, h_j14, hm⟩ := bsome hm
    refine ss_if (ρ' := [some (rA a_purse), some (rp K (sets : (List (List Int)))), some (rA q3), some (rA q4), some (rI y6), some (rp K (j14 : (List Int))), some (rI t10.1)]) (M' := (q4, (hD K (s7.1 : (List (List Int))))) :: (q3, (hD K (t9.2 : (List (List Int))))) :: (a_purse, (hPurse K t10.2)) :: Mr) (et_eqS (α := Int) (ev_var 6 rfl) ev_int) (fun hk => ?_) (fun hk => ?_) ?_
    · have hm := h_j14
      clear h_j14
      rw [if_pos hk] at hm
      obtain ⟨t15, h_t15, hm⟩ := bsome hm
      obtain ⟨t16, h_t16, hm⟩ := bsome hm
      refine ss_set (R := (rp K (t16 : (List Int)))) 5 sc__law_arranged.nd (ev_fr (ev_catO (ev_fr (ev_catO (ev_fr (ev_slD (ev_var 5 rfl) (eo_some ev_int) eo_none isl_fr)) (ev_fr (ev_slD (ev_var 5 rfl) eo_none (eo_some ev_int) isl_fr)) islh_fr islh_fr h_t15)) (ev_fr (ev_slD (ev_var 5 rfl) (eo_some (ev_neg ev_int)) eo_none isl_fr)) islh_fr islh_fr h_t16)) ?_
      cases hm
      exact ss_endW (.keep (.keep (.keep (.keep (.keep (.keep (.keep (.nil)))))))) (.cons₂ _ (.cons₂ _ (.cons₂ _ (.refl _))))
    · have hm := h_j14
      clear h_j14
      rw [if_neg (ne_t hk)] at hm
      cases hm
      exact ss_endW (.keep (.keep (.keep (.keep (.keep (.keep (.keep (.nil)))))))) (.cons₂ _ (.cons₂ _ (.cons₂ _ (.refl _))))
    obtain ⟨t17, h_t17, hm⟩ := bsome hm
    refine ss_expr (ev_appO (α := (List Int)) 0 (ev_var 3 rfl) (ev_var 5 rfl) ⟨_, rfl⟩ rfl h_t17) ?_
    cases hm
    exact ss_endW (.keep (.keep (.keep (.keep (.drop (.drop (.drop (.nil)))))))) (.cons₂ _ (.cons₂ _ (.cons₂ _ (.refl _))))
  cases hm
  exact ss_ret (ev_own 3 0 rfl rfl) (.cons _ (.cons₂ _ (.refl _))) q
theorem ok__law_with_more (T : Tops K mg base tb_in_length_order) : Def P w K mg base "_law_with_more" 2 ["purse", "sets"] (c__law_with_more K) := by
  refine Def.of T.s__law_with_more sc__law_with_more (fun _ _ _ _ _ _ us hl => match us, hl with | [_, _], _ => rfl) (fun Rs M0 M1 r ⟨_, _, _, _, e, _⟩ => by rw [e]; rfl) (fun f cdv A outer s H E Q Rs M0 M1 r Mr F hr hc q => ?_)
  obtain ⟨a_purse, purse, sets, res, rfl, rfl, rfl, rfl, hm⟩ := hc
  unfold m__law_with_more at hm
  refine ss_lc 2 4 sc__law_with_more.nd (f := fun (_ : Unit) y1 => some (some y1, ())) (compM_pureN _ _) (rp K) (rp K) (fun _ => (a_purse, (hPurse K purse)) :: Mr) (ev_var 1 rfl) (fun _ _ => isl_fr) (show blkC ["purse", "sets", "more", "k", "one", "way"] (defScope (topS 21)) _ _ = true by decide +kernel) (fun _ y1 u Mx hy hu => by cases hu; exact ⟨_, fun s H0 C cl fp => ec_all (ev_fr (ev_listL T.z_list (ev_var 4 rfl) isl_fr))⟩) (fun q3 => ?_)
  obtain ⟨r4, h_r4, hm⟩ := bsome hm
  obtain ⟨t22, h_t22, hm⟩ := bsome hm
  refine ss_forMO 3 sc__law_with_more.nd (fun s6 => [some (rA a_purse), some (rp K (sets : (List (List Int)))), some (rA q3), none, none, none]) (fun s6 => (q3, (hD K (s6.1 : (List (List Int))))) :: (a_purse, (hPurse K s6.2)) :: Mr) _ h_t22 (er_O1 T.z_range ev_int h_r4) (.keep (.keep (.keep (.drop (.drop (.drop (.nil))))))) (.refl _) (fun s6 y5 s' hy hm => ?_) ?_
  · obtain ⟨t7, h_t7, hm⟩ := bsome hm
    refine ss_set (R := (rI t7.1)) 5 sc__law_with_more.nd (ev_call1 1 (ok__law_draw T) (hr.mono (by decide)) (ea_cons (ev_var 0 rfl) (ea_cons ev_int ea_nil)) rfl ⟨_, _, _, _, rfl, rfl, rfl, rfl, h_t7⟩) ?_
    obtain ⟨j8, h_j8, hm⟩ := bsome hm
    refine ss_if (ρ' := [some (rA a_purse), some (rp K (sets : (List (List Int)))), some (rA q3), some (rI y5), none, some (rI t7.1)]) (M' := (q3, (hD K (j8.1 : (List (List Int))))) :: (a_purse, (hPurse K j8.2)) :: Mr) (et_w (ew_and (et_eqS (α := Int) (ev_var 5 rfl) ev_int) (fun _ => (ew_and1 (et_gt (ev_lenLD T.z_len (ev_var 1 rfl) isl_fr) ev_int))))) (fun hk => ?_) (fun hk => ?_) ?_
    · have hm := h_j8
      clear h_j8
      rw [if_pos hk] at hm
      obtain ⟨t9, h_t9, hm⟩ := bsome hm
      obtain ⟨t10, h_t10, hm⟩ := bsome hm
      refine ss_set (R := (rp K (t10 : (List Int)))) 4 sc__law_with_more.nd (ev_ixLD (ev_var 1 rfl) (ev_call1 1 (ok__law_draw T) (hr.mono (by decide)) (ea_cons (ev_var 0 rfl) (ea_cons (ev_lenLD T.z_len (ev_var 1 rfl) isl_fr) ea_nil)) rfl ⟨_, _, _, _, rfl, rfl, rfl, rfl, h_t9⟩) isl_fr h_t10) ?_
      obtain ⟨t11, h_t11, hm⟩ := bsome hm
      obtain ⟨t12, h_t12, hm⟩ := bsome hm
      obtain ⟨t13, h_t13, hm⟩ := bsome hm
      obtain ⟨t14, h_t14, hm⟩ := bsome hm
      refine ss_expr (ev_appO (α := (List Int)) 0 (ev_var 2 rfl) (ev_fr (ev_sortedSetI T.z_sorted T.z_set (ev_fr (ev_catO (ev_var 4 rfl) (ev_fr (ev_list (ea_cons (ev_call1 1 (ok__law_draw T) (hr.mono (by decide)) (ea_cons (ev_var 0 rfl) (ea_cons ev_int ea_nil)) rfl ⟨_, _, _, _, rfl, rfl, rfl, rfl, h_t11⟩) ea_nil))) islh_fr islh_fr h_t12)) isl_fr h_t13)) ⟨_, rfl⟩ rfl h_t14) ?_
      cases hm
      exact ss_endW (.keep (.keep (.keep (.keep (.drop (.keep (.nil))))))) (.cons₂ _ (.cons₂ _ (.refl _)))
    · have hm := h_j8
      clear h_j8
      rw [if_neg (ne_t hk)] at hm
      cases hm
      exact ss_endW (.keep (.keep (.keep (.keep (.drop (.keep (.nil))))))) (.cons₂ _ (.cons₂ _ (.refl _)))
    obtain ⟨j15, h_j15, hm⟩ := bsome hm
    refine ss_if (ρ' := [some (rA a_purse), some (rp K (sets : (List (List Int)))), some (rA q3), some (rI y5), none, some (rI t7.1)]) (M' := (q3, (hD K (j15.1 : (List (List Int))))) :: (a_purse, (hPurse K j15.2)) :: Mr) (et_w (ew_and (et_eqS (α := Int) (ev_var 5 rfl) ev_int) (fun _ => (ew_and1 (et_gt (ev_lenLD T.z_len (ev_var 1 rfl) isl_fr) ev_int))))) (fun hk => ?_) (fun hk => ?_) ?_
    · have hm := h_j15
      clear h_j15
      rw [if_pos hk] at hm
      obtain ⟨t16, h_t16, hm⟩ := bsome hm
      obtain ⟨t17, h_t17, hm⟩ := bsome hm
      obtain ⟨t18, h_t18, hm⟩ := bsome hm
      refine ss_expr (ev_appO (α := (List Int)) 0 (ev_var 2 rfl) (ev_fr (ev_listL T.z_list (ev_ixLD (ev_var 1 rfl) (ev_call1 1 (ok__law_draw T) (hr.mono (by decide)) (ea_cons (ev_var 0 rfl) (ea_cons (ev_lenLD T.z_len (ev_var 1 rfl) isl_fr) ea_nil)) rfl ⟨_, _, _, _, rfl, rfl, rfl, rfl, h_t16⟩) isl_fr h_t17) isl_fr)) ⟨_, rfl⟩ rfl h_t18) ?_
      cases hm
      exact ss_endW (.keep (.keep (.keep (.keep (.drop (.keep (.nil))))))) (.cons₂ _ (.cons₂ _ (.refl _)))
    · have hm := h_j15
      clear h_j15
      rw [if_neg (ne_t hk)] at hm
      cases hm
      exact ss_endW (.keep (.keep (.keep (.keep (.drop (.keep (.nil))))))) (.cons₂ _ (.cons₂ _ (.refl _)))
    obtain ⟨t20, h_t20, hm⟩ := bsome hm
    refine ss_ifE (et_w (ew_andC (t := t20.1) (M2 := (q3, (hD K (j15.1 : (List (List Int))))) :: (a_purse, (hPurse K t20.2)) :: Mr) (et_eqS (α := Int) (ev_var 5 rfl) ev_int) (fun hk => (by have h_t20 := h_t20; rw [if_pos hk] at h_t20; obtain ⟨t19, h_t19, h_t20⟩ := bsome h_t20; cases h_t20; exact (ew_and1 (et_eqS (α := Int) (ev_call1 1 (ok__law_draw T) (hr.mono (by decide)) (ea_cons (ev_var 0 rfl) (ea_cons ev_int ea_nil)) rfl ⟨_, _, _, _, rfl, rfl, rfl, rfl, h_t19⟩) ev_int)))) (fun hk => (by have h_t20 := h_t20; rw [if_neg (ne_t hk)] at h_t20; cases h_t20; exact ⟨rfl, rfl⟩)))) (fun hk => ?_) (fun hk => ?_)
    · rw [if_pos hk] at hm
      obtain ⟨t21, h_t21, hm⟩ := bsome hm
      refine ss_expr (ev_appO (α := (List Int)) 0 (ev_var 2 rfl) (ev_fr (ev_list ea_nil)) ⟨_, rfl⟩ rfl h_t21) ?_
      cases hm
      exact ss_endW (.keep (.keep (.keep (.drop (.drop (.drop (.nil))))))) (.cons₂ _ (.cons₂ _ (.refl _)))
    · rw [if_neg (ne_t hk)] at hm
      cases hm
      exact ss_endW (.keep (.keep (.keep (.drop (.drop (.drop (.nil))))))) (.cons₂ _ (.cons₂ _ (.refl _)))
  cases hm
  exact ss_ret (ev_own 2 0 rfl rfl) (.cons₂ _ (.refl _)) q
theorem ok__law_members (T : Tops K mg base tb_in_length_order) : Def P w K mg base "_law_members" 2 ["purse", "many"] (c__law_members K) := by
  refine Def.of T.s__law_members sc__law_members (fun _ _ _ _ _ _ us hl => match us, hl with | [_, _], _ => rfl) (fun Rs M0 M1 r ⟨_, _, _, _, e, _⟩ => by rw [e]; rfl) (fun f cdv A outer s H E Q Rs M0 M1 r Mr F hr hc q => ?_)
  obtain ⟨a_purse, purse, many, res, rfl, rfl, rfl, rfl, hm⟩ := hc
  unfold m__law_members at hm
  refine ss_new (A := (hD K (((List.range 12).map Int.ofNat) : (List Int)))) 2 sc__law_members.nd (ev_listRg1 T.z_list T.z_range ev_int (by decide) (by decide)) (fun q1 => ?_)
  refine ss_new (A := (hD K ([] : (List Int)))) 3 sc__law_members.nd (ev_list ea_nil) (fun q2 => ?_)
  obtain ⟨r3, h_r3, hm⟩ := bsome hm
  obtain ⟨t9, h_t9, hm⟩ := bsome hm
  refine ss_forMO 4 sc__law_members.nd (fun s5 => [some (rA a_purse), some (rI many), some (rA q1), some (rA q2), none]) (fun s5 => (q2, (hD K (s5.1 : (List Int)))) :: (q1, (hD K (s5.2.1 : (List Int)))) :: (a_purse, (hPurse K s5.2.2)) :: Mr) _ h_t9 (er_O1 T.z_range (ev_var 1 rfl) h_r3) (.keep (.keep (.keep (.keep (.drop (.nil)))))) (.refl _) (fun s5 y4 s' hy hm => ?_) ?_
  · obtain ⟨t6, h_t6, hm⟩ := bsome hm
    obtain ⟨t7, h_t7, hm⟩ := bsome hm
    obtain ⟨t8, h_t8, hm⟩ := bsome hm
    refine ss_expr (ev_appO (α := Int) 0 (ev_var 3 rfl) (ev_popAtO (α := Int) 1 (ev_var 2 rfl) (ev_call1 2 (ok__law_draw T) (hr.mono (by decide)) (ea_cons (ev_var 0 rfl) (ea_cons (ev_lenLD T.z_len (ev_var 2 rfl) (isl_ow 1 rfl)) ea_nil)) rfl ⟨_, _, _, _, rfl, rfl, rfl, rfl, h_t6⟩) ⟨_, rfl⟩ rfl h_t7) ⟨_, rfl⟩ rfl h_t8) ?_
    cases hm
    exact ss_endW (.keep (.keep (.keep (.keep (.drop (.nil)))))) (.cons₂ _ (.cons₂ _ (.cons₂ _ (.refl _))))
  cases hm
  exact ss_ret (ev_sortedI T.z_sorted (ev_var 3 rfl) (isl_ow 0 rfl)) (.cons _ (.cons _ (.cons₂ _ (.refl _)))) q
theorem ok__law_small (T : Tops K mg base tb_in_length_order) : Def P w K mg base "_law_small" 3 ["purse"] (c__law_small K) := by
  refine Def.of T.s__law_small sc__law_small (fun _ _ _ _ _ _ us hl => match us, hl with | [_], _ => rfl) (fun Rs M0 M1 r ⟨_, _, _, e, _⟩ => by rw [e]; rfl) (fun f cdv A outer s H E Q Rs M0 M1 r Mr F hr hc q => ?_)
  obtain ⟨a_purse, purse, res, rfl, rfl, rfl, rfl, hm⟩ := hc
  unfold m__law_small at hm
  obtain ⟨t1, h_t1, hm⟩ := bsome hm
  obtain ⟨t2, h_t2, hm⟩ := bsome hm
  refine ss_set (R := (rp K (t2.1 : (List Int)))) 1 sc__law_small.nd (ev_fr (ev_call1 0 (ok__law_members T) (hr.mono (by decide)) (ea_cons (ev_var 0 rfl) (ea_cons (ev_add ev_int (ev_call1 0 (ok__law_draw T) (hr.mono (by decide)) (ea_cons (ev_var 0 rfl) (ea_cons ev_int ea_nil)) rfl ⟨_, _, _, _, rfl, rfl, rfl, rfl, h_t1⟩)) ea_nil)) rfl ⟨_, _, _, _, rfl, rfl, rfl, rfl, h_t2⟩)) ?_
  refine ss_new (A := (hD K ([] : (List (List Int))))) 2 sc__law_small.nd (ev_list ea_nil) (fun q3 => ?_)
  obtain ⟨t4, h_t4, hm⟩ := bsome hm
  obtain ⟨r5, h_r5, hm⟩ := bsome hm
  obtain ⟨t18, h_t18, hm⟩ := bsome hm
  refine ss_forMO 3 sc__law_small.nd (fun s7 => [some (rA a_purse), some (rp K (t2.1 : (List Int))), some (rA q3), none, none, none]) (fun s7 => (q3, (hD K (s7.1 : (List (List Int))))) :: (a_purse, (hPurse K s7.2)) :: Mr) _ h_t18 (er_O1 T.z_range (ev_call1 1 (ok__law_draw T) (hr.mono (by decide)) (ea_cons (ev_var 0 rfl) (ea_cons ev_int ea_nil)) rfl ⟨_, _, _, _, rfl, rfl, rfl, rfl, h_t4⟩) h_r5) (.keep (.keep (.keep (.drop (.drop (.drop (.nil))))))) (.refl _) (fun s7 y6 s' hy hm => ?_) ?_
  · obtain ⟨t8, h_t8, hm⟩ := bsome hm
    obtain ⟨r9, h_r9, hm⟩ := bsome hm
    obtain ⟨t14, h_t14, hm⟩ := bsome hm
    refine ss_lcO 4 5 sc__law_small.nd  h_t14 (rp K) (fun s11 => (q3, (hD K (s7.1 : (List (List Int))))) :: (a_purse, (hPurse K s11)) :: Mr) (er_O1 T.z_range (ev_add ev_int (ev_call1 1 (ok__law_draw T) (hr.mono (by decide)) (ea_cons (ev_var 0 rfl) (ea_cons ev_int ea_nil)) rfl ⟨_, _, _, _, rfl, rfl, rfl, rfl, h_t8⟩)) h_r9) (show blkC ["purse", "members", "sets", "k", "row", "j"] (defScope (topS 15)) _ _ = true by decide +kernel) (fun s11 y10 u Mx hy hu => by obtain ⟨t12, h_t12, hu⟩ := bsome hu; obtain ⟨t13, h_t13, hu⟩ := bsome hu; cases hu; exact ⟨_, fun s H0 C cl fp => ec_all (ev_ixLD (ev_var 1 rfl) (ev_call1 1 (ok__law_draw T) (hr.mono (by decide)) (ea_cons (ev_var 0 rfl) (ea_cons (ev_lenLD T.z_len (ev_var 1 rfl) isl_fr) ea_nil)) rfl ⟨_, _, _, _, rfl, rfl, rfl, rfl, h_t12⟩) isl_fr h_t13)⟩) (fun q15 => ?_)
    refine SS.freeze 4 ?_ rfl
    obtain ⟨t16, h_t16, hm⟩ := bsome hm
    obtain ⟨t17, h_t17, hm⟩ := bsome hm
    refine ss_expr (ev_appO (α := (List Int)) 0 (ev_var 2 rfl) (ev_fr (ev_sortedSetI T.z_sorted T.z_set (ev_var 4 rfl) isl_fr h_t16)) ⟨_, rfl⟩ rfl h_t17) ?_
    cases hm
    exact ss_endW (.keep (.keep (.keep (.drop (.drop (.drop (.nil))))))) (.cons₂ _ (.cons₂ _ (.refl _)))
  cases hm
  exact ss_ret (ev_own 2 0 rfl rfl) (.cons₂ _ (.refl _)) q
theorem ok__law_arbitrary (T : Tops K mg base tb_in_length_order) : Def P w K mg base "_law_arbitrary" 2 ["purse", "members", "count"] (c__law_arbitrary K) := by
  refine Def.of T.s__law_arbitrary sc__law_arbitrary (fun _ _ _ _ _ _ us hl => match us, hl with | [_, _, _], _ => rfl) (fun Rs M0 M1 r ⟨_, _, _, _, _, e, _⟩ => by rw [e]; rfl) (fun f cdv A outer s H E Q Rs M0 M1 r Mr F hr hc q => ?_)
  obtain ⟨a_purse, purse, members, count, res, rfl, rfl, rfl, rfl, hm⟩ := hc
  unfold m__law_arbitrary at hm
  refine ss_new (A := (hD K ([] : (List (List Int))))) 3 sc__law_arbitrary.nd (ev_list ea_nil) (fun q1 => ?_)
  obtain ⟨r2, h_r2, hm⟩ := bsome hm
  obtain ⟨t15, h_t15, hm⟩ := bsome hm
  refine ss_forMO 4 sc__law_arbitrary.nd (fun s4 => [some (rA a_purse), some (rp K (members : (List Int))), some (rI count), some (rA q1), none, none, none]) (fun s4 => (q1, (hD K (s4.1 : (List (List Int))))) :: (a_purse, (hPurse K s4.2)) :: Mr) _ h_t15 (er_O1 T.z_range (ev_var 2 rfl) h_r2) (.keep (.keep (.keep (.keep (.drop (.drop (.drop (.nil)))))))) (.refl _) (fun s4 y3 s' hy hm => ?_) ?_
  · obtain ⟨t5, h_t5, hm⟩ := bsome hm
    obtain ⟨t6, h_t6, hm⟩ := bsome hm
    refine ss_set (R := (rI t6.1)) 5 sc__law_arbitrary.nd (ev_call1 1 (ok__law_draw T) (hr.mono (by decide)) (ea_cons (ev_var 0 rfl) (ea_cons (ev_shlO ev_int (ev_lenLD T.z_len (ev_var 1 rfl) isl_fr) h_t5) ea_nil)) rfl ⟨_, _, _, _, rfl, rfl, rfl, rfl, h_t6⟩) ?_
    obtain ⟨r7, h_r7, hm⟩ := bsome hm
    obtain ⟨t13, h_t13, hm⟩ := bsome hm
    obtain ⟨t14, h_t14, hm⟩ := bsome hm
    refine ss_expr (ev_appO (α := (List Int)) 0 (ev_var 3 rfl) (ev_fr (ev_lcO 6 sc__law_arbitrary.nd  h_t13 (rp K) (fun s9 => (q1, (hD K (s4.1 : (List (List Int))))) :: (a_purse, (hPurse K t6.2)) :: Mr) (er_O1 T.z_range (ev_lenLD T.z_len (ev_var 1 rfl) isl_fr) h_r7) (show blkC ["purse", "members", "count", "sets", "k", "mask", "j"] (defScope (topS 16)) _ _ = true by decide +kernel) (fun s9 y8 u Mx hy hu => by obtain ⟨t11, h_t11, hu⟩ := bsome hu; by_cases hk : (decide ((Builtin.bitAnd t11 (1 : Int)) ≠ 0)) = true; (· (rw [if_pos hk] at hu; obtain ⟨t12, h_t12, hu⟩ := bsome hu; cases hu; exact ⟨_, fun s H0 C cl fp => ec_if (et_int (ev_and (ev_shrO (ev_var 5 rfl) (ev_var 6 rfl) h_t11) ev_int)) (fun _ => ⟨_, rfl, (ev_ixLD (ev_var 1 rfl) (ev_var 6 rfl) isl_fr h_t12)⟩) (fun hn => absurd hk (ne_t hn))⟩)); (· (rw [if_neg hk] at hu; cases hu; exact ⟨_, fun s H0 C cl fp => ec_if (et_int (ev_and (ev_shrO (ev_var 5 rfl) (ev_var 6 rfl) h_t11) ev_int)) (fun hn => absurd hn hk) (fun _ => ⟨rfl, rfl⟩)⟩))))) ⟨_, rfl⟩ rfl h_t14) ?_
    cases hm
    exact ss_endW (.keep (.keep (.keep (.keep (.drop (.drop (.drop (.nil)))))))) (.cons₂ _ (.cons₂ _ (.refl _)))
  cases hm
  exact ss_ret (ev_own 3 0 rfl rfl) (.cons₂ _ (.refl _)) q
theorem ok__law_groups (T : Tops K mg base tb_in_length_order) : Def P w K mg base "_law_groups" 2 ["purse"] (c__law_groups K) := by
  refine Def.of T.s__law_groups sc__law_groups (fun _ _ _ _ _ _ us hl => match us, hl with | [_], _ => rfl) (fun Rs M0 M1 r ⟨_, _, _, e, _⟩ => by rw [e]; rfl) (fun f cdv A outer s H E Q Rs M0 M1 r Mr F hr hc q => ?_)
  obtain ⟨a_purse, purse, res, rfl, rfl, rfl, rfl, hm⟩ := hc
  unfold m__law_groups at hm
  refine ss_new (A := (hD K (((List.range 12).map Int.ofNat) : (List Int)))) 1 sc__law_groups.nd (ev_listRg1 T.z_list T.z_range ev_int (by decide) (by decide)) (fun q1 => ?_)
  refine ss_new (A := (hD K ([] : (List (List Int))))) 2 sc__law_groups.nd (ev_list ea_nil) (fun q2 => ?_)
  obtain ⟨t3, h_t3, hm⟩ := bsome hm
  obtain ⟨r4, h_r4, hm⟩ := bsome hm
  obtain ⟨t17, h_t17, hm⟩ := bsome hm
  refine ss_forMO 3 sc__law_groups.nd (fun s6 => [some (rA a_purse), some (rA q1), some (rA q2), none, none, none]) (fun s6 => (q2, (hD K (s6.1 : (List (List Int))))) :: (q1, (hD K (s6.2.1 : (List Int)))) :: (a_purse, (hPurse K s6.2.2)) :: Mr) _ h_t17 (er_O1 T.z_range (ev_add ev_int (ev_call1 2 (ok__law_draw T) (hr.mono (by decide)) (ea_cons (ev_var 0 rfl) (ea_cons ev_int ea_nil)) rfl ⟨_, _, _, _, rfl, rfl, rfl, rfl, h_t3⟩)) h_r4) (.keep (.keep (.keep (.drop (.drop (.drop (.nil))))))) (.refl _) (fun s6 y5 s' hy hm => ?_) ?_
  · refine ss_new (A := (hD K ([] : (List Int)))) 4 sc__law_groups.nd (ev_list ea_nil) (fun q7 => ?_)
    obtain ⟨t8, h_t8, hm⟩ := bsome hm
    obtain ⟨r9, h_r9, hm⟩ := bsome hm
    obtain ⟨t15, h_t15, hm⟩ := bsome hm
    refine ss_forMO 5 sc__law_groups.nd (fun s11 => [some (rA a_purse), some (rA q1), some (rA q2), some (rI y5), some (rA q7), none]) (fun s11 => (q7, (hD K (s11.1 : (List Int)))) :: (q2, (hD K (s6.1 : (List (List Int))))) :: (q1, (hD K (s11.2.1 : (List Int)))) :: (a_purse, (hPurse K s11.2.2)) :: Mr) _ h_t15 (er_O1 T.z_range (ev_add ev_int (ev_call1 3 (ok__law_draw T) (hr.mono (by decide)) (ea_cons (ev_var 0 rfl) (ea_cons ev_int ea_nil)) rfl ⟨_, _, _, _, rfl, rfl, rfl, rfl, h_t8⟩)) h_r9) (.keep (.keep (.keep (.keep (.keep (.drop (.nil))))))) (.refl _) (fun s11 y10 s' hy hm => ?_) ?_
    · refine ss_ifE (et_gt (ev_lenLD T.z_len (ev_var 1 rfl) (isl_ow 2 rfl)) ev_int) (fun hk => ?_) (fun hk => ?_)
      · rw [if_pos hk] at hm
        obtain ⟨t12, h_t12, hm⟩ := bsome hm
        obtain ⟨t13, h_t13, hm⟩ := bsome hm
        obtain ⟨t14, h_t14, hm⟩ := bsome hm
        refine ss_expr (ev_appO (α := Int) 0 (ev_var 4 rfl) (ev_popAtO (α := Int) 2 (ev_var 1 rfl) (ev_call1 3 (ok__law_draw T) (hr.mono (by decide)) (ea_cons (ev_var 0 rfl) (ea_cons (ev_lenLD T.z_len (ev_var 1 rfl) (isl_ow 2 rfl)) ea_nil)) rfl ⟨_, _, _, _, rfl, rfl, rfl, rfl, h_t12⟩) ⟨_, rfl⟩ rfl h_t13) ⟨_, rfl⟩ rfl h_t14) ?_
        cases hm
        exact ss_endW (.keep (.keep (.keep (.keep (.keep (.drop (.nil))))))) (.cons₂ _ (.cons₂ _ (.cons₂ _ (.cons₂ _ (.refl _)))))
      · rw [if_neg (ne_t hk)] at hm
        cases hm
        exact ss_endW (.keep (.keep (.keep (.keep (.keep (.drop (.nil))))))) (.cons₂ _ (.cons₂ _ (.cons₂ _ (.cons₂ _ (.refl _)))))
    refine ss_ifE (et_gt (ev_lenLD T.z_len (ev_var 4 rfl) (isl_ow 0 rfl)) ev_int) (fun hk => ?_) (fun hk => ?_)
    · rw [if_pos hk] at hm
      obtain ⟨t16, h_t16, hm⟩ := bsome hm
      refine ss_expr (ev_appO (α := (List Int)) 1 (ev_var 2 rfl) (ev_fr (ev_sortedI T.z_sorted (ev_var 4 rfl) (isl_ow 0 rfl))) ⟨_, rfl⟩ rfl h_t16) ?_
      cases hm
      exact ss_endW (.keep (.keep (.keep (.drop (.drop (.drop (.nil))))))) (.cons _ (.cons₂ _ (.cons₂ _ (.cons₂ _ (.refl _)))))
    · rw [if_neg (ne_t hk)] at hm
      cases hm
      exact ss_endW (.keep (.keep (.keep (.drop (.drop (.drop (.nil))))))) (.cons _ (.cons₂ _ (.cons₂ _ (.cons₂ _ (.refl _)))))
  cases hm
  exact ss_ret (ev_own 2 0 rfl rfl) (.cons _ (.cons₂ _ (.refl _))) q
theorem ok__law_pairs (T : Tops K mg base tb_in_length_order) : Def P w K mg base "_law_pairs" 3 ["purse"] (c__law_pairs K) := by
  refine Def.of T.s__law_pairs sc__law_pairs (fun _ _ _ _ _ _ us hl => match us, hl with | [_], _ => rfl) (fun Rs M0 M1 r ⟨_, _, _, e, _⟩ => by rw [e]; rfl) (fun f cdv A outer s H E Q Rs M0 M1 r Mr F hr hc q => ?_)
  obtain ⟨a_purse, purse, res, rfl, rfl, rfl, rfl, hm⟩ := hc
  unfold m__law_pairs at hm
  obtain ⟨t1, h_t1, hm⟩ := bsome hm
  obtain ⟨t2, h_t2, hm⟩ := bsome hm
  refine ss_set (R := (rp K (t2.1 : (List Int)))) 1 sc__law_pairs.nd (ev_fr (ev_call1 0 (ok__law_members T) (hr.mono (by decide)) (ea_cons (ev_var 0 rfl) (ea_cons (ev_add ev_int (ev_call1 0 (ok__law_draw T) (hr.mono (by decide)) (ea_cons (ev_var 0 rfl) (ea_cons ev_int ea_nil)) rfl ⟨_, _, _, _, rfl, rfl, rfl, rfl, h_t1⟩)) ea_nil)) rfl ⟨_, _, _, _, rfl, rfl, rfl, rfl, h_t2⟩)) ?_
  refine ss_new (A := (hD K ([] : (List (List Int))))) 2 sc__law_pairs.nd (ev_list ea_nil) (fun q3 => ?_)
  obtain ⟨r4, h_r4, hm⟩ := bsome hm
  obtain ⟨t14, h_t14, hm⟩ := bsome hm
  refine ss_forMO 3 sc__law_pairs.nd (fun s6 => [some (rA a_purse), some (rp K (t2.1 : (List Int))), some (rA q3), none, none]) (fun s6 => (q3, (hD K (s6 : (List (List Int))))) :: (a_purse, (hPurse K t2.2)) :: Mr) _ h_t14 (er_O1 T.z_range (ev_lenLD T.z_len (ev_var 1 rfl) isl_fr) h_r4) (.keep (.keep (.keep (.drop (.drop (.nil)))))) (.refl _) (fun s6 y5 s' hy hm => ?_) ?_
  · obtain ⟨r7, h_r7, hm⟩ := bsome hm
    obtain ⟨t13, h_t13, hm⟩ := bsome hm
    refine ss_forMO 4 sc__law_pairs.nd (fun s9 => [some (rA a_purse), some (rp K (t2.1 : (List Int))), some (rA q3), some (rI y5), none]) (fun s9 => (q3, (hD K (s9 : (List (List Int))))) :: (a_purse, (hPurse K t2.2)) :: Mr) _ h_t13 (er_O1 T.z_range (ev_var 3 rfl) h_r7) (.keep (.keep (.keep (.keep (.drop (.nil)))))) (.refl _) (fun s9 y8 s' hy hm => ?_) ?_
    · obtain ⟨t10, h_t10, hm⟩ := bsome hm
      obtain ⟨t11, h_t11, hm⟩ := bsome hm
      obtain ⟨t12, h_t12, hm⟩ := bsome hm
      refine ss_expr (ev_appO (α := (List Int)) 0 (ev_var 2 rfl) (ev_fr (ev_list (ea_cons (ev_ixLD (ev_var 1 rfl) (ev_var 4 rfl) isl_fr h_t10) (ea_cons (ev_ixLD (ev_var 1 rfl) (ev_var 3 rfl) isl_fr h_t11) ea_nil)))) ⟨_, rfl⟩ rfl h_t12) ?_
      cases hm
      exact ss_endW (.keep (.keep (.keep (.keep (.drop (.nil)))))) (.cons₂ _ (.cons₂ _ (.refl _)))
    cases hm
    exact ss_endW (.keep (.keep (.keep (.drop (.drop (.nil)))))) (.cons₂ _ (.cons₂ _ (.refl _)))
  cases hm
  exact ss_ret (ev_own 2 0 rfl rfl) (.cons₂ _ (.refl _)) q
theorem ok__law_all_but_one (T : Tops K mg base tb_in_length_order) : Def P w K mg base "_law_all_but_one" 3 ["purse"] (c__law_all_but_one K) := by
  refine Def.of T.s__law_all_but_one sc__law_all_but_one (fun _ _ _ _ _ _ us hl => match us, hl with | [_], _ => rfl) (fun Rs M0 M1 r ⟨_, _, _, e, _⟩ => by rw [e]; rfl) (fun f cdv A outer s H E Q Rs M0 M1 r Mr F hr hc q => ?_)
  obtain ⟨a_purse, purse, res, rfl, rfl, rfl, rfl, hm⟩ := hc
  unfold m__law_all_but_one at hm
  obtain ⟨t1, h_t1, hm⟩ := bsome hm
  obtain ⟨t2, h_t2, hm⟩ := bsome hm
  refine ss_set (R := (rp K (t2.1 : (List Int)))) 1 sc__law_all_but_one.nd (ev_fr (ev_call1 0 (ok__law_members T) (hr.mono (by decide)) (ea_cons (ev_var 0 rfl) (ea_cons (ev_add ev_int (ev_call1 0 (ok__law_draw T) (hr.mono (by decide)) (ea_cons (ev_var 0 rfl) (ea_cons ev_int ea_nil)) rfl ⟨_, _, _, _, rfl, rfl, rfl, rfl, h_t1⟩)) ea_nil)) rfl ⟨_, _, _, _, rfl, rfl, rfl, rfl, h_t2⟩)) ?_
  obtain ⟨r3, h_r3, hm⟩ := bsome hm
  obtain ⟨t7, h_t7, hm⟩ := bsome hm
  cases hm
  exact ss_ret (ev_lcO 2 sc__law_all_but_one.nd  h_t7 (rp K) (fun s5 => (a_purse, (hPurse K t2.2)) :: Mr) (er_O1 T.z_range (ev_lenLD T.z_len (ev_var 1 rfl) isl_fr) h_r3) (show blkC ["purse", "members", "k"] (defScope (topS 19)) _ _ = true by decide +kernel) (fun s5 y4 u Mx hy hu => by obtain ⟨t6, h_t6, hu⟩ := bsome hu; cases hu; exact ⟨_, fun s H0 C cl fp => ec_all (ev_fr (ev_catO (ev_fr (ev_slD (ev_var 1 rfl) eo_none (eo_some (ev_var 2 rfl)) isl_fr)) (ev_fr (ev_slD (ev_var 1 rfl) (eo_some (ev_add (ev_var 2 rfl) ev_int)) eo_none isl_fr)) islh_fr islh_fr h_t6))⟩)) (.cons₂ _ (.refl _)) q
theorem ok__law_sets (T : Tops K mg base tb_in_length_order) : Def P w K mg base "_law_sets" 4 ["purse"] (c__law_sets K) := by
  refine Def.of T.s__law_sets sc__law_sets (fun _ _ _ _ _ _ us hl => match us, hl with | [_], _ => rfl) (fun Rs M0 M1 r ⟨_, _, _, e, _⟩ => by rw [e]; rfl) (fun f cdv A outer s H E Q Rs M0 M1 r Mr F hr hc q => ?_)
  obtain ⟨a_purse, purse, res, rfl, rfl, rfl, rfl, hm⟩ := hc
  unfold m__law_sets at hm
  obtain ⟨t1, h_t1, hm⟩ := bsome hm
  refine ss_set (R := (rI t1.1)) 1 sc__law_sets.nd (ev_call1 0 (ok__law_draw T) (hr.mono (by decide)) (ea_cons (ev_var 0 rfl) (ea_cons ev_int ea_nil)) rfl ⟨_, _, _, _, rfl, rfl, rfl, rfl, h_t1⟩) ?_
  refine ss_ifR (et_lt (ev_var 1 rfl) ev_int) (fun hk => ?_) (fun hk => ?_)
  · rw [if_pos hk] at hm
    obtain ⟨t2, h_t2, hm⟩ := bsome hm
    cases hm
    exact ss_ret (ev_call1 0 (ok__law_small T) (hr.mono (by decide)) (ea_cons (ev_var 0 rfl) ea_nil) rfl ⟨_, _, _, rfl, rfl, rfl, rfl, h_t2⟩) (.cons₂ _ (.refl _)) q
  · rw [if_neg (ne_t hk)] at hm
    refine ss_ifR (et_w (ew_or (et_eqS (α := Int) (ev_var 1 rfl) ev_int) (fun _ => (ew_or1 (et_eqS (α := Int) (ev_var 1 rfl) ev_int))))) (fun hk => ?_) (fun hk => ?_)
    · rw [if_pos hk] at hm
      obtain ⟨t3, h_t3, hm⟩ := bsome hm
      obtain ⟨t4, h_t4, hm⟩ := bsome hm
      refine ss_set (R := (rp K (t4.1 : (List Int)))) 2 sc__law_sets.nd (ev_fr (ev_call1 0 (ok__law_members T) (hr.mono (by decide)) (ea_cons (ev_var 0 rfl) (ea_cons (ev_call1 0 (ok__law_draw T) (hr.mono (by decide)) (ea_cons (ev_var 0 rfl) (ea_cons ev_int ea_nil)) rfl ⟨_, _, _, _, rfl, rfl, rfl, rfl, h_t3⟩) ea_nil)) rfl ⟨_, _, _, _, rfl, rfl, rfl, rfl, h_t4⟩)) ?_
      obtain ⟨t5, h_t5, hm⟩ := bsome hm
      obtain ⟨t6, h_t6, hm⟩ := bsome hm
      cases hm
      exact ss_ret (ev_call1 0 (ok__law_arbitrary T) (hr.mono (by decide)) (ea_cons (ev_var 0 rfl) (ea_cons (ev_var 2 rfl) (ea_cons (ev_call1 0 (ok__law_draw T) (hr.mono (by decide)) (ea_cons (ev_var 0 rfl) (ea_cons ev_int ea_nil)) rfl ⟨_, _, _, _, rfl, rfl, rfl, rfl, h_t5⟩) ea_nil))) rfl ⟨_, _, _, _, _, rfl, rfl, rfl, rfl, h_t6⟩) (.cons₂ _ (.refl _)) q
    · rw [if_neg (ne_t hk)] at hm
      refine ss_ifR (et_eqS (α := Int) (ev_var 1 rfl) ev_int) (fun hk => ?_) (fun hk => ?_)
      · rw [if_pos hk] at hm
        obtain ⟨t7, h_t7, hm⟩ := bsome hm
        cases hm
        exact ss_ret (ev_call1 0 (ok__law_groups T) (hr.mono (by decide)) (ea_cons (ev_var 0 rfl) ea_nil) rfl ⟨_, _, _, rfl, rfl, rfl, rfl, h_t7⟩) (.cons₂ _ (.refl _)) q
      · rw [if_neg (ne_t hk)] at hm
        refine ss_ifR (et_eqS (α := Int) (ev_var 1 rfl) ev_int) (fun hk => ?_) (fun hk => ?_)
        · rw [if_pos hk] at hm
          obtain ⟨t8, h_t8, hm⟩ := bsome hm
          cases hm
          exact ss_ret (ev_call1 0 (ok__law_pairs T) (hr.mono (by decide)) (ea_cons (ev_var 0 rfl) ea_nil) rfl ⟨_, _, _, rfl, rfl, rfl, rfl, h_t8⟩) (.cons₂ _ (.refl _)) q
        · rw [if_neg (ne_t hk)] at hm
          refine ss_ifR (et_eqS (α := Int) (ev_var 1 rfl) ev_int) (fun hk => ?_) (fun hk => ?_)
          · rw [if_pos hk] at hm
            obtain ⟨t9, h_t9, hm⟩ := bsome hm
            cases hm
            exact ss_ret (ev_call1 0 (ok__law_all_but_one T) (hr.mono (by decide)) (ea_cons (ev_var 0 rfl) ea_nil) rfl ⟨_, _, _, rfl, rfl, rfl, rfl, h_t9⟩) (.cons₂ _ (.refl _)) q
          · rw [if_neg (ne_t hk)] at hm
            obtain ⟨t10, h_t10, hm⟩ := bsome hm
            obtain ⟨t11, h_t11, hm⟩ := bsome hm
            cases hm
            exact ss_ret (ev_call1 0 (ok__law_arbitrary T) (hr.mono (by decide)) (ea_cons (ev_var 0 rfl) (ea_cons (ev_fr (ev_listRg1 T.z_list T.z_range ev_int (by decide) (by decide))) (ea_cons (ev_add ev_int (ev_call1 0 (ok__law_draw T) (hr.mono (by decide)) (ea_cons (ev_var 0 rfl) (ea_cons ev_int ea_nil)) rfl ⟨_, _, _, _, rfl, rfl, rfl, rfl, h_t10⟩)) ea_nil))) rfl ⟨_, _, _, _, _, rfl, rfl, rfl, rfl, h_t11⟩) (.cons₂ _ (.refl _)) q
theorem ok__law_mask (T : Tops K mg base tb_in_length_order) : Def P w K mg base "_law_mask" 1 ["members"] (c__law_mask K) := by
  refine Def.of T.s__law_mask sc__law_mask (fun _ _ _ _ _ _ us hl => match us, hl with | [_], _ => rfl) (fun Rs M0 M1 r ⟨_, _, e, _⟩ => by rw [e]; rfl) (fun f cdv A outer s H E Q Rs M0 M1 r Mr F hr hc q => ?_)
  obtain ⟨members, res, rfl, rfl, rfl, rfl, hm⟩ := hc
  unfold m__law_mask at hm
  refine ss_set (R := (rI (0 : Int))) 1 sc__law_mask.nd ev_int ?_
  obtain ⟨t4, h_t4, hm⟩ := bsome hm
  refine ss_forM 2 sc__law_mask.nd _ (rp K) (fun s2 => [some (rp K (members : (List Int))), some (rI s2), none]) (fun s2 => Mr) _ h_t4 (ev_var 0 rfl) isl_fr (fun _ => isl_fr) (.keep (.keep (.drop (.nil)))) (.refl _) (fun s2 y1 s' hy hm => ?_) ?_
  · obtain ⟨t3, h_t3, hm⟩ := bsome hm
    refine ss_set (R := (rI (Builtin.bitOr s2 t3))) 1 sc__law_mask.nd (ev_or (ev_var 1 rfl) (ev_shlO ev_int (ev_var 2 rfl) h_t3)) ?_
    cases hm
    exact ss_endW (.keep (.keep (.drop (.nil)))) (.refl _)
  cases hm
  exact ss_ret (ev_var 1 rfl) (.refl _) q
theorem ok__law_ordered (T : Tops K mg base tb_in_length_order) : Def P w K mg base "_law_ordered" 1 ["masks"] (c__law_ordered K) := by
  refine Def.of T.s__law_ordered sc__law_ordered (fun _ _ _ _ _ _ us hl => match us, hl with | [_], _ => rfl) (fun Rs M0 M1 r ⟨_, _, e, _⟩ => by rw [e]; rfl) (fun f cdv A outer s H E Q Rs M0 M1 r Mr F hr hc q => ?_)
  obtain ⟨masks, res, rfl, rfl, rfl, rfl, hm⟩ := hc
  unfold m__law_ordered at hm
  obtain ⟨t9, h_t9, hm⟩ := bsome hm
  refine ss_lc 1 2 sc__law_ordered.nd  h_t9 (rp K) (rp K) (fun s2 => Mr) (ev_var 0 rfl) (fun _ _ => isl_fr) (show blkC ["masks", "rows", "mask", "pair", "k", "row"] (defScope (topS 24)) _ _ = true by decide +kernel) (fun s2 y1 u Mx hy hu => by obtain ⟨r3, h_r3, hu⟩ := bsome hu; obtain ⟨t8, h_t8, hu⟩ := bsome hu; cases hu; exact ⟨_, fun s H0 C cl fp => ec_all (ev_fr (ev_lcO 4 sc__law_ordered.nd  h_t8 (rp K) (fun s5 => (Mr ++ Mx)) (er_O1 T.z_range ev_int h_r3) (show blkC ["masks", "rows", "mask", "pair", "k", "row"] { kind := ScopeKind.function, names := [(Str.ofString ".0", NameKind.local), (Str.ofString "mask", NameKind.cell), (Str.ofString "range", NameKind.globalImplicit)], isGenerator := false, isCoroutine := false } _ _ = true by decide +kernel) (fun s5 y4 u Mx hy hu => by obtain ⟨t7, h_t7, hu⟩ := bsome hu; by_cases hk : (decide ((Builtin.bitAnd t7 (1 : Int)) ≠ 0)) = true; (· (rw [if_pos hk] at hu; cases hu; exact ⟨_, fun s H0 C cl fp => ec_if (et_int (ev_and (ev_shrO (ev_var 2 rfl) (ev_var 4 rfl) h_t7) ev_int)) (fun _ => ⟨_, rfl, (ev_var 4 rfl)⟩) (fun hn => absurd hk (ne_t hn))⟩)); (· (rw [if_neg hk] at hu; cases hu; exact ⟨_, fun s H0 C cl fp => ec_if (et_int (ev_and (ev_shrO (ev_var 2 rfl) (ev_var 4 rfl) h_t7) ev_int)) (fun hn => absurd hn hk) (fun _ => ⟨rfl, rfl⟩)⟩)))))⟩) (fun q10 => ?_)
  refine SS.freeze 1 ?_ rfl
  cases hm
  exact ss_ret (ev_lc 3 sc__law_ordered.nd (f := fun (_ : Unit) y13 => some (some y13.x1, ())) (compM_pureN _ _) (rp K) (rp K) (fun _ => Mr) (ev_fr (ev_sortedD hr.units T.z_sorted (ev_fr (ev_lc 5 sc__law_ordered.nd (f := fun (_ : Unit) y11 => some (some (⟨((y11).length : Int), y11⟩ : (T2 Int (List Int))), ())) (compM_pureN _ _) (rp K) (rp K) (fun _ => Mr) (ev_var 1 rfl) (fun _ _ => isl_fr) (show blkC ["masks", "rows", "mask", "pair", "k", "row"] (defScope (topS 24)) _ _ = true by decide +kernel) (fun _ y11 u Mx hy hu => by cases hu; exact ⟨_, fun s H0 C cl fp => ec_all (ev_tup (ea_cons (ev_lenLD T.z_len (ev_var 5 rfl) isl_fr) (ea_cons (ev_var 5 rfl) ea_nil)))⟩))) isl_fr)) (fun _ _ => isl_fr) (show blkC ["masks", "rows", "mask", "pair", "k", "row"] (defScope (topS 24)) _ _ = true by decide +kernel) (fun _ y13 u Mx hy hu => by cases hu; exact ⟨_, fun s H0 C cl fp => ec_all (ev_ixT (ev_var 3 rfl) ev_int ist_fr rfl)⟩)) (.refl _) q
theorem ok__law_has_smaller (T : Tops K mg base tb_in_length_order) : Def P w K mg base "_law_has_smaller" 1 ["mask", "masks"] (c__law_has_smaller K) := by
  refine Def.of T.s__law_has_smaller sc__law_has_smaller (fun _ _ _ _ _ _ us hl => match us, hl with | [_, _], _ => rfl) (fun Rs M0 M1 r ⟨_, _, _, e, _⟩ => by rw [e]; rfl) (fun f cdv A outer s H E Q Rs M0 M1 r Mr F hr hc q => ?_)
  obtain ⟨mask, masks, res, rfl, rfl, rfl, rfl, hm⟩ := hc
  unfold m__law_has_smaller at hm
  obtain ⟨t3, h_t3, hm⟩ := bsome hm
  have hoLy1 := hm
  refine ss_forC 2 sc__law_has_smaller.nd _ (rp K) (fun s2 => [some (rI mask), some (rp K (masks : (List Int))), none]) (fun s2 => Mr) _ h_t3 (ev_var 1 rfl) isl_fr (fun _ => isl_fr) (.keep (.keep (.drop (.nil)))) (.refl _) (fun s2 y1 c hy hm hrLy1 => ?_) (fun t3' e => ?_)
  · refine ss_ifR (et_w (ew_and (et_neS (α := Int) (ev_var 2 rfl) (ev_var 0 rfl)) (fun _ => (ew_and1 (et_eqS (α := Int) (ev_and (ev_var 2 rfl) (ev_var 0 rfl)) (ev_var 2 rfl)))))) (fun hk => ?_) (fun hk => ?_)
    · rw [if_pos hk] at hm
      cases hm
      have eLy1 := hrLy1 _ rfl
      subst eLy1
      cases hoLy1
      exact ss_ret ev_bl (.refl _) q
    · rw [if_neg (ne_t hk)] at hm
      cases hm
      exact ss_turnW (.keep (.keep (.drop (.nil)))) (.refl _)
  subst e
  cases hm
  exact ss_ret ev_bl (.refl _) q
theorem ok__law_least (T : Tops K mg base tb_in_length_order) : Def P w K mg base "_law_least" 2 ["masks"] (c__law_least K) := by
  refine Def.of T.s__law_least sc__law_least (fun _ _ _ _ _ _ us hl => match us, hl with | [_], _ => rfl) (fun Rs M0 M1 r ⟨_, _, e, _⟩ => by rw [e]; rfl) (fun f cdv A outer s H E Q Rs M0 M1 r Mr F hr hc q => ?_)
  obtain ⟨masks, res, rfl, rfl, rfl, rfl, hm⟩ := hc
  unfold m__law_least at hm
  obtain ⟨t1, h_t1, hm⟩ := bsome hm
  obtain ⟨t6, h_t6, hm⟩ := bsome hm
  cases hm
  exact ss_ret (ev_lc 1 sc__law_least.nd  h_t6 (rp K) (rp K) (fun s3 => Mr) (ev_fr (ev_sortedSetI T.z_sorted T.z_set (ev_var 0 rfl) isl_fr h_t1)) (fun _ _ => isl_fr) (show blkC ["masks", "mask"] (defScope (topS 26)) _ _ = true by decide +kernel) (fun s3 y2 u Mx hy hu => by obtain ⟨t5, h_t5, hu⟩ := bsome hu; by_cases hk : (!t5) = true; (· (rw [if_pos hk] at hu; cases hu; exact ⟨_, fun s H0 C cl fp => ec_if (et_not (et_val (ev_call (ok__law_has_smaller T) (hr.mono (by decide)) (ea_cons (ev_var 1 rfl) (ea_cons (ev_var 0 rfl) ea_nil)) ⟨_, _, _, rfl, rfl, rfl, rfl, h_t5⟩))) (fun _ => ⟨_, rfl, (ev_var 1 rfl)⟩) (fun hn => absurd hk (ne_t hn))⟩)); (· (rw [if_neg hk] at hu; cases hu; exact ⟨_, fun s H0 C cl fp => ec_if (et_not (et_val (ev_call (ok__law_has_smaller T) (hr.mono (by decide)) (ea_cons (ev_var 1 rfl) (ea_cons (ev_var 0 rfl) ea_nil)) ⟨_, _, _, rfl, rfl, rfl, rfl, h_t5⟩))) (fun hn => absurd hn hk) (fun _ => ⟨rfl, rfl⟩)⟩)))) (.refl _) q
theorem ok__law_meets_all (T : Tops K mg base tb_in_length_order) : Def P w K mg base "_law_meets_all" 1 ["sub", "masks"] (c__law_meets_all K) := by
  refine Def.of T.s__law_meets_all sc__law_meets_all (fun _ _ _ _ _ _ us hl => match us, hl with | [_, _], _ => rfl) (fun Rs M0 M1 r ⟨_, _, _, e, _⟩ => by rw [e]; rfl) (fun f cdv A outer s H E Q Rs M0 M1 r Mr F hr hc q => ?_)
  obtain ⟨sub, masks, res, rfl, rfl, rfl, rfl, hm⟩ := hc
  unfold m__law_meets_all at hm
  obtain ⟨t3, h_t3, hm⟩ := bsome hm
  have hoLy1 := hm
  refine ss_forC 2 sc__law_meets_all.nd _ (rp K) (fun s2 => [some (rI sub), some (rp K (masks : (List Int))), none]) (fun s2 => Mr) _ h_t3 (ev_var 1 rfl) isl_fr (fun _ => isl_fr) (.keep (.keep (.drop (.nil)))) (.refl _) (fun s2 y1 c hy hm hrLy1 => ?_) (fun t3' e => ?_)
  · refine ss_ifR (et_eqS (α := Int) (ev_and (ev_var 0 rfl) (ev_var 2 rfl)) ev_int) (fun hk => ?_) (fun hk => ?_)
    · rw [if_pos hk] at hm
      cases hm
      have eLy1 := hrLy1 _ rfl
      subst eLy1
      cases hoLy1
      exact ss_ret ev_bl (.refl _) q
    · rw [if_neg (ne_t hk)] at hm
      cases hm
      exact ss_turnW (.keep (.keep (.drop (.nil)))) (.refl _)
  subst e
  cases hm
  exact ss_ret ev_bl (.refl _) q
theorem ok__law_is_least (T : Tops K mg base tb_in_length_order) : Def P w K mg base "_law_is_least" 1 ["number", "table", "size"] (c__law_is_least K) := by
  refine Def.of T.s__law_is_least sc__law_is_least (fun _ _ _ _ _ _ us hl => match us, hl with | [_, _, _], _ => rfl) (fun Rs M0 M1 r ⟨_, _, _, _, e, _⟩ => by rw [e]; rfl) (fun f cdv A outer s H E Q Rs M0 M1 r Mr F hr hc q => ?_)
  obtain ⟨number, table, size, res, rfl, rfl, rfl, rfl, hm⟩ := hc
  unfold m__law_is_least at hm
  obtain ⟨r1, h_r1, hm⟩ := bsome hm
  obtain ⟨t8, h_t8, hm⟩ := bsome hm
  have hoLy2 := hm
  refine ss_forCO 3 sc__law_is_least.nd (fun s3 => [some (rI number), some (rp K (table : (List Bool))), some (rI size), none]) (fun s3 => Mr) _ h_t8 (er_O1 T.z_range (ev_var 2 rfl) h_r1) (.keep (.keep (.keep (.drop (.nil))))) (.refl _) (fun s3 y2 c hy hm hrLy2 => ?_) (fun t8' e => ?_)
  · obtain ⟨t4, h_t4, hm⟩ := bsome hm
    obtain ⟨t7, h_t7, hm⟩ := bsome hm
    refine ss_ifR (et_w (ew_andC (t := t7) (M2 := Mr) (et_int (ev_and (ev_shrO (ev_var 0 rfl) (ev_var 3 rfl) h_t4) ev_int)) (fun hk => (by have h_t7 := h_t7; rw [if_pos hk] at h_t7; obtain ⟨t5, h_t5, h_t7⟩ := bsome h_t7; obtain ⟨t6, h_t6, h_t7⟩ := bsome h_t7; cases h_t7; exact (ew_and1 (et_val (ev_ixLD (ev_var 1 rfl) (ev_xor (ev_var 0 rfl) (ev_shlO ev_int (ev_var 3 rfl) h_t5)) isl_fr h_t6))))) (fun hk => (by have h_t7 := h_t7; rw [if_neg (ne_t hk)] at h_t7; cases h_t7; exact ⟨rfl, rfl⟩)))) (fun hk => ?_) (fun hk => ?_)
    · rw [if_pos hk] at hm
      cases hm
      have eLy2 := hrLy2 _ rfl
      subst eLy2
      cases hoLy2
      exact ss_ret ev_bl (.refl _) q
    · rw [if_neg (ne_t hk)] at hm
      cases hm
      exact ss_turnW (.keep (.keep (.keep (.drop (.nil))))) (.refl _)
  subst e
  cases hm
  exact ss_ret ev_bl (.refl _) q
theorem ok__law_hitting (T : Tops K mg base tb_in_length_order) : Def P w K mg base "_law_hitting" 2 ["masks"] (c__law_hitting K) := by
  refine Def.of T.s__law_hitting sc__law_hitting (fun _ _ _ _ _ _ us hl => match us, hl with | [_], _ => rfl) (fun Rs M0 M1 r ⟨_, _, e, _⟩ => by rw [e]; rfl) (fun f cdv A outer s H E Q Rs M0 M1 r Mr F hr hc q => ?_)
  obtain ⟨masks, res, rfl, rfl, rfl, rfl, hm⟩ := hc
  unfold m__law_hitting at hm
  refine ss_set (R := (rI (0 : Int))) 1 sc__law_hitting.nd ev_int ?_
  obtain ⟨t3, h_t3, hm⟩ := bsome hm
  refine ss_forM 2 sc__law_hitting.nd _ (rp K) (fun s2 => [some (rp K (masks : (List Int))), some (rI s2), none, none, none, none, none, none, none, none, none]) (fun s2 => Mr) _ h_t3 (ev_var 0 rfl) isl_fr (fun _ => isl_fr) (.keep (.keep (.drop (.drop (.drop (.drop (.drop (.drop (.drop (.drop (.drop (.nil)))))))))))) (.refl _) (fun s2 y1 s' hy hm => ?_) ?_
  · refine ss_set (R := (rI (Builtin.bitOr s2 y1))) 1 sc__law_hitting.nd (ev_or (ev_var 1 rfl) (ev_var 2 rfl)) ?_
    cases hm
    exact ss_endW (.keep (.keep (.drop (.drop (.drop (.drop (.drop (.drop (.drop (.drop (.drop (.nil)))))))))))) (.refl _)
  obtain ⟨r4, h_r4, hm⟩ := bsome hm
  obtain ⟨t9, h_t9, hm⟩ := bsome hm
  refine ss_lcO 3 9 sc__law_hitting.nd  h_t9 (rp K) (fun s6 => Mr) (er_O1 T.z_range ev_int h_r4) (show blkC ["masks", "union", "mask", "members", "subsets", "one", "table", "found", "number", "k", "sub"] (defScope (topS 29)) _ _ = true by decide +kernel) (fun s6 y5 u Mx hy hu => by obtain ⟨t8, h_t8, hu⟩ := bsome hu; by_cases hk : (decide ((Builtin.bitAnd t8 (1 : Int)) ≠ 0)) = true; (· (rw [if_pos hk] at hu; cases hu; exact ⟨_, fun s H0 C cl fp => ec_if (et_int (ev_and (ev_shrO (ev_var 1 rfl) (ev_var 9 rfl) h_t8) ev_int)) (fun _ => ⟨_, rfl, (ev_var 9 rfl)⟩) (fun hn => absurd hk (ne_t hn))⟩)); (· (rw [if_neg hk] at hu; cases hu; exact ⟨_, fun s H0 C cl fp => ec_if (et_int (ev_and (ev_shrO (ev_var 1 rfl) (ev_var 9 rfl) h_t8) ev_int)) (fun hn => absurd hn hk) (fun _ => ⟨rfl, rfl⟩)⟩))) (fun q10 => ?_)
  refine SS.freeze 3 ?_ rfl
  refine ss_set (R := (rp K ([(0 : Int)] : (List Int)))) 4 sc__law_hitting.nd (ev_fr (ev_list (ea_cons ev_int ea_nil))) ?_
  obtain ⟨t18, h_t18, hm⟩ := bsome hm
  refine ss_forM 5 sc__law_hitting.nd _ (rp K) (fun s12 => [some (rp K (masks : (List Int))), some (rI t3), none, some (rp K (t9.1 : (List Int))), some (rp K (s12 : (List Int))), none, none, none, none, none, none]) (fun s12 => Mr) _ h_t18 (ev_var 3 rfl) isl_fr (fun _ => isl_fr) (.keep (.keep (.drop (.keep (.keep (.drop (.drop (.drop (.drop (.drop (.drop (.nil)))))))))))) (.refl _) (fun s12 y11 s' hy hm => ?_) ?_
  · obtain ⟨t16, h_t16, hm⟩ := bsome hm
    obtain ⟨t17, h_t17, hm⟩ := bsome hm
    refine ss_set (R := (rp K (t17 : (List Int)))) 4 sc__law_hitting.nd (ev_fr (ev_catO (ev_var 4 rfl) (ev_fr (ev_lc 10 sc__law_hitting.nd  h_t16 (rp K) (rp K) (fun s14 => Mr) (ev_var 4 rfl) (fun _ _ => isl_fr) (show blkC ["masks", "union", "mask", "members", "subsets", "one", "table", "found", "number", "k", "sub"] (defScope (topS 29)) _ _ = true by decide +kernel) (fun s14 y13 u Mx hy hu => by obtain ⟨t15, h_t15, hu⟩ := bsome hu; cases hu; exact ⟨_, fun s H0 C cl fp => ec_all (ev_or (ev_var 10 rfl) (ev_shlO ev_int (ev_var 5 rfl) h_t15))⟩))) islh_fr islh_fr h_t17)) ?_
    cases hm
    exact ss_endW (.keep (.keep (.drop (.keep (.keep (.drop (.drop (.drop (.drop (.drop (.drop (.nil)))))))))))) (.refl _)
  obtain ⟨t22, h_t22, hm⟩ := bsome hm
  refine ss_lc 6 10 sc__law_hitting.nd  h_t22 (rp K) (rp K) (fun s20 => Mr) (ev_var 4 rfl) (fun _ _ => isl_fr) (show blkC ["masks", "union", "mask", "members", "subsets", "one", "table", "found", "number", "k", "sub"] (defScope (topS 29)) _ _ = true by decide +kernel) (fun s20 y19 u Mx hy hu => by obtain ⟨t21, h_t21, hu⟩ := bsome hu; cases hu; exact ⟨_, fun s H0 C cl fp => ec_all (ev_call (ok__law_meets_all T) (hr.mono (by decide)) (ea_cons (ev_var 10 rfl) (ea_cons (ev_var 0 rfl) ea_nil)) ⟨_, _, _, rfl, rfl, rfl, rfl, h_t21⟩)⟩) (fun q23 => ?_)
  refine SS.freeze 6 ?_ rfl
  refine ss_new (A := (hD K ([] : (List Int)))) 7 sc__law_hitting.nd (ev_list ea_nil) (fun q24 => ?_)
  obtain ⟨r25, h_r25, hm⟩ := bsome hm
  obtain ⟨t33, h_t33, hm⟩ := bsome hm
  refine ss_forMO 8 sc__law_hitting.nd (fun s27 => [some (rp K (masks : (List Int))), some (rI t3), none, some (rp K (t9.1 : (List Int))), some (rp K (t18 : (List Int))), none, some (rp K (t22.1 : (List Bool))), some (rA q24), none, none, none]) (fun s27 => (q24, (hD K (s27 : (List Int)))) :: Mr) _ h_t33 (er_O1 T.z_range (ev_lenLD T.z_len (ev_var 4 rfl) isl_fr) h_r25) (.keep (.keep (.drop (.keep (.keep (.drop (.keep (.keep (.drop (.drop (.drop (.nil)))))))))))) (.refl _) (fun s27 y26 s' hy hm => ?_) ?_
  · obtain ⟨t28, h_t28, hm⟩ := bsome hm
    obtain ⟨t30, h_t30, hm⟩ := bsome hm
    refine ss_ifE (et_w (ew_andC (t := t30) (M2 := (q24, (hD K (s27 : (List Int)))) :: Mr) (et_val (ev_ixLD (ev_var 6 rfl) (ev_var 8 rfl) isl_fr h_t28)) (fun hk => (by have h_t30 := h_t30; rw [if_pos hk] at h_t30; obtain ⟨t29, h_t29, h_t30⟩ := bsome h_t30; cases h_t30; exact (ew_and1 (et_val (ev_call (ok__law_is_least T) (hr.mono (by decide)) (ea_cons (ev_var 8 rfl) (ea_cons (ev_var 6 rfl) (ea_cons (ev_lenLD T.z_len (ev_var 3 rfl) isl_fr) ea_nil))) ⟨_, _, _, _, rfl, rfl, rfl, rfl, h_t29⟩))))) (fun hk => (by have h_t30 := h_t30; rw [if_neg (ne_t hk)] at h_t30; cases h_t30; exact ⟨rfl, rfl⟩)))) (fun hk => ?_) (fun hk => ?_)
    · rw [if_pos hk] at hm
      obtain ⟨t31, h_t31, hm⟩ := bsome hm
      obtain ⟨t32, h_t32, hm⟩ := bsome hm
      refine ss_expr (ev_appO (α := Int) 0 (ev_var 7 rfl) (ev_ixLD (ev_var 4 rfl) (ev_var 8 rfl) isl_fr h_t31) ⟨_, rfl⟩ rfl h_t32) ?_
      cases hm
      exact ss_endW (.keep (.keep (.drop (.keep (.keep (.drop (.keep (.keep (.drop (.drop (.drop (.nil)))))))))))) (.cons₂ _ (.refl _))
    · rw [if_neg (ne_t hk)] at hm
      cases hm
      exact ss_endW (.keep (.keep (.drop (.keep (.keep (.drop (.keep (.keep (.drop (.drop (.drop (.nil)))))))))))) (.cons₂ _ (.refl _))
  cases hm
  exact ss_ret (ev_own 7 0 rfl rfl) (.refl _) q
theorem ok_distinct (T : Tops K mg base tb_in_length_order) : Def P w K mg base "distinct" 1 ["facts"] (c_distinct K) := by
  refine Def.of T.s_distinct sc_distinct (fun _ _ _ _ _ _ us hl => match us, hl with | [_], _ => rfl) (fun Rs M0 M1 r ⟨_, _, e, _⟩ => by rw [e]; rfl) (fun f cdv A outer s H E Q Rs M0 M1 r Mr F hr hc q => ?_)
  obtain ⟨facts, res, rfl, rfl, rfl, rfl, hm⟩ := hc
  unfold m_distinct at hm
  obtain ⟨t1, h_t1, hm⟩ := bsome hm
  cases hm
  exact ss_ret (ev_sortedSetI T.z_sorted T.z_set (ev_var 0 rfl) isl_fr h_t1) (.refl _) q
theorem ok_contains_one (T : Tops K mg base tb_in_length_order) : Def P w K mg base "contains_one" 1 ["mask", "others"] (c_contains_one K) := by
  refine Def.of T.s_contains_one sc_contains_one (fun _ _ _ _ _ _ us hl => match us, hl with | [_, _], _ => rfl) (fun Rs M0 M1 r ⟨_, _, _, _, e, _⟩ => by rw [e]; rfl) (fun f cdv A outer s H E Q Rs M0 M1 r Mr F hr hc q => ?_)
  obtain ⟨mask, a_others, others, res, rfl, rfl, rfl, rfl, hm⟩ := hc
  unfold m_contains_one at hm
  obtain ⟨t3, h_t3, hm⟩ := bsome hm
  have hoLy1 := hm
  refine ss_forC 2 sc_contains_one.nd _ (rp K) (fun s2 => [some (rI mask), some (rA a_others), none]) (fun s2 => (a_others, (hD K (others : (List Int)))) :: Mr) _ h_t3 (ev_var 1 rfl) (isl_ow 0 rfl) (fun _ => (isl_ow 0 rfl)) (.keep (.keep (.drop (.nil)))) (.refl _) (fun s2 y1 c hy hm hrLy1 => ?_) (fun t3' e => ?_)
  · refine ss_ifR (et_eqS (α := Int) (ev_and (ev_var 0 rfl) (ev_var 2 rfl)) (ev_var 2 rfl)) (fun hk => ?_) (fun hk => ?_)
    · rw [if_pos hk] at hm
      cases hm
      have eLy1 := hrLy1 _ rfl
      subst eLy1
      cases hoLy1
      exact ss_ret ev_bl (.cons₂ _ (.refl _)) q
    · rw [if_neg (ne_t hk)] at hm
      cases hm
      exact ss_turnW (.keep (.keep (.drop (.nil)))) (.cons₂ _ (.refl _))
  subst e
  cases hm
  exact ss_ret ev_bl (.cons₂ _ (.refl _)) q
theorem ok_least_masks (T : Tops K mg base tb_in_length_order) : Def P w K mg base "least_masks" 2 ["masks"] (c_least_masks K) := by
  refine Def.of T.s_least_masks sc_least_masks (fun _ _ _ _ _ _ us hl => match us, hl with | [_], _ => rfl) (fun Rs M0 M1 r ⟨_, _, e, _⟩ => by rw [e]; rfl) (fun f cdv A outer s H E Q Rs M0 M1 r Mr F hr hc q => ?_)
  obtain ⟨masks, res, rfl, rfl, rfl, rfl, hm⟩ := hc
  unfold m_least_masks at hm
  refine ss_new (A := (hD K ([] : (List Int)))) 1 sc_least_masks.nd (ev_list ea_nil) (fun q1 => ?_)
  obtain ⟨t2, h_t2, hm⟩ := bsome hm
  obtain ⟨t7, h_t7, hm⟩ := bsome hm
  refine ss_forM 2 sc_least_masks.nd _ (rp K) (fun s4 => [some (rp K (masks : (List Int))), some (rA q1), none]) (fun s4 => (q1, (hD K (s4 : (List Int)))) :: Mr) _ h_t7 (ev_fr (ev_call (ok_distinct T) (hr.mono (by decide)) (ea_cons (ev_var 0 rfl) ea_nil) ⟨_, _, rfl, rfl, rfl, rfl, h_t2⟩)) isl_fr (fun _ => isl_fr) (.keep (.keep (.drop (.nil)))) (.refl _) (fun s4 y3 s' hy hm => ?_) ?_
  · obtain ⟨t5, h_t5, hm⟩ := bsome hm
    refine ss_ifE (et_not (et_val (ev_call1 0 (ok_contains_one T) (hr.mono (by decide)) (ea_cons (ev_var 2 rfl) (ea_cons (ev_var 1 rfl) ea_nil)) rfl ⟨_, _, _, _, rfl, rfl, rfl, rfl, h_t5⟩))) (fun hk => ?_) (fun hk => ?_)
    · rw [if_pos hk] at hm
      obtain ⟨t6, h_t6, hm⟩ := bsome hm
      refine ss_expr (ev_appO (α := Int) 0 (ev_var 1 rfl) (ev_var 2 rfl) ⟨_, rfl⟩ rfl h_t6) ?_
      cases hm
      exact ss_endW (.keep (.keep (.drop (.nil)))) (.cons₂ _ (.refl _))
    · rw [if_neg (ne_t hk)] at hm
      cases hm
      exact ss_endW (.keep (.keep (.drop (.nil)))) (.cons₂ _ (.refl _))
  cases hm
  exact ss_ret (ev_own 1 0 rfl rfl) (.refl _) q
theorem ok_mask_of (T : Tops K mg base tb_in_length_order) : Def P w K mg base "mask_of" 1 ["numbers"] (c_mask_of K) := by
  refine Def.of T.s_mask_of sc_mask_of (fun _ _ _ _ _ _ us hl => match us, hl with | [_], _ => rfl) (fun Rs M0 M1 r ⟨_, _, e, _⟩ => by rw [e]; rfl) (fun f cdv A outer s H E Q Rs M0 M1 r Mr F hr hc q => ?_)
  obtain ⟨numbers, res, rfl, rfl, rfl, rfl, hm⟩ := hc
  unfold m_mask_of at hm
  refine ss_set (R := (rI (0 : Int))) 1 sc_mask_of.nd ev_int ?_
  obtain ⟨t4, h_t4, hm⟩ := bsome hm
  refine ss_forM 2 sc_mask_of.nd _ (rp K) (fun s2 => [some (rp K (numbers : (List Int))), some (rI s2), none]) (fun s2 => Mr) _ h_t4 (ev_var 0 rfl) isl_fr (fun _ => isl_fr) (.keep (.keep (.drop (.nil)))) (.refl _) (fun s2 y1 s' hy hm => ?_) ?_
  · obtain ⟨t3, h_t3, hm⟩ := bsome hm
    refine ss_set (R := (rI (Builtin.bitOr s2 t3))) 1 sc_mask_of.nd (ev_or (ev_var 1 rfl) (ev_shlO ev_int (ev_var 2 rfl) h_t3)) ?_
    cases hm
    exact ss_endW (.keep (.keep (.drop (.nil)))) (.refl _)
  cases hm
  exact ss_ret (ev_var 1 rfl) (.refl _) q
theorem ok_in_length_order (T : Tops K mg base tb_in_length_order) : Def P w K mg base "in_length_order" 1 ["lists"] (c_in_length_order K tb_in_length_order) := by
  refine Def.low (D := fun lists M0 M1 r => ∃ res, M0 = [(tb_in_length_order, (hTab "in_length_order.<locals>.<lambda>"))] ∧ M1 = [(tb_in_length_order, (hTab "in_length_order.<locals>.<lambda>"))] ∧ r = .new (hD K (res : (List (List Int)))) ∧ m_in_length_order lists = some res)
    T.s_in_length_order sc_in_length_order (fun _ _ _ _ _ _ us hl => match us, hl with | [_], _ => rfl) (fun Rs M0 M1 r ⟨lists, res, e, e1, e2, e3, e4⟩ => ⟨lists, e, res, e1, e2, e3, e4⟩) (fun f cdv hcdv A outer s H E Q xs M0 M1 r Mr F hr hc q => ?_)
  obtain ⟨c, rfl, TB⟩ := hcdv
  obtain ⟨res, rfl, rfl, rfl, hm⟩ := hc
  unfold m_in_length_order at hm
  cases hm
  exact ss_ret (ev_sortLen 0 TB rfl hr T.z_sorted T.z_len (ev_var 0 rfl) rfl) (List.Sublist.refl _) q
theorem ok_numbers_in (T : Tops K mg base tb_in_length_order) : Def P w K mg base "numbers_in" 1 ["mask"] (c_numbers_in K) := by
  refine Def.of T.s_numbers_in sc_numbers_in (fun _ _ _ _ _ _ us hl => match us, hl with | [_], _ => rfl) (fun Rs M0 M1 r ⟨_, _, e, _⟩ => by rw [e]; rfl) (fun f cdv A outer s H E Q Rs M0 M1 r Mr F hr hc q => ?_)
  obtain ⟨mask, res, rfl, rfl, rfl, rfl, hm⟩ := hc
  unfold m_numbers_in at hm
  obtain ⟨r1, h_r1, hm⟩ := bsome hm
  obtain ⟨t6, h_t6, hm⟩ := bsome hm
  cases hm
  exact ss_ret (ev_lcO 1 sc_numbers_in.nd  h_t6 (rp K) (fun s3 => Mr) (er_O1 T.z_range (ev_bits (ev_var 0 rfl)) h_r1) (show blkC ["mask", "number"] (defScope (topS 7)) _ _ = true by decide +kernel) (fun s3 y2 u Mx hy hu => by obtain ⟨t5, h_t5, hu⟩ := bsome hu; by_cases hk : (decide ((Builtin.bitAnd t5 (1 : Int)) ≠ 0)) = true; (· (rw [if_pos hk] at hu; cases hu; exact ⟨_, fun s H0 C cl fp => ec_if (et_int (ev_and (ev_shrO (ev_var 0 rfl) (ev_var 1 rfl) h_t5) ev_int)) (fun _ => ⟨_, rfl, (ev_var 1 rfl)⟩) (fun hn => absurd hk (ne_t hn))⟩)); (· (rw [if_neg hk] at hu; cases hu; exact ⟨_, fun s H0 C cl fp => ec_if (et_int (ev_and (ev_shrO (ev_var 0 rfl) (ev_var 1 rfl) h_t5) ev_int)) (fun hn => absurd hn hk) (fun _ => ⟨rfl, rfl⟩)⟩)))) (.refl _) q
theorem ok_least_only (T : Tops K mg base tb_in_length_order) : Def P w K mg base "least_only" 3 ["sets"] (c_least_only K tb_in_length_order) := by
  refine Def.of T.s_least_only sc_least_only (fun _ _ _ _ _ _ us hl => match us, hl with | [_], _ => rfl) (fun Rs M0 M1 r ⟨_, _, e, _⟩ => by rw [e]; rfl) (fun f cdv A outer s H E Q Rs M0 M1 r Mr F hr hc q => ?_)
  obtain ⟨sets, res, rfl, rfl, rfl, rfl, hm⟩ := hc
  unfold m_least_only at hm
  obtain ⟨t4, h_t4, hm⟩ := bsome hm
  obtain ⟨t5, h_t5, hm⟩ := bsome hm
  refine ss_set (R := (rp K (t5 : (List Int)))) 1 sc_least_only.nd (ev_fr (ev_call (ok_least_masks T) (hr.mono (by decide)) (ea_cons (ev_fr (ev_lc 2 sc_least_only.nd  h_t4 (rp K) (rp K) (fun s2 => (tb_in_length_order, (hTab "in_length_order.<locals>.<lambda>")) :: Mr) (ev_var 0 rfl) (fun _ _ => isl_fr) (show blkC ["sets", "masks", "numbers", "mask"] (defScope (topS 3)) _ _ = true by decide +kernel) (fun s2 y1 u Mx hy hu => by obtain ⟨t3, h_t3, hu⟩ := bsome hu; cases hu; exact ⟨_, fun s H0 C cl fp => ec_all (ev_call (ok_mask_of T) (hr.mono (by decide)) (ea_cons (ev_var 2 rfl) ea_nil) ⟨_, _, rfl, rfl, rfl, rfl, h_t3⟩)⟩))) ea_nil) ⟨_, _, rfl, rfl, rfl, rfl, h_t5⟩)) ?_
  obtain ⟨t9, h_t9, hm⟩ := bsome hm
  obtain ⟨t10, h_t10, hm⟩ := bsome hm
  cases hm
  exact ss_ret (ev_call1 0 (ok_in_length_order T) (hr.mono (by decide)) (ea_cons (ev_fr (ev_lc 3 sc_least_only.nd  h_t9 (rp K) (rp K) (fun s7 => (tb_in_length_order, (hTab "in_length_order.<locals>.<lambda>")) :: Mr) (ev_var 1 rfl) (fun _ _ => isl_fr) (show blkC ["sets", "masks", "numbers", "mask"] (defScope (topS 3)) _ _ = true by decide +kernel) (fun s7 y6 u Mx hy hu => by obtain ⟨t8, h_t8, hu⟩ := bsome hu; cases hu; exact ⟨_, fun s H0 C cl fp => ec_all (ev_fr (ev_call (ok_numbers_in T) (hr.mono (by decide)) (ea_cons (ev_var 3 rfl) ea_nil) ⟨_, _, rfl, rfl, rfl, rfl, h_t8⟩))⟩))) ea_nil) rfl ⟨_, _, rfl, rfl, rfl, rfl, h_t10⟩) (.cons₂ _ (.refl _)) q
theorem ok__law_same (T : Tops K mg base tb_in_length_order) : Def P w K mg base "_law_same" 1 ["told", "due"] (c__law_same K) := by
  refine Def.of T.s__law_same sc__law_same (fun _ _ _ _ _ _ us hl => match us, hl with | [_, _], _ => rfl) (fun Rs M0 M1 r ⟨_, _, _, e, _⟩ => by rw [e]; rfl) (fun f cdv A outer s H E Q Rs M0 M1 r Mr F hr hc q => ?_)
  obtain ⟨told, due, res, rfl, rfl, rfl, rfl, hm⟩ := hc
  unfold m__law_same at hm
  refine ss_ifR (et_w (ew_or (et_not (et_val (ev_isi (ans := true) T.z_isinstance T.z_list (ev_var 0 rfl) (tyx_list) (by decide +kernel)))) (fun _ => (ew_or1 (et_neS (α := Int) (ev_lenLD T.z_len (ev_var 0 rfl) isl_fr) (ev_lenLD T.z_len (ev_var 1 rfl) isl_fr)))))) (fun hk => ?_) (fun hk => ?_)
  · rw [if_pos hk] at hm
    cases hm
    exact ss_ret ev_bl (.refl _) q
  · rw [if_neg (ne_t hk)] at hm
    obtain ⟨r1, h_r1, hm⟩ := bsome hm
    obtain ⟨t11, h_t11, hm⟩ := bsome hm
    have hoLy2 := hm
    refine ss_forCO 2 sc__law_same.nd (fun s3 => [some (rp K (told : (List (List Int)))), some (rp K (due : (List (List Int)))), none, none]) (fun s3 => Mr) _ h_t11 (er_O1 T.z_range (ev_lenLD T.z_len (ev_var 1 rfl) isl_fr) h_r1) (.keep (.keep (.drop (.drop (.nil))))) (.refl _) (fun s3 y2 c hy hm hrLy2 => ?_) (fun t11' e => ?_)
    · obtain ⟨t4, h_t4, hm⟩ := bsome hm
      refine ss_ifR (et_not (et_val (ev_isi (ans := true) T.z_isinstance T.z_list (ev_ixLD (ev_var 0 rfl) (ev_var 2 rfl) isl_fr h_t4) (tyx_list) (by decide +kernel)))) (fun hk => ?_) (fun hk => ?_)
      · rw [if_pos hk] at hm
        cases hm
        have eLy2 := hrLy2 _ rfl
        subst eLy2
        cases hoLy2
        exact ss_ret ev_bl (.refl _) q
      · rw [if_neg (ne_t hk)] at hm
        obtain ⟨t5, h_t5, hm⟩ := bsome hm
        obtain ⟨t8, h_t8, hm⟩ := bsome hm
        have hoLy6 := hm
        refine ss_forC 3 sc__law_same.nd _ (rp K) (fun s7 => [some (rp K (told : (List (List Int)))), some (rp K (due : (List (List Int)))), some (rI y2), none]) (fun s7 => Mr) _ h_t8 (ev_ixLD (ev_var 0 rfl) (ev_var 2 rfl) isl_fr h_t5) isl_fr (fun _ => isl_fr) (.keep (.keep (.keep (.drop (.nil))))) (.refl _) (fun s7 y6 c hy hm hrLy6 => ?_) (fun t8' e => ?_)
        · refine ss_ifR (et_w (ew_or (et_not (et_val (ev_isi (ans := true) T.z_isinstance T.z_int (ev_var 3 rfl) (tyx_int) (by decide +kernel)))) (fun _ => (ew_or1 (et_val (ev_isi (ans := false) T.z_isinstance T.z_bool (ev_var 3 rfl) (tyx_int) (by decide +kernel))))))) (fun hk => ?_) (fun hk => ?_)
          · rw [if_pos hk] at hm
            cases hm
            have eLy6 := hrLy6 _ rfl
            subst eLy6
            cases hoLy6
            have eLy2 := hrLy2 _ rfl
            subst eLy2
            cases hoLy2
            exact ss_ret ev_bl (.refl _) q
          · rw [if_neg (ne_t hk)] at hm
            cases hm
            exact ss_turnW (.keep (.keep (.keep (.drop (.nil))))) (.refl _)
        subst e
        obtain ⟨t9, h_t9, hm⟩ := bsome hm
        obtain ⟨t10, h_t10, hm⟩ := bsome hm
        refine ss_ifR (et_neQ (α := (List Int)) hr.units (ev_ixLD (ev_var 0 rfl) (ev_var 2 rfl) isl_fr h_t9) (ev_ixLD (ev_var 1 rfl) (ev_var 2 rfl) isl_fr h_t10) (Safe.ok _) (Safe.ok _)) (fun hk => ?_) (fun hk => ?_)
        · rw [if_pos hk] at hm
          cases hm
          have eLy2 := hrLy2 _ rfl
          subst eLy2
          cases hoLy2
          exact ss_ret ev_bl (.refl _) q
        · rw [if_neg (ne_t hk)] at hm
          cases hm
          exact ss_turnW (.keep (.keep (.drop (.drop (.nil))))) (.refl _)
    subst e
    cases hm
    exact ss_ret ev_bl (.refl _) q
theorem ok_missing_table (T : Tops K mg base tb_in_length_order) : Def P w K mg base "missing_table" 1 ["masks"] (c_missing_table K) := by
  refine Def.of T.s_missing_table sc_missing_table (fun _ _ _ _ _ _ us hl => match us, hl with | [_], _ => rfl) (fun Rs M0 M1 r ⟨_, _, e, _⟩ => by rw [e]; rfl) (fun f cdv A outer s H E Q Rs M0 M1 r Mr F hr hc q => ?_)
  obtain ⟨masks, res, rfl, rfl, rfl, rfl, hm⟩ := hc
  unfold m_missing_table at hm
  refine ss_set (R := (rI (maxI ((masks).map fun (y1 : Int) => ((Builtin.Int.intBits y1 : Nat) : Int)) 0))) 1 sc_missing_table.nd (ev_maxD hr.units T.z_max (ev_fr (ev_lc 4 sc_missing_table.nd (f := fun (_ : Unit) y1 => some (some ((Builtin.Int.intBits y1 : Nat) : Int), ())) (compM_pureN _ _) (rp K) (rp K) (fun _ => Mr) (ev_var 0 rfl) (fun _ _ => isl_fr) (show blkC ["masks", "width", "full", "missed", "mask", "number", "way"] (defScope (topS 5)) _ _ = true by decide +kernel) (fun _ y1 u Mx hy hu => by cases hu; exact ⟨_, fun s H0 C cl fp => ec_all (ev_bits (ev_var 4 rfl))⟩))) isl_fr ev_int) ?_
  obtain ⟨t3, h_t3, hm⟩ := bsome hm
  refine ss_set (R := (rI (t3 - (1 : Int)))) 2 sc_missing_table.nd (ev_sub (ev_shlO ev_int (ev_var 1 rfl) h_t3) ev_int) ?_
  obtain ⟨t4, h_t4, hm⟩ := bsome hm
  refine ss_new (A := (hD K (t4 : (List Bool)))) 3 sc_missing_table.nd (ev_repO (ev_fr (ev_list (ea_cons ev_bl ea_nil))) (ev_add (ev_var 2 rfl) ev_int) islh_fr h_t4) (fun q5 => ?_)
  obtain ⟨t9, h_t9, hm⟩ := bsome hm
  refine ss_forM 4 sc_missing_table.nd _ (rp K) (fun s7 => [some (rp K (masks : (List Int))), some (rI (maxI ((masks).map fun (y1 : Int) => ((Builtin.Int.intBits y1 : Nat) : Int)) 0)), some (rI (t3 - (1 : Int))), some (rA q5), none, none, none]) (fun s7 => (q5, (hD K (s7 : (List Bool)))) :: Mr) _ h_t9 (ev_var 0 rfl) isl_fr (fun _ => isl_fr) (.keep (.keep (.keep (.keep (.drop (.drop (.drop (.nil)))))))) (.refl _) (fun s7 y6 s' hy hm => ?_) ?_
  · obtain ⟨t8, h_t8, hm⟩ := bsome hm
    refine ss_setO 0 ev_bl (ev_var 3 rfl) (ev_xor (ev_var 2 rfl) (ev_var 4 rfl)) rfl h_t8 ?_
    cases hm
    exact ss_endW (.keep (.keep (.keep (.keep (.drop (.drop (.drop (.nil)))))))) (.cons₂ _ (.refl _))
  obtain ⟨r10, h_r10, hm⟩ := bsome hm
  obtain ⟨t22, h_t22, hm⟩ := bsome hm
  refine ss_forMO 5 sc_missing_table.nd (fun s12 => [some (rp K (masks : (List Int))), some (rI (maxI ((masks).map fun (y1 : Int) => ((Builtin.Int.intBits y1 : Nat) : Int)) 0)), some (rI (t3 - (1 : Int))), some (rA q5), none, none, none]) (fun s12 => (q5, (hD K (s12 : (List Bool)))) :: Mr) _ h_t22 (er_O1 T.z_range (ev_var 1 rfl) h_r10) (.keep (.keep (.keep (.keep (.drop (.drop (.drop (.nil)))))))) (.refl _) (fun s12 y11 s' hy hm => ?_) ?_
  · obtain ⟨r13, h_r13, hm⟩ := bsome hm
    obtain ⟨t21, h_t21, hm⟩ := bsome hm
    refine ss_forMO 6 sc_missing_table.nd (fun s15 => [some (rp K (masks : (List Int))), some (rI (maxI ((masks).map fun (y1 : Int) => ((Builtin.Int.intBits y1 : Nat) : Int)) 0)), some (rI (t3 - (1 : Int))), some (rA q5), none, some (rI y11), none]) (fun s15 => (q5, (hD K (s15 : (List Bool)))) :: Mr) _ h_t21 (er_O1 T.z_range (ev_add (ev_var 2 rfl) ev_int) h_r13) (.keep (.keep (.keep (.keep (.drop (.keep (.drop (.nil)))))))) (.refl _) (fun s15 y14 s' hy hm => ?_) ?_
    · obtain ⟨t16, h_t16, hm⟩ := bsome hm
      obtain ⟨t18, h_t18, hm⟩ := bsome hm
      refine ss_ifE (et_w (ew_andC (t := t18) (M2 := (q5, (hD K (s15 : (List Bool)))) :: Mr) (et_val (ev_ixLD (ev_var 3 rfl) (ev_var 6 rfl) (isl_ow 0 rfl) h_t16)) (fun hk => (by have h_t18 := h_t18; rw [if_pos hk] at h_t18; obtain ⟨t17, h_t17, h_t18⟩ := bsome h_t18; cases h_t18; exact (ew_and1 (et_int (ev_and (ev_shrO (ev_var 6 rfl) (ev_var 5 rfl) h_t17) ev_int))))) (fun hk => (by have h_t18 := h_t18; rw [if_neg (ne_t hk)] at h_t18; cases h_t18; exact ⟨rfl, rfl⟩)))) (fun hk => ?_) (fun hk => ?_)
      · rw [if_pos hk] at hm
        obtain ⟨t19, h_t19, hm⟩ := bsome hm
        obtain ⟨t20, h_t20, hm⟩ := bsome hm
        refine ss_setO 0 ev_bl (ev_var 3 rfl) (ev_xor (ev_var 6 rfl) (ev_shlO ev_int (ev_var 5 rfl) h_t19)) rfl h_t20 ?_
        cases hm
        exact ss_endW (.keep (.keep (.keep (.keep (.drop (.keep (.drop (.nil)))))))) (.cons₂ _ (.refl _))
      · rw [if_neg (ne_t hk)] at hm
        cases hm
        exact ss_endW (.keep (.keep (.keep (.keep (.drop (.keep (.drop (.nil)))))))) (.cons₂ _ (.refl _))
    cases hm
    exact ss_endW (.keep (.keep (.keep (.keep (.drop (.drop (.drop (.nil)))))))) (.cons₂ _ (.refl _))
  cases hm
  exact ss_ret (ev_own 3 0 rfl rfl) (.refl _) q
theorem ok_hitting_sets (T : Tops K mg base tb_in_length_order) : Def P w K mg base "hitting_sets" 3 ["sets"] (c_hitting_sets K tb_in_length_order) := by
  refine Def.of T.s_hitting_sets sc_hitting_sets (fun _ _ _ _ _ _ us hl => match us, hl with | [_], _ => rfl) (fun Rs M0 M1 r ⟨_, _, e, _⟩ => by rw [e]; rfl) (fun f cdv A outer s H E Q Rs M0 M1 r Mr F hr hc q => ?_)
  obtain ⟨sets, res, rfl, rfl, rfl, rfl, hm⟩ := hc
  unfold m_hitting_sets at hm
  obtain ⟨t4, h_t4, hm⟩ := bsome hm
  obtain ⟨t5, h_t5, hm⟩ := bsome hm
  refine ss_set (R := (rp K (t5 : (List Int)))) 1 sc_hitting_sets.nd (ev_fr (ev_call (ok_least_masks T) (hr.mono (by decide)) (ea_cons (ev_fr (ev_lc 5 sc_hitting_sets.nd  h_t4 (rp K) (rp K) (fun s2 => (tb_in_length_order, (hTab "in_length_order.<locals>.<lambda>")) :: Mr) (ev_var 0 rfl) (fun _ _ => isl_fr) (show blkC ["sets", "masks", "missed", "found", "way", "numbers", "number"] (defScope (topS 4)) _ _ = true by decide +kernel) (fun s2 y1 u Mx hy hu => by obtain ⟨t3, h_t3, hu⟩ := bsome hu; cases hu; exact ⟨_, fun s H0 C cl fp => ec_all (ev_call (ok_mask_of T) (hr.mono (by decide)) (ea_cons (ev_var 5 rfl) ea_nil) ⟨_, _, rfl, rfl, rfl, rfl, h_t3⟩)⟩))) ea_nil) ⟨_, _, rfl, rfl, rfl, rfl, h_t5⟩)) ?_
  obtain ⟨t6, h_t6, hm⟩ := bsome hm
  refine ss_set (R := (rp K (t6 : (List Bool)))) 2 sc_hitting_sets.nd (ev_fr (ev_call (ok_missing_table T) (hr.mono (by decide)) (ea_cons (ev_var 1 rfl) ea_nil) ⟨_, _, rfl, rfl, rfl, rfl, h_t6⟩)) ?_
  refine ss_new (A := (hD K ([] : (List (List Int))))) 3 sc_hitting_sets.nd (ev_list ea_nil) (fun q7 => ?_)
  obtain ⟨r8, h_r8, hm⟩ := bsome hm
  obtain ⟨t20, h_t20, hm⟩ := bsome hm
  refine ss_forMO 4 sc_hitting_sets.nd (fun s10 => [some (rp K (sets : (List (List Int)))), some (rp K (t5 : (List Int))), some (rp K (t6 : (List Bool))), some (rA q7), none, none, none]) (fun s10 => (q7, (hD K (s10 : (List (List Int))))) :: (tb_in_length_order, (hTab "in_length_order.<locals>.<lambda>")) :: Mr) _ h_t20 (er_O1 T.z_range (ev_lenLD T.z_len (ev_var 2 rfl) isl_fr) h_r8) (.keep (.keep (.keep (.keep (.drop (.drop (.drop (.nil)))))))) (.refl _) (fun s10 y9 s' hy hm => ?_) ?_
  · obtain ⟨t11, h_t11, hm⟩ := bsome hm
    refine ss_set (R := (rp K (t11 : (List Int)))) 5 sc_hitting_sets.nd (ev_fr (ev_call (ok_numbers_in T) (hr.mono (by decide)) (ea_cons (ev_var 4 rfl) ea_nil) ⟨_, _, rfl, rfl, rfl, rfl, h_t11⟩)) ?_
    obtain ⟨t12, h_t12, hm⟩ := bsome hm
    obtain ⟨t18, h_t18, hm⟩ := bsome hm
    refine ss_ifE (et_w (ew_andC (t := t18) (M2 := (q7, (hD K (s10 : (List (List Int))))) :: (tb_in_length_order, (hTab "in_length_order.<locals>.<lambda>")) :: Mr) (et_not (et_val (ev_ixLD (ev_var 2 rfl) (ev_var 4 rfl) isl_fr h_t12))) (fun hk => (by have h_t18 := h_t18; rw [if_pos hk] at h_t18; obtain ⟨t17, h_t17, h_t18⟩ := bsome h_t18; cases h_t18; exact (ew_and1 (et_val (ev_all T.z_all (ev_fr (ev_lc 6 sc_hitting_sets.nd  h_t17 (rp K) (rp K) (fun s14 => (q7, (hD K (s10 : (List (List Int))))) :: (tb_in_length_order, (hTab "in_length_order.<locals>.<lambda>")) :: Mr) (ev_var 5 rfl) (fun _ _ => isl_fr) (show blkC ["sets", "masks", "missed", "found", "way", "numbers", "number"] (defScope (topS 4)) _ _ = true by decide +kernel) (fun s14 y13 u Mx hy hu => by obtain ⟨t15, h_t15, hu⟩ := bsome hu; obtain ⟨t16, h_t16, hu⟩ := bsome hu; cases hu; exact ⟨_, fun s H0 C cl fp => ec_all (ev_ixLD (ev_var 2 rfl) (ev_xor (ev_var 4 rfl) (ev_shlO ev_int (ev_var 6 rfl) h_t15)) isl_fr h_t16)⟩))) isl_fr))))) (fun hk => (by have h_t18 := h_t18; rw [if_neg (ne_t hk)] at h_t18; cases h_t18; exact ⟨rfl, rfl⟩)))) (fun hk => ?_) (fun hk => ?_)
    · rw [if_pos hk] at hm
      obtain ⟨t19, h_t19, hm⟩ := bsome hm
      refine ss_expr (ev_appO (α := (List Int)) 0 (ev_var 3 rfl) (ev_var 5 rfl) ⟨_, rfl⟩ rfl h_t19) ?_
      cases hm
      exact ss_endW (.keep (.keep (.keep (.keep (.drop (.drop (.drop (.nil)))))))) (.cons₂ _ (.cons₂ _ (.refl _)))
    · rw [if_neg (ne_t hk)] at hm
      cases hm
      exact ss_endW (.keep (.keep (.keep (.keep (.drop (.drop (.drop (.nil)))))))) (.cons₂ _ (.cons₂ _ (.refl _)))
  refine SS.permM ?_ (perm_erase (k := 0) rfl)
  refine SS.freeze 3 ?_ rfl
  obtain ⟨t21, h_t21, hm⟩ := bsome hm
  cases hm
  exact ss_ret (ev_call1 0 (ok_in_length_order T) (hr.mono (by decide)) (ea_cons (ev_var 3 rfl) ea_nil) rfl ⟨_, _, rfl, rfl, rfl, rfl, h_t21⟩) (.cons₂ _ (.refl _)) q
theorem ok_law (T : Tops K mg base tb_in_length_order) {f : Addr} {fd : FuncData} (G : Fun K "law" "law" (topS 31) f fd) : FnOk P w K mg base CX0 5 f fd ["script"] (spOf (c_law K tb_in_length_order)) := by
  refine Fn.of G sc_law (fun Rs M0 M1 r ⟨_, _, e, _⟩ => by rw [e]; rfl) (fun f cdv A outer s H E Q Rs M0 M1 r Mr F hr hc q => ?_)
  obtain ⟨script, res, rfl, rfl, rfl, rfl, hm⟩ := hc
  unfold m_law at hm
  obtain ⟨t1, h_t1, hm⟩ := bsome hm
  refine ss_new (A := (hPurse K t1)) 1 sc_law.nd (ev_call (ok__law_purse T) (hr.mono (by decide)) (ea_cons (ev_var 0 rfl) ea_nil) ⟨_, _, rfl, rfl, rfl, rfl, h_t1⟩) (fun q2 => ?_)
  obtain ⟨t3, h_t3, hm⟩ := bsome hm
  obtain ⟨t4, h_t4, hm⟩ := bsome hm
  obtain ⟨t5, h_t5, hm⟩ := bsome hm
  refine ss_set (R := (rp K (t5.1 : (List (List Int))))) 2 sc_law.nd (ev_fr (ev_call1 0 (ok__law_arranged T) (hr.mono (by decide)) (ea_cons (ev_var 1 rfl) (ea_cons (ev_fr (ev_call1 0 (ok__law_with_more T) (hr.mono (by decide)) (ea_cons (ev_var 1 rfl) (ea_cons (ev_fr (ev_call1 0 (ok__law_sets T) (hr.mono (by decide)) (ea_cons (ev_var 1 rfl) ea_nil) rfl ⟨_, _, _, rfl, rfl, rfl, rfl, h_t3⟩)) ea_nil)) rfl ⟨_, _, _, _, rfl, rfl, rfl, rfl, h_t4⟩)) ea_nil)) rfl ⟨_, _, _, _, rfl, rfl, rfl, rfl, h_t5⟩)) ?_
  obtain ⟨t9, h_t9, hm⟩ := bsome hm
  refine ss_lc 3 8 sc_law.nd  h_t9 (rp K) (rp K) (fun s7 => (q2, (hPurse K t5.2)) :: (tb_in_length_order, (hTab "in_length_order.<locals>.<lambda>")) :: Mr) (ev_var 2 rfl) (fun _ _ => isl_fr) (show blkC ["script", "purse", "passed", "masks", "least", "hitting", "handed", "told", "one"] (defScope (topS 31)) _ _ = true by decide +kernel) (fun s7 y6 u Mx hy hu => by obtain ⟨t8, h_t8, hu⟩ := bsome hu; cases hu; exact ⟨_, fun s H0 C cl fp => ec_all (ev_call (ok__law_mask T) (hr.mono (by decide)) (ea_cons (ev_var 8 rfl) ea_nil) ⟨_, _, rfl, rfl, rfl, rfl, h_t8⟩)⟩) (fun q10 => ?_)
  refine SS.freeze 3 ?_ rfl
  obtain ⟨t11, h_t11, hm⟩ := bsome hm
  obtain ⟨t12, h_t12, hm⟩ := bsome hm
  refine ss_set (R := (rp K (t12 : (List (List Int))))) 4 sc_law.nd (ev_fr (ev_call (ok__law_ordered T) (hr.mono (by decide)) (ea_cons (ev_fr (ev_call (ok__law_least T) (hr.mono (by decide)) (ea_cons (ev_var 3 rfl) ea_nil) ⟨_, _, rfl, rfl, rfl, rfl, h_t11⟩)) ea_nil) ⟨_, _, rfl, rfl, rfl, rfl, h_t12⟩)) ?_
  obtain ⟨t13, h_t13, hm⟩ := bsome hm
  obtain ⟨t14, h_t14, hm⟩ := bsome hm
  refine ss_set (R := (rp K (t14 : (List (List Int))))) 5 sc_law.nd (ev_fr (ev_call (ok__law_ordered T) (hr.mono (by decide)) (ea_cons (ev_fr (ev_call (ok__law_hitting T) (hr.mono (by decide)) (ea_cons (ev_var 3 rfl) ea_nil) ⟨_, _, rfl, rfl, rfl, rfl, h_t13⟩)) ea_nil) ⟨_, _, rfl, rfl, rfl, rfl, h_t14⟩)) ?_
  refine ss_lc 6 8 sc_law.nd (f := fun (_ : Unit) y15 => some (some y15, ())) (compM_pureN _ _) (rp K) (rp K) (fun _ => (q2, (hPurse K t5.2)) :: (tb_in_length_order, (hTab "in_length_order.<locals>.<lambda>")) :: Mr) (ev_var 2 rfl) (fun _ _ => isl_fr) (show blkC ["script", "purse", "passed", "masks", "least", "hitting", "handed", "told", "one"] (defScope (topS 31)) _ _ = true by decide +kernel) (fun _ y15 u Mx hy hu => by cases hu; exact ⟨_, fun s H0 C cl fp => ec_all (ev_fr (ev_listL T.z_list (ev_var 8 rfl) isl_fr))⟩) (fun q17 => ?_)
  refine SS.freeze 6 ?_ rfl
  obtain ⟨t18, h_t18, hm⟩ := bsome hm
  refine ss_set (R := (rp K (t18 : (List (List Int))))) 7 sc_law.nd (ev_fr (ev_call1 1 (ok_least_only T) (hr.mono (by decide)) (ea_cons (ev_var 6 rfl) ea_nil) rfl ⟨_, _, rfl, rfl, rfl, rfl, h_t18⟩)) ?_
  obtain ⟨t19, h_t19, hm⟩ := bsome hm
  refine ss_ifR (et_w (ew_or (et_not (et_val (ev_call (ok__law_same T) (hr.mono (by decide)) (ea_cons (ev_var 7 rfl) (ea_cons (ev_var 4 rfl) ea_nil)) ⟨_, _, _, rfl, rfl, rfl, rfl, h_t19⟩))) (fun _ => (ew_or1 (et_neQ (α := (List (List Int))) hr.units (ev_var 6 rfl) (ev_var 2 rfl) (Safe.ok _) (Safe.ok _)))))) (fun hk => ?_) (fun hk => ?_)
  · rw [if_pos hk] at hm
    cases hm
    exact ss_ret ev_bl (.cons _ (.cons₂ _ (.refl _))) q
  · rw [if_neg (ne_t hk)] at hm
    obtain ⟨t20, h_t20, hm⟩ := bsome hm
    refine ss_set (R := (rp K (t20 : (List (List Int))))) 7 sc_law.nd (ev_fr (ev_call1 1 (ok_hitting_sets T) (hr.mono (by decide)) (ea_cons (ev_var 6 rfl) ea_nil) rfl ⟨_, _, rfl, rfl, rfl, rfl, h_t20⟩)) ?_
    obtain ⟨t21, h_t21, hm⟩ := bsome hm
    refine ss_ifR (et_w (ew_or (et_not (et_val (ev_call (ok__law_same T) (hr.mono (by decide)) (ea_cons (ev_var 7 rfl) (ea_cons (ev_var 5 rfl) ea_nil)) ⟨_, _, _, rfl, rfl, rfl, rfl, h_t21⟩))) (fun _ => (ew_or1 (et_neQ (α := (List (List Int))) hr.units (ev_var 6 rfl) (ev_var 2 rfl) (Safe.ok _) (Safe.ok _)))))) (fun hk => ?_) (fun hk => ?_)
    · rw [if_pos hk] at hm
      cases hm
      exact ss_ret ev_bl (.cons _ (.cons₂ _ (.refl _))) q
    · rw [if_neg (ne_t hk)] at hm
      obtain ⟨t24, h_t24, hm⟩ := bsome hm
      obtain ⟨t25, h_t25, hm⟩ := bsome hm
      refine ss_ifR (et_not (et_val (ev_call (ok__law_same T) (hr.mono (by decide)) (ea_cons (ev_fr (ev_call1 1 (ok_hitting_sets T) (hr.mono (by decide)) (ea_cons (ev_fr (ev_lc 8 sc_law.nd (f := fun (_ : Unit) y22 => some (some y22, ())) (compM_pureN _ _) (rp K) (rp K) (fun _ => (q2, (hPurse K t5.2)) :: (tb_in_length_order, (hTab "in_length_order.<locals>.<lambda>")) :: Mr) (ev_var 4 rfl) (fun _ _ => isl_fr) (show blkC ["script", "purse", "passed", "masks", "least", "hitting", "handed", "told", "one"] (defScope (topS 31)) _ _ = true by decide +kernel) (fun _ y22 u Mx hy hu => by cases hu; exact ⟨_, fun s H0 C cl fp => ec_all (ev_fr (ev_listL T.z_list (ev_var 8 rfl) isl_fr))⟩))) ea_nil) rfl ⟨_, _, rfl, rfl, rfl, rfl, h_t24⟩)) (ea_cons (ev_var 5 rfl) ea_nil)) ⟨_, _, _, rfl, rfl, rfl, rfl, h_t25⟩))) (fun hk => ?_) (fun hk => ?_)
      · rw [if_pos hk] at hm
        cases hm
        exact ss_ret ev_bl (.cons _ (.cons₂ _ (.refl _))) q
      · rw [if_neg (ne_t hk)] at hm
        obtain ⟨t28, h_t28, hm⟩ := bsome hm
        obtain ⟨t29, h_t29, hm⟩ := bsome hm
        refine ss_ifR (et_not (et_val (ev_call (ok__law_same T) (hr.mono (by decide)) (ea_cons (ev_fr (ev_call1 1 (ok_least_only T) (hr.mono (by decide)) (ea_cons (ev_fr (ev_lc 8 sc_law.nd (f := fun (_ : Unit) y26 => some (some y26, ())) (compM_pureN _ _) (rp K) (rp K) (fun _ => (q2, (hPurse K t5.2)) :: (tb_in_length_order, (hTab "in_length_order.<locals>.<lambda>")) :: Mr) (ev_var 5 rfl) (fun _ _ => isl_fr) (show blkC ["script", "purse", "passed", "masks", "least", "hitting", "handed", "told", "one"] (defScope (topS 31)) _ _ = true by decide +kernel) (fun _ y26 u Mx hy hu => by cases hu; exact ⟨_, fun s H0 C cl fp => ec_all (ev_fr (ev_listL T.z_list (ev_var 8 rfl) isl_fr))⟩))) ea_nil) rfl ⟨_, _, rfl, rfl, rfl, rfl, h_t28⟩)) (ea_cons (ev_var 5 rfl) ea_nil)) ⟨_, _, _, rfl, rfl, rfl, rfl, h_t29⟩))) (fun hk => ?_) (fun hk => ?_)
        · rw [if_pos hk] at hm
          cases hm
          exact ss_ret ev_bl (.cons _ (.cons₂ _ (.refl _))) q
        · rw [if_neg (ne_t hk)] at hm
          refine ss_ifR (et_gt (ev_lenLD T.z_len (ev_var 5 rfl) isl_fr) ev_int) (fun hk => ?_) (fun hk => ?_)
          · rw [if_pos hk] at hm
            cases hm
            exact ss_ret ev_bl (.cons _ (.cons₂ _ (.refl _))) q
          · rw [if_neg (ne_t hk)] at hm
            obtain ⟨t32, h_t32, hm⟩ := bsome hm
            obtain ⟨t33, h_t33, hm⟩ := bsome hm
            cases hm
            exact ss_ret (ev_call (ok__law_same T) (hr.mono (by decide)) (ea_cons (ev_fr (ev_call1 1 (ok_hitting_sets T) (hr.mono (by decide)) (ea_cons (ev_fr (ev_lc 8 sc_law.nd (f := fun (_ : Unit) y30 => some (some y30, ())) (compM_pureN _ _) (rp K) (rp K) (fun _ => (q2, (hPurse K t5.2)) :: (tb_in_length_order, (hTab "in_length_order.<locals>.<lambda>")) :: Mr) (ev_var 5 rfl) (fun _ _ => isl_fr) (show blkC ["script", "purse", "passed", "masks", "least", "hitting", "handed", "told", "one"] (defScope (topS 31)) _ _ = true by decide +kernel) (fun _ y30 u Mx hy hu => by cases hu; exact ⟨_, fun s H0 C cl fp => ec_all (ev_fr (ev_listL T.z_list (ev_var 8 rfl) isl_fr))⟩))) ea_nil) rfl ⟨_, _, rfl, rfl, rfl, rfl, h_t32⟩)) (ea_cons (ev_var 4 rfl) ea_nil)) ⟨_, _, _, rfl, rfl, rfl, rfl, h_t33⟩) (.cons _ (.cons₂ _ (.refl _))) q
end
end G32

namespace G32
open PySem PySem.Spec PyProof.Rows L2 Pw
open Dat (rp)
theorem all_mk {l : PySem.W.OpenLaw} {w : World} {K : PySem.W.Frag} {h : Heap} {mg : Str → Option Value} {fa cT P0 f0 f1 f2 f3 f4 f5 f6 f7 f8 f9 f10 f11 f12 f13 f14 f15 f16 f17 f18 f19 f20 f21 f22 f23 f24 f25 f26 f27 f28 : Addr} (X : K.In h) (G : h.Ns mainGlobals mg) (hfa : mg "law" = some (.ref fa))
    {od0 an0 : Option Addr} {sl0 : Array (Option Value)} {oc0 kV0 dc0 pm0 cd0 ct0 : Value}
    {od1 an1 : Option Addr} {sl1 : Array (Option Value)} {oc1 kV1 dc1 pm1 cd1 ct1 : Value}
    {od2 an2 : Option Addr} {sl2 : Array (Option Value)} {oc2 kV2 dc2 pm2 cd2 ct2 : Value}
    {od3 an3 : Option Addr} {sl3 : Array (Option Value)} {oc3 kV3 dc3 pm3 cd3 ct3 : Value}
    {od4 an4 : Option Addr} {sl4 : Array (Option Value)} {oc4 kV4 dc4 pm4 cd4 ct4 : Value}
    {od5 an5 : Option Addr} {sl5 : Array (Option Value)} {oc5 kV5 dc5 pm5 cd5 ct5 : Value}
    {od6 an6 : Option Addr} {sl6 : Array (Option Value)} {oc6 kV6 dc6 pm6 cd6 ct6 : Value}
    {od7 an7 : Option Addr} {sl7 : Array (Option Value)} {oc7 kV7 dc7 pm7 cd7 ct7 : Value}
    {od8 an8 : Option Addr} {sl8 : Array (Option Value)} {oc8 kV8 dc8 pm8 cd8 ct8 : Value}
    {od9 an9 : Option Addr} {sl9 : Array (Option Value)} {oc9 kV9 dc9 pm9 cd9 ct9 : Value}
    {od10 an10 : Option Addr} {sl10 : Array (Option Value)} {oc10 kV10 dc10 pm10 cd10 ct10 : Value}
    {od11 an11 : Option Addr} {sl11 : Array (Option Value)} {oc11 kV11 dc11 pm11 cd11 ct11 : Value}
    {od12 an12 : Option Addr} {sl12 : Array (Option Value)} {oc12 kV12 dc12 pm12 cd12 ct12 : Value}
    {od13 an13 : Option Addr} {sl13 : Array (Option Value)} {oc13 kV13 dc13 pm13 cd13 ct13 : Value}
    {od14 an14 : Option Addr} {sl14 : Array (Option Value)} {oc14 kV14 dc14 pm14 cd14 ct14 : Value}
    {od15 an15 : Option Addr} {sl15 : Array (Option Value)} {oc15 kV15 dc15 pm15 cd15 ct15 : Value}
    {od16 an16 : Option Addr} {sl16 : Array (Option Value)} {oc16 kV16 dc16 pm16 cd16 ct16 : Value}
    {od17 an17 : Option Addr} {sl17 : Array (Option Value)} {oc17 kV17 dc17 pm17 cd17 ct17 : Value}
    {od18 an18 : Option Addr} {sl18 : Array (Option Value)} {oc18 kV18 dc18 pm18 cd18 ct18 : Value}
    {od19 an19 : Option Addr} {sl19 : Array (Option Value)} {oc19 kV19 dc19 pm19 cd19 ct19 : Value}
    {od20 an20 : Option Addr} {sl20 : Array (Option Value)} {oc20 kV20 dc20 pm20 cd20 ct20 : Value}
    {od21 an21 : Option Addr} {sl21 : Array (Option Value)} {oc21 kV21 dc21 pm21 cd21 ct21 : Value}
    {od22 an22 : Option Addr} {sl22 : Array (Option Value)} {oc22 kV22 dc22 pm22 ct22 : Value}
    {od23 an23 : Option Addr} {sl23 : Array (Option Value)} {oc23 kV23 dc23 pm23 cd23 ct23 : Value}
    {od24 an24 : Option Addr} {sl24 : Array (Option Value)} {oc24 kV24 dc24 pm24 cd24 ct24 : Value}
    {od25 an25 : Option Addr} {sl25 : Array (Option Value)} {oc25 kV25 dc25 pm25 cd25 ct25 : Value}
    {od26 an26 : Option Addr} {sl26 : Array (Option Value)} {oc26 kV26 dc26 pm26 cd26 ct26 : Value}
    {od27 an27 : Option Addr} {sl27 : Array (Option Value)} {oc27 kV27 dc27 pm27 cd27 ct27 : Value}
    {od28 an28 : Option Addr} {sl28 : Array (Option Value)} {oc28 kV28 dc28 pm28 cd28 ct28 : Value}
    (a0 : PySem.W.nsIn K mainGlobals "_law_purse" = some (some (.ref f0))) (l0 : K.lookup f0 = some ⟨oc0, od0, .func (PySem.W.fnOf "_law_purse" "_law_purse" (defArgs (topS 12)) (defBody (topS 12)) (defScope (topS 12)) .none kV0 dc0 pm0 an0 cd0 ct0), sl0⟩) (c0 : PySem.W.codeIn K cd0 "_law_purse" = true) (k0 : PySem.W.keepIn K (.ref f0) = true)
    (a1 : PySem.W.nsIn K mainGlobals "_law_draw" = some (some (.ref f1))) (l1 : K.lookup f1 = some ⟨oc1, od1, .func (PySem.W.fnOf "_law_draw" "_law_draw" (defArgs (topS 13)) (defBody (topS 13)) (defScope (topS 13)) .none kV1 dc1 pm1 an1 cd1 ct1), sl1⟩) (c1 : PySem.W.codeIn K cd1 "_law_draw" = true) (k1 : PySem.W.keepIn K (.ref f1) = true)
    (a2 : PySem.W.nsIn K mainGlobals "_law_arranged" = some (some (.ref f2))) (l2 : K.lookup f2 = some ⟨oc2, od2, .func (PySem.W.fnOf "_law_arranged" "_law_arranged" (defArgs (topS 22)) (defBody (topS 22)) (defScope (topS 22)) .none kV2 dc2 pm2 an2 cd2 ct2), sl2⟩) (c2 : PySem.W.codeIn K cd2 "_law_arranged" = true) (k2 : PySem.W.keepIn K (.ref f2) = true)
    (a3 : PySem.W.nsIn K mainGlobals "_law_with_more" = some (some (.ref f3))) (l3 : K.lookup f3 = some ⟨oc3, od3, .func (PySem.W.fnOf "_law_with_more" "_law_with_more" (defArgs (topS 21)) (defBody (topS 21)) (defScope (topS 21)) .none kV3 dc3 pm3 an3 cd3 ct3), sl3⟩) (c3 : PySem.W.codeIn K cd3 "_law_with_more" = true) (k3 : PySem.W.keepIn K (.ref f3) = true)
    (a4 : PySem.W.nsIn K mainGlobals "_law_members" = some (some (.ref f4))) (l4 : K.lookup f4 = some ⟨oc4, od4, .func (PySem.W.fnOf "_law_members" "_law_members" (defArgs (topS 14)) (defBody (topS 14)) (defScope (topS 14)) .none kV4 dc4 pm4 an4 cd4 ct4), sl4⟩) (c4 : PySem.W.codeIn K cd4 "_law_members" = true) (k4 : PySem.W.keepIn K (.ref f4) = true)
    (a5 : PySem.W.nsIn K mainGlobals "_law_small" = some (some (.ref f5))) (l5 : K.lookup f5 = some ⟨oc5, od5, .func (PySem.W.fnOf "_law_small" "_law_small" (defArgs (topS 15)) (defBody (topS 15)) (defScope (topS 15)) .none kV5 dc5 pm5 an5 cd5 ct5), sl5⟩) (c5 : PySem.W.codeIn K cd5 "_law_small" = true) (k5 : PySem.W.keepIn K (.ref f5) = true)
    (a6 : PySem.W.nsIn K mainGlobals "_law_arbitrary" = some (some (.ref f6))) (l6 : K.lookup f6 = some ⟨oc6, od6, .func (PySem.W.fnOf "_law_arbitrary" "_law_arbitrary" (defArgs (topS 16)) (defBody (topS 16)) (defScope (topS 16)) .none kV6 dc6 pm6 an6 cd6 ct6), sl6⟩) (c6 : PySem.W.codeIn K cd6 "_law_arbitrary" = true) (k6 : PySem.W.keepIn K (.ref f6) = true)
    (a7 : PySem.W.nsIn K mainGlobals "_law_groups" = some (some (.ref f7))) (l7 : K.lookup f7 = some ⟨oc7, od7, .func (PySem.W.fnOf "_law_groups" "_law_groups" (defArgs (topS 17)) (defBody (topS 17)) (defScope (topS 17)) .none kV7 dc7 pm7 an7 cd7 ct7), sl7⟩) (c7 : PySem.W.codeIn K cd7 "_law_groups" = true) (k7 : PySem.W.keepIn K (.ref f7) = true)
    (a8 : PySem.W.nsIn K mainGlobals "_law_pairs" = some (some (.ref f8))) (l8 : K.lookup f8 = some ⟨oc8, od8, .func (PySem.W.fnOf "_law_pairs" "_law_pairs" (defArgs (topS 18)) (defBody (topS 18)) (defScope (topS 18)) .none kV8 dc8 pm8 an8 cd8 ct8), sl8⟩) (c8 : PySem.W.codeIn K cd8 "_law_pairs" = true) (k8 : PySem.W.keepIn K (.ref f8) = true)
    (a9 : PySem.W.nsIn K mainGlobals "_law_all_but_one" = some (some (.ref f9))) (l9 : K.lookup f9 = some ⟨oc9, od9, .func (PySem.W.fnOf "_law_all_but_one" "_law_all_but_one" (defArgs (topS 19)) (defBody (topS 19)) (defScope (topS 19)) .none kV9 dc9 pm9 an9 cd9 ct9), sl9⟩) (c9 : PySem.W.codeIn K cd9 "_law_all_but_one" = true) (k9 : PySem.W.keepIn K (.ref f9) = true)
    (a10 : PySem.W.nsIn K mainGlobals "_law_sets" = some (some (.ref f10))) (l10 : K.lookup f10 = some ⟨oc10, od10, .func (PySem.W.fnOf "_law_sets" "_law_sets" (defArgs (topS 20)) (defBody (topS 20)) (defScope (topS 20)) .none kV10 dc10 pm10 an10 cd10 ct10), sl10⟩) (c10 : PySem.W.codeIn K cd10 "_law_sets" = true) (k10 : PySem.W.keepIn K (.ref f10) = true)
    (a11 : PySem.W.nsIn K mainGlobals "_law_mask" = some (some (.ref f11))) (l11 : K.lookup f11 = some ⟨oc11, od11, .func (PySem.W.fnOf "_law_mask" "_law_mask" (defArgs (topS 23)) (defBody (topS 23)) (defScope (topS 23)) .none kV11 dc11 pm11 an11 cd11 ct11), sl11⟩) (c11 : PySem.W.codeIn K cd11 "_law_mask" = true) (k11 : PySem.W.keepIn K (.ref f11) = true)
    (a12 : PySem.W.nsIn K mainGlobals "_law_ordered" = some (some (.ref f12))) (l12 : K.lookup f12 = some ⟨oc12, od12, .func (PySem.W.fnOf "_law_ordered" "_law_ordered" (defArgs (topS 24)) (defBody (topS 24)) (defScope (topS 24)) .none kV12 dc12 pm12 an12 cd12 ct12), sl12⟩) (c12 : PySem.W.codeIn K cd12 "_law_ordered" = true) (k12 : PySem.W.keepIn K (.ref f12) = true)
    (a13 : PySem.W.nsIn K mainGlobals "_law_has_smaller" = some (some (.ref f13))) (l13 : K.lookup f13 = some ⟨oc13, od13, .func (PySem.W.fnOf "_law_has_smaller" "_law_has_smaller" (defArgs (topS 25)) (defBody (topS 25)) (defScope (topS 25)) .none kV13 dc13 pm13 an13 cd13 ct13), sl13⟩) (c13 : PySem.W.codeIn K cd13 "_law_has_smaller" = true) (k13 : PySem.W.keepIn K (.ref f13) = true)
    (a14 : PySem.W.nsIn K mainGlobals "_law_least" = some (some (.ref f14))) (l14 : K.lookup f14 = some ⟨oc14, od14, .func (PySem.W.fnOf "_law_least" "_law_least" (defArgs (topS 26)) (defBody (topS 26)) (defScope (topS 26)) .none kV14 dc14 pm14 an14 cd14 ct14), sl14⟩) (c14 : PySem.W.codeIn K cd14 "_law_least" = true) (k14 : PySem.W.keepIn K (.ref f14) = true)
    (a15 : PySem.W.nsIn K mainGlobals "_law_meets_all" = some (some (.ref f15))) (l15 : K.lookup f15 = some ⟨oc15, od15, .func (PySem.W.fnOf "_law_meets_all" "_law_meets_all" (defArgs (topS 27)) (defBody (topS 27)) (defScope (topS 27)) .none kV15 dc15 pm15 an15 cd15 ct15), sl15⟩) (c15 : PySem.W.codeIn K cd15 "_law_meets_all" = true) (k15 : PySem.W.keepIn K (.ref f15) = true)
    (a16 : PySem.W.nsIn K mainGlobals "_law_is_least" = some (some (.ref f16))) (l16 : K.lookup f16 = some ⟨oc16, od16, .func (PySem.W.fnOf "_law_is_least" "_law_is_least" (defArgs (topS 28)) (defBody (topS 28)) (defScope (topS 28)) .none kV16 dc16 pm16 an16 cd16 ct16), sl16⟩) (c16 : PySem.W.codeIn K cd16 "_law_is_least" = true) (k16 : PySem.W.keepIn K (.ref f16) = true)
    (a17 : PySem.W.nsIn K mainGlobals "_law_hitting" = some (some (.ref f17))) (l17 : K.lookup f17 = some ⟨oc17, od17, .func (PySem.W.fnOf "_law_hitting" "_law_hitting" (defArgs (topS 29)) (defBody (topS 29)) (defScope (topS 29)) .none kV17 dc17 pm17 an17 cd17 ct17), sl17⟩) (c17 : PySem.W.codeIn K cd17 "_law_hitting" = true) (k17 : PySem.W.keepIn K (.ref f17) = true)
    (a18 : PySem.W.nsIn K mainGlobals "distinct" = some (some (.ref f18))) (l18 : K.lookup f18 = some ⟨oc18, od18, .func (PySem.W.fnOf "distinct" "distinct" (defArgs (topS 1)) (defBody (topS 1)) (defScope (topS 1)) .none kV18 dc18 pm18 an18 cd18 ct18), sl18⟩) (c18 : PySem.W.codeIn K cd18 "distinct" = true) (k18 : PySem.W.keepIn K (.ref f18) = true)
    (a19 : PySem.W.nsIn K mainGlobals "contains_one" = some (some (.ref f19))) (l19 : K.lookup f19 = some ⟨oc19, od19, .func (PySem.W.fnOf "contains_one" "contains_one" (defArgs (topS 9)) (defBody (topS 9)) (defScope (topS 9)) .none kV19 dc19 pm19 an19 cd19 ct19), sl19⟩) (c19 : PySem.W.codeIn K cd19 "contains_one" = true) (k19 : PySem.W.keepIn K (.ref f19) = true)
    (a20 : PySem.W.nsIn K mainGlobals "least_masks" = some (some (.ref f20))) (l20 : K.lookup f20 = some ⟨oc20, od20, .func (PySem.W.fnOf "least_masks" "least_masks" (defArgs (topS 8)) (defBody (topS 8)) (defScope (topS 8)) .none kV20 dc20 pm20 an20 cd20 ct20), sl20⟩) (c20 : PySem.W.codeIn K cd20 "least_masks" = true) (k20 : PySem.W.keepIn K (.ref f20) = true)
    (a21 : PySem.W.nsIn K mainGlobals "mask_of" = some (some (.ref f21))) (l21 : K.lookup f21 = some ⟨oc21, od21, .func (PySem.W.fnOf "mask_of" "mask_of" (defArgs (topS 6)) (defBody (topS 6)) (defScope (topS 6)) .none kV21 dc21 pm21 an21 cd21 ct21), sl21⟩) (c21 : PySem.W.codeIn K cd21 "mask_of" = true) (k21 : PySem.W.keepIn K (.ref f21) = true)
    (a22 : PySem.W.nsIn K mainGlobals "in_length_order" = some (some (.ref f22))) (l22 : K.lookup f22 = some ⟨oc22, od22, .func (PySem.W.fnOf "in_length_order" "in_length_order" (defArgs (topS 10)) (defBody (topS 10)) (defScope (topS 10)) .none kV22 dc22 pm22 an22 (.ref cT) ct22), sl22⟩) (c22 : PySem.W.codeIn K (.ref cT) "in_length_order" = true) (k22 : PySem.W.keepIn K (.ref f22) = true)
    (a23 : PySem.W.nsIn K mainGlobals "numbers_in" = some (some (.ref f23))) (l23 : K.lookup f23 = some ⟨oc23, od23, .func (PySem.W.fnOf "numbers_in" "numbers_in" (defArgs (topS 7)) (defBody (topS 7)) (defScope (topS 7)) .none kV23 dc23 pm23 an23 cd23 ct23), sl23⟩) (c23 : PySem.W.codeIn K cd23 "numbers_in" = true) (k23 : PySem.W.keepIn K (.ref f23) = true)
    (a24 : PySem.W.nsIn K mainGlobals "least_only" = some (some (.ref f24))) (l24 : K.lookup f24 = some ⟨oc24, od24, .func (PySem.W.fnOf "least_only" "least_only" (defArgs (topS 3)) (defBody (topS 3)) (defScope (topS 3)) .none kV24 dc24 pm24 an24 cd24 ct24), sl24⟩) (c24 : PySem.W.codeIn K cd24 "least_only" = true) (k24 : PySem.W.keepIn K (.ref f24) = true)
    (a25 : PySem.W.nsIn K mainGlobals "_law_same" = some (some (.ref f25))) (l25 : K.lookup f25 = some ⟨oc25, od25, .func (PySem.W.fnOf "_law_same" "_law_same" (defArgs (topS 30)) (defBody (topS 30)) (defScope (topS 30)) .none kV25 dc25 pm25 an25 cd25 ct25), sl25⟩) (c25 : PySem.W.codeIn K cd25 "_law_same" = true) (k25 : PySem.W.keepIn K (.ref f25) = true)
    (a26 : PySem.W.nsIn K mainGlobals "missing_table" = some (some (.ref f26))) (l26 : K.lookup f26 = some ⟨oc26, od26, .func (PySem.W.fnOf "missing_table" "missing_table" (defArgs (topS 5)) (defBody (topS 5)) (defScope (topS 5)) .none kV26 dc26 pm26 an26 cd26 ct26), sl26⟩) (c26 : PySem.W.codeIn K cd26 "missing_table" = true) (k26 : PySem.W.keepIn K (.ref f26) = true)
    (a27 : PySem.W.nsIn K mainGlobals "hitting_sets" = some (some (.ref f27))) (l27 : K.lookup f27 = some ⟨oc27, od27, .func (PySem.W.fnOf "hitting_sets" "hitting_sets" (defArgs (topS 4)) (defBody (topS 4)) (defScope (topS 4)) .none kV27 dc27 pm27 an27 cd27 ct27), sl27⟩) (c27 : PySem.W.codeIn K cd27 "hitting_sets" = true) (k27 : PySem.W.keepIn K (.ref f27) = true)
    (a28 : PySem.W.nsIn K mainGlobals "law" = some (some (.ref f28))) (l28 : K.lookup f28 = some ⟨oc28, od28, .func (PySem.W.fnOf "law" "law" (defArgs (topS 31)) (defBody (topS 31)) (defScope (topS 31)) .none kV28 dc28 pm28 an28 cd28 ct28), sl28⟩) (c28 : PySem.W.codeIn K cd28 "law" = true) (k28 : PySem.W.keepIn K (.ref f28) = true)
    (z0 : PySem.W.nsIn K mainGlobals "abs" = some none) (z1 : PySem.W.nsIn K mainGlobals "all" = some none) (z2 : PySem.W.nsIn K mainGlobals "bool" = some none) (z3 : PySem.W.nsIn K mainGlobals "int" = some none) (z4 : PySem.W.nsIn K mainGlobals "isinstance" = some none) (z5 : PySem.W.nsIn K mainGlobals "len" = some none) (z6 : PySem.W.nsIn K mainGlobals "list" = some none) (z7 : PySem.W.nsIn K mainGlobals "max" = some none) (z8 : PySem.W.nsIn K mainGlobals "range" = some none) (z9 : PySem.W.nsIn K mainGlobals "set" = some none) (z10 : PySem.W.nsIn K mainGlobals "sorted" = some none)
    (hci : PySem.W.codeHdIn K cT P0 = true) (htab : h.get? P0 = some (PySem.W.tabObj #[])) (np : K.lookup P0 = none) :
    LamX.LawAtS l w K CX0 5 63 "script" mg fa h := by
  have e := hfa.symm.trans (PySem.W.mg_of X G a28)
  cases e
  refine ⟨PySem.W.fnOf "law" "law" (defArgs (topS 31)) (defBody (topS 31)) (defScope (topS 31)) .none kV28 dc28 pm28 an28 cd28 ct28, [(cT, P0)], Pw.spOf (c_law K P0), fun p hp => by rw [List.mem_singleton.mp hp]; exact htab, fun p hp => by rw [List.mem_singleton.mp hp]; exact np, fun p hp => by rw [List.mem_singleton.mp hp]; exact PySem.W.codeHd_of_K X hci, fun s v => .of_eq rfl, fun H a ns hl hb hT hS => ?_, fun base _ _ TB => ?_⟩
  · have hP := hT _ List.mem_cons_self
    exact ⟨_, _, _, _, [], noTab H P0, ⟨ns, true, rfl, rfl, rfl, rfl, law_ok ns hl hb⟩, noTab_held hP, .cons (rLs_of (noTab_seq hP hS) hl) .nil, fun v F' H' _ _ e => e⟩
  · have T : Tops K mg base P0 := ⟨PySem.W.mg_none_of X G z0, PySem.W.mg_none_of X G z1, PySem.W.mg_none_of X G z2, PySem.W.mg_none_of X G z3, PySem.W.mg_none_of X G z4, PySem.W.mg_none_of X G z5, PySem.W.mg_none_of X G z6, PySem.W.mg_none_of X G z7, PySem.W.mg_none_of X G z8, PySem.W.mg_none_of X G z9, PySem.W.mg_none_of X G z10, ⟨_, _, fun_mk l0 c0 k0, PySem.W.mg_of X G a0⟩, ⟨_, _, fun_mk l1 c1 k1, PySem.W.mg_of X G a1⟩, ⟨_, _, fun_mk l2 c2 k2, PySem.W.mg_of X G a2⟩, ⟨_, _, fun_mk l3 c3 k3, PySem.W.mg_of X G a3⟩, ⟨_, _, fun_mk l4 c4 k4, PySem.W.mg_of X G a4⟩, ⟨_, _, fun_mk l5 c5 k5, PySem.W.mg_of X G a5⟩, ⟨_, _, fun_mk l6 c6 k6, PySem.W.mg_of X G a6⟩, ⟨_, _, fun_mk l7 c7 k7, PySem.W.mg_of X G a7⟩, ⟨_, _, fun_mk l8 c8 k8, PySem.W.mg_of X G a8⟩, ⟨_, _, fun_mk l9 c9 k9, PySem.W.mg_of X G a9⟩, ⟨_, _, fun_mk l10 c10 k10, PySem.W.mg_of X G a10⟩, ⟨_, _, fun_mk l11 c11 k11, PySem.W.mg_of X G a11⟩, ⟨_, _, fun_mk l12 c12 k12, PySem.W.mg_of X G a12⟩, ⟨_, _, fun_mk l13 c13 k13, PySem.W.mg_of X G a13⟩, ⟨_, _, fun_mk l14 c14 k14, PySem.W.mg_of X G a14⟩, ⟨_, _, fun_mk l15 c15 k15, PySem.W.mg_of X G a15⟩, ⟨_, _, fun_mk l16 c16 k16, PySem.W.mg_of X G a16⟩, ⟨_, _, fun_mk l17 c17 k17, PySem.W.mg_of X G a17⟩, ⟨_, _, fun_mk l18 c18 k18, PySem.W.mg_of X G a18⟩, ⟨_, _, fun_mk l19 c19 k19, PySem.W.mg_of X G a19⟩, ⟨_, _, fun_mk l20 c20 k20, PySem.W.mg_of X G a20⟩, ⟨_, _, fun_mk l21 c21 k21, PySem.W.mg_of X G a21⟩, ⟨_, _, cT, PySem.W.mg_of X G a22, k22, TB _ List.mem_cons_self, _, _, _, _, _, _, _, _, rfl, l22, c22⟩, ⟨_, _, fun_mk l23 c23 k23, PySem.W.mg_of X G a23⟩, ⟨_, _, fun_mk l24 c24 k24, PySem.W.mg_of X G a24⟩, ⟨_, _, fun_mk l25 c25 k25, PySem.W.mg_of X G a25⟩, ⟨_, _, fun_mk l26 c26 k26, PySem.W.mg_of X G a26⟩, ⟨_, _, fun_mk l27 c27 k27, PySem.W.mg_of X G a27⟩⟩
    exact ok_law T (fun_mk l28 c28 k28)
end G32
open PySem PySem.W PyProof.Rows
set_option maxHeartbeats 0 in
theorem PySem.Challenge.cw_factferry_k32_least_hitting_sets_holds : PySem.Challenge.rw_factferry_k32_least_hitting_sets.Holds := by
  w_on; o_law; k_head; (case hw => w_witness2)
  k_fill
  refine LamX.walk_ofTs (l := PySem.Challenge.rw_factferry_k32_least_hitting_sets) (n := 63) (k := 5) (x := "script") (CX := fun _ => L2.CX0) rfl (by decide) rfl ⟨rfl, by decide, by decide⟩ (fun w h Y => PySem.W.km_in_of Y) ?F (fun _ _ _ _ _ h => h)
  case F =>
    intro w mg fa h Y KX G hmg
    refine' G32.all_mk KX G hmg ?a0 ?l0 ?c0 ?k0 ?a1 ?l1 ?c1 ?k1 ?a2 ?l2 ?c2 ?k2 ?a3 ?l3 ?c3 ?k3 ?a4 ?l4 ?c4 ?k4 ?a5 ?l5 ?c5 ?k5 ?a6 ?l6 ?c6 ?k6 ?a7 ?l7 ?c7 ?k7 ?a8 ?l8 ?c8 ?k8 ?a9 ?l9 ?c9 ?k9 ?a10 ?l10 ?c10 ?k10 ?a11 ?l11 ?c11 ?k11 ?a12 ?l12 ?c12 ?k12 ?a13 ?l13 ?c13 ?k13 ?a14 ?l14 ?c14 ?k14 ?a15 ?l15 ?c15 ?k15 ?a16 ?l16 ?c16 ?k16 ?a17 ?l17 ?c17 ?k17 ?a18 ?l18 ?c18 ?k18 ?a19 ?l19 ?c19 ?k19 ?a20 ?l20 ?c20 ?k20 ?a21 ?l21 ?c21 ?k21 ?a22 ?l22 ?c22 ?k22 ?a23 ?l23 ?c23 ?k23 ?a24 ?l24 ?c24 ?k24 ?a25 ?l25 ?c25 ?k25 ?a26 ?l26 ?c26 ?k26 ?a27 ?l27 ?c27 ?k27 ?a28 ?l28 ?c28 ?k28 ?z0 ?z1 ?z2 ?z3 ?z4 ?z5 ?z6 ?z7 ?z8 ?z9 ?z10 ?hci (PySem.W.km_tabs_of Y _ ?mm) ?np
    (case a0 => k_is); (case l0 => k_is); (case c0 => k_is); (case k0 => k_is); (case a1 => k_is); (case l1 => k_is); (case c1 => k_is); (case k1 => k_is); (case a2 => k_is); (case l2 => k_is); (case c2 => k_is); (case k2 => k_is); (case a3 => k_is); (case l3 => k_is); (case c3 => k_is); (case k3 => k_is); (case a4 => k_is); (case l4 => k_is); (case c4 => k_is); (case k4 => k_is); (case a5 => k_is); (case l5 => k_is); (case c5 => k_is); (case k5 => k_is); (case a6 => k_is); (case l6 => k_is); (case c6 => k_is); (case k6 => k_is); (case a7 => k_is); (case l7 => k_is); (case c7 => k_is); (case k7 => k_is); (case a8 => k_is); (case l8 => k_is); (case c8 => k_is); (case k8 => k_is); (case a9 => k_is); (case l9 => k_is); (case c9 => k_is); (case k9 => k_is); (case a10 => k_is); (case l10 => k_is); (case c10 => k_is); (case k10 => k_is); (case a11 => k_is); (case l11 => k_is); (case c11 => k_is); (case k11 => k_is); (case a12 => k_is); (case l12 => k_is); (case c12 => k_is); (case k12 => k_is); (case a13 => k_is); (case l13 => k_is); (case c13 => k_is); (case k13 => k_is); (case a14 => k_is); (case l14 => k_is); (case c14 => k_is); (case k14 => k_is); (case a15 => k_is); (case l15 => k_is); (case c15 => k_is); (case k15 => k_is); (case a16 => k_is); (case l16 => k_is); (case c16 => k_is); (case k16 => k_is); (case a17 => k_is); (case l17 => k_is); (case c17 => k_is); (case k17 => k_is); (case a18 => k_is); (case l18 => k_is); (case c18 => k_is); (case k18 => k_is); (case a19 => k_is); (case l19 => k_is); (case c19 => k_is); (case k19 => k_is); (case a20 => k_is); (case l20 => k_is); (case c20 => k_is); (case k20 => k_is); (case a21 => k_is); (case l21 => k_is); (case c21 => k_is); (case k21 => k_is); (case a22 => k_is); (case l22 => k_is); (case c22 => k_is); (case k22 => k_is); (case a23 => k_is); (case l23 => k_is); (case c23 => k_is); (case k23 => k_is); (case a24 => k_is); (case l24 => k_is); (case c24 => k_is); (case k24 => k_is); (case a25 => k_is); (case l25 => k_is); (case c25 => k_is); (case k25 => k_is); (case a26 => k_is); (case l26 => k_is); (case c26 => k_is); (case k26 => k_is); (case a27 => k_is); (case l27 => k_is); (case c27 => k_is); (case k27 => k_is); (case a28 => k_is); (case l28 => k_is); (case c28 => k_is); (case k28 => k_is); (case z0 => k_is); (case z1 => k_is); (case z2 => k_is); (case z3 => k_is); (case z4 => k_is); (case z5 => k_is); (case z6 => k_is); (case z7 => k_is); (case z8 => k_is); (case z9 => k_is); (case z10 => k_is); (case mm => exact List.mem_cons_self); (case hci => kernel_rfl); (case np => kernel_rfl)


