import PyProof.Rows.All
import Wide.All
import OpenK.AllK
import Wide.FinOn
import HandS.ForMost
import HandS.ForExc
import HandS.TupMul
import HandS.Style
import HandS.TupAny
import HandS.Wide
import HandS.SortInts
import HandS.IsInst
import HandS.Deep
import HandS.Conv
import PyProof.IsRules
import HandS.Walk
import HandS.Zip
import PyProof.Draws
import HandS.CallSlots
import HandS.Flow
import HandS.Defaults
import HandS.Text
import HandS.Remove
import HandS.Codes
import KE.KDictZip
import HandS.TupLen
import HandS.WordsDict
import KE.KDictDisplayH
import HandS.ExcInit
import KE.KExcSuper
import KE.KSuper
import HandS.ExcOwn
import HandS.ExcField
import KE.DatumOrd
import KE.RegKSuper
import PySem.Challenge.RW_foldaway_k37_whole_round_rules
set_option Elab.async false
set_option linter.all false
set_option maxRecDepth 100000
set_option maxHeartbeats 200000
/-! DL1: data, how the abstract heap bears it, what is owned, what stays -/
namespace DL
open PySem PySem.Spec PyProof.Rows L2

/-- data: o = true means owned (nobody else holds it) -/
inductive D where
  | non
  | bl (b : Bool)
  | int (i : Int)
  | str (s : Str)
  | tup (ds : List D)
  | lst (o : Bool) (ds : List D)
  | ro (ds : List D)
  | dK (o : Bool) (ks : List Key) (ds : List D)
  | dT (o : Bool) (ks : List (List Key)) (ds : List D)

abbrev Sl := L2.St
abbrev Fp := List Addr
abbrev DEnv := List (Option D)

mutual
inductive Rep (K : PySem.W.Frag) (F H : Hp) : D → V → Fp → Prop
  | non : Rep K F H .non .non []
  | bl (b : Bool) : Rep K F H (.bl b) (.bl b) []
  | int (i : Int) : Rep K F H (.int i) (.int i) []
  | str (x : Str) : Rep K F H (.str x) (.str x) []
  | tup {a : Addr} {xs : List V} {ds : List D} : F a = some (.tup xs) → Reps K F H ds xs [] → Rep K F H (.tup ds) (.ref a) []
  | lstF {a : Addr} {xs : List V} {ds : List D} : F a = some (.lst xs) → Reps K F H ds xs [] → Rep K F H (.lst false ds) (.ref a) []
  | lstO {a : Addr} {xs : List V} {ds : List D} {A C : Fp} : H a = some (.lst xs) → F a = none → Reps K F H ds xs A → C = a :: A → Rep K F H (.lst true ds) (.ref a) C
  | ro {a : Addr} {xs : List V} {ds : List D} : SqL K F a xs → Reps K F H ds xs [] → Rep K F H (.ro ds) (.ref a) []
  | dKF {a : Addr} {kvs : List (Key × V)} {ks : List Key} {ds : List D} : F a = some (.dK kvs) → kvs.map (·.1) = ks → Reps K F H ds (kvs.map (·.2)) [] → Rep K F H (.dK false ks ds) (.ref a) []
  | dKO {a : Addr} {kvs : List (Key × V)} {ks : List Key} {ds : List D} {A C : Fp} : H a = some (.dK kvs) → F a = none → kvs.map (·.1) = ks → Reps K F H ds (kvs.map (·.2)) A → C = a :: A → Rep K F H (.dK true ks ds) (.ref a) C
  | dTF {a : Addr} {kvs : List (List Key × V)} {ks : List (List Key)} {ds : List D} : F a = some (.dT kvs) → kvs.map (·.1) = ks → Reps K F H ds (kvs.map (·.2)) [] → Rep K F H (.dT false ks ds) (.ref a) []
  | dTO {a : Addr} {kvs : List (List Key × V)} {ks : List (List Key)} {ds : List D} {A C : Fp} : H a = some (.dT kvs) → F a = none → kvs.map (·.1) = ks → Reps K F H ds (kvs.map (·.2)) A → C = a :: A → Rep K F H (.dT true ks ds) (.ref a) C
inductive Reps (K : PySem.W.Frag) (F H : Hp) : List D → List V → Fp → Prop
  | nil : Reps K F H [] [] []
  | cons {d : D} {ds : List D} {v : V} {vs : List V} {A B C : Fp} : Rep K F H d v A → Reps K F H ds vs B → C = A ++ B → Reps K F H (d :: ds) (v :: vs) C
end

/-- one part of the abstract heap stands in another -/
abbrev Le (F H : Hp) : Prop := ∀ a o, F a = some o → H a = some o
theorem Le.refl (F : Hp) : Le F F := fun _ _ h => h
theorem Le.trans {F G H : Hp} (x : Le F G) (y : Le G H) : Le F H := fun a o h => y a o (x a o h)
theorem Le.sqT {K : PySem.W.Frag} {F H : Hp} {a : Addr} {xs : List V} (l : Le F H) (h : SqT K F a xs) : SqT K H a xs := by
  rcases h with (h | ⟨o, h⟩) | h
  · exact .inl (.inl (l _ _ h))
  · exact .inl (.inr ⟨o, l _ _ h⟩)
  · exact .inr h
theorem Le.sqL {K : PySem.W.Frag} {F H : Hp} {a : Addr} {xs : List V} (l : Le F H) (h : SqL K F a xs) : SqL K H a xs := by
  rcases h with (h | ⟨o, h⟩) | h
  · exact .inl (.inl (l _ _ h))
  · exact .inl (.inr ⟨o, l _ _ h⟩)
  · exact .inr h

section
variable {K : PySem.W.Frag} {F H F' H' : Hp}
mutual
theorem Rep.mono : ∀ {d : D} {v : V} {A : Fp}, Rep K F H d v A → Le F F' → (∀ a o, a ∈ A → H a = some o → H' a = some o) → (∀ a, a ∈ A → F' a = none) → Rep K F' H' d v A
  | _, _, _, .non, _, _, _ => .non
  | _, _, _, .bl b, _, _, _ => .bl b
  | _, _, _, .int i, _, _, _ => .int i
  | _, _, _, .str x, _, _, _ => .str x
  | _, _, _, .tup h r, l, k, n => .tup (l _ _ h) (Reps.mono r l k n)
  | _, _, _, .lstF h r, l, k, n => .lstF (l _ _ h) (Reps.mono r l k n)
  | _, _, _, .lstO h f r e, l, k, n => .lstO (k _ _ (by rw [e]; exact List.mem_cons_self) h) (n _ (by rw [e]; exact List.mem_cons_self)) (Reps.mono r l (fun a o m => k a o (by rw [e]; exact List.mem_cons_of_mem _ m)) fun a m => n a (by rw [e]; exact List.mem_cons_of_mem _ m)) e
  | _, _, _, .ro h r, l, k, n => .ro (l.sqL h) (Reps.mono r l k n)
  | _, _, _, .dKF h q r, l, k, n => .dKF (l _ _ h) q (Reps.mono r l k n)
  | _, _, _, .dKO h f q r e, l, k, n => .dKO (k _ _ (by rw [e]; exact List.mem_cons_self) h) (n _ (by rw [e]; exact List.mem_cons_self)) q (Reps.mono r l (fun a o m => k a o (by rw [e]; exact List.mem_cons_of_mem _ m)) fun a m => n a (by rw [e]; exact List.mem_cons_of_mem _ m)) e
  | _, _, _, .dTF h q r, l, k, n => .dTF (l _ _ h) q (Reps.mono r l k n)
  | _, _, _, .dTO h f q r e, l, k, n => .dTO (k _ _ (by rw [e]; exact List.mem_cons_self) h) (n _ (by rw [e]; exact List.mem_cons_self)) q (Reps.mono r l (fun a o m => k a o (by rw [e]; exact List.mem_cons_of_mem _ m)) fun a m => n a (by rw [e]; exact List.mem_cons_of_mem _ m)) e
theorem Reps.mono : ∀ {ds : List D} {vs : List V} {A : Fp}, Reps K F H ds vs A → Le F F' → (∀ a o, a ∈ A → H a = some o → H' a = some o) → (∀ a, a ∈ A → F' a = none) → Reps K F' H' ds vs A
  | _, _, _, .nil, _, _, _ => .nil
  | _, _, _, .cons x r e, l, k, n => .cons (Rep.mono x l (fun a o m => k a o (by rw [e]; exact List.mem_append_left _ m)) fun a m => n a (by rw [e]; exact List.mem_append_left _ m)) (Reps.mono r l (fun a o m => k a o (by rw [e]; exact List.mem_append_right _ m)) fun a m => n a (by rw [e]; exact List.mem_append_right _ m)) e
end
mutual
theorem Rep.foot : ∀ {d : D} {v : V} {A : Fp}, Rep K F H d v A → ∀ a, a ∈ A → (∃ o, H a = some o) ∧ F a = none
  | _, _, _, .non, a, m => nomatch m
  | _, _, _, .bl b, a, m => nomatch m
  | _, _, _, .int i, a, m => nomatch m
  | _, _, _, .str x, a, m => nomatch m
  | _, _, _, .tup h r, a, m => nomatch m
  | _, _, _, .lstF h r, a, m => nomatch m
  | _, _, _, .lstO h f r e, a, m => by
    subst e
    rcases List.mem_cons.mp m with rfl | m
    · exact ⟨⟨_, h⟩, f⟩
    · exact Reps.foot r a m
  | _, _, _, .ro h r, a, m => nomatch m
  | _, _, _, .dKF h q r, a, m => nomatch m
  | _, _, _, .dKO h f q r e, a, m => by
    subst e
    rcases List.mem_cons.mp m with rfl | m
    · exact ⟨⟨_, h⟩, f⟩
    · exact Reps.foot r a m
  | _, _, _, .dTF h q r, a, m => nomatch m
  | _, _, _, .dTO h f q r e, a, m => by
    subst e
    rcases List.mem_cons.mp m with rfl | m
    · exact ⟨⟨_, h⟩, f⟩
    · exact Reps.foot r a m
theorem Reps.foot : ∀ {ds : List D} {vs : List V} {A : Fp}, Reps K F H ds vs A → ∀ a, a ∈ A → (∃ o, H a = some o) ∧ F a = none
  | _, _, _, .nil, a, m => nomatch m
  | _, _, _, .cons x r e, a, m => by
    subst e
    rcases List.mem_append.mp m with m | m
    · exact Rep.foot x a m
    · exact Reps.foot r a m
end
end

/-! nobody owns it any more -/
mutual
def D.frz : D → D
  | .non => .non
  | .bl b => .bl b
  | .int i => .int i
  | .str x => .str x
  | .tup ds => .tup ds
  | .lst o ds => .lst false (if o then D.frzs ds else ds)
  | .ro ds => .ro ds
  | .dK o ks ds => .dK false ks (if o then D.frzs ds else ds)
  | .dT o ks ds => .dT false ks (if o then D.frzs ds else ds)
def D.frzs : List D → List D
  | [] => []
  | d :: ds => d.frz :: D.frzs ds
end
/-- F with what stands at A -/
def fz (F H : Hp) (A : Fp) : Hp := fun a => if a ∈ A then H a else F a
theorem fz_nil (F H : Hp) : fz F H [] = F := by
  funext a
  unfold fz
  rw [if_neg List.not_mem_nil]
theorem fz_in {F H : Hp} {A : Fp} {a : Addr} (m : a ∈ A) : fz F H A a = H a := by unfold fz; rw [if_pos m]
theorem fz_out {F H : Hp} {A : Fp} {a : Addr} (m : a ∉ A) : fz F H A a = F a := by unfold fz; rw [if_neg m]
theorem fz_le {F H : Hp} {A : Fp} (n : ∀ a, a ∈ A → F a = none) : Le F (fz F H A) := fun a o h => by
  by_cases m : a ∈ A
  · rw [n a m] at h; cases h
  · rw [fz_out m]; exact h
theorem fz_le2 {F H : Hp} {A : Fp} (l : Le F H) : Le (fz F H A) H := fun a o h => by
  by_cases m : a ∈ A
  · rw [fz_in m] at h; exact h
  · rw [fz_out m] at h; exact l a o h
section
variable {K : PySem.W.Frag} {F H G H' : Hp}
theorem Rep.tup_inv {ds : List D} {v : V} {A : Fp} (h : Rep K F H (.tup ds) v A) : A = [] ∧ ∃ a xs, v = .ref a ∧ SqT K F a xs ∧ Reps K F H ds xs [] := by
  cases h with
  | tup h r => exact ⟨rfl, _, _, rfl, SqT.of h, r⟩
theorem Rep.tup_inv2 {ds : List D} {v : V} {A : Fp} (h : Rep K F H (.tup ds) v A) : A = [] ∧ ∃ a xs, v = .ref a ∧ F a = some (.tup xs) ∧ Reps K F H ds xs [] := by
  cases h with
  | tup h r => exact ⟨rfl, _, _, rfl, h, r⟩
mutual
theorem Rep.frz : ∀ {d : D} {v : V} {A : Fp}, Rep K F H d v A → Le F G → (∀ a o, a ∈ A → H a = some o → G a = some o) → Rep K G H' d.frz v []
  | _, _, _, .non, _, _ => .non
  | _, _, _, .bl b, _, _ => .bl b
  | _, _, _, .int i, _, _ => .int i
  | _, _, _, .str x, _, _ => .str x
  | _, _, _, .tup h r, l, k => .tup (l _ _ h) (Reps.mono r l (fun _ _ m => nomatch m) fun _ m => nomatch m)
  | _, _, _, .lstF h r, l, k => .lstF (l _ _ h) (Reps.mono r l (fun _ _ m => nomatch m) fun _ m => nomatch m)
  | _, _, _, .lstO h f r e, l, k => .lstF (k _ _ (by rw [e]; exact List.mem_cons_self) h) (Reps.frz r l fun a o m => k a o (by rw [e]; exact List.mem_cons_of_mem _ m))
  | _, _, _, .ro h r, l, k => .ro (l.sqL h) (Reps.mono r l (fun _ _ m => nomatch m) fun _ m => nomatch m)
  | _, _, _, .dKF h q r, l, k => .dKF (l _ _ h) q (Reps.mono r l (fun _ _ m => nomatch m) fun _ m => nomatch m)
  | _, _, _, .dKO h f q r e, l, k => .dKF (k _ _ (by rw [e]; exact List.mem_cons_self) h) q (Reps.frz r l fun a o m => k a o (by rw [e]; exact List.mem_cons_of_mem _ m))
  | _, _, _, .dTF h q r, l, k => .dTF (l _ _ h) q (Reps.mono r l (fun _ _ m => nomatch m) fun _ m => nomatch m)
  | _, _, _, .dTO h f q r e, l, k => .dTF (k _ _ (by rw [e]; exact List.mem_cons_self) h) q (Reps.frz r l fun a o m => k a o (by rw [e]; exact List.mem_cons_of_mem _ m))
theorem Reps.frz : ∀ {ds : List D} {vs : List V} {A : Fp}, Reps K F H ds vs A → Le F G → (∀ a o, a ∈ A → H a = some o → G a = some o) → Reps K G H' (D.frzs ds) vs []
  | _, _, _, .nil, _, _ => .nil
  | _, _, _, .cons x r e, l, k => .cons (A := []) (B := []) (Rep.frz x l fun a o m => k a o (by rw [e]; exact List.mem_append_left _ m)) (Reps.frz r l fun a o m => k a o (by rw [e]; exact List.mem_append_right _ m)) rfl
end
end

/-! ### the slots -/
inductive EnvR (K : PySem.W.Frag) (F H : Hp) : DEnv → Sl → Fp → Prop
  | nil : EnvR K F H [] [] []
  | no {ρ : DEnv} {v : Option V} {σ : Sl} {A : Fp} : EnvR K F H ρ σ A → EnvR K F H (none :: ρ) (v :: σ) A
  | yes {d : D} {ρ : DEnv} {v : V} {σ : Sl} {A B C : Fp} : Rep K F H d v A → EnvR K F H ρ σ B → C = A ++ B → EnvR K F H (some d :: ρ) (some v :: σ) C
section
variable {K : PySem.W.Frag} {F H F' H' : Hp} {ρ : DEnv} {σ : Sl} {A : Fp}
theorem EnvR.length (h : EnvR K F H ρ σ A) : ρ.length = σ.length := by
  induction h with
  | nil => rfl
  | no _ ih => simp [ih]
  | yes _ _ _ ih => simp [ih]
theorem EnvR.mono (h : EnvR K F H ρ σ A) (l : Le F F') : (∀ a o, a ∈ A → H a = some o → H' a = some o) → (∀ a, a ∈ A → F' a = none) → EnvR K F' H' ρ σ A := by
  induction h with
  | nil => intro _ _; exact .nil
  | no _ ih => intro k n; exact .no (ih k n)
  | yes r _ e ih =>
    intro k n
    subst e
    exact .yes (r.mono l (fun a o m => k a o (List.mem_append_left _ m)) fun a m => n a (List.mem_append_left _ m)) (ih (fun a o m => k a o (List.mem_append_right _ m)) fun a m => n a (List.mem_append_right _ m)) rfl
theorem EnvR.foot (h : EnvR K F H ρ σ A) : ∀ a, a ∈ A → (∃ o, H a = some o) ∧ F a = none := by
  induction h with
  | nil => intro a m; cases m
  | no _ ih => exact ih
  | yes r _ e ih =>
    intro a m
    subst e
    rcases List.mem_append.mp m with m | m
    · exact r.foot a m
    · exact ih a m
/-- a slot taken out: what it holds, the rest, another thing put in -/
theorem EnvR.focus (h : EnvR K F H ρ σ A) : ∀ {i : Nat} {d : D}, ρ[i]? = some (some d) → ∃ v A1 B A2, σ[i]? = some (some v) ∧ A = A1 ++ (B ++ A2) ∧ Rep K F H d v B ∧ (∀ v', EnvR K F H (ρ.set i none) (σ.set i v') (A1 ++ A2)) ∧ EnvR K F H (ρ.set i none) σ (A1 ++ A2) := by
  induction h with
  | nil => intro i d e; simp at e
  | @no ρ v σ A h ih =>
    intro i d e
    cases i with
    | zero => simp at e
    | succ i =>
      obtain ⟨w, A1, B, A2, h1, h2, h3, h4, h5⟩ := ih (i := i) (d := d) (by simpa using e)
      exact ⟨w, A1, B, A2, by simpa using h1, h2, h3, fun v' => .no (h4 v'), .no h5⟩
  | @yes d0 ρ v σ A B C r h e0 ih =>
    intro i d e
    cases i with
    | zero =>
      have e1 : d0 = d := by simpa using e
      subst e1
      refine ⟨v, [], A, B, rfl, by simpa using e0, r, fun v' => ?_, ?_⟩
      · exact .no h
      · exact .no h
    | succ i =>
      obtain ⟨w, A1, B1, A2, h1, h2, h3, h4, h5⟩ := ih (i := i) (d := d) (by simpa using e)
      refine ⟨w, A ++ A1, B1, A2, by simpa using h1, by rw [e0, h2]; simp, h3, fun v' => ?_, ?_⟩
      · exact .yes r (h4 v') (by simp)
      · exact .yes r h5 (by simp)
/-- a slot that holds nothing known gets a thing -/
theorem EnvR.put (h : EnvR K F H ρ σ A) : ∀ {i : Nat} {d : D} {v : V} {B : Fp}, ρ[i]? = some none → Rep K F H d v B → ∃ C, EnvR K F H (ρ.set i (some d)) (σ.set i (some v)) C ∧ C.Perm (B ++ A) := by
  induction h with
  | nil => intro i d v B e; simp at e
  | @no ρ v0 σ A h ih =>
    intro i d v B e r
    cases i with
    | zero => exact ⟨B ++ A, .yes r h rfl, .refl _⟩
    | succ i =>
      obtain ⟨C, h1, h2⟩ := ih (i := i) (d := d) (v := v) (B := B) (by simpa using e) r
      exact ⟨C, .no h1, h2⟩
  | @yes d0 ρ v0 σ A B0 C0 r0 h e0 ih =>
    intro i d v B e r
    cases i with
    | zero => simp at e
    | succ i =>
      obtain ⟨C, h1, h2⟩ := ih (i := i) (d := d) (v := v) (B := B) (by simpa using e) r
      refine ⟨A ++ C, .yes r0 h1 rfl, ?_⟩
      rw [e0]
      refine (List.Perm.append_left A h2).trans ?_
      rw [← List.append_assoc, ← List.append_assoc]
      exact List.Perm.append_right _ List.perm_append_comm
/-- the value of a slot is given back its thing -/
theorem EnvR.putAt (h : EnvR K F H ρ σ A) : ∀ {i : Nat} {d : D} {v : V} {B : Fp}, ρ[i]? = some none → σ[i]? = some (some v) → Rep K F H d v B → ∃ C, EnvR K F H (ρ.set i (some d)) σ C ∧ C.Perm (B ++ A) := by
  intro i d v B e1 e2 r
  obtain ⟨C, h1, h2⟩ := h.put e1 r
  have e3 : σ.set i (some v) = σ := by
    obtain ⟨hi, e⟩ := List.getElem?_eq_some_iff.mp e2
    rw [← e]
    exact List.set_getElem_self hi
  rw [e3] at h1
  exact ⟨C, h1, h2⟩
/-- a slot forgotten -/
theorem EnvR.drop (h : EnvR K F H ρ σ A) (i : Nat) : ∃ B, (∀ v', EnvR K F H (ρ.set i none) (σ.set i v') B) ∧ EnvR K F H (ρ.set i none) σ B ∧ (∀ a, a ∈ B → a ∈ A) ∧ (A.Nodup → B.Nodup) := by
  cases e : ρ[i]? with
  | none =>
    have hi : ρ.length ≤ i := List.getElem?_eq_none_iff.mp e
    refine ⟨A, fun v' => ?_, ?_, fun _ m => m, fun m => m⟩
    · rw [List.set_eq_of_length_le hi, List.set_eq_of_length_le (by rw [← h.length]; exact hi)]; exact h
    · rw [List.set_eq_of_length_le hi]; exact h
  | some x =>
    cases x with
    | some d =>
      obtain ⟨v, A1, B, A2, h1, h2, h3, h4, h5⟩ := h.focus e
      refine ⟨A1 ++ A2, h4, h5, fun a m => ?_, fun n => ?_⟩
      · rw [h2]
        rcases List.mem_append.mp m with m | m
        · exact List.mem_append_left _ m
        · exact List.mem_append_right _ (List.mem_append_right _ m)
      · rw [h2] at n
        exact n.sublist (List.Sublist.append_left (List.sublist_append_right B A2) A1)
    | none =>
      have eq : ρ.set i none = ρ := by
        obtain ⟨hi, e⟩ := List.getElem?_eq_some_iff.mp e
        rw [← e]
        exact List.set_getElem_self hi
      rw [eq]
      refine ⟨A, fun v' => ?_, h, fun _ m => m, fun m => m⟩
      clear eq
      induction h generalizing i with
      | nil => simp at e
      | no h ih =>
        cases i with
        | zero => exact .no h
        | succ i => exact .no (ih i (by simpa using e))
      | yes r h e0 ih =>
        cases i with
        | zero => simp at e
        | succ i => exact .yes r (ih i (by simpa using e)) e0
end

/-! ### a state of data -/
structure SRel (K : PySem.W.Frag) (F H : Hp) (ρ : DEnv) (σ : Sl) (A : Fp) : Prop where
  le : Le F H
  env : EnvR K F H ρ σ A
  nd : A.Nodup
/-- from F, H to F', H': all but M stands; what is owned behind (N) is of M or new -/
structure Ext (M : Fp) (F H : Hp) (N : Fp) (F' H' : Hp) : Prop where
  frz : Le F F'
  keep : ∀ a o, H a = some o → a ∉ M → H' a = some o
  own : ∀ a, a ∈ N → a ∈ M ∨ H a = none
  newf : ∀ a o, F' a = some o → F a = some o ∨ a ∈ M ∨ H a = none
section
variable {F H F1 H1 F2 H2 : Hp} {M N N1 M1 B1 N2 : Fp}
theorem Ext.refl {M : Fp} {F H : Hp} {N : Fp} (h : ∀ a, a ∈ N → a ∈ M ∨ H a = none) : Ext M F H N F H := ⟨Le.refl _, fun _ _ h _ => h, h, fun _ _ h => .inl h⟩
theorem Ext.le (x : Ext M F H N F1 H1) (h : ∀ a, a ∈ N2 → a ∈ N) : Ext M F H N2 F1 H1 := ⟨x.frz, x.keep, fun a m => x.own a (h a m), x.newf⟩
/-- one after the other: M1 of N is given to the second, B1 of N is left -/
theorem Ext.trans (x : Ext M F H N F1 H1) (y : Ext M1 F1 H1 N2 F2 H2) (h1 : ∀ a, a ∈ M1 → a ∈ N) (h2 : ∀ a, a ∈ B1 → a ∈ N) : Ext M F H (N2 ++ B1) F2 H2 where
  frz := x.frz.trans y.frz
  keep := fun a o h hm => y.keep a o (x.keep a o h hm) fun m => by
    rcases x.own a (h1 a m) with q | q
    · exact hm q
    · rw [h] at q; cases q
  own := fun a m => by
    rcases List.mem_append.mp m with m | m
    · rcases y.own a m with q | q
      · exact x.own a (h1 a q)
      · by_cases hM : a ∈ M
        · exact .inl hM
        · cases e : H a with
          | none => exact .inr rfl
          | some o =>
            rw [x.keep a o e hM] at q; cases q
    · exact x.own a (h2 a m)
  newf := fun a o h => by
    rcases y.newf a o h with q | q | q
    · exact x.newf a o q
    · exact .inr (x.own a (h1 a q))
    · by_cases hM : a ∈ M
      · exact .inr (.inl hM)
      · cases e : H a with
        | none => exact .inr (.inr rfl)
        | some o =>
          rw [x.keep a o e hM] at q; cases q
theorem Ext.wider (x : Ext M F H N F1 H1) (h : ∀ a, a ∈ M → a ∈ M1) : Ext M1 F H N F1 H1 :=
  ⟨x.frz, fun a o e m => x.keep a o e fun z => m (h a z), fun a m => (x.own a m).imp_left (h a), fun a o e => (x.newf a o e).imp_right fun z => z.imp_left (h a)⟩
/-- what is owned apart from M stands, and stays apart -/
theorem Ext.stays {B : Fp} (x : Ext M F H N F1 H1) (hB : ∀ a, a ∈ B → (∃ o, H a = some o) ∧ F a = none) (hd : ∀ a, a ∈ B → a ∉ M) :
    (∀ a o, a ∈ B → H a = some o → H1 a = some o) ∧ (∀ a, a ∈ B → F1 a = none) ∧ ∀ a, a ∈ B → a ∉ N := by
  refine ⟨fun a o m e => x.keep a o e (hd a m), fun a m => ?_, fun a m z => ?_⟩
  · cases e : F1 a with
    | none => rfl
    | some o =>
      obtain ⟨⟨o', h1⟩, h2⟩ := hB a m
      rcases x.newf a o e with q | q | q
      · rw [h2] at q; cases q
      · exact absurd q (hd a m)
      · rw [h1] at q; cases q
  · obtain ⟨⟨o', h1⟩, h2⟩ := hB a m
    rcases x.own a z with q | q
    · exact hd a m q
    · rw [h1] at q; cases q
variable {K : PySem.W.Frag} {ρ : DEnv} {σ : Sl} {A B : Fp} {d : D} {v : V} {ds : List D} {vs : List V}
theorem Ext.rep (x : Ext M F H N F1 H1) (r : Rep K F H d v B) (hd : ∀ a, a ∈ B → a ∉ M) : Rep K F1 H1 d v B :=
  r.mono x.frz (x.stays r.foot hd).1 (x.stays r.foot hd).2.1
theorem Ext.reps (x : Ext M F H N F1 H1) (r : Reps K F H ds vs B) (hd : ∀ a, a ∈ B → a ∉ M) : Reps K F1 H1 ds vs B :=
  r.mono x.frz (x.stays r.foot hd).1 (x.stays r.foot hd).2.1
theorem Ext.env (x : Ext M F H N F1 H1) (r : EnvR K F H ρ σ B) (hd : ∀ a, a ∈ B → a ∉ M) : EnvR K F1 H1 ρ σ B :=
  r.mono x.frz (x.stays r.foot hd).1 (x.stays r.foot hd).2.1
theorem SRel.keeps (r : SRel K F H ρ σ A) (x : Ext [] F H N F1 H1) (l : Le F1 H1) : SRel K F1 H1 ρ σ A := ⟨l, x.env r.env fun _ _ m => (List.not_mem_nil m).elim, r.nd⟩
/-- a thing that needs nothing owned -/
theorem Rep.pure (r : Rep K F H d v []) (l : Le F F1) : Rep K F1 H1 d v [] := r.mono l (fun _ _ m => (List.not_mem_nil m).elim) fun _ m => (List.not_mem_nil m).elim
end
/-- a thing is frozen: F grows -/
theorem Ext.freeze {K : PySem.W.Frag} {F H : Hp} {d : D} {v : V} {B : Fp} (l : Le F H) (r : Rep K F H d v B) : Ext B F H [] (fz F H B) H ∧ Le (fz F H B) H ∧ Rep K (fz F H B) H d.frz v [] := by
  have n : ∀ a, a ∈ B → F a = none := fun a m => (r.foot a m).2
  refine ⟨⟨fz_le n, fun _ _ h _ => h, fun _ m => absurd m List.not_mem_nil, fun a o h => ?_⟩, fz_le2 l, r.frz (fz_le n) fun a o m h => by rw [fz_in m]; exact h⟩
  by_cases m : a ∈ B
  · exact .inr (.inl m)
  · rw [fz_out m] at h; exact .inl h
/-- new things -/
theorem Ext.new {F H : Hp} {p : Addr} {o : HO} (hp : H p = none) : Ext [] F H [p] F (upd H p o) :=
  ⟨Le.refl _, fun a u h _ => by rw [upd_ne (ne_of_none h hp)]; exact h, fun a m => by rw [List.mem_singleton.mp m]; exact .inr hp, fun _ _ h => .inl h⟩
theorem Ext.newF {F H : Hp} {p : Addr} {o : HO} (l : Le F H) (hp : H p = none) : Ext [] F H [] (upd F p o) (upd H p o) ∧ Le (upd F p o) (upd H p o) := by
  have hF : F p = none := by
    cases e : F p with
    | none => rfl
    | some u => rw [l _ _ e] at hp; cases hp
  refine ⟨⟨fun a u h => by rw [upd_ne (ne_of_none h hF)]; exact h, fun a u h _ => by rw [upd_ne (ne_of_none h hp)]; exact h, fun a m => absurd m List.not_mem_nil, fun a u h => ?_⟩, fun a u h => ?_⟩
  · by_cases e : a = p
    · subst e; exact .inr (.inr hp)
    · rw [upd_ne e] at h; exact .inl h
  · by_cases e : a = p
    · subst e; rw [upd_same] at h ⊢; exact h
    · rw [upd_ne e] at h ⊢; exact l _ _ h
theorem Le.new {F H : Hp} {p : Addr} {o : HO} (l : Le F H) (hp : H p = none) : Le F (upd H p o) := fun a u h => by
  rw [upd_ne (ne_of_none (l _ _ h) hp)]; exact l _ _ h
end DL

set_option maxHeartbeats 200000
/-! DL2: what an expression gives: a thing, or a place of the slots; what a piece of text is worth -/
namespace DL
open PySem PySem.Spec PyProof.Rows L2

/-- a thing, the owned thing of a slot, an owned thing within it -/
inductive T where
  | val (d : D)
  | slot (i : Nat)
  | sub (i : Nat) (p : List Nat)
def D.isOwn : D → Bool
  | .lst o _ => o
  | .dK o _ _ => o
  | .dT o _ _ => o
  | _ => false
def walkD : D → List Nat → Option D
  | d, [] => some d
  | .lst _ ds, k :: p => match ds[k]? with
    | some d => walkD d p
    | none => none
  | .dK _ _ ds, k :: p => match ds[k]? with
    | some d => walkD d p
    | none => none
  | .dT _ _ ds, k :: p => match ds[k]? with
    | some d => walkD d p
    | none => none
  | _, _ :: _ => none
inductive PathV (H : Hp) : V → List Nat → V → Prop
  | nil {v : V} : PathV H v [] v
  | lst {a : Addr} {xs : List V} {k : Nat} {p : List Nat} {v1 v : V} : H a = some (.lst xs) → xs[k]? = some v1 → PathV H v1 p v → PathV H (.ref a) (k :: p) v
  | dK {a : Addr} {kvs : List (Key × V)} {k : Nat} {p : List Nat} {v1 v : V} : H a = some (.dK kvs) → (kvs.map (·.2))[k]? = some v1 → PathV H v1 p v → PathV H (.ref a) (k :: p) v
  | dT {a : Addr} {kvs : List (List Key × V)} {k : Nat} {p : List Nat} {v1 v : V} : H a = some (.dT kvs) → (kvs.map (·.2))[k]? = some v1 → PathV H v1 p v → PathV H (.ref a) (k :: p) v
def lk (ρ : DEnv) (i : Nat) : Option D := (ρ[i]?).bind id
theorem lk_some {ρ : DEnv} {i : Nat} {d : D} : lk ρ i = some d ↔ ρ[i]? = some (some d) := by
  unfold lk
  cases h : ρ[i]? with
  | none => simp
  | some x => cases x <;> simp
def deref (ρ : DEnv) : T → Option D
  | .val d => some d
  | .slot i => lk ρ i
  | .sub i p => (lk ρ i).bind fun d => walkD d p
inductive RepT (K : PySem.W.Frag) (F H : Hp) (σ : Sl) : T → V → Fp → Prop
  | val {d : D} {v : V} {B : Fp} : Rep K F H d v B → RepT K F H σ (.val d) v B
  | slot {i : Nat} {v : V} : σ[i]? = some (some v) → RepT K F H σ (.slot i) v []
  | sub {i : Nat} {p : List Nat} {v0 v : V} : σ[i]? = some (some v0) → PathV H v0 p v → RepT K F H σ (.sub i p) v []
def T.stable : T → Bool
  | .sub _ _ => false
  | _ => true

section
variable {K : PySem.W.Frag} {F H F1 H1 : Hp} {ρ : DEnv} {σ : Sl} {A B : Fp} {d : D} {v : V}
theorem Rep.own_nil (r : Rep K F H d v A) (h : d.isOwn = false) : A = [] := by
  cases r with
  | lstO => cases h
  | dKO => cases h
  | dTO => cases h
  | _ => rfl
theorem Reps.get {ds : List D} {vs : List V} (r : Reps K F H ds vs A) : ∀ {k : Nat} {d : D}, ds[k]? = some d → ∃ v B, vs[k]? = some v ∧ Rep K F H d v B ∧ B.Sublist A := by
  induction ds generalizing vs A with
  | nil => intro k d e; simp at e
  | cons x ds ih =>
    intro k d e
    cases r with
    | @cons _ _ v vs A B C r1 r2 e0 =>
      cases k with
      | zero =>
        have e1 : x = d := by simpa using e
        subst e1
        exact ⟨v, A, rfl, r1, by rw [e0]; exact List.sublist_append_left _ _⟩
      | succ k =>
        obtain ⟨v', B', h1, h2, h3⟩ := ih r2 (k := k) (by simpa using e)
        exact ⟨v', B', by simpa using h1, h2, by rw [e0]; exact h3.trans (List.sublist_append_right _ _)⟩
theorem Reps.getV {ds : List D} {vs : List V} (r : Reps K F H ds vs A) {k : Nat} {d : D} {v : V} (h : ds[k]? = some d) (h' : vs[k]? = some v) : ∃ B, Rep K F H d v B ∧ B.Sublist A := by
  obtain ⟨v', B, e, r', s⟩ := r.get h
  rw [h'] at e; cases e
  exact ⟨B, r', s⟩
theorem Reps.length {ds : List D} {vs : List V} (r : Reps K F H ds vs A) : ds.length = vs.length := by
  induction ds generalizing vs A with
  | nil => cases r; rfl
  | cons x ds ih =>
    cases r with
    | cons r1 r2 e0 => simp [ih r2]
theorem walk_rep (l : Le F H) : ∀ {p : List Nat} {d0 d : D} {v0 v : V} {A : Fp}, Rep K F H d0 v0 A → walkD d0 p = some d → PathV H v0 p v → ∃ B, Rep K F H d v B ∧ B.Sublist A := by
  intro p
  induction p with
  | nil =>
    intro d0 d v0 v A r e q
    cases q
    have e1 : d0 = d := by
      cases d0 <;> simpa [walkD] using e
    subst e1
    exact ⟨A, r, List.Sublist.refl A⟩
  | cons k p ih =>
    intro d0 d v0 v A r e q
    cases r with
    | lstF h r =>
      unfold walkD at e
      split at e
      · rename_i d1 hd
        cases q with
        | lst h' hx q =>
          rw [l _ _ h] at h'; cases h'
          obtain ⟨B, r1, s1⟩ := r.getV hd hx
          obtain ⟨B2, r2, s2⟩ := ih r1 e q
          exact ⟨B2, r2, s2.trans s1⟩
        | dK h' _ _ => rw [l _ _ h] at h'; cases h'
        | dT h' _ _ => rw [l _ _ h] at h'; cases h'
      · cases e
    | lstO h _ r e0 =>
      unfold walkD at e
      split at e
      · rename_i d1 hd
        cases q with
        | lst h' hx q =>
          rw [h] at h'; cases h'
          obtain ⟨B, r1, s1⟩ := r.getV hd hx
          obtain ⟨B2, r2, s2⟩ := ih r1 e q
          exact ⟨B2, r2, s2.trans (s1.trans (by rw [e0]; exact List.sublist_cons_self _ _))⟩
        | dK h' _ _ => rw [h] at h'; cases h'
        | dT h' _ _ => rw [h] at h'; cases h'
      · cases e
    | dKF h _ r =>
      unfold walkD at e
      split at e
      · rename_i d1 hd
        cases q with
        | dK h' hx q =>
          rw [l _ _ h] at h'; cases h'
          obtain ⟨B, r1, s1⟩ := r.getV hd hx
          obtain ⟨B2, r2, s2⟩ := ih r1 e q
          exact ⟨B2, r2, s2.trans s1⟩
        | lst h' _ _ => rw [l _ _ h] at h'; cases h'
        | dT h' _ _ => rw [l _ _ h] at h'; cases h'
      · cases e
    | dKO h _ _ r e0 =>
      unfold walkD at e
      split at e
      · rename_i d1 hd
        cases q with
        | dK h' hx q =>
          rw [h] at h'; cases h'
          obtain ⟨B, r1, s1⟩ := r.getV hd hx
          obtain ⟨B2, r2, s2⟩ := ih r1 e q
          exact ⟨B2, r2, s2.trans (s1.trans (by rw [e0]; exact List.sublist_cons_self _ _))⟩
        | lst h' _ _ => rw [h] at h'; cases h'
        | dT h' _ _ => rw [h] at h'; cases h'
      · cases e
    | dTF h _ r =>
      unfold walkD at e
      split at e
      · rename_i d1 hd
        cases q with
        | dT h' hx q =>
          rw [l _ _ h] at h'; cases h'
          obtain ⟨B, r1, s1⟩ := r.getV hd hx
          obtain ⟨B2, r2, s2⟩ := ih r1 e q
          exact ⟨B2, r2, s2.trans s1⟩
        | lst h' _ _ => rw [l _ _ h] at h'; cases h'
        | dK h' _ _ => rw [l _ _ h] at h'; cases h'
      · cases e
    | dTO h _ _ r e0 =>
      unfold walkD at e
      split at e
      · rename_i d1 hd
        cases q with
        | dT h' hx q =>
          rw [h] at h'; cases h'
          obtain ⟨B, r1, s1⟩ := r.getV hd hx
          obtain ⟨B2, r2, s2⟩ := ih r1 e q
          exact ⟨B2, r2, s2.trans (s1.trans (by rw [e0]; exact List.sublist_cons_self _ _))⟩
        | lst h' _ _ => rw [h] at h'; cases h'
        | dK h' _ _ => rw [h] at h'; cases h'
      · cases e
    | non => unfold walkD at e; cases e
    | bl => unfold walkD at e; cases e
    | int => unfold walkD at e; cases e
    | str => unfold walkD at e; cases e
    | tup => unfold walkD at e; cases e
    | ro => unfold walkD at e; cases e
/-- what a slot holds -/
theorem SRel.slot (r : SRel K F H ρ σ A) {i : Nat} (h : ρ[i]? = some (some d)) : ∃ v B, σ[i]? = some (some v) ∧ Rep K F H d v B ∧ B.Sublist A := by
  obtain ⟨v, A1, B, A2, h1, h2, h3, _⟩ := r.env.focus h
  exact ⟨v, B, h1, h3, by rw [h2]; exact (List.sublist_append_left B A2).trans (List.sublist_append_right A1 _)⟩
theorem deref_rep {t : T} (r : SRel K F H ρ σ A) (h : RepT K F H σ t v B) (e : deref ρ t = some d) : ∃ B', Rep K F H d v B' ∧ (∀ a, a ∈ B' → a ∈ A ∨ a ∈ B) ∧ (A.Nodup → B.Nodup → B'.Nodup) ∧ (∀ d0, t = .val d0 → B' = B) := by
  cases h with
  | val h =>
    cases e
    exact ⟨B, h, fun a m => .inr m, fun _ n => n, fun _ _ => rfl⟩
  | @slot i v h =>
    have e : ρ[i]? = some (some d) := lk_some.mp e
    obtain ⟨v', B', h1, h2, h3⟩ := r.slot e
    rw [h] at h1; cases h1
    exact ⟨B', h2, fun a m => .inl (h3.subset m), fun n _ => n.sublist h3, fun _ z => by cases z⟩
  | @sub i p v0 v h q =>
    obtain ⟨d0, hd, e⟩ : ∃ d0, ρ[i]? = some (some d0) ∧ walkD d0 p = some d := by
      have e : (lk ρ i).bind (fun d => walkD d p) = some d := e
      cases h : lk ρ i with
      | none => rw [h] at e; cases e
      | some x => rw [h] at e; exact ⟨x, lk_some.mp h, e⟩
    obtain ⟨v', B', h1, h2, h3⟩ := r.slot hd
    rw [h] at h1; cases h1
    obtain ⟨B2, r2, s2⟩ := walk_rep r.le h2 e q
    exact ⟨B2, r2, fun a m => .inl (h3.subset (s2.subset m)), fun n _ => n.sublist (s2.trans h3), fun _ z => by cases z⟩
theorem PathV.keep (k : ∀ a o, H a = some o → H1 a = some o) {v0 : V} {p : List Nat} (h : PathV H v0 p v) : PathV H1 v0 p v := by
  induction h with
  | nil => exact .nil
  | lst h e _ ih => exact .lst (k _ _ h) e ih
  | dK h e _ ih => exact .dK (k _ _ h) e ih
  | dT h e _ ih => exact .dT (k _ _ h) e ih
end

/-! ### what stands behind a piece -/
def E (m : Bool) (A : Fp) : Fp := if m then [] else A
theorem E_sub {m : Bool} {A : Fp} {a : Addr} (h : a ∈ E m A) : a ∈ A := by
  unfold E at h
  split at h
  · cases h
  · exact h
/-- m: nothing owned was touched -/
structure Aft (K : PySem.W.Frag) (m : Bool) (σ : Sl) (ρ : DEnv) (A : Fp) (F H : Hp) (ρ' : DEnv) (A' : Fp) (F' H' : Hp) (B : Fp) : Prop where
  rel : SRel K F' H' ρ' σ A'
  ext : Ext (E m A) F H (E m A' ++ B) F' H'
  qt : m = true → ρ' = ρ ∧ A' = A
  nd : B.Nodup
  ap : ∀ a, a ∈ B → a ∉ A'
section
variable {K : PySem.W.Frag} {m m2 : Bool} {σ : Sl} {ρ ρ1 ρ2 : DEnv} {A A1 A2 B B1 B2 : Fp} {F H F1 H1 F2 H2 : Hp} {d : D} {v : V} {t : T}
theorem Aft.refl (r : SRel K F H ρ σ A) : Aft K m σ ρ A F H ρ A F H [] :=
  ⟨r, Ext.refl fun a h => .inl (by simpa using h), fun _ => ⟨rfl, rfl⟩, List.nodup_nil, fun _ h => (List.not_mem_nil h).elim⟩
theorem Aft.weak (x : Aft K m σ ρ A F H ρ1 A1 F1 H1 B) (h : m2 = true → m = true) : Aft K m2 σ ρ A F H ρ1 A1 F1 H1 B := by
  refine ⟨x.rel, ?_, fun e => x.qt (h e), x.nd, x.ap⟩
  cases m2 with
  | true =>
    have e := h rfl
    subst e
    exact x.ext
  | false =>
    cases m with
    | false => exact x.ext
    | true =>
      obtain ⟨e1, e2⟩ := x.qt rfl
      subst e1 e2
      have y := x.ext
      refine ⟨y.frz, fun a o e _ => y.keep a o e List.not_mem_nil, fun a z => ?_, fun a o e => ?_⟩
      · rcases List.mem_append.mp z with z | z
        · exact .inl z
        · exact (y.own a (List.mem_append_right _ z)).elim (fun q => (List.not_mem_nil q).elim) .inr
      · rcases y.newf a o e with q | q | q
        · exact .inl q
        · exact (List.not_mem_nil q).elim
        · exact .inr (.inr q)
/-- what lay apart from the slots stands -/
theorem Aft.apart {B0 : Fp} (x : Aft K m σ ρ A F H ρ1 A1 F1 H1 B) (h : ∀ a, a ∈ B0 → (∃ o, H a = some o) ∧ F a = none) (n : ∀ a, a ∈ B0 → a ∉ A) :
    (∀ a o, a ∈ B0 → H a = some o → H1 a = some o) ∧ (∀ a, a ∈ B0 → F1 a = none) ∧ (∀ a, a ∈ B0 → a ∉ A1) ∧ ∀ a, a ∈ B0 → a ∉ B := by
  have x' := (x.weak (m2 := false) fun e => by cases e).ext
  obtain ⟨h1, h2, h3⟩ := x'.stays h n
  exact ⟨h1, h2, fun a m z => h3 a m (List.mem_append_left _ z), fun a m z => h3 a m (List.mem_append_right _ z)⟩
theorem Aft.rep {B0 : Fp} (x : Aft K m σ ρ A F H ρ1 A1 F1 H1 B) (r : Rep K F H d v B0) (n : ∀ a, a ∈ B0 → a ∉ A) : Rep K F1 H1 d v B0 :=
  let ⟨h1, h2, _⟩ := x.apart r.foot n
  r.mono x.ext.frz h1 h2
theorem Aft.repT {B0 : Fp} (x : Aft K m σ ρ A F H ρ1 A1 F1 H1 B) (r : RepT K F H σ t v B0) (n : ∀ a, a ∈ B0 → a ∉ A) (h : m = true ∨ t.stable = true) : RepT K F1 H1 σ t v B0 := by
  cases r with
  | val r => exact .val (x.rep r n)
  | slot r => exact .slot r
  | sub r q =>
    rcases h with h | h
    · subst h
      exact .sub r (q.keep fun a o e => x.ext.keep a o e List.not_mem_nil)
    · cases h
theorem RepT.foot {B0 : Fp} (r : RepT K F H σ t v B0) : ∀ a, a ∈ B0 → (∃ o, H a = some o) ∧ F a = none := by
  cases r with
  | val r => exact r.foot
  | slot r => intro a m; cases m
  | sub r q => intro a m; cases m
/-- one behind the other -/
theorem Aft.seq (x : Aft K m σ ρ A F H ρ1 A1 F1 H1 B1) (y : Aft K m2 σ ρ1 A1 F1 H1 ρ2 A2 F2 H2 B2) (hB : ∀ a, a ∈ B1 → (∃ o, H1 a = some o) ∧ F1 a = none) :
    Aft K (m && m2) σ ρ A F H ρ2 A2 F2 H2 (B1 ++ B2) := by
  have x' := x.weak (m2 := m && m2) fun e => (Bool.and_eq_true_iff.mp e).1
  have y' := y.weak (m2 := m && m2) fun e => (Bool.and_eq_true_iff.mp e).2
  obtain ⟨_, _, h3, h4⟩ := y.apart hB x.ap
  refine ⟨y.rel, ?_, fun e => ?_, ?_, fun a z => ?_⟩
  · have z := Ext.trans (B1 := B1) x'.ext y'.ext (fun a q => List.mem_append_left _ q) (fun a q => List.mem_append_right _ q)
    refine z.le fun a q => ?_
    rcases List.mem_append.mp q with q | q
    · exact List.mem_append_left _ (List.mem_append_left _ q)
    · rcases List.mem_append.mp q with q | q
      · exact List.mem_append_right _ q
      · exact List.mem_append_left _ (List.mem_append_right _ q)
  · obtain ⟨e1, e2⟩ := x'.qt e
    obtain ⟨e3, e4⟩ := y'.qt e
    exact ⟨e3.trans e1, e4.trans e2⟩
  · exact List.nodup_append.mpr ⟨x.nd, y.nd, fun a ha b hb e => h4 a ha (by rw [e]; exact hb)⟩
  · rcases List.mem_append.mp z with z | z
    · exact h3 a z
    · exact y.ap a z
/-- what was kept apart is let go -/
theorem Aft.less {B' : Fp} (x : Aft K m σ ρ A F H ρ1 A1 F1 H1 B) (h : B'.Sublist B) : Aft K m σ ρ A F H ρ1 A1 F1 H1 B' :=
  ⟨x.rel, x.ext.le fun a q => by
    rcases List.mem_append.mp q with q | q
    · exact List.mem_append_left _ q
    · exact List.mem_append_right _ (h.subset q), x.qt, x.nd.sublist h, fun a q => x.ap a (h.subset q)⟩
/-- .. then something new alone -/
theorem Aft.pure (x : Aft K m σ ρ A F H ρ1 A1 F1 H1 B1) (y : Ext [] F1 H1 B2 F2 H2) (l : Le F2 H2) (n : B2.Nodup) : Aft K m σ ρ A F H ρ1 A1 F2 H2 B2 := by
  have y2 : Aft K true σ ρ1 A1 F1 H1 ρ1 A1 F2 H2 B2 := by
    refine ⟨x.rel.keeps y l, y.le fun a q => by simpa [E] using q, fun _ => ⟨rfl, rfl⟩, n, fun a q z => ?_⟩
    obtain ⟨⟨o, e⟩, _⟩ := x.rel.env.foot a z
    rcases y.own a q with q | q
    · cases q
    · rw [e] at q; cases q
  have z := (x.less (List.nil_sublist B1)).seq y2 fun a q => (List.not_mem_nil q).elim
  rw [Bool.and_true] at z
  exact z
end

/-! ### exceptions -/
structure Exc where
  cls : Str
  at_ : Option D
def ExcRep (K : PySem.W.Frag) (mg : Str → Option Value) (F H : Hp) (x : Exc) (cls : Value) (d : Option Addr) : Prop :=
  ∃ C, mg x.cls = some (.ref C) ∧ cls = .ref C ∧ ∀ a, x.at_ = some a → ∃ dd v, d = some dd ∧ F dd = some (.xd [(("at" : Str), v)]) ∧ Rep K F H a v []

/-! ### the judgements -/
structure SC where
  P : Program
  w : World
  K : PySem.W.Frag
  mg : Str → Option Value
  base : Heap
  N : List Str
  sc : Scope
  fn : Str → Bool
  room : Nat
structure Fits (c : SC) (X : Cx) : Prop where
  P : X.prog = c.P
  w : X.w = c.w
  K : X.K = c.K
  mg : X.mg = c.mg
  base : X.base = c.base
  N : X.N = c.N
  sc : X.env.scope = c.sc
  calm : X.calm = true
  room : Room c.room X.A
  fn : X.fn = c.fn
abbrev PsiE := Exc → DEnv → Prop
abbrev WE := DEnv → (T → DEnv → Prop) → PsiE → Prop
abbrev WT := DEnv → (Bool → DEnv → Prop) → PsiE → Prop
abbrev WA := DEnv → (List T → DEnv → Prop) → PsiE → Prop
/-- what is wished of exceptions -/
def ExcOk (K : PySem.W.Frag) (mg : Str → Option Value) (W : WX) (Ψ : PsiE) (σ : Sl) (A : Fp) (F H : Hp) : Prop :=
  ∀ x cls d ρ' F' H' A', Ψ x ρ' → ExcRep K mg F' H' x cls d → SRel K F' H' ρ' σ A' → Ext A F H A' F' H' → W cls d σ H'
theorem ExcOk.aft {K : PySem.W.Frag} {mg : Str → Option Value} {W : WX} {Ψ : PsiE} {m : Bool} {σ : Sl} {ρ ρ1 : DEnv} {A A1 B : Fp} {F H F1 H1 : Hp} (h : ExcOk K mg W Ψ σ A F H) (x : Aft K m σ ρ A F H ρ1 A1 F1 H1 B) : ExcOk K mg W Ψ σ A1 F1 H1 := by
  intro e cls d ρ' F' H' A' hΨ hr rel ext
  have x' := (x.weak (m2 := false) fun e => by cases e).ext
  have z := Ext.trans (B1 := []) x' ext (fun a q => List.mem_append_left _ q) (fun a q => (List.not_mem_nil q).elim)
  rw [List.append_nil] at z
  exact h e cls d ρ' F' H' A' hΨ hr rel z
def SndE (c : SC) (m : Bool) (W : WX) (t : TE) (w : WE) : Prop :=
  ∀ ρ Φ Ψ, w ρ Φ Ψ → ∀ σ F H A, SRel c.K F H ρ σ A → ∀ Q : VK,
    (∀ x v B ρ' F' H' A', Φ x ρ' → RepT c.K F' H' σ x v B → Aft c.K m σ ρ A F H ρ' A' F' H' B → Q v H') → ExcOk c.K c.mg W Ψ σ A F H → t σ H Q
def SndT (c : SC) (m : Bool) (W : WX) (t : TT) (w : WT) : Prop :=
  ∀ ρ Φ Ψ, w ρ Φ Ψ → ∀ σ F H A, SRel c.K F H ρ σ A → ∀ Q : Bool → Hp → Prop,
    (∀ b ρ' F' H' A', Φ b ρ' → Aft c.K m σ ρ A F H ρ' A' F' H' [] → Q b H') → ExcOk c.K c.mg W Ψ σ A F H → t σ H Q
/-- the things of an argument list, what they own one after the other -/
inductive RepTs (K : PySem.W.Frag) (F H : Hp) (σ : Sl) : List T → List V → Fp → Prop
  | nil : RepTs K F H σ [] [] []
  | cons {t : T} {ts : List T} {v : V} {vs : List V} {A B C : Fp} : RepT K F H σ t v A → RepTs K F H σ ts vs B → C = A ++ B → RepTs K F H σ (t :: ts) (v :: vs) C
def SndA (c : SC) (m : Bool) (W : WX) (t : TA) (w : WA) : Prop :=
  ∀ ρ Φ Ψ, w ρ Φ Ψ → ∀ σ F H A, SRel c.K F H ρ σ A → ∀ Q : List V → Hp → Prop,
    (∀ xs vs B ρ' F' H' A', Φ xs ρ' → RepTs c.K F' H' σ xs vs B → Aft c.K m σ ρ A F H ρ' A' F' H' B → Q vs H') → ExcOk c.K c.mg W Ψ σ A F H → t σ H Q
/-- an expression -/
def DE (c : SC) (m : Bool) (e : Expr) (w : WE) : Prop := ∃ t : WX → TE, (∀ X W, Fits c X → Takes X W → PE X e (t W)) ∧ ∀ W, SndE c m W (t W) w
/-- a test -/
def DT (c : SC) (m : Bool) (e : Expr) (w : WT) : Prop := ∃ t : WX → TT, (∀ X W, Fits c X → Takes X W → PT X e (t W)) ∧ ∀ W, SndT c m W (t W) w
/-- a chain of and, or -/
def DW (c : SC) (m : Bool) (e : Expr) (w : WT) : Prop := ∃ t : WX → TT, (∀ X W, Fits c X → Takes X W → PW X e (t W)) ∧ ∀ W, SndT c m W (t W) w
/-- an argument list -/
def DA (c : SC) (m : Bool) (es : List Expr) (w : WA) : Prop := ∃ t : WX → TA, (∀ X W, Fits c X → Takes X W → PA X es (t W)) ∧ ∀ W, SndA c m W (t W) w
theorem SndE.weak {c : SC} {m m2 : Bool} {W : WX} {t : TE} {w : WE} (h : SndE c m W t w) (hm : m2 = true → m = true) : SndE c m2 W t w :=
  fun ρ Φ Ψ hw σ F H A rel Q q e => h ρ Φ Ψ hw σ F H A rel Q (fun x v B ρ' F' H' A' hΦ r a => q x v B ρ' F' H' A' hΦ r (a.weak hm)) e
theorem DE.loud {c : SC} {e : Expr} {w : WE} (h : DE c true e w) : DE c false e w := h.imp fun t ⟨h1, h2⟩ => ⟨h1, fun W => (h2 W).weak fun e => by cases e⟩
theorem SndT.weak {c : SC} {m m2 : Bool} {W : WX} {t : TT} {w : WT} (h : SndT c m W t w) (hm : m2 = true → m = true) : SndT c m2 W t w :=
  fun ρ Φ Ψ hw σ F H A rel Q q e => h ρ Φ Ψ hw σ F H A rel Q (fun x ρ' F' H' A' hΦ a => q x ρ' F' H' A' hΦ (a.weak hm)) e
theorem DT.loud {c : SC} {e : Expr} {w : WT} (h : DT c true e w) : DT c false e w := h.imp fun t ⟨h1, h2⟩ => ⟨h1, fun W => (h2 W).weak fun e => by cases e⟩
end DL

set_option maxHeartbeats 200000
/-! DL3: expressions: names, constants, operators, tests, argument lists, displays, built-ins -/
namespace DL
open PySem PySem.Spec PyProof.Rows L2

def wd {α : Type} (o : Option α) (k : α → Prop) : Prop := match o with
  | some a => k a
  | none => False
theorem wd_elim {α : Type} {o : Option α} {k : α → Prop} (h : wd o k) : ∃ a, o = some a ∧ k a := by
  cases o with
  | none => exact h.elim
  | some a => exact ⟨a, rfl, h⟩
theorem wd_intro {α : Type} {o : Option α} {k : α → Prop} {a : α} (h : o = some a) (q : k a) : wd o k := by subst h; exact q

section
variable {c : SC} {m m2 : Bool} {W : WX}
/-! ### names, constants -/
def wVar (i : Nat) : WE := fun ρ Φ _ => wd (lk ρ i) fun d => Φ (if d.isOwn = true then .slot i else .val d) ρ
def VisC (sc : Scope) (x : Str) : Prop := sc.names.lookup x = some .local ∨ sc.names.lookup x = some .cell ∨ sc.names.lookup x = some .free
theorem de_name (i : Nat) {x : Str} {pos : Pos} (hN : c.N[i]? = some x := by rfl) (hv : VisC c.sc x := by first | exact Or.inl rfl | exact Or.inr (Or.inl rfl) | exact Or.inr (Or.inr rfl))
    (hd : (x == ("__debug__" : Str)) = false := by decide) (hcd : (x == ("__classdict__" : Str)) = false := by decide) : DE c true (.Name x pos) (wVar i) := by
  refine ⟨fun _ => tVar i, fun X W fit _ => pe_var (by rw [fit.N]; exact hN) (by unfold Vis; rw [fit.sc]; exact hv) hd hcd, fun W ρ Φ Ψ hw σ F H A rel Q q _ => ?_⟩
  obtain ⟨d, e, hΦ⟩ := wd_elim hw
  obtain ⟨v, B, h1, h2, h3⟩ := rel.slot (lk_some.mp e)
  refine ⟨v, h1, ?_⟩
  by_cases ho : d.isOwn = true
  · rw [if_pos ho] at hΦ
    exact q _ v [] ρ F H A hΦ (.slot h1) (Aft.refl rel)
  · rw [if_neg ho] at hΦ
    have e0 := h2.own_nil (Bool.eq_false_iff.mpr ho)
    subst e0
    exact q _ v [] ρ F H A hΦ (.val h2) (Aft.refl rel)
def wC (d : D) : WE := fun ρ Φ _ => Φ (.val d) ρ
theorem snd_c {d : D} {v : V} (h : ∀ F H, Rep c.K F H d v []) : SndE c true W (tC v) (wC d) := fun ρ Φ Ψ hw σ F H A rel Q q _ => q _ v [] ρ F H A hw (.val (h F H)) (Aft.refl rel)
theorem de_int {i : Int} {j pos} : DE c true (.Constant (.int i) j pos) (wC (.int i)) := ⟨fun _ => tC (.int i), fun _ _ _ _ => pe_int, fun _ => snd_c fun _ _ => .int i⟩
theorem de_bl {b : Bool} {j pos} : DE c true (.Constant (.bool b) j pos) (wC (.bl b)) := ⟨fun _ => tC (.bl b), fun _ _ _ _ => pe_bl, fun _ => snd_c fun _ _ => .bl b⟩
theorem de_non {j pos} : DE c true (.Constant .none j pos) (wC .non) := ⟨fun _ => tC .non, fun _ _ _ _ => pe_non, fun _ => snd_c fun _ _ => .non⟩
theorem de_str {x : Str} {j pos} : DE c true (.Constant (.str x) j pos) (wC (.str x)) := ⟨fun _ => tC (.str x), fun _ _ _ _ => pe_str, fun _ => snd_c fun _ _ => .str x⟩
def GlC (sc : Scope) (x : Str) : Prop := sc.names.lookup x = some .globalImplicit
theorem gl_of {X : Cx} {x : Str} (fit : Fits c X) (h : GlC c.sc x) : Gl X x := by
  show X.env.scope.names.lookup x = _
  rw [fit.sc]; exact h
theorem de_glob {x : Str} {d : D} {v : V} {u : Value} {pos : Pos} (hg : GlC c.sc x) (hm : c.mg x = some u) (r : RelV v u) (h : ∀ F H, Rep c.K F H d v []) (hd : (x == ("__debug__" : Str)) = false := by decide) : DE c true (.Name x pos) (wC d) :=
  ⟨fun _ => tC v, fun X W fit _ => pe_glob (gl_of fit hg) (by rw [fit.mg]; exact hm) r hd, fun _ => snd_c h⟩

/-! ### one thing made of others, nothing touched -/
abbrev Op1 := D → (D → Prop) → Prop
abbrev Op2 := D → D → (D → Prop) → Prop
abbrev OpN := List D → (D → Prop) → Prop
def OpS1 (K : PySem.W.Frag) (r : V → Hp → VK → Prop) (f : Op1) : Prop := ∀ x k, f x k → ∀ F H vx Bx, Le F H → Rep K F H x vx Bx → ∀ Q : VK,
  (∀ d v B F' H', k d → Rep K F' H' d v B → B.Nodup → Ext [] F H B F' H' → Le F' H' → Q v H') → r vx H Q
def OpS2 (K : PySem.W.Frag) (r : R2) (f : Op2) : Prop := ∀ x y k, f x y k → ∀ F H vx vy Bx By, Le F H → Rep K F H x vx Bx → Rep K F H y vy By → ∀ Q : VK,
  (∀ d v B F' H', k d → Rep K F' H' d v B → B.Nodup → Ext [] F H B F' H' → Le F' H' → Q v H') → r vx vy H Q
inductive RepAll (K : PySem.W.Frag) (F H : Hp) : List D → List V → Prop
  | nil : RepAll K F H [] []
  | cons {d : D} {ds : List D} {v : V} {vs : List V} {B : Fp} : Rep K F H d v B → RepAll K F H ds vs → RepAll K F H (d :: ds) (v :: vs)
def OpSN (K : PySem.W.Frag) (r : List V → Hp → VK → Prop) (f : OpN) : Prop := ∀ xs k, f xs k → ∀ F H vs, Le F H → RepAll K F H xs vs → ∀ Q : VK,
  (∀ d v B F' H', k d → Rep K F' H' d v B → B.Nodup → Ext [] F H B F' H' → Le F' H' → Q v H') → r vs H Q
theorem Ext.nop {F H : Hp} : Ext [] F H [] F H := Ext.refl fun _ h => (List.not_mem_nil h).elim
def w1 (f : Op1) (wa : WE) : WE := fun ρ Φ Ψ => wa ρ (fun ta ρ1 => wd (deref ρ1 ta) fun x => f x fun d => Φ (.val d) ρ1) Ψ
theorem snd_1 {ta : TE} {wa : WE} {r : V → Hp → VK → Prop} {f : Op1} (ha : SndE c m W ta wa) (hf : OpS1 c.K r f) : SndE c m W (tUn r ta) (w1 f wa) := by
  intro ρ Φ Ψ hw σ F H A rel Q q ex
  refine ha ρ _ Ψ hw σ F H A rel _ (fun ta va B ρ1 F1 H1 A1 hk ra af => ?_) ex
  obtain ⟨x, ex, hk⟩ := wd_elim hk
  obtain ⟨B', rx, _, _⟩ := deref_rep af.rel ra ex
  exact hf x _ hk F1 H1 va B' af.rel.le rx Q fun d v B2 F2 H2 hΦ r n e l => q _ v B2 ρ1 F2 H2 A1 hΦ (.val r) (af.pure e l n)
def w2 (q : Bool) (f : Op2) (wa wb : WE) : WE := fun ρ Φ Ψ => wa ρ (fun ta ρ1 => (q || ta.stable) = true ∧ wb ρ1 (fun tb ρ2 => wd (deref ρ2 ta) fun x => wd (deref ρ2 tb) fun y => f x y fun d => Φ (.val d) ρ2) Ψ) Ψ
theorem snd_2 {ta tb : TE} {wa wb : WE} {r : R2} {f : Op2} (ha : SndE c m W ta wa) (hb : SndE c m2 W tb wb) (hf : OpS2 c.K r f) : SndE c (m && m2) W (tOp r ta tb) (w2 m2 f wa wb) := by
  intro ρ Φ Ψ hw σ F H A rel Q q ex
  refine ha ρ _ Ψ hw σ F H A rel _ (fun ta va B ρ1 F1 H1 A1 hk ra af => ?_) ex
  obtain ⟨st, hk⟩ := hk
  refine hb ρ1 _ Ψ hk σ F1 H1 A1 af.rel _ (fun tb vb B2 ρ2 F2 H2 A2 hk rb af2 => ?_) (ex.aft af)
  obtain ⟨x, ex, hk⟩ := wd_elim hk
  obtain ⟨y, ey, hk⟩ := wd_elim hk
  have ra2 := af2.repT ra af.ap (by simpa using st)
  obtain ⟨_, rx, _, _⟩ := deref_rep af2.rel ra2 ex
  obtain ⟨_, ry, _, _⟩ := deref_rep af2.rel rb ey
  have sq := af.seq af2 ra.foot
  exact hf x y _ hk F2 H2 va vb _ _ af2.rel.le rx ry Q fun d v B3 F3 H3 hΦ r n e l => q _ v B3 ρ2 F3 H3 A2 hΦ (.val r) (sq.pure e l n)
theorem de_bin {op : Operator} {a b : Expr} {wa wb : WE} {r : PySem.W.Frag → R2} {f : Op2} {pos : Pos} (ho : ∀ X, Fits c X → OpR X (binaryOp op) (r X.K)) (hf : OpS2 c.K (r c.K) f) (ha : DE c m a wa) (hb : DE c m2 b wb) : DE c (m && m2) (.BinOp a op b pos) (w2 m2 f wa wb) := by
  obtain ⟨ta, ha1, ha2⟩ := ha
  obtain ⟨tb, hb1, hb2⟩ := hb
  refine ⟨fun W => tOp (r c.K) (ta W) (tb W), fun X W fit tk => ?_, fun W => snd_2 (ha2 W) (hb2 W) hf⟩
  have z := ho X fit
  rw [fit.K] at z
  exact pe_op z (ha1 X W fit tk) (hb1 X W fit tk)
theorem de_un {op : UnaryOp} {a : Expr} {wa : WE} {r : V → Hp → VK → Prop} {f : Op1} {pos : Pos} (ho : ∀ X, Fits c X → UnR X (unaryOp op) r) (hf : OpS1 c.K r f) (ha : DE c m a wa) : DE c m (.UnaryOp op a pos) (w1 f wa) := by
  obtain ⟨ta, ha1, ha2⟩ := ha
  exact ⟨fun W => tUn r (ta W), fun X W fit tk => pe_un (ho X fit) (ha1 X W fit tk), fun W => snd_1 (ha2 W) hf⟩
/-- a comparison as a value, as a test -/
theorem de_cmp {op : CmpOp} {a b : Expr} {wa wb : WE} {r : PySem.W.Frag → R2} {f : Op2} {pos : Pos} (ho : ∀ X, Fits c X → OpR X (compareOp op) (r X.K)) (hf : OpS2 c.K (r c.K) f) (ha : DE c m a wa) (hb : DE c m2 b wb) (hm : behindInMarks op b = false) : DE c (m && m2) (.Compare a [op] [b] pos) (w2 m2 f wa wb) := by
  obtain ⟨ta, ha1, ha2⟩ := ha
  obtain ⟨tb, hb1, hb2⟩ := hb
  refine ⟨fun W => tOp (r c.K) (ta W) (tb W), fun X W fit tk => ?_, fun W => snd_2 (ha2 W) (hb2 W) hf⟩
  have z := ho X fit
  rw [fit.K] at z
  exact pe_cmpR z (ha1 X W fit tk) (hb1 X W fit tk) hm
theorem Rep.bl_inv {K : PySem.W.Frag} {F H : Hp} {b : Bool} {v : V} {A : Fp} (r : Rep K F H (.bl b) v A) : v = .bl b ∧ A = [] := by
  cases r
  exact ⟨rfl, rfl⟩
def asB (d : D) (k : Bool → Prop) : Prop := match d with
  | .bl b => k b
  | _ => False
theorem asB_elim {d : D} {k : Bool → Prop} (h : asB d k) : ∃ b, d = .bl b ∧ k b := by
  cases d with
  | bl b => exact ⟨b, rfl, h⟩
  | _ => exact h.elim
def wTest (wa : WE) : WT := fun ρ Φ Ψ => wa ρ (fun t ρ1 => wd (deref ρ1 t) fun d => asB d fun b => Φ b ρ1) Ψ
theorem snd_test {ta : TE} {wa : WE} (ha : SndE c m W ta wa) : SndT c m W (tTest ta) (wTest wa) := by
  intro ρ Φ Ψ hw σ F H A rel Q q ex
  refine ha ρ _ Ψ hw σ F H A rel _ (fun t v B ρ1 F1 H1 A1 hk ra af => ?_) ex
  obtain ⟨x, ex, hk⟩ := wd_elim hk
  obtain ⟨b, e, hk2⟩ := asB_elim hk
  clear hk
  subst e
  have hk := hk2
  obtain ⟨_, rx, _, _⟩ := deref_rep af.rel ra ex
  obtain ⟨rfl, _⟩ := rx.bl_inv
  exact ⟨b, rfl, q b ρ1 F1 H1 A1 hk (af.less (List.nil_sublist B))⟩
theorem dt_cmp {op : CmpOp} {a b : Expr} {wa wb : WE} {r : PySem.W.Frag → R2} {f : Op2} {pos : Pos} (ho : ∀ X, Fits c X → OpR X (compareOp op) (r X.K)) (hf : OpS2 c.K (r c.K) f) (ha : DE c m a wa) (hb : DE c m2 b wb) (hm : behindInMarks op b = false) : DT c (m && m2) (.Compare a [op] [b] pos) (wTest (w2 m2 f wa wb)) := by
  obtain ⟨ta, ha1, ha2⟩ := ha
  obtain ⟨tb, hb1, hb2⟩ := hb
  refine ⟨fun W => tTest (tOp (r c.K) (ta W) (tb W)), fun X W fit tk => ?_, fun W => snd_test (snd_2 (ha2 W) (hb2 W) hf)⟩
  have z := ho X fit
  rw [fit.K] at z
  exact pt_cmpR z (ha1 X W fit tk) (hb1 X W fit tk) hm
theorem dt_val {a : Expr} {wa : WE} (ha : DE c m a wa) (he : ∀ env whole, isTrue a env whole = (do let v ← whole; standAt a.pos; holding [v] (truthy v)) := by intro _ _; rfl) : DT c m a (wTest wa) := by
  obtain ⟨ta, ha1, ha2⟩ := ha
  exact ⟨fun W => tTest (ta W), fun X W fit tk => pt_val (ha1 X W fit tk) (fun wh => he X.env wh), fun W => snd_test (ha2 W)⟩

/-! ### and, or, not -/
def wAnd (wa wb : WT) : WT := fun ρ Φ Ψ => wa ρ (fun b ρ1 => if b = true then wb ρ1 Φ Ψ else Φ false ρ1) Ψ
def wOr (wa wb : WT) : WT := fun ρ Φ Ψ => wa ρ (fun b ρ1 => if b = true then Φ true ρ1 else wb ρ1 Φ Ψ) Ψ
def wNot (wa : WT) : WT := fun ρ Φ Ψ => wa ρ (fun b ρ1 => Φ (!b) ρ1) Ψ
theorem Aft.seq0 {K : PySem.W.Frag} {σ : Sl} {ρ ρ1 ρ2 : DEnv} {A A1 A2 B2 : Fp} {F H F1 H1 F2 H2 : Hp} (x : Aft K m σ ρ A F H ρ1 A1 F1 H1 []) (y : Aft K m2 σ ρ1 A1 F1 H1 ρ2 A2 F2 H2 B2) : Aft K (m && m2) σ ρ A F H ρ2 A2 F2 H2 B2 :=
  x.seq y fun _ h => (List.not_mem_nil h).elim
theorem snd_and {ta tb : TT} {wa wb : WT} (ha : SndT c m W ta wa) (hb : SndT c m2 W tb wb) : SndT c (m && m2) W (tAnd ta tb) (wAnd wa wb) := by
  intro ρ Φ Ψ hw σ F H A rel Q q ex
  refine ha ρ _ Ψ hw σ F H A rel _ (fun b ρ1 F1 H1 A1 hk af => ?_) ex
  cases b with
  | true =>
    rw [if_pos rfl] at hk ⊢
    exact hb ρ1 _ Ψ hk σ F1 H1 A1 af.rel _ (fun b2 ρ2 F2 H2 A2 hk af2 => q b2 ρ2 F2 H2 A2 hk (af.seq0 af2)) (ex.aft af)
  | false =>
    rw [if_neg Bool.false_ne_true] at hk ⊢
    exact q false ρ1 F1 H1 A1 hk (af.weak fun e => (Bool.and_eq_true_iff.mp e).1)
theorem snd_or {ta tb : TT} {wa wb : WT} (ha : SndT c m W ta wa) (hb : SndT c m2 W tb wb) : SndT c (m && m2) W (tOr ta tb) (wOr wa wb) := by
  intro ρ Φ Ψ hw σ F H A rel Q q ex
  refine ha ρ _ Ψ hw σ F H A rel _ (fun b ρ1 F1 H1 A1 hk af => ?_) ex
  cases b with
  | false =>
    rw [if_neg Bool.false_ne_true] at hk ⊢
    exact hb ρ1 _ Ψ hk σ F1 H1 A1 af.rel _ (fun b2 ρ2 F2 H2 A2 hk af2 => q b2 ρ2 F2 H2 A2 hk (af.seq0 af2)) (ex.aft af)
  | true =>
    rw [if_pos rfl] at hk ⊢
    exact q true ρ1 F1 H1 A1 hk (af.weak fun e => (Bool.and_eq_true_iff.mp e).1)
theorem snd_not {ta : TT} {wa : WT} (ha : SndT c m W ta wa) : SndT c m W (tNot ta) (wNot wa) := fun ρ Φ Ψ hw σ F H A rel Q q ex =>
  ha ρ _ Ψ hw σ F H A rel _ (fun b ρ1 F1 H1 A1 hk af => q (!b) ρ1 F1 H1 A1 hk af) ex
variable {a b : Expr} {rest : List Expr} {pos : Pos}
theorem dw_and1 {wa : WT} (ha : DT c m a wa) : DW c m (.BoolOp .And [a] pos) wa := ha.imp fun t ⟨h1, h2⟩ => ⟨fun X W fit tk => pw_and1 (h1 X W fit tk), h2⟩
theorem dw_or1 {wa : WT} (ha : DT c m a wa) : DW c m (.BoolOp .Or [a] pos) wa := ha.imp fun t ⟨h1, h2⟩ => ⟨fun X W fit tk => pw_or1 (h1 X W fit tk), h2⟩
theorem dw_and {wa wb : WT} (ha : DT c m a wa) (hb : DW c m2 (.BoolOp .And (b :: rest) pos) wb) : DW c (m && m2) (.BoolOp .And (a :: b :: rest) pos) (wAnd wa wb) := by
  obtain ⟨ta, ha1, ha2⟩ := ha
  obtain ⟨tb, hb1, hb2⟩ := hb
  exact ⟨fun W => tAnd (ta W) (tb W), fun X W fit tk => pw_and (ha1 X W fit tk) (hb1 X W fit tk), fun W => snd_and (ha2 W) (hb2 W)⟩
theorem dw_or {wa wb : WT} (ha : DT c m a wa) (hb : DW c m2 (.BoolOp .Or (b :: rest) pos) wb) : DW c (m && m2) (.BoolOp .Or (a :: b :: rest) pos) (wOr wa wb) := by
  obtain ⟨ta, ha1, ha2⟩ := ha
  obtain ⟨tb, hb1, hb2⟩ := hb
  exact ⟨fun W => tOr (ta W) (tb W), fun X W fit tk => pw_or (ha1 X W fit tk) (hb1 X W fit tk), fun W => snd_or (ha2 W) (hb2 W)⟩
theorem DW.dt {e : Expr} {w : WT} (h : DW c m e w) : DT c m e w := h.imp fun t ⟨h1, h2⟩ => ⟨fun X W fit tk => (h1 X W fit tk).pt, h2⟩
theorem dt_not {wa : WT} (ha : DT c m a wa) : DT c m (.UnaryOp .Not a pos) (wNot wa) := by
  obtain ⟨ta, ha1, ha2⟩ := ha
  exact ⟨fun W => tNot (ta W), fun X W fit tk => pt_not (ha1 X W fit tk), fun W => snd_not (ha2 W)⟩
/-- .. as values, of bools -/
def wAndV (wa wb : WE) : WE := fun ρ Φ Ψ => wa ρ (fun t ρ1 => wd (deref ρ1 t) fun d => asB d fun b => if b = true then wb ρ1 Φ Ψ else Φ (.val (.bl false)) ρ1) Ψ
def wOrV (wa wb : WE) : WE := fun ρ Φ Ψ => wa ρ (fun t ρ1 => wd (deref ρ1 t) fun d => asB d fun b => if b = true then Φ (.val (.bl true)) ρ1 else wb ρ1 Φ Ψ) Ψ
def wNotV (wa : WE) : WE := fun ρ Φ Ψ => wa ρ (fun t ρ1 => wd (deref ρ1 t) fun d => asB d fun b => Φ (.val (.bl (!b))) ρ1) Ψ
theorem snd_andV {ta tb : TE} {wa wb : WE} (ha : SndE c m W ta wa) (hb : SndE c m2 W tb wb) : SndE c (m && m2) W (tAndV ta tb) (wAndV wa wb) := by
  intro ρ Φ Ψ hw σ F H A rel Q q ex
  refine ha ρ _ Ψ hw σ F H A rel _ (fun t v B ρ1 F1 H1 A1 hk ra af => ?_) ex
  obtain ⟨x, e, hk⟩ := wd_elim hk
  obtain ⟨b, e', hk2⟩ := asB_elim hk
  clear hk
  subst e'
  have hk := hk2
  obtain ⟨_, rx, _, _⟩ := deref_rep af.rel ra e
  obtain ⟨rfl, _⟩ := rx.bl_inv
  refine ⟨b, rfl, ?_⟩
  have af := af.less (List.nil_sublist B)
  cases b with
  | true =>
    rw [if_pos rfl] at hk ⊢
    exact hb ρ1 _ Ψ hk σ F1 H1 A1 af.rel _ (fun b2 v2 B2 ρ2 F2 H2 A2 hk r2 af2 => q b2 v2 B2 ρ2 F2 H2 A2 hk r2 (af.seq0 af2)) (ex.aft af)
  | false =>
    rw [if_neg Bool.false_ne_true] at hk ⊢
    exact q _ _ [] ρ1 F1 H1 A1 hk (.val (.bl false)) (af.weak fun e => (Bool.and_eq_true_iff.mp e).1)
theorem snd_orV {ta tb : TE} {wa wb : WE} (ha : SndE c m W ta wa) (hb : SndE c m2 W tb wb) : SndE c (m && m2) W (tOrV ta tb) (wOrV wa wb) := by
  intro ρ Φ Ψ hw σ F H A rel Q q ex
  refine ha ρ _ Ψ hw σ F H A rel _ (fun t v B ρ1 F1 H1 A1 hk ra af => ?_) ex
  obtain ⟨x, e, hk⟩ := wd_elim hk
  obtain ⟨b, e', hk2⟩ := asB_elim hk
  clear hk
  subst e'
  have hk := hk2
  obtain ⟨_, rx, _, _⟩ := deref_rep af.rel ra e
  obtain ⟨rfl, _⟩ := rx.bl_inv
  refine ⟨b, rfl, ?_⟩
  have af := af.less (List.nil_sublist B)
  cases b with
  | false =>
    rw [if_neg Bool.false_ne_true] at hk ⊢
    exact hb ρ1 _ Ψ hk σ F1 H1 A1 af.rel _ (fun b2 v2 B2 ρ2 F2 H2 A2 hk r2 af2 => q b2 v2 B2 ρ2 F2 H2 A2 hk r2 (af.seq0 af2)) (ex.aft af)
  | true =>
    rw [if_pos rfl] at hk ⊢
    exact q _ _ [] ρ1 F1 H1 A1 hk (.val (.bl true)) (af.weak fun e => (Bool.and_eq_true_iff.mp e).1)
theorem de_one {op : BoolOp} {wa : WE} (ha : DE c m a wa) : DE c m (.BoolOp op [a] pos) wa := ha.imp fun t ⟨h1, h2⟩ => ⟨fun X W fit tk => pe_one (h1 X W fit tk), h2⟩
theorem de_and {wa wb : WE} (ha : DE c m a wa) (hb : DE c m2 (.BoolOp .And (b :: rest) pos) wb) : DE c (m && m2) (.BoolOp .And (a :: b :: rest) pos) (wAndV wa wb) := by
  obtain ⟨ta, ha1, ha2⟩ := ha
  obtain ⟨tb, hb1, hb2⟩ := hb
  exact ⟨fun W => tAndV (ta W) (tb W), fun X W fit tk => pe_and (ha1 X W fit tk) (hb1 X W fit tk), fun W => snd_andV (ha2 W) (hb2 W)⟩
theorem de_or {wa wb : WE} (ha : DE c m a wa) (hb : DE c m2 (.BoolOp .Or (b :: rest) pos) wb) : DE c (m && m2) (.BoolOp .Or (a :: b :: rest) pos) (wOrV wa wb) := by
  obtain ⟨ta, ha1, ha2⟩ := ha
  obtain ⟨tb, hb1, hb2⟩ := hb
  exact ⟨fun W => tOrV (ta W) (tb W), fun X W fit tk => pe_or (ha1 X W fit tk) (hb1 X W fit tk), fun W => snd_orV (ha2 W) (hb2 W)⟩
theorem de_not {wa : WE} (ha : DE c m a wa) : DE c m (.UnaryOp .Not a pos) (wNotV wa) := by
  obtain ⟨ta, ha1, ha2⟩ := ha
  refine ⟨fun W => tNotV (ta W), fun X W fit tk => pe_not (ha1 X W fit tk), fun W ρ Φ Ψ hw σ F H A rel Q q ex => ?_⟩
  refine ha2 W ρ _ Ψ hw σ F H A rel _ (fun t v B ρ1 F1 H1 A1 hk ra af => ?_) ex
  obtain ⟨x, e, hk⟩ := wd_elim hk
  obtain ⟨b, e', hk2⟩ := asB_elim hk
  clear hk
  subst e'
  have hk := hk2
  obtain ⟨_, rx, _, _⟩ := deref_rep af.rel ra e
  obtain ⟨rfl, _⟩ := rx.bl_inv
  exact ⟨b, rfl, q _ _ [] ρ1 F1 H1 A1 hk (.val (.bl _)) (af.less (List.nil_sublist B))⟩
/-- a if t else b -/
def wIf (wt : WT) (wa wb : WE) : WE := fun ρ Φ Ψ => wt ρ (fun k ρ1 => if k = true then wa ρ1 Φ Ψ else wb ρ1 Φ Ψ) Ψ
theorem de_if {t : Expr} {wt : WT} {wa wb : WE} {m3 : Bool} (ht : DT c m t wt) (ha : DE c m2 a wa) (hb : DE c m3 b wb) : DE c (m && (m2 && m3)) (.IfExp t a b pos) (wIf wt wa wb) := by
  obtain ⟨tt, ht1, ht2⟩ := ht
  obtain ⟨ta, ha1, ha2⟩ := ha
  obtain ⟨tb, hb1, hb2⟩ := hb
  refine ⟨fun W => tIf (tt W) (ta W) (tb W), fun X W fit tk => pe_ifExp (ht1 X W fit tk) (ha1 X W fit tk) (hb1 X W fit tk), fun W ρ Φ Ψ hw σ F H A rel Q q ex => ?_⟩
  refine ht2 W ρ _ Ψ hw σ F H A rel _ (fun k ρ1 F1 H1 A1 hk af => ?_) ex
  cases k with
  | true =>
    rw [if_pos rfl] at hk ⊢
    exact ha2 W ρ1 _ Ψ hk σ F1 H1 A1 af.rel _ (fun b2 v2 B2 ρ2 F2 H2 A2 hk r2 af2 => q b2 v2 B2 ρ2 F2 H2 A2 hk r2 ((af.seq0 af2).weak fun e => by
      obtain ⟨e1, e2⟩ := Bool.and_eq_true_iff.mp e
      rw [e1, (Bool.and_eq_true_iff.mp e2).1]; rfl)) (ex.aft af)
  | false =>
    rw [if_neg Bool.false_ne_true] at hk ⊢
    exact hb2 W ρ1 _ Ψ hk σ F1 H1 A1 af.rel _ (fun b2 v2 B2 ρ2 F2 H2 A2 hk r2 af2 => q b2 v2 B2 ρ2 F2 H2 A2 hk r2 ((af.seq0 af2).weak fun e => by
      obtain ⟨e1, e2⟩ := Bool.and_eq_true_iff.mp e
      rw [e1, (Bool.and_eq_true_iff.mp e2).2]; rfl)) (ex.aft af)

/-! ### argument lists -/
def wNil : WA := fun ρ Φ _ => Φ [] ρ
def wCons (q : Bool) (wa : WE) (wr : WA) : WA := fun ρ Φ Ψ => wa ρ (fun t ρ1 => (q || t.stable) = true ∧ wr ρ1 (fun ts ρ2 => Φ (t :: ts) ρ2) Ψ) Ψ
theorem da_nil : DA c true [] wNil := ⟨fun _ => tNil, fun _ _ _ _ => pa_nil, fun W ρ Φ Ψ hw σ F H A rel Q q _ => q [] [] [] ρ F H A hw .nil (Aft.refl rel)⟩
theorem da_cons {e : Expr} {es : List Expr} {wa : WE} {wr : WA} (ha : DE c m e wa) (hr : DA c m2 es wr) (hs : ∀ env, starEach (e :: es) env = (false, eval e env) :: starEach es env := by intro _; rfl) : DA c (m && m2) (e :: es) (wCons m2 wa wr) := by
  obtain ⟨ta, ha1, ha2⟩ := ha
  obtain ⟨tr, hr1, hr2⟩ := hr
  refine ⟨fun W => tCons (ta W) (tr W), fun X W fit tk => pa_cons (ha1 X W fit tk) (hr1 X W fit tk) (hs X.env), fun W ρ Φ Ψ hw σ F H A rel Q q ex => ?_⟩
  refine ha2 W ρ _ Ψ hw σ F H A rel _ (fun t v B ρ1 F1 H1 A1 hk ra af => ?_) ex
  obtain ⟨st, hk⟩ := hk
  refine hr2 W ρ1 _ Ψ hk σ F1 H1 A1 af.rel _ (fun ts vs B2 ρ2 F2 H2 A2 hk rr af2 => ?_) (ex.aft af)
  exact q (t :: ts) (v :: vs) (B ++ B2) ρ2 F2 H2 A2 hk (.cons (af2.repT ra af.ap (by simpa using st)) rr rfl) (af.seq af2 ra.foot)
def derefs (ρ : DEnv) : List T → Option (List D)
  | [] => some []
  | t :: ts => match deref ρ t, derefs ρ ts with
    | some d, some ds => some (d :: ds)
    | _, _ => none
theorem derefs_rep {K : PySem.W.Frag} {F H : Hp} {ρ : DEnv} {σ : Sl} {A B : Fp} {ts : List T} {vs : List V} (r : SRel K F H ρ σ A) (h : RepTs K F H σ ts vs B) : ∀ {ds : List D}, derefs ρ ts = some ds → RepAll K F H ds vs := by
  induction h with
  | nil => intro ds e; cases e; exact .nil
  | cons h1 _ _ ih =>
    intro ds e
    unfold derefs at e
    split at e
    · rename_i d ds' e1 e2
      cases e
      obtain ⟨B', rx, _, _⟩ := deref_rep r h1 e1
      exact .cons rx (ih e2)
    · cases e
/-- a built-in of things -/
def wN (f : OpN) (wa : WA) : WE := fun ρ Φ Ψ => wa ρ (fun ts ρ1 => wd (derefs ρ1 ts) fun ds => f ds fun d => Φ (.val d) ρ1) Ψ
theorem snd_N {ta : TA} {wa : WA} {r : List V → Hp → VK → Prop} {f : OpN} (ha : ∀ ρ Φ Ψ, wa ρ Φ Ψ → ∀ σ F H A, SRel c.K F H ρ σ A → ∀ Q : List V → Hp → Prop,
    (∀ xs vs B ρ' F' H' A', Φ xs ρ' → RepTs c.K F' H' σ xs vs B → Aft c.K m σ ρ A F H ρ' A' F' H' B → Q vs H') → ExcOk c.K c.mg W Ψ σ A F H → ta σ H Q) (hf : OpSN c.K r f) : SndE c m W (tCB r ta) (wN f wa) := by
  intro ρ Φ Ψ hw σ F H A rel Q q ex
  refine ha ρ _ Ψ hw σ F H A rel _ (fun ts vs B ρ1 F1 H1 A1 hk ra af => ?_) ex
  obtain ⟨ds, e, hk⟩ := wd_elim hk
  exact hf ds _ hk F1 H1 vs af.rel.le (derefs_rep af.rel ra e) Q fun d v B2 F2 H2 hΦ r n e l => q _ v B2 ρ1 F2 H2 A1 hΦ (.val r) (af.pure e l n)
theorem de_callB {x : Str} {id : String} {p : Pos} {e : Expr} {es : List Expr} {wa : WA} {r : PySem.W.Frag → List V → Hp → VK → Prop} {f : OpN} (hc : ∀ X, Fits c X → CallR X (.builtin id) (r X.K)) (hf : OpSN c.K (r c.K) f) (hg : GlC c.sc x) (hm : c.mg x = none) (hv : bootBuiltins x = some (.builtin id)) (ha : DA c m (e :: es) wa)
    (hn : x ≠ "__name__" := by decide) (hdb : (x == ("__debug__" : Str)) = false := by decide) (he : ∀ env, starEach (e :: es) env = (false, eval e env) :: starEach es env := by intro _; rfl) (hpl : ∀ env, (backTo pos (starEach es env)).any (·.1) = false := by intro _; rfl) :
    DE c m (.Call (.Name x p) (e :: es) [] pos) (wN f wa) := by
  obtain ⟨ta, ha1, ha2⟩ := ha
  refine ⟨fun W => tCB (r c.K) (ta W), fun X W fit tk => ?_, fun W => snd_N (ha2 W) hf⟩
  have z := hc X fit
  rw [fit.K] at z
  exact pe_callB z (gl_of fit hg) (by rw [fit.mg]; exact hm) hv (ha1 X W fit tk) hn hdb (he X.env) (hpl X.env)
theorem de_callTy {x : Str} {ty : String} {p : Pos} {e : Expr} {es : List Expr} {wa : WA} {r : PySem.W.Frag → List V → Hp → VK → Prop} {f : OpN} (hc : ∀ X, Fits c X → CallR X (.type ty) (r X.K)) (hf : OpSN c.K (r c.K) f) (hg : GlC c.sc x) (hm : c.mg x = none) (hv : bootBuiltins x = some (.type ty)) (ha : DA c m (e :: es) wa)
    (hn : x ≠ "__name__" := by decide) (hdb : (x == ("__debug__" : Str)) = false := by decide) (he : ∀ env, starEach (e :: es) env = (false, eval e env) :: starEach es env := by intro _; rfl) (hpl : ∀ env, (backTo pos (starEach es env)).any (·.1) = false := by intro _; rfl) :
    DE c m (.Call (.Name x p) (e :: es) [] pos) (wN f wa) := by
  obtain ⟨ta, ha1, ha2⟩ := ha
  refine ⟨fun W => tCB (r c.K) (ta W), fun X W fit tk => ?_, fun W => snd_N (ha2 W) hf⟩
  have z := hc X fit
  rw [fit.K] at z
  exact pe_callTy z (gl_of fit hg) (by rw [fit.mg]; exact hm) hv (ha1 X W fit tk) hn hdb (he X.env) (hpl X.env)
end
end DL

set_option maxHeartbeats 0
namespace DL
open PySem PySem.Spec PyProof.Rows L2
theorem tuple_mul1 (l : Addr) (items : Array Value) (n : Nat) (dd : Option Addr) (sl : Array (Option Value)) (x : Int) (u : Tok) (c0 : (decide (x < -(2 ^ 63)) || decide (x ≥ 2 ^ 63)) = false) (c1 : (items.isEmpty || x == 1) = true) :
    Meets (Builtin.«tuple.__mul__» ⟨[.ref l, .int x u], []⟩) (fun _ R s => s.heap.get? l = some { cls := .type "tuple", dict := dd, data := .seq items n, slots := sl } ∧ R (.ok (.ret (Value.ref l))) s) :=
  .of_wp fun prog w A R s h => by
    obtain ⟨hp, g, d, tk, os⟩ := s
    obtain ⟨hl, h⟩ := h
    have f1 := AutoSeq1.idx_int
    wp_walk using wpAny_loadPart' hl
    repeat (first
      | (refine wpAny_ite_false (decide_eq_false (by rw [c0]; exact Bool.false_ne_true)) ?_; wp_walk using wpAny_loadPart' hl)
      | (refine wpAny_ite_true (decide_eq_true c1) ?_; wp_walk using wpAny_loadPart' hl))
    exact ⟨_, rfl, h⟩
theorem tuple_mul0 (l : Addr) (items : Array Value) (n : Nat) (dd : Option Addr) (sl : Array (Option Value)) (x : Int) (u : Tok) (c0 : (decide (x < -(2 ^ 63)) || decide (x ≥ 2 ^ 63)) = false) (c1 : (items.isEmpty || x == 1) = false) (c2 : (decide (x ≤ 0) || items.isEmpty) = true) :
    Meets (Builtin.«tuple.__mul__» ⟨[.ref l, .int x u], []⟩) (fun _ R s => s.heap.get? l = some { cls := .type "tuple", dict := dd, data := .seq items n, slots := sl } ∧
      R (.ok (.ret (Value.ref s.heap.objs.size))) { s with heap := s.heap.push { cls := Value.type "tuple", data := Data.seq #[] }, toks := s.toks }) :=
  .of_wp fun prog w A R s h => by
    obtain ⟨hp, g, d, tk, os⟩ := s
    obtain ⟨hl, h⟩ := h
    have f1 := AutoSeq1.idx_int
    wp_walk using wpAny_loadPart' hl
    repeat (first
      | (refine wpAny_ite_false (decide_eq_false (by rw [c0]; exact Bool.false_ne_true)) ?_; wp_walk using wpAny_loadPart' hl)
      | (refine wpAny_ite_false (decide_eq_false (by rw [c1]; exact Bool.false_ne_true)) ?_; wp_walk using wpAny_loadPart' hl)
      | (refine wpAny_ite_true (decide_eq_true c2) ?_; wp_walk using wpAny_loadPart' hl))
    exact ⟨_, rfl, h⟩
/-- a tuple times a number up to 1, or an empty one -/
def rRepT1 (K : PySem.W.Frag) : R2 := fun x y H Q => ∃ l k xs, x = .ref l ∧ y = .int k ∧ SqT K H l xs ∧ -(2 ^ 63) ≤ k ∧ k < 2 ^ 63 ∧ (((xs = [] ∨ k = 1) ∧ Q (.ref l) H) ∨ (xs ≠ [] ∧ k ≤ 0 ∧ ∀ p, H p = none → Q (.ref p) (upd H p (.tup []))))
theorem op_repT1 {X : Cx} : OpR X (binaryOp .Mult) (rRepT1 X.K) := by
  intro pins s σ H x y v u Q I rx ry h
  obtain ⟨l, k, xs, rfl, rfl, hT, h1, h2, hq⟩ := h
  cases rx
  obtain ⟨t, rfl⟩ := ry
  obtain ⟨its, r, ⟨⟨cls, dd, data, sl⟩, ho, hc, n, hd⟩, hs⟩ := I.tuple hT
  simp only at hc hd
  subst hc hd
  have hle : its.length = xs.length := r.length.symm
  have c0 : (decide (k < -(2 ^ 63)) || decide (k ≥ 2 ^ 63)) = false := by
    rw [decide_eq_false (by omega), decide_eq_false (by omega)] <;> rfl
  rcases hq with ⟨hk, q⟩ | ⟨hne, hk, q⟩
  · have c1 : (its.toArray.isEmpty || k == 1) = true := by
      rcases hk with e | rfl
      · subst e
        have : its = [] := List.eq_nil_of_length_eq_zero hle
        subst this; rfl
      · simp
    refine wpAny_binaryOp_repeat_ref (T := "tuple") (U := "int") (by decide) ⟨_, ho, rfl⟩ (fun s' => typeIs_int s' k t) noFill_tuple_mul F.fills_int_mul F.slot_int_rmul repeat_tuple F.slot_int_index.lookup
      (call_meets F.slot_int_rmul (typeIs_int s k t) F.entry_int_rmul (F.args_int_rmul_2 _ _) (int_rmul_tuple k t l its.toArray n dd sl)
        ⟨ho, rfl, ⟨_, ho, rfl⟩, call_meets F.slot_tuple_mul ⟨_, ho, rfl⟩ F.entry_tuple_mul (F.args_tuple_mul_2 _ _) (tuple_mul1 l its.toArray n dd sl k t c0 c1) ⟨ho, ?_⟩⟩)
    exact ⟨.ref l, H, I, rfl, q⟩
  · have hn : its ≠ [] := fun e => hne (by
      rw [e] at hle
      exact List.eq_nil_of_length_eq_zero hle.symm)
    have hi : its.toArray.isEmpty = false := by
      cases its with
      | nil => exact absurd rfl hn
      | cons a b => rfl
    have c1 : (its.toArray.isEmpty || k == 1) = false := by
      rw [hi, Bool.false_or]
      exact beq_eq_false_iff_ne.mpr (by omega)
    have c2 : (decide (k ≤ 0) || its.toArray.isEmpty) = true := by
      rw [hi, Bool.or_false]
      exact decide_eq_true hk
    refine wpAny_binaryOp_repeat_ref (T := "tuple") (U := "int") (by decide) ⟨_, ho, rfl⟩ (fun s' => typeIs_int s' k t) noFill_tuple_mul F.fills_int_mul F.slot_int_rmul repeat_tuple F.slot_int_index.lookup
      (call_meets F.slot_int_rmul (typeIs_int s k t) F.entry_int_rmul (F.args_int_rmul_2 _ _) (int_rmul_tuple k t l its.toArray n dd sl)
        ⟨ho, rfl, ⟨_, ho, rfl⟩, call_meets F.slot_tuple_mul ⟨_, ho, rfl⟩ F.entry_tuple_mul (F.args_tuple_mul_2 _ _) (tuple_mul0 l its.toArray n dd sl k t c0 c1 c2) ⟨ho, ?_⟩⟩)
    refine ⟨.ref s.heap.objs.size, _, I.laid (t' := s.toks) (o := .tup []) (fun b ob q => Heap.get?_push_of_some _ q) (Nat.le_refl _) ?_, rfl, q _ (I.hok.fresh (Nat.le_refl _))⟩
    exact ⟨by decide, [], .nil, IsTup.new _ _⟩
end DL

set_option maxHeartbeats 200000
/-! DL4: the operators and built-ins on things -/
namespace DL
open PySem PySem.Spec PyProof.Rows L2

section
variable {K : PySem.W.Frag} {F H : Hp} {v : V} {A : Fp}
theorem Rep.int_inv {i : Int} (r : Rep K F H (.int i) v A) : v = .int i ∧ A = [] := by cases r; exact ⟨rfl, rfl⟩
theorem Rep.str_inv {i : Str} (r : Rep K F H (.str i) v A) : v = .str i ∧ A = [] := by cases r; exact ⟨rfl, rfl⟩
theorem Rep.non_inv (r : Rep K F H .non v A) : v = .non ∧ A = [] := by cases r; exact ⟨rfl, rfl⟩
theorem Rep.ro_inv {ds : List D} (r : Rep K F H (.ro ds) v A) : A = [] ∧ ∃ a xs, v = .ref a ∧ SqL K F a xs ∧ Reps K F H ds xs [] := by
  cases r with
  | ro h r => exact ⟨rfl, _, _, rfl, h, r⟩
theorem Rep.lst_inv {o : Bool} {ds : List D} (r : Rep K F H (.lst o ds) v A) (l : Le F H) : ∃ a xs A', v = .ref a ∧ H a = some (.lst xs) ∧ Reps K F H ds xs A' ∧ A'.Sublist A := by
  cases r with
  | lstF h r => exact ⟨_, _, [], rfl, l _ _ h, r, List.Sublist.refl _⟩
  | lstO h _ r e => exact ⟨_, _, _, rfl, h, r, by rw [e]; exact List.sublist_cons_self _ _⟩
end
def pureL (ds : List D) : Bool := ds.all fun d => !d.isOwn
section
variable {K : PySem.W.Frag} {F H : Hp} {A : Fp}
theorem Reps.pure_nil {ds : List D} {vs : List V} (r : Reps K F H ds vs A) (h : pureL ds = true) : A = [] := by
  induction ds generalizing vs A with
  | nil => cases r; rfl
  | cons d ds ih =>
    cases r with
    | cons r1 r2 e =>
      have h' : (!d.isOwn) = true ∧ pureL ds = true := by simpa [pureL] using h
      have e1 := r1.own_nil (by simpa using h'.1)
      have e2 := ih r2 h'.2
      rw [e, e1, e2]; rfl
theorem Reps.append {xs ys : List D} {us ws : List V} {B : Fp} (r : Reps K F H xs us A) (s : Reps K F H ys ws B) : Reps K F H (xs ++ ys) (us ++ ws) (A ++ B) := by
  induction xs generalizing us A with
  | nil => cases r; exact s
  | cons d ds ih =>
    cases r with
    | cons r1 r2 e => exact .cons r1 (ih r2) (by rw [e, List.append_assoc])
theorem Reps.append0 {xs ys : List D} {us ws : List V} (r : Reps K F H xs us []) (s : Reps K F H ys ws []) : Reps K F H (xs ++ ys) (us ++ ws) [] := r.append s
theorem Reps.drop0 {xs : List D} {us : List V} (n : Nat) (r : Reps K F H xs us []) : Reps K F H (xs.drop n) (us.drop n) [] := by
  induction n generalizing xs us with
  | zero => exact r
  | succ n ih =>
    cases r with
    | nil => exact .nil
    | @cons d ds v vs A B C r1 r2 e =>
      have e' : A = [] ∧ B = [] := by simpa using e.symm
      rw [e'.2] at r2
      exact ih r2
theorem Reps.take0 {xs : List D} {us : List V} (n : Nat) (r : Reps K F H xs us []) : Reps K F H (xs.take n) (us.take n) [] := by
  induction n generalizing xs us with
  | zero => exact .nil
  | succ n ih =>
    cases r with
    | nil => exact .nil
    | @cons d ds v vs A B C r1 r2 e =>
      have e' : A = [] ∧ B = [] := by simpa using e.symm
      rw [e'.2] at r2
      exact .cons r1 (ih r2) (by rw [e'.1]; rfl)
theorem Reps.rev0 {xs : List D} {us : List V} (r : Reps K F H xs us []) : Reps K F H xs.reverse us.reverse [] := by
  induction xs generalizing us with
  | nil => cases r; exact .nil
  | cons d ds ih =>
    cases r with
    | @cons d ds v vs A B C r1 r2 e =>
      have e' : A = [] ∧ B = [] := by simpa using e.symm
      rw [e'.2] at r2
      rw [e'.1] at r1
      rw [List.reverse_cons, List.reverse_cons]
      exact (ih r2).append0 (.cons r1 .nil rfl)
theorem Reps.rep0 {xs : List D} {us : List V} (r : Reps K F H xs us []) : ∀ n : Nat, Reps K F H (List.replicate n xs).flatten (List.replicate n us).flatten []
  | 0 => .nil
  | n + 1 => by
    rw [List.replicate_succ, List.replicate_succ, List.flatten_cons, List.flatten_cons]
    exact r.append0 (r.rep0 n)
theorem Reps.pure {xs : List D} {us : List V} {F1 H1 : Hp} (r : Reps K F H xs us []) (l : Le F F1) : Reps K F1 H1 xs us [] := r.mono l (fun _ _ m => (List.not_mem_nil m).elim) fun _ m => (List.not_mem_nil m).elim
theorem Reps.ints : ∀ {ns : List Int} {us : List V} {A : Fp}, Reps K F H (ns.map D.int) us A → us = ns.map V.int ∧ A = []
  | [], _, _, .nil => ⟨rfl, rfl⟩
  | n :: ns, _, _, .cons r1 r2 e => by
    obtain ⟨e1, e2⟩ := r1.int_inv
    obtain ⟨e3, e4⟩ := Reps.ints r2
    subst e1 e2 e3 e4
    exact ⟨rfl, e⟩
theorem reps_ints : ∀ (ns : List Int), Reps K F H (ns.map D.int) (ns.map V.int) []
  | [] => .nil
  | n :: ns => .cons (.int n) (reps_ints ns) rfl
theorem Reps.bls : ∀ {ns : List Bool} {us : List V} {A : Fp}, Reps K F H (ns.map D.bl) us A → us = ns.map V.bl ∧ A = []
  | [], _, _, .nil => ⟨rfl, rfl⟩
  | n :: ns, _, _, .cons r1 r2 e => by
    obtain ⟨e1, e2⟩ := r1.bl_inv
    obtain ⟨e3, e4⟩ := Reps.bls r2
    subst e1 e2 e3 e4
    exact ⟨rfl, e⟩
theorem Reps.strs : ∀ {ns : List Str} {us : List V} {A : Fp}, Reps K F H (ns.map D.str) us A → us = ns.map V.str ∧ A = []
  | [], _, _, .nil => ⟨rfl, rfl⟩
  | n :: ns, _, _, .cons r1 r2 e => by
    obtain ⟨e1, e2⟩ := r1.str_inv
    obtain ⟨e3, e4⟩ := Reps.strs r2
    subst e1 e2 e3 e4
    exact ⟨rfl, e⟩
/-- a new tuple, a new list -/
theorem new_tup {ds : List D} {xs : List V} {p : Addr} (l : Le F H) (hp : H p = none) (r : Reps K F H ds xs []) :
    Rep K (upd F p (.tup xs)) (upd H p (.tup xs)) (.tup ds) (.ref p) [] ∧ Ext [] F H [] (upd F p (.tup xs)) (upd H p (.tup xs)) ∧ Le (upd F p (.tup xs)) (upd H p (.tup xs)) := by
  obtain ⟨e, l2⟩ := Ext.newF (o := .tup xs) l hp
  exact ⟨.tup upd_same (r.pure e.frz), e, l2⟩
theorem new_lst {ds : List D} {xs : List V} {p : Addr} (l : Le F H) (hp : H p = none) (r : Reps K F H ds xs []) :
    Rep K F (upd H p (.lst xs)) (.lst true ds) (.ref p) [p] ∧ Ext [] F H [p] F (upd H p (.lst xs)) ∧ Le F (upd H p (.lst xs)) := by
  refine ⟨.lstO upd_same ?_ (r.pure (Le.refl _)) rfl, Ext.new hp, l.new hp⟩
  cases e : F p with
  | none => rfl
  | some o => rw [l _ _ e] at hp; cases hp
end

section
variable {K : PySem.W.Frag}
/-! ### + - * // % ** -/
def opAdd : Op2 := fun x y k => match x, y with
  | .int i, .int j => k (.int (i + j))
  | .str a, .str b => a.length + b.length ≤ sizeLine ∧ k (.str (a ++ b))
  | .tup a, .tup b => a.length + b.length ≤ sizeLine ∧ k (.tup (a ++ b))
  | .lst _ a, .lst _ b => pureL a = true ∧ pureL b = true ∧ a.length + b.length ≤ sizeLine ∧ k (.lst true (a ++ b))
  | _, _ => False
def rAddD (K : PySem.W.Frag) : R2 := fun x y H Q => ((rI0 fun i j => .int (i + j)) x y H Q ∨ (∃ i j, x = .str i ∧ y = .str j ∧ i.length + j.length ≤ sizeLine ∧ Q (.str (i ++ j)) H)) ∨ (rCatA K x y H Q ∨ rCat x y H Q)
theorem or_add {X : Cx} : OpR X (binaryOp .Add) (rAddD X.K) := (op_add.or op_add_str).or (op_catA.or op_cat)
theorem os_add : OpS2 K (rAddD K) opAdd := by
  intro x y k h F H vx vy Bx By l rx ry Q q
  unfold opAdd at h
  split at h
  · obtain ⟨rfl, _⟩ := rx.int_inv
    obtain ⟨rfl, _⟩ := ry.int_inv
    exact .inl (.inl ⟨_, _, rfl, rfl, q _ _ [] F H h (.int _) List.nodup_nil Ext.nop l⟩)
  · obtain ⟨rfl, _⟩ := rx.str_inv
    obtain ⟨rfl, _⟩ := ry.str_inv
    exact .inl (.inr ⟨_, _, rfl, rfl, h.1, q _ _ [] F H h.2 (.str _) List.nodup_nil Ext.nop l⟩)
  · obtain ⟨_, a, xs, rfl, h1, r1⟩ := rx.tup_inv2
    obtain ⟨_, b, ys, rfl, h2, r2⟩ := ry.tup_inv2
    have e1 := r1.length
    have e2 := r2.length
    refine .inr (.inl ⟨a, b, xs, ys, rfl, rfl, l.sqT (SqT.of h1), l.sqT (SqT.of h2), by omega, fun e => ?_, fun e e' => ?_, fun _ _ p hp => ?_⟩)
    · subst e
      cases r1
      exact q _ _ [] F H h.2 (.tup h2 r2) List.nodup_nil Ext.nop l
    · subst e'
      cases r2
      refine q _ _ [] F H h.2 ?_ List.nodup_nil Ext.nop l
      rw [List.append_nil]
      exact .tup h1 r1
    · obtain ⟨r, e, l2⟩ := new_tup l hp (r1.append0 r2)
      exact q _ _ [] _ _ h.2 r List.nodup_nil e l2
  · obtain ⟨a, xs, A1, rfl, h1, r1, _⟩ := rx.lst_inv l
    obtain ⟨b, ys, A2, rfl, h2, r2, _⟩ := ry.lst_inv l
    obtain ⟨p1, p2, hz, hk⟩ := h
    have e1 := r1.pure_nil p1
    have e2 := r2.pure_nil p2
    subst e1 e2
    have l1 := r1.length
    have l2 := r2.length
    refine .inr (.inr ⟨a, b, xs, ys, rfl, rfl, h1, h2, by omega, fun p hp => ?_⟩)
    obtain ⟨r, e, l3⟩ := new_lst l hp (r1.append0 r2)
    exact q _ _ [p] _ _ hk r (by simp) e l3
  · exact h.elim
def opI (C : Int → Int → Prop) (g : Int → Int → D) : Op2 := fun x y k => match x, y with
  | .int i, .int j => C i j ∧ k (g i j)
  | _, _ => False
theorem os_I {C : Int → Int → Prop} {g : Int → Int → D} {gv : Int → Int → V} (hg : ∀ i j F H, Rep K F H (g i j) (gv i j) []) : OpS2 K (rI C gv) (opI C g) := by
  intro x y k h F H vx vy Bx By l rx ry Q q
  unfold opI at h
  split at h
  · obtain ⟨rfl, _⟩ := rx.int_inv
    obtain ⟨rfl, _⟩ := ry.int_inv
    exact ⟨_, _, rfl, rfl, h.1, q _ _ [] F H h.2 (hg _ _ _ _) List.nodup_nil Ext.nop l⟩
  · exact h.elim
def opI0 (g : Int → Int → D) : Op2 := fun x y k => match x, y with
  | .int i, .int j => k (g i j)
  | _, _ => False
theorem os_I0 {g : Int → Int → D} {gv : Int → Int → V} (hg : ∀ i j F H, Rep K F H (g i j) (gv i j) []) : OpS2 K (rI0 gv) (opI0 g) := by
  intro x y k h F H vx vy Bx By l rx ry Q q
  unfold opI0 at h
  split at h
  · obtain ⟨rfl, _⟩ := rx.int_inv
    obtain ⟨rfl, _⟩ := ry.int_inv
    exact ⟨_, _, rfl, rfl, q _ _ [] F H h (hg _ _ _ _) List.nodup_nil Ext.nop l⟩
  · exact h.elim
def opSub : Op2 := opI0 fun i j => .int (i - j)
theorem os_sub : OpS2 K (rI0 fun i j => .int (i - j)) opSub := os_I0 fun i j _ _ => .int _
def opMod : Op2 := opI (fun _ j => 0 < j) fun i j => .int (i % j)
theorem os_mod : OpS2 K (rI (fun _ j => 0 < j) fun i j => .int (i % j)) opMod := os_I fun _ _ _ _ => .int _
def opDiv : Op2 := opI CDivW fun i j => .int (i / j)
theorem os_div : OpS2 K (rI CDivW fun i j => .int (i / j)) opDiv := os_I fun _ _ _ _ => .int _
def opPow : Op2 := opI CPow fun i j => .int (i ^ j.toNat)
theorem os_pow : OpS2 K (rI CPow fun i j => .int (i ^ j.toNat)) opPow := os_I fun _ _ _ _ => .int _
/-- a number times a number, a list or a tuple times a number -/
def opMul : Op2 := fun x y k => match x, y with
  | .int i, .int j => CMulW i j ∧ k (.int (i * j))
  | .lst _ a, .int n => pureL a = true ∧ -(2 ^ 63) ≤ n ∧ n < 2 ^ 63 ∧ a.length * n.toNat ≤ sizeLine ∧ k (.lst true (List.replicate n.toNat a).flatten)
  | .tup a, .int n => -(2 ^ 63) ≤ n ∧ n ≤ 1000 ∧ a.length ≤ 1000 ∧ k (.tup (List.replicate n.toNat a).flatten)
  | _, _ => False
def rMulD (K : PySem.W.Frag) : R2 := fun x y H Q => (rI CMulW fun i j => .int (i * j)) x y H Q ∨ (rRep x y H Q ∨ (rRepT K x y H Q ∨ rRepT1 K x y H Q))
theorem or_mul {X : Cx} : OpR X (binaryOp .Mult) (rMulD X.K) := op_mulW.or (op_rep.or (op_repT.or op_repT1))
theorem os_mul : OpS2 K (rMulD K) opMul := by
  intro x y k h F H vx vy Bx By l rx ry Q q
  unfold opMul at h
  split at h
  · obtain ⟨rfl, _⟩ := rx.int_inv
    obtain ⟨rfl, _⟩ := ry.int_inv
    exact .inl ⟨_, _, rfl, rfl, h.1, q _ _ [] F H h.2 (.int _) List.nodup_nil Ext.nop l⟩
  · obtain ⟨a, xs, A1, rfl, h1, r1, _⟩ := rx.lst_inv l
    obtain ⟨rfl, _⟩ := ry.int_inv
    obtain ⟨p1, b1, b2, hz, hk⟩ := h
    have e1 := r1.pure_nil p1
    subst e1
    have l1 := r1.length
    refine .inr (.inl ⟨a, _, xs, rfl, rfl, h1, b1, b2, by rw [← l1]; exact hz, fun p hp => ?_⟩)
    obtain ⟨r, e, l3⟩ := new_lst l hp (r1.rep0 _)
    exact q _ _ [p] _ _ hk r (by simp) e l3
  · rename_i a n
    obtain ⟨_, p0, xs, rfl, h1', r1⟩ := rx.tup_inv2
    have h1 : SqT K F p0 xs := SqT.of h1'
    obtain ⟨rfl, _⟩ := ry.int_inv
    obtain ⟨b1, b2, hz, hk⟩ := h
    have l1 := r1.length
    have nxs : xs = [] → a = [] := fun e => by
      subst e
      cases r1
      rfl
    by_cases c1 : a = [] ∨ n = 1
    · have e : (List.replicate n.toNat a).flatten = a := by
        rcases c1 with rfl | rfl
        · simp
        · simp
      rw [e] at hk
      refine .inr (.inr (.inr ⟨p0, _, xs, rfl, rfl, l.sqT h1, b1, by omega, .inl ⟨c1.imp_left fun z => ?_, q _ _ [] F H hk (.tup h1' r1) List.nodup_nil Ext.nop l⟩⟩))
      subst z
      cases r1
      rfl
    · have ca : a ≠ [] := fun e => c1 (.inl e)
      have cn : n ≠ 1 := fun e => c1 (.inr e)
      by_cases c2 : n ≤ 0
      · have e : (List.replicate n.toNat a).flatten = [] := by
          have : n.toNat = 0 := by omega
          rw [this]; rfl
        rw [e] at hk
        refine .inr (.inr (.inr ⟨p0, _, xs, rfl, rfl, l.sqT h1, b1, by omega, .inr ⟨fun e => ca (nxs e), c2, fun p hp => ?_⟩⟩))
        obtain ⟨r, e, l3⟩ := new_tup l hp (.nil (K := K) (F := F) (H := H))
        exact q _ _ [] _ _ hk r List.nodup_nil e l3
      · refine .inr (.inr (.inl ⟨p0, _, xs, rfl, rfl, l.sqT h1, fun e => ca (nxs e), by omega, b2, by rw [← l1]; exact hz, fun p hp => ?_⟩))
        obtain ⟨r, e, l3⟩ := new_tup l hp (r1.rep0 _)
        exact q _ _ [] _ _ hk r List.nodup_nil e l3
  · exact h.elim
def opNeg : Op1 := fun x k => match x with
  | .int i => k (.int (-i))
  | _ => False
theorem os_neg : OpS1 K (rU fun i => .int (-i)) opNeg := by
  intro x k h F H vx Bx l rx Q q
  unfold opNeg at h
  split at h
  · obtain ⟨rfl, _⟩ := rx.int_inv
    exact ⟨_, rfl, q _ _ [] F H h (.int _) List.nodup_nil Ext.nop l⟩
  · exact h.elim

/-! ### comparisons -/
def opLt : Op2 := opI0 fun i j => .bl (decide (i < j))
def opLe : Op2 := opI0 fun i j => .bl (decide (i ≤ j))
def opGt : Op2 := opI0 fun i j => .bl (decide (j < i))
def opGe : Op2 := opI0 fun i j => .bl (decide (j ≤ i))
theorem os_lt : OpS2 K (rI0 fun i j => .bl (decide (i < j))) opLt := os_I0 fun _ _ _ _ => .bl _
theorem os_le : OpS2 K (rI0 fun i j => .bl (decide (i ≤ j))) opLe := os_I0 fun _ _ _ _ => .bl _
theorem os_gt : OpS2 K (rI0 fun i j => .bl (decide (j < i))) opGt := os_I0 fun _ _ _ _ => .bl _
theorem os_ge : OpS2 K (rI0 fun i j => .bl (decide (j ≤ i))) opGe := os_I0 fun _ _ _ _ => .bl _
end
/-! is None, is True, is False -/
theorem plain_bool {x : V} {v : Value} {b : Bool} (r : RelV x v) : plainIs v (.bool b) = true := by
  cases x with
  | non => cases r; rfl
  | bl _ => cases r; rfl
  | int _ => obtain ⟨t, rfl⟩ := r; rfl
  | str _ => obtain ⟨t, rfl⟩ := r; rfl
  | byt _ => obtain ⟨t, rfl⟩ := r; rfl
  | flt _ => obtain ⟨t, rfl⟩ := r; rfl
  | ref _ => cases r; rfl
  | ty _ => cases r; rfl
theorem rel_bool {x : V} {v : Value} {b : Bool} (r : RelV x v) : (v == .bool b) = decide (x = .bl b) := by
  cases x with
  | non => cases r; rfl
  | bl a => cases r; cases a <;> cases b <;> rfl
  | int _ => obtain ⟨t, rfl⟩ := r; rfl
  | str _ => obtain ⟨t, rfl⟩ := r; rfl
  | byt _ => obtain ⟨t, rfl⟩ := r; rfl
  | flt _ => obtain ⟨t, rfl⟩ := r; rfl
  | ref _ => cases r; rfl
  | ty _ => cases r; rfl
def rIsC : R2 := fun x y H Q => (y = .non ∨ ∃ b, y = .bl b) ∧ Q (.bl (decide (x = y))) H
def rNotC : R2 := fun x y H Q => (y = .non ∨ ∃ b, y = .bl b) ∧ Q (.bl (!decide (x = y))) H
section
variable {X : Cx}
theorem or_is : OpR X (compareOp .Is) rIsC := by
  intro pins s σ H x y v u Q I rx ry h
  obtain ⟨e | ⟨b, e⟩, q⟩ := h
  · subst e
    cases (show u = Value.none from ry)
    exact is_none_gen ⟨.bl _, H, I, by rw [rx.none_iff]; rfl, q⟩
  · subst e
    cases (show u = Value.bool b from ry)
    exact wpAny_is_plain (plain_bool rx) ⟨.bl _, H, I, by rw [rel_bool rx]; rfl, q⟩
theorem or_isnot : OpR X (compareOp .IsNot) rNotC := by
  intro pins s σ H x y v u Q I rx ry h
  obtain ⟨e | ⟨b, e⟩, q⟩ := h
  · subst e
    cases (show u = Value.none from ry)
    exact isnot_none_gen ⟨.bl _, H, I, by rw [rx.none_iff]; rfl, q⟩
  · subst e
    cases (show u = Value.bool b from ry)
    exact wpAny_isNot_plain (plain_bool rx) ⟨.bl _, H, I, by rw [rel_bool rx]; rfl, q⟩
end
def D.isNon : D → Bool
  | .non => true
  | _ => false
def D.isBl (b : Bool) : D → Bool
  | .bl a => a == b
  | _ => false
section
variable {K : PySem.W.Frag}
theorem Rep.is_non {F H : Hp} {d : D} {v : V} {A : Fp} (r : Rep K F H d v A) : decide (v = .non) = d.isNon := by cases r <;> rfl
theorem Rep.is_bl {F H : Hp} {d : D} {v : V} {A : Fp} {b : Bool} (r : Rep K F H d v A) : decide (v = .bl b) = d.isBl b := by
  cases r <;> first
    | rfl
    | (rename_i a; cases a <;> cases b <;> rfl)
def opIs : Op2 := fun x y k => match y with
  | .non => k (.bl x.isNon)
  | .bl b => k (.bl (x.isBl b))
  | _ => False
def opIsNot : Op2 := fun x y k => match y with
  | .non => k (.bl (!x.isNon))
  | .bl b => k (.bl (!x.isBl b))
  | _ => False
theorem os_is : OpS2 K rIsC opIs := by
  intro x y k h F H vx vy Bx By l rx ry Q q
  unfold opIs at h
  split at h
  · obtain ⟨rfl, _⟩ := ry.non_inv
    exact ⟨.inl rfl, by rw [rx.is_non]; exact q _ _ [] F H h (.bl _) List.nodup_nil Ext.nop l⟩
  · obtain ⟨rfl, _⟩ := ry.bl_inv
    exact ⟨.inr ⟨_, rfl⟩, by rw [rx.is_bl]; exact q _ _ [] F H h (.bl _) List.nodup_nil Ext.nop l⟩
  · exact h.elim
theorem os_isnot : OpS2 K rNotC opIsNot := by
  intro x y k h F H vx vy Bx By l rx ry Q q
  unfold opIsNot at h
  split at h
  · obtain ⟨rfl, _⟩ := ry.non_inv
    exact ⟨.inl rfl, by rw [rx.is_non]; exact q _ _ [] F H h (.bl _) List.nodup_nil Ext.nop l⟩
  · obtain ⟨rfl, _⟩ := ry.bl_inv
    exact ⟨.inr ⟨_, rfl⟩, by rw [rx.is_bl]; exact q _ _ [] F H h (.bl _) List.nodup_nil Ext.nop l⟩
  · exact h.elim
end

/-! ### == != in, of data -/
mutual
def D.eqv : D → D → Bool
  | .non, .non => true
  | .bl a, .bl b => a == b
  | .bl a, .int j => (if a then 1 else 0) == j
  | .int i, .bl b => i == (if b then 1 else 0)
  | .int i, .int j => i == j
  | .str x, .str y => x == y
  | .tup xs, .tup ys => D.eqvs xs ys
  | .lst _ xs, .lst _ ys => D.eqvs xs ys
  | .lst _ xs, .ro ys => D.eqvs xs ys
  | .ro xs, .lst _ ys => D.eqvs xs ys
  | .ro xs, .ro ys => D.eqvs xs ys
  | _, _ => false
def D.eqvs : List D → List D → Bool
  | [], [] => true
  | x :: xs, y :: ys => D.eqv x y && D.eqvs xs ys
  | _, _ => false
end
mutual
def D.py : D → PyData
  | .non => .none
  | .bl b => .bool b
  | .int i => .int i
  | .str x => .str x
  | .tup ds => .tuple (D.pys ds)
  | .lst _ ds => .list (D.pys ds)
  | .ro ds => .list (D.pys ds)
  | _ => .dict []
def D.pys : List D → List PyData
  | [] => []
  | d :: ds => d.py :: D.pys ds
end
mutual
/-- data whose texts are texts, at most n deep -/
def D.ok : Nat → D → Bool
  | _, .non => true
  | _, .bl _ => true
  | _, .int _ => true
  | _, .str x => PySem.PyData.strOk x
  | n + 1, .tup ds => D.oks n ds
  | n + 1, .lst _ ds => D.oks n ds
  | n + 1, .ro ds => D.oks n ds
  | _, _ => false
def D.oks : Nat → List D → Bool
  | _, [] => true
  | n, d :: ds => D.ok n d && D.oks n ds
end
mutual
theorem eqv_py : ∀ (x y : D) (n m : Nat), D.ok n x = true → D.ok m y = true → D.eqv x y = PyData.eqv x.py y.py
  | .non, y, _, _, _, h => by cases y <;> simp_all [D.ok, D.eqv, D.py, PyData.eqv]
  | .bl _, y, _, _, _, h => by cases y <;> simp_all [D.ok, D.eqv, D.py, PyData.eqv]
  | .int _, y, _, _, _, h => by cases y <;> simp_all [D.ok, D.eqv, D.py, PyData.eqv]
  | .str _, y, _, _, _, h => by cases y <;> simp_all [D.ok, D.eqv, D.py, PyData.eqv]
  | .tup xs, y, n, m, h1, h => by
    cases n <;> cases m <;> cases y <;> first
      | (simp_all [D.ok, D.eqv, D.py, PyData.eqv]; done)
      | (simp only [D.ok] at h1 h; simp only [D.eqv, D.py, PyData.eqv]; exact eqvs_py xs _ _ _ h1 h)
  | .lst _ xs, y, n, m, h1, h => by
    cases n <;> cases m <;> cases y <;> first
      | (simp_all [D.ok, D.eqv, D.py, PyData.eqv]; done)
      | (simp only [D.ok] at h1 h; simp only [D.eqv, D.py, PyData.eqv]; exact eqvs_py xs _ _ _ h1 h)
  | .ro xs, y, n, m, h1, h => by
    cases n <;> cases m <;> cases y <;> first
      | (simp_all [D.ok, D.eqv, D.py, PyData.eqv]; done)
      | (simp only [D.ok] at h1 h; simp only [D.eqv, D.py, PyData.eqv]; exact eqvs_py xs _ _ _ h1 h)
  | .dK _ _ _, y, n, _, h1, _ => by cases n <;> simp [D.ok] at h1
  | .dT _ _ _, y, n, _, h1, _ => by cases n <;> simp [D.ok] at h1
theorem eqvs_py : ∀ (xs ys : List D) (n m : Nat), D.oks n xs = true → D.oks m ys = true → D.eqvs xs ys = PyData.eqvAll (D.pys xs) (D.pys ys)
  | [], ys, _, _, _, _ => by cases ys <;> simp [D.eqvs, D.pys, PyData.eqvAll]
  | x :: xs, [], _, _, _, _ => by simp [D.eqvs, D.pys, PyData.eqvAll]
  | x :: xs, y :: ys, n, m, h1, h2 => by
    simp only [D.oks, Bool.and_eq_true] at h1 h2
    simp only [D.eqvs, D.pys, PyData.eqvAll]
    rw [eqv_py x y n m h1.1 h2.1, eqvs_py xs ys n m h1.2 h2.2]
end
mutual
theorem lay_py : ∀ (x : D) (n : Nat), D.ok n x = true → x.py.canLay0 = true ∧ x.py.depth ≤ n
  | .non, _, _ => by simp [D.py, PyData.canLay0, PyData.depth]
  | .bl _, _, _ => by simp [D.py, PyData.canLay0, PyData.depth]
  | .int _, _, _ => by simp [D.py, PyData.canLay0, PyData.depth]
  | .str x, n, h => by
    have h' : PySem.PyData.strOk x = true := by cases n <;> simpa [D.ok] using h
    simp [D.py, PyData.canLay0, PyData.depth, h']
  | .tup xs, 0, h => by simp [D.ok] at h
  | .tup xs, n + 1, h => by
    obtain ⟨h1, h2⟩ := lays_py xs n (by simpa [D.ok] using h)
    simp only [D.py, PyData.canLay0, PyData.depth]
    exact ⟨h1, Nat.succ_le_succ h2⟩
  | .lst _ xs, 0, h => by simp [D.ok] at h
  | .lst _ xs, n + 1, h => by
    obtain ⟨h1, h2⟩ := lays_py xs n (by simpa [D.ok] using h)
    simp only [D.py, PyData.canLay0, PyData.depth]
    exact ⟨h1, Nat.succ_le_succ h2⟩
  | .ro xs, 0, h => by simp [D.ok] at h
  | .ro xs, n + 1, h => by
    obtain ⟨h1, h2⟩ := lays_py xs n (by simpa [D.ok] using h)
    simp only [D.py, PyData.canLay0, PyData.depth]
    exact ⟨h1, Nat.succ_le_succ h2⟩
  | .dK _ _ _, n, h1 => by cases n <;> simp [D.ok] at h1
  | .dT _ _ _, n, h1 => by cases n <;> simp [D.ok] at h1
theorem lays_py : ∀ (xs : List D) (n : Nat), D.oks n xs = true → PyData.canLayAll0 (D.pys xs) = true ∧ PyData.depthAll (D.pys xs) ≤ n
  | [], n, _ => by simp [D.pys, PyData.canLayAll0, PyData.depthAll]
  | x :: xs, n, h => by
    simp only [D.oks, Bool.and_eq_true] at h
    obtain ⟨h1, h2⟩ := lay_py x n h.1
    obtain ⟨h3, h4⟩ := lays_py xs n h.2
    simp only [D.pys, PyData.canLayAll0, PyData.depthAll, h1, h3, Bool.and_self, true_and]
    exact Nat.max_le.mpr ⟨h2, h4⟩
end
theorem shaped_py {x : D} (h : D.ok 64 x = true) : SeqAt.shaped x.py = true := by
  obtain ⟨h1, h2⟩ := lay_py x 64 h
  unfold SeqAt.shaped
  rw [h1, decide_eq_true h2]
  rfl
mutual
theorem dp_of {K : PySem.W.Frag} {F H : Hp} (l : Le F H) : ∀ (d : D) (n : Nat) {v : V} {A : Fp}, Rep K F H d v A → D.ok n d = true → Dp K H v d.py
  | .non, _, _, _, .non, _ => by rw [D.py]; exact .non
  | .bl _, _, _, _, .bl b, _ => by rw [D.py]; exact .bl b
  | .int _, _, _, _, .int i, _ => by rw [D.py]; exact .int i
  | .str _, _, _, _, .str x, _ => by rw [D.py]; exact .str x
  | .tup ds, 0, _, _, .tup h r, e => by simp [D.ok] at e
  | .tup ds, n + 1, _, _, .tup h r, e => by
    rw [D.py]
    exact .tup (l.sqT (SqT.of h)) (dps_of l ds n r (by simpa [D.ok] using e))
  | .lst _ ds, 0, _, _, r, e => by simp [D.ok] at e
  | .lst _ ds, n + 1, _, _, .lstF h r, e => by
    rw [D.py]
    exact .lst (SqL.of (l _ _ h)) (dps_of l ds n r (by simpa [D.ok] using e))
  | .lst _ ds, n + 1, _, _, .lstO h _ r _, e => by
    rw [D.py]
    exact .lst (SqL.of h) (dps_of l ds n r (by simpa [D.ok] using e))
  | .ro ds, 0, _, _, r, e => by simp [D.ok] at e
  | .ro ds, n + 1, _, _, .ro h r, e => by
    rw [D.py]
    exact .lst (l.sqL h) (dps_of l ds n r (by simpa [D.ok] using e))
  | .dK _ _ _, n, _, _, _, h1 => by cases n <;> simp [D.ok] at h1
  | .dT _ _ _, n, _, _, _, h1 => by cases n <;> simp [D.ok] at h1
theorem dps_of {K : PySem.W.Frag} {F H : Hp} (l : Le F H) : ∀ (ds : List D) (n : Nat) {vs : List V} {A : Fp}, Reps K F H ds vs A → D.oks n ds = true → DpAll K H vs (D.pys ds)
  | [], n, _, _, .nil, _ => by rw [D.pys]; exact .nil
  | d :: ds, n, _, _, .cons r1 r2 _, e => by
    simp only [D.oks, Bool.and_eq_true] at e
    rw [D.pys]
    exact .cons (dp_of l d n r1 e.1) (dps_of l ds n r2 e.2)
end
section
variable {K : PySem.W.Frag}
/-- scalars of kinds that == knows at once -/
def scalD : D → D → Bool
  | .non, .non => true | .non, .int _ => true | .int _, .non => true | .non, .bl _ => true | .bl _, .non => true | .non, .str _ => true | .str _, .non => true
  | .int _, .int _ => true | .bl _, .bl _ => true | .str _, .str _ => true
  | .int _, .str _ => true | .str _, .int _ => true | .bl _, .str _ => true | .str _, .bl _ => true
  | _, _ => false
def opEq : Op2 := fun x y k => (scalD x y || (D.ok 64 x && D.ok 64 y)) = true ∧ k (.bl (D.eqv x y))
def opNe : Op2 := fun x y k => (scalD x y || (D.ok 64 x && D.ok 64 y)) = true ∧ k (.bl (!D.eqv x y))
def rEqA (K : PySem.W.Frag) : R2 := fun x y H Q => rEq x y H Q ∨ rEqD K x y H Q
def rNeA (K : PySem.W.Frag) : R2 := fun x y H Q => rNe x y H Q ∨ rNeD K x y H Q
theorem or_eq {X : Cx} (hu : X.A.units + 64 < cLine) : OpR X (compareOp .Eq) (rEqA X.K) := op_eq.or (op_eqD hu)
theorem or_ne {X : Cx} (hu : X.A.units + 64 < cLine) : OpR X (compareOp .NotEq) (rNeA X.K) := op_ne.or (op_neD hu)
theorem scal_rep {F H : Hp} {x y : D} {vx vy : V} {A B : Fp} (rx : Rep K F H x vx A) (ry : Rep K F H y vy B) (h : scalD x y = true) : scal vx vy = true ∧ decide (vx = vy) = D.eqv x y := by
  cases rx <;> cases ry <;> first
    | (cases h; done)
    | (refine ⟨rfl, ?_⟩; simp only [D.eqv]; first | exact dec_int | exact dec_bl | exact dec_str | rfl | simp)
theorem os_eq : OpS2 K (rEqA K) opEq := by
  intro x y k h F H vx vy Bx By l rx ry Q q
  obtain ⟨h, hk⟩ := h
  have z := q _ _ [] F H hk (.bl _) List.nodup_nil Ext.nop l
  rcases Bool.or_eq_true_iff.mp h with h | h
  · obtain ⟨h1, h2⟩ := scal_rep rx ry h
    exact .inl ⟨h1, by rw [h2]; exact z⟩
  · obtain ⟨h1, h2⟩ := Bool.and_eq_true_iff.mp h
    exact .inr ⟨_, _, dp_of l x 64 rx h1, dp_of l y 64 ry h2, shaped_py h1, shaped_py h2, by rw [← eqv_py x y 64 64 h1 h2]; exact z⟩
theorem os_ne : OpS2 K (rNeA K) opNe := by
  intro x y k h F H vx vy Bx By l rx ry Q q
  obtain ⟨h, hk⟩ := h
  have z := q _ _ [] F H hk (.bl _) List.nodup_nil Ext.nop l
  rcases Bool.or_eq_true_iff.mp h with h | h
  · obtain ⟨h1, h2⟩ := scal_rep rx ry h
    exact .inl ⟨h1, by rw [h2]; exact z⟩
  · obtain ⟨h1, h2⟩ := Bool.and_eq_true_iff.mp h
    exact .inr ⟨_, _, dp_of l x 64 rx h1, dp_of l y 64 ry h2, shaped_py h1, shaped_py h2, by rw [← eqv_py x y 64 64 h1 h2]; exact z⟩
/-- x in a list, a tuple (of ints), a text -/
def intsD : List D → Bool
  | [] => true
  | .int _ :: r => intsD r
  | _ => false
def flatD : D → Bool
  | .non => true
  | .bl _ => true
  | .int _ => true
  | .str _ => true
  | _ => false
def inD (x : D) (ds : List D) : Bool := ds.any fun z => D.eqv z x
def opIn : Op2 := fun x y k => match y with
  | .lst _ ds => ((flatD x && ds.all flatD) || (D.ok 64 x && D.ok 64 y)) = true ∧ k (.bl (inD x ds))
  | .ro ds => (D.ok 64 x && D.ok 64 y) = true ∧ k (.bl (inD x ds))
  | .tup ds => (flatD x && ds.all flatD) = true ∧ k (.bl (inD x ds))
  | .str z => match x with
    | .str w => k (.bl (!(Builtin.Str.occurrences z w 0 z.length 1).isEmpty))
    | _ => False
  | _ => False
theorem flat_rep {F H : Hp} {x : D} {v : V} {A : Fp} (r : Rep K F H x v A) (h : flatD x = true) : flatV v = true := by
  cases r <;> first
    | rfl
    | cases h
theorem eqV_rep {F H : Hp} {x y : D} {vx vy : V} {A B : Fp} (rx : Rep K F H x vx A) (ry : Rep K F H y vy B) (hx : flatD x = true) (hy : flatD y = true) : eqV vx vy = D.eqv x y := by
  cases rx <;> cases ry <;> first
    | (cases hx; done)
    | (cases hy; done)
    | (simp only [D.eqv]; rfl)
    | (simp only [D.eqv]; rename_i a b; cases a <;> cases b <;> rfl)
    | (simp only [D.eqv, eqV]; simp)
theorem inV_rep {F H : Hp} {x : D} {v : V} {A : Fp} (rx : Rep K F H x v A) (hx : flatD x = true) : ∀ {ds : List D} {vs : List V} {B : Fp}, Reps K F H ds vs B → ds.all flatD = true → vs.all flatV = true ∧ inV v vs = inD x ds
  | [], _, _, .nil, _ => ⟨rfl, rfl⟩
  | d :: ds, _, _, .cons r1 r2 _, h => by
    have h' : flatD d = true ∧ ds.all flatD = true := by simpa using h
    obtain ⟨h1, h2⟩ := inV_rep rx hx r2 h'.2
    have e1 := eqV_rep r1 rx h'.1 hx
    have e2 := flat_rep r1 h'.1
    refine ⟨by simp [e2] ; simpa using h1, ?_⟩
    unfold inV inD at h2 ⊢
    rw [List.any_cons, List.any_cons, e1, h2]
theorem pys_any (x : D) (hx : D.ok 64 x = true) : ∀ (ds : List D), D.oks 63 ds = true → ((D.pys ds).any fun z => PyData.eqv z x.py) = inD x ds
  | [], _ => rfl
  | d :: ds, h => by
    simp only [D.oks, Bool.and_eq_true] at h
    have ih := pys_any x hx ds h.2
    unfold inD at ih ⊢
    rw [D.pys, List.any_cons, List.any_cons, ih, eqv_py d x 63 64 h.1 hx]
def rInA (K : PySem.W.Frag) : R2 := fun x y H Q => (rIn K false x y H Q ∨ rInD K x y H Q) ∨ (∃ i j, x = .str i ∧ y = .str j ∧ Q (.bl (!(Builtin.Str.occurrences j i 0 j.length 1).isEmpty)) H)
def rNotInA (K : PySem.W.Frag) : R2 := fun x y H Q => (rIn K true x y H Q ∨ rNotInD K x y H Q) ∨ (∃ i j, x = .str i ∧ y = .str j ∧ Q (.bl (!(!(Builtin.Str.occurrences j i 0 j.length 1).isEmpty))) H)
theorem or_in {X : Cx} (hu : X.A.units + 65 < cLine) : OpR X (compareOp .In) (rInA X.K) := (op_in_seq.or (op_inD hu)).or op_in_str
theorem or_notin {X : Cx} (hu : X.A.units + 65 < cLine) : OpR X (compareOp .NotIn) (rNotInA X.K) := (op_notIn_seq.or (op_notInD hu)).or op_notIn_str
theorem os_in : OpS2 K (rInA K) opIn := by
  intro x y k h F H vx vy Bx By l rx ry Q q
  have z := fun b hk => q (.bl b) (.bl b) [] F H hk (.bl _) List.nodup_nil Ext.nop l
  unfold opIn at h
  split at h
  · rename_i o ds
    obtain ⟨h, hk⟩ := h
    rcases Bool.or_eq_true_iff.mp h with h | h
    · obtain ⟨h1, h2⟩ := Bool.and_eq_true_iff.mp h
      obtain ⟨a, xs, A', rfl, e, r, _⟩ := ry.lst_inv l
      obtain ⟨e1, e2⟩ := inV_rep rx h1 r h2
      exact .inl (.inl ⟨a, xs, rfl, .inl (SqL.of e), flat_rep rx h1, e1, by simp only [e2]; exact z _ hk⟩)
    · obtain ⟨h1, h2⟩ := Bool.and_eq_true_iff.mp h
      have h3 : D.oks 63 ds = true := by simpa [D.ok] using h2
      have dy := dp_of l _ 64 ry h2
      rw [D.py] at dy
      have sy := shaped_py h2
      rw [D.py] at sy
      exact .inl (.inr ⟨_, _, dp_of l x 64 rx h1, dy, shaped_py h1, sy, by rw [pys_any x h1 ds h3]; exact z _ hk⟩)
  · rename_i ds
    obtain ⟨h, hk⟩ := h
    obtain ⟨h1, h2⟩ := Bool.and_eq_true_iff.mp h
    have h3 : D.oks 63 ds = true := by simpa [D.ok] using h2
    have dy := dp_of l _ 64 ry h2
    rw [D.py] at dy
    have sy := shaped_py h2
    rw [D.py] at sy
    exact .inl (.inr ⟨_, _, dp_of l x 64 rx h1, dy, shaped_py h1, sy, by rw [pys_any x h1 ds h3]; exact z _ hk⟩)
  · obtain ⟨h, hk⟩ := h
    obtain ⟨h1, h2⟩ := Bool.and_eq_true_iff.mp h
    obtain ⟨_, a, xs, rfl, e, r⟩ := ry.tup_inv
    obtain ⟨e1, e2⟩ := inV_rep rx h1 r h2
    exact .inl (.inl ⟨a, xs, rfl, .inr (l.sqT e), flat_rep rx h1, e1, by simp only [e2]; exact z _ hk⟩)
  · split at h
    · obtain ⟨rfl, _⟩ := rx.str_inv
      obtain ⟨rfl, _⟩ := ry.str_inv
      exact .inr ⟨_, _, rfl, rfl, z _ h⟩
    · exact h.elim
  · exact h.elim
def opNotIn : Op2 := fun x y k => opIn x y fun d => match d with
  | .bl b => k (.bl (!b))
  | _ => False
theorem os_notin : OpS2 K (rNotInA K) opNotIn := by
  intro x y k h F H vx vy Bx By l rx ry Q q
  have z := fun b hk => q (.bl b) (.bl b) [] F H hk (.bl _) List.nodup_nil Ext.nop l
  unfold opNotIn opIn at h
  split at h
  · rename_i o ds
    obtain ⟨h, hk⟩ := h
    rcases Bool.or_eq_true_iff.mp h with h | h
    · obtain ⟨h1, h2⟩ := Bool.and_eq_true_iff.mp h
      obtain ⟨a, xs, A', rfl, e, r, _⟩ := ry.lst_inv l
      obtain ⟨e1, e2⟩ := inV_rep rx h1 r h2
      exact .inl (.inl ⟨a, xs, rfl, .inl (SqL.of e), flat_rep rx h1, e1, by simp only [e2]; exact z _ hk⟩)
    · obtain ⟨h1, h2⟩ := Bool.and_eq_true_iff.mp h
      have h3 : D.oks 63 ds = true := by simpa [D.ok] using h2
      have dy := dp_of l _ 64 ry h2
      rw [D.py] at dy
      have sy := shaped_py h2
      rw [D.py] at sy
      exact .inl (.inr ⟨_, _, dp_of l x 64 rx h1, dy, shaped_py h1, sy, by rw [pys_any x h1 ds h3]; exact z _ hk⟩)
  · rename_i ds
    obtain ⟨h, hk⟩ := h
    obtain ⟨h1, h2⟩ := Bool.and_eq_true_iff.mp h
    have h3 : D.oks 63 ds = true := by simpa [D.ok] using h2
    have dy := dp_of l _ 64 ry h2
    rw [D.py] at dy
    have sy := shaped_py h2
    rw [D.py] at sy
    exact .inl (.inr ⟨_, _, dp_of l x 64 rx h1, dy, shaped_py h1, sy, by rw [pys_any x h1 ds h3]; exact z _ hk⟩)
  · obtain ⟨h, hk⟩ := h
    obtain ⟨h1, h2⟩ := Bool.and_eq_true_iff.mp h
    obtain ⟨_, a, xs, rfl, e, r⟩ := ry.tup_inv
    obtain ⟨e1, e2⟩ := inV_rep rx h1 r h2
    exact .inl (.inl ⟨a, xs, rfl, .inr (l.sqT e), flat_rep rx h1, e1, by simp only [e2]; exact z _ hk⟩)
  · split at h
    · obtain ⟨rfl, _⟩ := rx.str_inv
      obtain ⟨rfl, _⟩ := ry.str_inv
      exact .inr ⟨_, _, rfl, rfl, z _ h⟩
    · exact h.elim
  · exact h.elim
end
end DL

set_option maxHeartbeats 200000
/-! DL5: built-ins on things; isinstance; items, slices; displays -/
namespace DL
open PySem PySem.Spec PyProof.Rows L2

def asInts : List D → Option (List Int)
  | [] => some []
  | .int i :: r => match asInts r with
    | some ns => some (i :: ns)
    | none => none
  | _ => none
theorem asInts_eq : ∀ {ds : List D} {ns : List Int}, asInts ds = some ns → ds = ns.map D.int
  | [], _, h => by cases h; rfl
  | d :: ds, ns, h => by
    cases d <;> try (cases h; done)
    rename_i i
    unfold asInts at h
    split at h
    · rename_i ms e
      cases h
      rw [asInts_eq e]; rfl
    · cases h
theorem asInts_map (ns : List Int) : asInts (ns.map D.int) = some ns := by
  induction ns with
  | nil => rfl
  | cons n ns ih => show asInts (D.int n :: ns.map D.int) = _; unfold asInts; rw [ih]
def asBls : List D → Option (List Bool)
  | [] => some []
  | .bl i :: r => match asBls r with
    | some ns => some (i :: ns)
    | none => none
  | _ => none
theorem asBls_eq : ∀ {ds : List D} {ns : List Bool}, asBls ds = some ns → ds = ns.map D.bl
  | [], _, h => by cases h; rfl
  | d :: ds, ns, h => by
    cases d <;> try (cases h; done)
    rename_i i
    unfold asBls at h
    split at h
    · rename_i ms e
      cases h
      rw [asBls_eq e]; rfl
    · cases h
theorem asBls_map (ns : List Bool) : asBls (ns.map D.bl) = some ns := by
  induction ns with
  | nil => rfl
  | cons n ns ih => show asBls (D.bl n :: ns.map D.bl) = _; unfold asBls; rw [ih]
def asStrs : List D → Option (List Str)
  | [] => some []
  | .str i :: r => match asStrs r with
    | some ns => some (i :: ns)
    | none => none
  | _ => none
theorem asStrs_eq : ∀ {ds : List D} {ns : List Str}, asStrs ds = some ns → ds = ns.map D.str
  | [], _, h => by cases h; rfl
  | d :: ds, ns, h => by
    cases d <;> try (cases h; done)
    rename_i i
    unfold asStrs at h
    split at h
    · rename_i ms e
      cases h
      rw [asStrs_eq e]; rfl
    · cases h

/-- insertion -/
def insI (n : Int) : List Int → List Int
  | [] => [n]
  | m :: r => if n ≤ m then n :: m :: r else m :: insI n r
def sortI : List Int → List Int
  | [] => []
  | n :: r => insI n (sortI r)
theorem insI_perm (n : Int) : ∀ r : List Int, (insI n r).Perm (n :: r)
  | [] => .refl _
  | m :: r => by
    unfold insI
    split
    · exact .refl _
    · exact ((insI_perm n r).cons m).trans (.swap n m r)
theorem sortI_perm : ∀ r : List Int, (sortI r).Perm r
  | [] => .refl _
  | n :: r => (insI_perm n _).trans ((sortI_perm r).cons n)
theorem insI_le (n : Int) : ∀ r : List Int, r.Pairwise (· ≤ ·) → (insI n r).Pairwise (· ≤ ·)
  | [], _ => by unfold insI; simp
  | m :: r, h => by
    unfold insI
    have h' := List.pairwise_cons.mp h
    split
    · rename_i hm
      refine List.pairwise_cons.mpr ⟨fun x hx => ?_, h⟩
      rcases List.mem_cons.mp hx with e | hx
      · rw [e]; exact hm
      · exact Int.le_trans hm (h'.1 x hx)
    · rename_i hm
      refine List.pairwise_cons.mpr ⟨fun x hx => ?_, insI_le n r h'.2⟩
      rcases List.mem_cons.mp ((insI_perm n r).mem_iff.mp hx) with e | hx
      · rw [e]; omega
      · exact h'.1 x hx
theorem sortI_le : ∀ r : List Int, (sortI r).Pairwise (· ≤ ·)
  | [] => .nil
  | n :: r => insI_le n _ (sortI_le r)
theorem sort_same : ∀ {a b : List Int}, a.Perm b → a.Pairwise (· ≤ ·) → b.Pairwise (· ≤ ·) → a = b
  | [], b, h, _, _ => (List.nil_perm.mp h).symm
  | x :: a, [], h, _, _ => absurd h (by intro z; have := z.length_eq; simp at this)
  | x :: a, y :: b, h, ha, hb => by
    have ha' := List.pairwise_cons.mp ha
    have hb' := List.pairwise_cons.mp hb
    have e : x = y := by
      have h1 : x ∈ y :: b := h.mem_iff.mp List.mem_cons_self
      have h2 : y ∈ x :: a := h.mem_iff.mpr List.mem_cons_self
      rcases List.mem_cons.mp h1 with e | h1
      · exact e
      · rcases List.mem_cons.mp h2 with e | h2
        · exact e.symm
        · exact Int.le_antisymm (ha'.1 y h2) (hb'.1 x h1)
    subst e
    rw [sort_same (List.Perm.cons_inv h) ha'.2 hb'.2]

section
variable {K : PySem.W.Frag}
theorem RepAll.one {F H : Hp} {d : D} {vs : List V} (r : RepAll K F H [d] vs) : ∃ v B, vs = [v] ∧ Rep K F H d v B := by
  cases r with
  | cons h t => cases t; exact ⟨_, _, rfl, h⟩
theorem RepAll.two {F H : Hp} {d e : D} {vs : List V} (r : RepAll K F H [d, e] vs) : ∃ v w B C, vs = [v, w] ∧ Rep K F H d v B ∧ Rep K F H e w C := by
  cases r with
  | cons h t =>
    obtain ⟨w, C, rfl, h2⟩ := t.one
    exact ⟨_, _, _, _, rfl, h, h2⟩
def opLen : OpN := fun xs k => match xs with
  | [.tup ds] => k (.int ds.length)
  | [.lst _ ds] => k (.int ds.length)
  | [.ro ds] => k (.int ds.length)
  | [.str z] => z.length ≤ sizeLine ∧ k (.int z.length)
  | _ => False
theorem os_len : OpSN K (fun xs H Q => ∃ x n, xs = [x] ∧ LenV K x H n ∧ Q (.int n) H) opLen := by
  intro xs k h F H vs l r Q q
  unfold opLen at h
  split at h
  · obtain ⟨v, B, rfl, rr⟩ := r.one
    obtain ⟨_, a, ys, rfl, h1, r1⟩ := rr.tup_inv
    exact ⟨_, _, rfl, .inr ⟨_, l.sqT h1, rfl⟩, by rw [← r1.length]; exact q _ _ [] F H h (.int _) List.nodup_nil Ext.nop l⟩
  · obtain ⟨v, B, rfl, rr⟩ := r.one
    obtain ⟨a, ys, A', rfl, h1, r1, _⟩ := rr.lst_inv l
    exact ⟨_, _, rfl, .inl ⟨_, SqL.of h1, rfl⟩, by rw [← r1.length]; exact q _ _ [] F H h (.int _) List.nodup_nil Ext.nop l⟩
  · obtain ⟨v, B, rfl, rr⟩ := r.one
    obtain ⟨_, a, ys, rfl, h1, r1⟩ := rr.ro_inv
    exact ⟨_, _, rfl, .inl ⟨_, l.sqL h1, rfl⟩, by rw [← r1.length]; exact q _ _ [] F H h (.int _) List.nodup_nil Ext.nop l⟩
  · obtain ⟨v, B, rfl, rr⟩ := r.one
    obtain ⟨rfl, _⟩ := rr.str_inv
    exact ⟨_, _, rfl, ⟨h.1, rfl⟩, q _ _ [] F H h.2 (.int _) List.nodup_nil Ext.nop l⟩
  · exact h.elim
def opTuple : OpN := fun xs k => match xs with
  | [.tup ds] => k (.tup ds)
  | [.lst _ ds] => pureL ds = true ∧ k (.tup ds)
  | [.ro ds] => k (.tup ds)
  | _ => False
theorem os_tuple : OpSN K (fun xs H Q => ∃ p ys, xs = [.ref p] ∧ ((SqL K H p ys ∧ ∀ l, H l = none → Q (.ref l) (upd H l (.tup ys))) ∨ (SqT K H p ys ∧ Q (.ref p) H))) opTuple := by
  intro xs k h F H vs l r Q q
  unfold opTuple at h
  split at h
  · obtain ⟨v, B, rfl, rr⟩ := r.one
    obtain ⟨_, a, ys, rfl, h1, r1⟩ := rr.tup_inv2
    exact ⟨_, _, rfl, .inr ⟨l.sqT (SqT.of h1), q _ _ [] F H h (.tup h1 r1) List.nodup_nil Ext.nop l⟩⟩
  · obtain ⟨v, B, rfl, rr⟩ := r.one
    obtain ⟨a, ys, A', rfl, h1, r1, _⟩ := rr.lst_inv l
    have e := r1.pure_nil h.1
    subst e
    refine ⟨_, _, rfl, .inl ⟨SqL.of h1, fun p hp => ?_⟩⟩
    obtain ⟨r2, e, l2⟩ := new_tup l hp r1
    exact q _ _ [] _ _ h.2 r2 List.nodup_nil e l2
  · obtain ⟨v, B, rfl, rr⟩ := r.one
    obtain ⟨_, a, ys, rfl, h1, r1⟩ := rr.ro_inv
    refine ⟨_, _, rfl, .inl ⟨l.sqL h1, fun p hp => ?_⟩⟩
    obtain ⟨r2, e, l2⟩ := new_tup l hp r1
    exact q _ _ [] _ _ h r2 List.nodup_nil e l2
  · exact h.elim
def opList : OpN := fun xs k => match xs with
  | [.tup ds] => k (.lst true ds)
  | [.lst _ ds] => pureL ds = true ∧ k (.lst true ds)
  | [.ro ds] => k (.lst true ds)
  | _ => False
theorem os_list : OpSN K (fun xs H Q => ∃ p ys, xs = [.ref p] ∧ (SqL K H p ys ∨ SqT K H p ys) ∧ ∀ l, H l = none → Q (.ref l) (upd H l (.lst ys))) opList := by
  intro xs k h F H vs l r Q q
  unfold opList at h
  split at h
  · obtain ⟨v, B, rfl, rr⟩ := r.one
    obtain ⟨_, a, ys, rfl, h1, r1⟩ := rr.tup_inv
    refine ⟨_, _, rfl, .inr (l.sqT h1), fun p hp => ?_⟩
    obtain ⟨r2, e, l2⟩ := new_lst l hp r1
    exact q _ _ [p] _ _ h r2 (by simp) e l2
  · obtain ⟨v, B, rfl, rr⟩ := r.one
    obtain ⟨a, ys, A', rfl, h1, r1, _⟩ := rr.lst_inv l
    have e := r1.pure_nil h.1
    subst e
    refine ⟨_, _, rfl, .inl (SqL.of h1), fun p hp => ?_⟩
    obtain ⟨r2, e, l2⟩ := new_lst l hp r1
    exact q _ _ [p] _ _ h.2 r2 (by simp) e l2
  · obtain ⟨v, B, rfl, rr⟩ := r.one
    obtain ⟨_, a, ys, rfl, h1, r1⟩ := rr.ro_inv
    refine ⟨_, _, rfl, .inl (l.sqL h1), fun p hp => ?_⟩
    obtain ⟨r2, e, l2⟩ := new_lst l hp r1
    exact q _ _ [p] _ _ h r2 (by simp) e l2
  · exact h.elim
/-- the items of a list (not a tuple) -/
def listOf : D → Option (List D)
  | .lst _ ds => some ds
  | .ro ds => some ds
  | _ => none
theorem Rep.listOf {F H : Hp} {d : D} {ds : List D} {v : V} {A : Fp} (r : Rep K F H d v A) (l : Le F H) (h : listOf d = some ds) : ∃ a xs A', v = .ref a ∧ SqL K H a xs ∧ Reps K F H ds xs A' ∧ A'.Sublist A := by
  cases d <;> try (cases h; done)
  · cases h
    obtain ⟨a, ys, A', rfl, h1, r1, s⟩ := r.lst_inv l
    exact ⟨_, _, _, rfl, SqL.of h1, r1, s⟩
  · cases h
    obtain ⟨e, a, ys, rfl, h1, r1⟩ := r.ro_inv
    exact ⟨_, _, _, rfl, l.sqL h1, r1, by rw [e]; exact List.Sublist.refl _⟩
def opSorted : OpN := fun xs k => match xs with
  | [d] => wd (listOf d) fun ds => wd (asInts ds) fun ns => k (.lst true ((sortI ns).map D.int))
  | _ => False
theorem os_sorted : OpSN K (rSortedI K) opSorted := by
  intro xs k h F H vs l r Q q
  unfold opSorted at h
  split at h
  · obtain ⟨v, B, rfl, rr⟩ := r.one
    obtain ⟨ds, e1, hb⟩ := wd_elim h
    obtain ⟨ns, e2, hc⟩ := wd_elim hb
    clear h hb
    have h := hc
    clear hc
    have e3 := asInts_eq e2
    subst e3
    obtain ⟨a, ys, A', rfl, h1, r1, _⟩ := rr.listOf l e1
    obtain ⟨rfl, rfl⟩ := r1.ints
    refine ⟨_, _, rfl, h1, fun ns' p pm sr hp => ?_⟩
    rw [sort_same (pm.trans (sortI_perm ns).symm) sr (sortI_le ns)]
    obtain ⟨r2, e, l2⟩ := new_lst l hp (reps_ints (sortI ns))
    exact q _ _ [p] _ _ h r2 (by simp) e l2
  · exact h.elim
def opAbs : OpN := fun xs k => match xs with
  | [.int i] => k (.int (if i < 0 then -i else i))
  | _ => False
theorem os_abs : OpSN K (fun xs H Q => ∃ i, xs = [.int i] ∧ Q (.int (if i < 0 then -i else i)) H) opAbs := by
  intro xs k h F H vs l r Q q
  unfold opAbs at h
  split at h
  · obtain ⟨v, B, rfl, rr⟩ := r.one
    obtain ⟨rfl, _⟩ := rr.int_inv
    exact ⟨_, rfl, q _ _ [] F H h (.int _) List.nodup_nil Ext.nop l⟩
  · exact h.elim
def opMax2 : OpN := fun xs k => match xs with
  | [.int i, .int j] => k (.int (if j > i then j else i))
  | _ => False
theorem os_max2 : OpSN K (fun xs H Q => ∃ i j, xs = [.int i, .int j] ∧ Q (.int (if j > i then j else i)) H) opMax2 := by
  intro xs k h F H vs l r Q q
  unfold opMax2 at h
  split at h
  · obtain ⟨v, w, B, C, rfl, r1, r2⟩ := r.two
    obtain ⟨rfl, _⟩ := r1.int_inv
    obtain ⟨rfl, _⟩ := r2.int_inv
    exact ⟨_, _, rfl, q _ _ [] F H h (.int _) List.nodup_nil Ext.nop l⟩
  · exact h.elim
def opMin2 : OpN := fun xs k => match xs with
  | [.int i, .int j] => k (.int (if j < i then j else i))
  | _ => False
theorem os_min2 : OpSN K (fun xs H Q => ∃ i j, xs = [.int i, .int j] ∧ Q (.int (if j < i then j else i)) H) opMin2 := by
  intro xs k h F H vs l r Q q
  unfold opMin2 at h
  split at h
  · obtain ⟨v, w, B, C, rfl, r1, r2⟩ := r.two
    obtain ⟨rfl, _⟩ := r1.int_inv
    obtain ⟨rfl, _⟩ := r2.int_inv
    exact ⟨_, _, rfl, q _ _ [] F H h (.int _) List.nodup_nil Ext.nop l⟩
  · exact h.elim
/-- int(x): an int, a bool, a numeral -/
def opInt : OpN := fun xs k => match xs with
  | [.int i] => k (.int i)
  | [.bl b] => k (.int (if b then 1 else 0))
  | [.str z] => z.length ≤ 640 ∧ wd (PySem.intText? z) fun n => k (.int n)
  | _ => False
def rInt : List V → Hp → VK → Prop := fun xs H Q => ((∃ i, xs = [.int i] ∧ Q (.int i) H) ∨ ∃ k, xs = [.bl k] ∧ Q (.int (if k then 1 else 0)) H) ∨ ∃ a n, xs = [.str a] ∧ PySem.intText? a = some n ∧ a.length ≤ 640 ∧ Q (.int n) H
theorem cr_int {X : Cx} : CallR X (.type "int") rInt := call_int1.or call_int_str
theorem os_int : OpSN K rInt opInt := by
  intro xs k h F H vs l r Q q
  unfold opInt at h
  split at h
  · obtain ⟨v, B, rfl, rr⟩ := r.one
    obtain ⟨rfl, _⟩ := rr.int_inv
    exact .inl (.inl ⟨_, rfl, q _ _ [] F H h (.int _) List.nodup_nil Ext.nop l⟩)
  · obtain ⟨v, B, rfl, rr⟩ := r.one
    obtain ⟨rfl, _⟩ := rr.bl_inv
    exact .inl (.inr ⟨_, rfl, q _ _ [] F H h (.int _) List.nodup_nil Ext.nop l⟩)
  · obtain ⟨v, B, rfl, rr⟩ := r.one
    obtain ⟨rfl, _⟩ := rr.str_inv
    obtain ⟨hz, h⟩ := h
    obtain ⟨n, e, h⟩ := wd_elim h
    exact .inr ⟨_, _, rfl, e, hz, q _ _ [] F H h (.int _) List.nodup_nil Ext.nop l⟩
  · exact h.elim
def opStr : OpN := fun xs k => match xs with
  | [.int i] => i.natAbs.log2 < 1920 ∧ k (.str (toString i))
  | _ => False
theorem os_str : OpSN K (fun xs H Q => ∃ i, xs = [.int i] ∧ i.natAbs.log2 < 1920 ∧ Q (.str (toString i)) H) opStr := by
  intro xs k h F H vs l r Q q
  unfold opStr at h
  split at h
  · obtain ⟨v, B, rfl, rr⟩ := r.one
    obtain ⟨rfl, _⟩ := rr.int_inv
    exact ⟨_, rfl, h.1, q _ _ [] F H h.2 (.str _) List.nodup_nil Ext.nop l⟩
  · exact h.elim
def opAll : OpN := fun xs k => match xs with
  | [d] => wd (listOf d) fun ds => wd (asBls ds) fun bs => k (.bl (bs.all id))
  | _ => False
theorem os_all : OpSN K (rAll K) opAll := by
  intro xs k h F H vs l r Q q
  unfold opAll at h
  split at h
  · obtain ⟨v, B, rfl, rr⟩ := r.one
    obtain ⟨ds, e1, hb⟩ := wd_elim h
    obtain ⟨ns, e2, hc⟩ := wd_elim hb
    clear h hb
    have h := hc
    clear hc
    have e3 := asBls_eq e2
    subst e3
    obtain ⟨a, ys, A', rfl, h1, r1, _⟩ := rr.listOf l e1
    obtain ⟨rfl, rfl⟩ := r1.bls
    exact ⟨_, _, rfl, h1, q _ _ [] F H h (.bl _) List.nodup_nil Ext.nop l⟩
  · exact h.elim
def opAny : OpN := fun xs k => match xs with
  | [d] => wd (listOf d) fun ds => wd (asBls ds) fun bs => k (.bl (bs.any id))
  | _ => False
theorem os_any : OpSN K (rAny K) opAny := by
  intro xs k h F H vs l r Q q
  unfold opAny at h
  split at h
  · obtain ⟨v, B, rfl, rr⟩ := r.one
    obtain ⟨ds, e1, hb⟩ := wd_elim h
    obtain ⟨ns, e2, hc⟩ := wd_elim hb
    clear h hb
    have h := hc
    clear hc
    have e3 := asBls_eq e2
    subst e3
    obtain ⟨a, ys, A', rfl, h1, r1, _⟩ := rr.listOf l e1
    obtain ⟨rfl, rfl⟩ := r1.bls
    exact ⟨_, _, rfl, h1, q _ _ [] F H h (.bl _) List.nodup_nil Ext.nop l⟩
  · exact h.elim
def opSum : OpN := fun xs k => match xs with
  | [d] => wd (listOf d) fun ds => wd (asInts ds) fun ns => k (.int ns.sum)
  | _ => False
theorem os_sum : OpSN K (rSum K) opSum := by
  intro xs k h F H vs l r Q q
  unfold opSum at h
  split at h
  · obtain ⟨v, B, rfl, rr⟩ := r.one
    obtain ⟨ds, e1, hb⟩ := wd_elim h
    obtain ⟨ns, e2, hc⟩ := wd_elim hb
    clear h hb
    have h := hc
    clear hc
    have e3 := asInts_eq e2
    subst e3
    obtain ⟨a, ys, A', rfl, h1, r1, _⟩ := rr.listOf l e1
    obtain ⟨rfl, rfl⟩ := r1.ints
    exact ⟨_, _, rfl, h1, q _ _ [] F H h (.int _) List.nodup_nil Ext.nop l⟩
  · exact h.elim
/-- the greatest, the least -/
def maxI : List Int → Int
  | [] => 0
  | [n] => n
  | n :: r => max n (maxI r)
def minI : List Int → Int
  | [] => 0
  | [n] => n
  | n :: r => min n (minI r)
theorem maxI_mem : ∀ ns : List Int, 0 < ns.length → maxI ns ∈ ns ∧ ∀ y, y ∈ ns → y ≤ maxI ns
  | [], h => by simp at h
  | [n], _ => by simp [maxI]
  | n :: m :: r, _ => by
    obtain ⟨h1, h2⟩ := maxI_mem (m :: r) (by simp)
    have e : maxI (n :: m :: r) = max n (maxI (m :: r)) := rfl
    rw [e]
    refine ⟨?_, fun y hy => ?_⟩
    · by_cases h : n ≤ maxI (m :: r)
      · rw [Int.max_eq_right h]; exact List.mem_cons_of_mem _ h1
      · rw [Int.max_eq_left (by omega)]; exact List.mem_cons_self
    · rcases List.mem_cons.mp hy with e | hy
      · rw [e]; exact Int.le_max_left _ _
      · exact Int.le_trans (h2 y hy) (Int.le_max_right _ _)
theorem minI_mem : ∀ ns : List Int, 0 < ns.length → minI ns ∈ ns ∧ ∀ y, y ∈ ns → minI ns ≤ y
  | [], h => by simp at h
  | [n], _ => by simp [minI]
  | n :: m :: r, _ => by
    obtain ⟨h1, h2⟩ := minI_mem (m :: r) (by simp)
    have e : minI (n :: m :: r) = min n (minI (m :: r)) := rfl
    rw [e]
    refine ⟨?_, fun y hy => ?_⟩
    · by_cases h : n ≤ minI (m :: r)
      · rw [Int.min_eq_left h]; exact List.mem_cons_self
      · rw [Int.min_eq_right (by omega)]; exact List.mem_cons_of_mem _ h1
    · rcases List.mem_cons.mp hy with e | hy
      · rw [e]; exact Int.min_le_left _ _
      · exact Int.le_trans (Int.min_le_right _ _) (h2 y hy)
def opMax : OpN := fun xs k => match xs with
  | [d] => wd (listOf d) fun ds => wd (asInts ds) fun ns => 0 < ns.length ∧ k (.int (maxI ns))
  | _ => False
theorem os_max : OpSN K (rMax K) opMax := by
  intro xs k h F H vs l r Q q
  unfold opMax at h
  split at h
  · obtain ⟨v, B, rfl, rr⟩ := r.one
    obtain ⟨ds, e1, hb⟩ := wd_elim h
    obtain ⟨ns, e2, hc⟩ := wd_elim hb
    clear h hb
    have h := hc
    clear hc
    have e3 := asInts_eq e2
    subst e3
    obtain ⟨a, ys, A', rfl, h1, r1, _⟩ := rr.listOf l e1
    obtain ⟨rfl, rfl⟩ := r1.ints
    refine ⟨_, _, rfl, h1, h.1, fun m hm hle => ?_⟩
    obtain ⟨z1, z2⟩ := maxI_mem ns h.1
    rw [Int.le_antisymm (z2 m hm) (hle _ z1)]
    exact q _ _ [] F H h.2 (.int _) List.nodup_nil Ext.nop l
  · exact h.elim
def opMin : OpN := fun xs k => match xs with
  | [d] => wd (listOf d) fun ds => wd (asInts ds) fun ns => 0 < ns.length ∧ k (.int (minI ns))
  | _ => False
theorem os_min : OpSN K (rMin K) opMin := by
  intro xs k h F H vs l r Q q
  unfold opMin at h
  split at h
  · obtain ⟨v, B, rfl, rr⟩ := r.one
    obtain ⟨ds, e1, hb⟩ := wd_elim h
    obtain ⟨ns, e2, hc⟩ := wd_elim hb
    clear h hb
    have h := hc
    clear hc
    have e3 := asInts_eq e2
    subst e3
    obtain ⟨a, ys, A', rfl, h1, r1, _⟩ := rr.listOf l e1
    obtain ⟨rfl, rfl⟩ := r1.ints
    refine ⟨_, _, rfl, h1, h.1, fun m hm hle => ?_⟩
    obtain ⟨z1, z2⟩ := minI_mem ns h.1
    rw [Int.le_antisymm (hle _ z1) (z2 m hm)]
    exact q _ _ [] F H h.2 (.int _) List.nodup_nil Ext.nop l
  · exact h.elim
end

/-! ### isinstance -/
def D.ty : D → String
  | .non => "NoneType"
  | .bl _ => "bool"
  | .int _ => "int"
  | .str _ => "str"
  | .tup _ => "tuple"
  | .lst _ _ => "list"
  | .ro _ => "list"
  | .dK _ _ _ => "dict"
  | .dT _ _ _ => "dict"
def D.isi (T : String) (d : D) : Bool := match d with
  | .bl _ => T == "bool" || T == "int"
  | d => d.ty == T
def okTy (T : String) : Bool := T == "bool" || T == "int" || T == "str" || T == "tuple" || T == "list" || T == "dict"
theorem kit_D (d : D) (T : String) (h : okTy T = true) : kitB d.ty T = some (D.isi T d) := by
  have hT : T = "bool" ∨ T = "int" ∨ T = "str" ∨ T = "tuple" ∨ T = "list" ∨ T = "dict" := by simpa [okTy, or_assoc] using h
  rcases hT with rfl | rfl | rfl | rfl | rfl | rfl <;> cases d <;> (simp only [D.ty, D.isi]; decide +kernel)
theorem Rep.tyx {K : PySem.W.Frag} {F H : Hp} {d : D} {v : V} {A : Fp} (r : Rep K F H d v A) (l : Le F H) : TyX K H v (.type d.ty) := by
  cases r with
  | non => exact .base .non
  | bl b => exact .base (.bl b)
  | int i => exact .base (.int i)
  | str x => exact .base (.str x)
  | tup h _ =>
    exact .base (.tup (l _ _ h))
  | lstF h _ => exact .base (.lst (l _ _ h))
  | lstO h _ _ _ => exact .base (.lst h)
  | ro h _ =>
    rcases l.sqL h with (h | ⟨o, h⟩) | ⟨o, its, n, h1, h2, _⟩
    · exact .base (.lst h)
    · exact .base (.frz h)
    · exact .kList h1 h2
  | dKF h _ _ => exact .base (.dK (l _ _ h))
  | dKO h _ _ _ _ => exact .base (.dK h)
  | dTF h _ _ => exact .base (.dT (l _ _ h))
  | dTO h _ _ _ _ => exact .base (.dT h)
end DL

set_option maxHeartbeats 200000
/-! DLE: enumerate over a tuple; what a for walks, a list or a tuple -/
namespace DL
open PySem PySem.Spec PyProof.Rows L2
open AutoSeq1 (wpAny_loadPart')

theorem meets_enumT (l : Addr) (items : Array Value) (n : Nat) (dct : Option Addr) (sl : Array (Option Value)) :
    Meets (Builtin.«enumerate.__new__» ⟨[.type "enumerate", .ref l], []⟩) (fun _ R s => s.heap.get? l = some { cls := .type "tuple", dict := dct, data := .seq items n, slots := sl } ∧
      R (.ok (.ret (.ref (s.heap.push { cls := .type "tuple_iterator", data := .fields #[.ref l, .int 0 0] }).objs.size)))
        { s with heap := (s.heap.push { cls := .type "tuple_iterator", data := .fields #[.ref l, .int 0 0] }).push { cls := .type "enumerate", data := .fields #[.none, .bool false, .ref s.heap.objs.size, rawInt 0, .none, .none] } }) :=
  .of_wp fun prog w A R s h => by
    obtain ⟨hp, g, d, tk, os⟩ := s
    obtain ⟨hl, h⟩ := h
    have hsub := sub_enumerate
    have hT : Heap.IsTuple (Shared.heap ⟨hp, g, d, tk, os⟩) l items := ⟨_, hl, rfl, n, rfl⟩
    wp_walk using wpAny_loadPart' hl
    refine wpAny_stack_any fun st => wpAny_pure ?_
    split
    · rename_i c _ _ _ _ _
      cases (c == Value.type "enumerate") <;>
        (wp_walk using wpAny_loadPart' hl, wpAny_pyIter_tuple hT
         exact ⟨_, rfl, h⟩)
    · wp_walk using wpAny_loadPart' hl, wpAny_pyIter_tuple hT
      exact ⟨_, rfl, h⟩

theorem call_enumT {prog : Program} {w : World} {A : Around} {E : Value → Shared → Prop} {s : Shared} {l : Addr} {items : Array Value} {Q : Value → Shared → Prop} (hL : s.heap.IsTuple l items)
    (h : ∀ h', IsEnum h' (s.heap.objs.size + 1) s.heap.objs.size 0 .none → h'.IsTupleIter s.heap.objs.size l 0 → h'.objs.size = s.heap.objs.size + 2 →
      (∀ b o, s.heap.get? b = some o → h'.get? b = some o) → Q (.ref (s.heap.objs.size + 1)) { s with heap := h' }) :
    wpAny (model prog w) A (call (.type "enumerate") [.ref l]) Q E s := by
  obtain ⟨⟨c, dct, dt, sl⟩, hl, hc, n, hd⟩ := hL
  have hc' : c = .type "tuple" := hc
  have hd' : dt = .seq items n := hd
  subst hc' hd'
  refine callType_new F.called_enumerate (by decide) (F.typeCall_enumerate_1 _) (F.newCall_enumerate_1 _) (fun obj => F.args_object_init_2 obj _) F.entry_enumerate_new (meets_enumT l items n dct sl) ⟨hl, ?_⟩
  have hz : (s.heap.push { cls := .type "tuple_iterator", data := .fields #[.ref l, .int 0 0] }).objs.size = s.heap.objs.size + 1 := Heap.size_push ..
  show _ ∧ _
  rw [hz]
  have he : IsEnum ((s.heap.push { cls := .type "tuple_iterator", data := .fields #[.ref l, .int 0 0] }).push
      { cls := .type "enumerate", data := .fields #[.none, .bool false, .ref s.heap.objs.size, rawInt 0, .none, .none] }) (s.heap.objs.size + 1) s.heap.objs.size 0 .none := by
    have q := Heap.get?_push_size (s.heap.push { cls := .type "tuple_iterator", data := .fields #[.ref l, .int 0 0] })
      (o := { cls := .type "enumerate", data := .fields #[.none, .bool false, .ref s.heap.objs.size, rawInt 0, .none, .none] }) rfl
    rw [hz] at q
    exact q
  exact ⟨⟨_, he, rfl⟩, h _ he ⟨_, Heap.get?_push_of_some _ (Heap.get?_push_size _ rfl), rfl, rfl⟩ (by rw [Heap.size_push, hz]) fun b o x => Heap.get?_push_of_some _ (Heap.get?_push_of_some _ x)⟩

theorem draws_tuple {prog : Program} {w : World} {A : Around} (hh : A.handled = none) (it l : Addr) (hne : l ≠ it) (items : Array Value) :
    Draws prog w A it [it, l] items.size (fun i v => items[i]? = some v) (fun i h => h.IsTupleIter it l i ∧ h.IsTuple l items) where
  live := fun _ _ st => let ⟨o, ho, _⟩ := st.1; ⟨o, ho⟩
  frame := fun _ _ _ st hk => ⟨let ⟨o, ho, r⟩ := st.1; ⟨o, hk it (by simp) o ho, r⟩, let ⟨o, ho, r⟩ := st.2; ⟨o, hk l (by simp) o ho, r⟩⟩
  item := fun i s Q E hi st hQ => RZ.nextOf_tuple_item st.1 st.2 (x := items[i]) (by simp [hi]) fun h' hit' hs' => hQ _ h' s.toks (by simp [hi]) ⟨hit', st.2.extBut hs'.extBut hne⟩ hs'
  done := fun s Q E st hE => RZ.nextOf_tuple_end hh st.1 st.2 (by simp) hE

/-- the tuple at a as it stands at each turn, each item in a new pair -/
def IteT (K : PySem.W.Frag) (a : Addr) : It :=
  ⟨fun i H => ∃ (xs : List V) (x : V), SqT K H a xs ∧ xs[i]? = some x, fun i H v H' => ∃ T x, v = .ref T ∧ H T = none ∧ H' = upd H T (.tup [.int (i : Nat), x]) ∧ ∀ xs, SqT K H a xs → xs[i]? = some x, fun i H => ∃ xs : List V, SqT K H a xs ∧ xs.length ≤ i⟩
theorem turn_enumT {P : Program} {w : World} {K : PySem.W.Frag} {elts : List Expr} {kk : Nat} {tpos : Pos} (a e it : Addr) :
    Turn P w K (.Tuple elts kk tpos) (IteT K a) [e, it] e (fun i h => (∃ old, IsEnum h e it ((i : Nat) : Int) old) ∧ h.IsTupleIter it a i ∧ e ≠ it) where
  mem := by simp
  obj := fun i h st b hb => by
    obtain ⟨⟨old, he⟩, ⟨o, ho, hc, hd⟩, _⟩ := st
    have e' : b = e ∨ b = it := by simpa using hb
    rcases e' with z | z
    · rw [z]; exact ⟨_, he, fun v q => nomatch q⟩
    · rw [z]; exact ⟨o, ho, fun v q => by rw [hd] at q; cases q⟩
  keep := fun i h h' st k => by
    obtain ⟨⟨old, he⟩, ⟨o, ho, r⟩, hne⟩ := st
    exact ⟨⟨old, k e (by simp) _ he⟩, ⟨o, k it (by simp) _ ho, r⟩, hne⟩
  item := by
    intro X hP hw hK hc i pins s σ H E I hf st hg
    subst hP hw hK
    obtain ⟨⟨old, he⟩, hit, hne⟩ := st
    obtain ⟨xs, x, hq, hx⟩ := hg
    obtain ⟨its, rv, p, hz⟩ := I.tuple hq
    obtain ⟨u, hu, ru⟩ := rv.get hx
    have hT : s.heap.IsTuple a its.toArray := p
    have hel : e < s.heap.objs.size := Heap.lt_size he
    have hil : it < s.heap.objs.size := by obtain ⟨_, q, _⟩ := hit; exact Heap.lt_size q
    have hai : a ≠ it := by
      intro z
      obtain ⟨o1, q1, c1, _⟩ := hit
      obtain ⟨o2, q2, c2, _⟩ := hT
      rw [z, q1] at q2
      have e1 : o1 = o2 := Option.some.inj q2
      rw [← e1, c1] at c2
      injection c2 with c3
      exact absurd c3 (by decide)
    have hea : e ≠ a := by
      intro z
      obtain ⟨o2, q2, c2, _⟩ := hT
      have q1 := he
      unfold IsEnum at q1
      rw [z, q2] at q1
      have e1 := Option.some.inj q1
      rw [e1] at c2
      injection c2 with c3
      exact absurd c3 (by decide)
    have hlt : i < its.toArray.size := by
      have h1 := (List.getElem?_eq_some_iff.mp hu).1
      simpa using h1
    refine wpAny_pyNext_enum_itemD (draws_tuple (A := X.A.in1) (I.ok.hd hc) it a hai its.toArray) he ⟨hit, hT⟩ hlt hne (by simp [hne, hea]) fun y h' tk hy ho hst hT' hsz hk => ?_
    have ey : y = u := by
      have z : its.toArray[i]? = some u := by simpa using hu
      rw [z] at hy
      exact (Option.some.inj hy).symm
    subst ey
    refine ⟨_, rfl, wpAny_letOwnedTupleGo_enum (s := { s with heap := h', toks := tk + 1 }) ho fun h'' he' sb => ?_⟩
    have hT2 : h''.get? s.heap.objs.size = some { cls := .type "tuple", data := .seq #[.int i tk, y] } := (sb.2 _ (Nat.ne_of_gt hel)).trans hT'
    have new : ObjOk X.prog X.w (upd H s.heap.objs.size (.tup [.int (i : Nat), x])) h'' s.heap.objs.size (.tup [.int (i : Nat), x]) :=
      ⟨by show 2 ≤ sizeLine; decide, [.int i tk, y], .cons ⟨_, rfl⟩ (.cons ru .nil), ⟨_, hT2, rfl, _, rfl⟩⟩
    have I1 : Inv X pins σ (upd H s.heap.objs.size (.tup [.int (i : Nat), x])) { s with heap := h'', toks := tk + 1 } :=
      I.turnedNew (ch := [e, it]) (fun b ob hb q => (sb.2 b (fun z => hb (by simp [z]))).trans (hk b ob (fun z => hb (by simp [z])) (fun z => hb (by simp [z])) q)) hf (Nat.le_refl _) new
    refine ⟨.ref s.heap.objs.size, _, I1, rfl, ⟨_, x, rfl, I.hok.fresh (Nat.le_refl _), rfl, fun ys hy => by rw [I.tuple_inj hy hq]; exact hx⟩, ⟨⟨y, ?_⟩, ?_, hne⟩, fun b hb => ?_⟩
    · have e1 : ((i + 1 : Nat) : Int) = (i : Int) + 1 := by omega
      rw [e1]; exact he'
    · obtain ⟨o, q1, q2⟩ := hst.1
      exact ⟨o, (sb.2 it (Ne.symm hne)).trans q1, q2⟩
    · have hb' : b < s.heap.objs.size := by
        have e' : b = e ∨ b = it := by simpa using hb
        rcases e' with z | z
        · rw [z]; exact hel
        · rw [z]; exact hil
      rw [upd_ne (Nat.ne_of_lt hb')]
      exact (hf b hb).1
  done := by
    intro X hP hw hK hc i pins s σ H E I hf st hg
    subst hP hw hK
    obtain ⟨⟨old, he⟩, hit, hne⟩ := st
    obtain ⟨xs, hq, hx⟩ := hg
    obtain ⟨its, rv, p, hz⟩ := I.tuple hq
    obtain ⟨f0, f1, f2, f3, f4, f5⟩ := hf it (by simp)
    have hl := rv.length
    have hT : s.heap.IsTuple a its.toArray := p
    have hh : X.A.handled = none := I.ok.hd hc
    have hTy : s.TypeIs (.ref e) "enumerate" := ⟨_, he, rfl⟩
    unfold pyNext
    refine wpAny_bind (wpAny_attempt (wpAny_callSpecial?_slot (name := Str.ofString "__next__") hTy F.slot_enumerate_next (wpAny_call_entry F.slot_enumerate_next hTy F.entry_enumerate_next ?_ (F.args_enumerate_next_1 _))))
    show wpAny _ _ (field (.ref e) 2 >>= _) _ _ _
    refine wpAny_bind (wpAny_field he rfl (x := .ref it) rfl ?_)
    refine wpAny_bind (RZ.nextOf_tuple_end hh hit hT (by simp; omega) fun h' x eb hx' => ?_)
    obtain ⟨o, ho, hc'⟩ := hx'
    refine wpAny_bind (wpAny_isInstance (T := "StopIteration") (b := true) ⟨o, ho, hc'⟩ isSubtype_stop ?_)
    exact wpAny_pure ⟨rfl, I.turned (t' := s.toks) (fun b o hb q => eb b o hb q) f0 f1 f3 f4 f5⟩
  self := fun A i s Q E st h => let ⟨⟨_, he⟩, _⟩ := st; wpAny_pyIter_enum he h
theorem walk_enumT {K : PySem.W.Frag} {a : Addr} {xs : List V} : Walk (IteT K a) xs.length (fun H => SqT K H a xs) (YPair (fun i => some (.int (i : Nat))) (fun i => xs[i]?)) := by
  refine ⟨fun i _ hi q => ⟨xs, xs[i], q, by simp [hi]⟩, fun _ q => ⟨xs, q, Nat.le_refl _⟩, fun i H v H' _ q y => ?_⟩
  obtain ⟨T, x, h1, h2, h3, h4⟩ := y
  exact ⟨T, .int (i : Nat), x, h1, h2, h3, rfl, h4 xs q⟩
theorem walk_zipT {K : PySem.W.Frag} {a b : Addr} {xs ys : List V} {n : Nat} (hn : n = min xs.length ys.length) : Walk (RZ.ItzT K a b) n (fun H => SqT K H a xs ∧ SqT K H b ys) (YPair (fun i => xs[i]?) (fun i => ys[i]?)) := by
  subst hn
  refine ⟨fun i _ hi q => ?_, fun _ q => ⟨xs, ys, q.1, q.2, by omega⟩, fun i H v H' _ q y => ?_⟩
  · have h1 : i < xs.length := by omega
    have h2 : i < ys.length := by omega
    exact ⟨xs, ys, xs[i], ys[i], q.1, q.2, by simp [h1], by simp [h2]⟩
  · obtain ⟨T, x, z, h1, h2, h3, h4, h5⟩ := y
    exact ⟨T, x, z, h1, h2, h3, h4 xs q.1, h5 ys q.2⟩
/-- enumerate of a list or of a tuple -/
def iEnumA (K : PySem.W.Frag) (ta : TA) : TI := fun σ H R => ta σ H fun vs H1 => ∃ a xs, vs = [.ref a] ∧ ((SqL K H1 a xs ∧ R (Ite K a) H1) ∨ (SqT K H1 a xs ∧ R (IteT K a) H1))
theorem pi_enumA {X : Cx} {e : Expr} {ta : TA} {p pos tpos : Pos} {elts : List Expr} {kk : Nat} (hg : Gl X "enumerate") (hm : X.mg "enumerate" = none) (ha : PA X [e] ta) (hs : starEach [e] X.env = [(false, eval e X.env)] := by rfl) :
    PI X (.Tuple elts kk tpos) (.Call (.Name "enumerate" p) [e] [] pos) (iEnumA X.K ta) := by
  refine ⟨fun pins s σ H R I h => ?_⟩
  refine Call_ (ld_blt I hg hm boot_enumerate (PyProof.Rows.callWith_type1 (thn (ha.run pos pins s σ H _ I h) fun us s1 ⟨vs, H1, I1, r1, q1⟩ => ?_) hs rfl))
  obtain ⟨a, xs, ex, q⟩ := q1
  subst ex
  have fin : ∀ b, b = s1.heap.objs.size + 1 ∨ b = s1.heap.objs.size → FpOk X pins H1 b := fun b hb => by
    have hle : s1.heap.objs.size ≤ b := by
      rcases hb with z | z
      · rw [z]; exact Nat.le_add_right _ _
      · rw [z]; exact Nat.le_refl _
    exact I1.fpOk hle (I1.hok.fresh hle)
  cases r1 with
  | cons r rr =>
    cases rr
    cases r
    rcases q with ⟨hq, q⟩ | ⟨hq, q⟩
    · obtain ⟨its, rv, p', hz⟩ := I1.list hq
      refine call_enumerate_list p'.isList fun h' he hit hsz hk => wpAny_pyIter_enum he ?_
      have I2 : Inv X pins σ H1 { s1 with heap := h' } := I1.kept (t' := s1.toks) hk
      exact ⟨s1.heap.objs.size + 1, [s1.heap.objs.size + 1, s1.heap.objs.size], _, _, H1, rfl, I2, turn_enum a (s1.heap.objs.size + 1) s1.heap.objs.size, ⟨⟨.none, he⟩, hit, Nat.succ_ne_self _⟩, fun b hb => fin b (by simpa using hb), q⟩
    · obtain ⟨its, rv, p', hz⟩ := I1.tuple hq
      refine call_enumT (show s1.heap.IsTuple a its.toArray from p') fun h' he hit hsz hk => wpAny_pyIter_enum he ?_
      have I2 : Inv X pins σ H1 { s1 with heap := h' } := I1.kept (t' := s1.toks) hk
      exact ⟨s1.heap.objs.size + 1, [s1.heap.objs.size + 1, s1.heap.objs.size], _, _, H1, rfl, I2, turn_enumT a (s1.heap.objs.size + 1) s1.heap.objs.size, ⟨⟨.none, he⟩, hit, Nat.succ_ne_self _⟩, fun b hb => fin b (by simpa using hb), q⟩
/-- a list, a tuple or a text -/
def iSeq (K : PySem.W.Frag) (tl : TE) : TI := fun σ H R => tl σ H fun x H1 => (∃ a, x = .ref a ∧ (((∃ xs, SqL K H1 a xs) ∧ R (Itl K a) H1) ∨ ((∃ xs, SqT K H1 a xs) ∧ R (Itt K a) H1))) ∨ ∃ z, x = .str z ∧ R (Its z) H1
theorem pi_seq {X : Cx} {tg l : Expr} {tl : TE} (hl : PE X l tl) : PI X tg l (iSeq X.K tl) := by
  refine ⟨fun pins s σ H R I h => ?_⟩
  have go : ∀ (t : TE) (Rt : V → Hp → Prop), wpAny (model X.prog X.w) X.A (eval l X.env) (EP X pins σ Rt) X.xe s →
      (∀ x H1 v s1, Inv X pins σ H1 s1 → RelV x v → Rt x H1 → wpAny (model X.prog X.w) X.A (pyIter v) (PIE X pins σ tg R) X.xe s1) →
      wpAny (model X.prog X.w) X.A (eval l X.env) (fun v s1 => wpAny (model X.prog X.w) X.A (pyIter v) (PIE X pins σ tg R) X.xe s1) X.xe s :=
    fun _ Rt h1 h2 => thn h1 fun v s1 ⟨x, H1, I1, r1, q1⟩ => h2 x H1 v s1 I1 r1 q1
  refine go tl _ (hl.run pins s σ H _ I h) fun x H1 v s1 I1 r1 q1 => ?_
  rcases q1 with ⟨a, e, q⟩ | ⟨z, e, q⟩
  · subst e
    cases r1
    rcases q with ⟨⟨xs, hq⟩, q⟩ | ⟨⟨xs, hq⟩, q⟩
    · obtain ⟨its, rv, p, hz⟩ := I1.list hq
      refine wpAny_pyIter_list p.isList ⟨s1.heap.objs.size, [s1.heap.objs.size], _, _, H1, rfl, I1.kept (t' := s1.toks) fun b o e => Heap.get?_push_of_some _ e, turn_list a _, ⟨_, Heap.get?_push_size _ rfl, rfl, rfl⟩, fun b hb => ?_, q⟩
      rw [List.mem_singleton.mp hb]
      exact I1.fpOk (Nat.le_refl _) (I1.hok.fresh (Nat.le_refl _))
    · obtain ⟨its, rv, p, hz⟩ := I1.tuple hq
      refine wpAny_pyIter_tuple (show s1.heap.IsTuple a its.toArray from p) ⟨s1.heap.objs.size, [s1.heap.objs.size], _, _, H1, rfl, I1.kept (t' := s1.toks) fun b o e => Heap.get?_push_of_some _ e, turn_tuple a _, ⟨_, Heap.get?_push_size _ rfl, rfl, rfl⟩, fun b hb => ?_, q⟩
      rw [List.mem_singleton.mp hb]
      exact I1.fpOk (Nat.le_refl _) (I1.hok.fresh (Nat.le_refl _))
  · subst e
    obtain ⟨t, rfl⟩ := r1
    cases ha : z.cps.all (· < 128)
    · exact wpAny_pyIter_wide ha (pi_one (tk := s1.toks) I1 _ (turn_str _ z t "str_iterator" (.inr rfl)) ⟨_, Heap.get?_push_size _ rfl, rfl, rfl⟩ q)
    · exact wpAny_pyIter_ascii ha (pi_one (tk := s1.toks) I1 _ (turn_str _ z t "str_ascii_iterator" (.inl rfl)) ⟨_, Heap.get?_push_size _ rfl, rfl, rfl⟩ q)
end DL

set_option maxHeartbeats 200000
/-! DL6: freezing, displays, items, slices, isinstance, what is walked, targets -/
namespace DL
open PySem PySem.Spec PyProof.Rows L2

/-! ### freezing what an expression gave -/
def frzT : T → DEnv → Option (D × DEnv)
  | .val d, ρ => some (d.frz, ρ)
  | .slot i, ρ => (lk ρ i).map fun d => (d.frz, ρ.set i (some d.frz))
  | .sub _ _, _ => none
def frzTs : List T → DEnv → Option (List D × DEnv)
  | [], ρ => some ([], ρ)
  | t :: ts, ρ => match frzT t ρ with
    | some (d, ρ1) => match frzTs ts ρ1 with
      | some (ds, ρ2) => some (d :: ds, ρ2)
      | none => none
    | none => none
section
variable {K : PySem.W.Frag} {F H : Hp} {ρ ρ1 : DEnv} {σ : Sl} {A B : Fp} {d : D} {v : V} {t : T} {ds : List D} {vs : List V} {ts : List T}
theorem set_at {ρ : DEnv} {i : Nat} {x : Option D} (h : ρ[i]? = some x) (y : Option D) : (ρ.set i y)[i]? = some y := by
  obtain ⟨hi, _⟩ := List.getElem?_eq_some_iff.mp h
  exact List.getElem?_set_self hi
theorem frzT_ok (rel : SRel K F H ρ σ A) (r : RepT K F H σ t v B) (nd : B.Nodup) (ap : ∀ a, a ∈ B → a ∉ A) (h : frzT t ρ = some (d, ρ1)) :
    ∃ F' A', SRel K F' H ρ1 σ A' ∧ Rep K F' H d v [] ∧ Ext (A ++ B) F H A' F' H ∧ (∀ a, a ∈ A' → a ∈ A) := by
  cases r with
  | @val d0 v B r =>
    cases h
    obtain ⟨e, l, r2⟩ := Ext.freeze rel.le r
    refine ⟨_, A, ⟨l, ?_, rel.nd⟩, r2, ?_, fun _ m => m⟩
    · exact e.env rel.env fun a m z => ap a z m
    · refine ⟨e.frz, fun a o q _ => q, fun a m => .inl (List.mem_append_left _ m), fun a o q => ?_⟩
      rcases e.newf a o q with z | z | z
      · exact .inl z
      · exact .inr (.inl (List.mem_append_right _ z))
      · exact .inr (.inr z)
  | @slot i v hσ =>
    have h' : (lk ρ i).map (fun d => (d.frz, ρ.set i (some d.frz))) = some (d, ρ1) := h
    clear h
    cases hd : lk ρ i with
    | none => rw [hd] at h'; cases h'
    | some d0 =>
      rw [hd] at h'
      cases h'
      obtain ⟨v', P, C, S, h1, h2, h3, h4, h5⟩ := rel.env.focus (lk_some.mp hd)
      rw [hσ] at h1
      cases h1
      obtain ⟨e, l, r2⟩ := Ext.freeze rel.le h3
      have ndA := rel.nd
      rw [h2] at ndA
      have dis : ∀ a, a ∈ P ++ S → a ∉ C := by
        intro a m z
        have n1 := List.nodup_append.mp ndA
        have n2 := List.nodup_append.mp n1.2.1
        rcases List.mem_append.mp m with m | m
        · exact n1.2.2 a m a (List.mem_append_left _ z) rfl
        · exact n2.2.2 a z a m rfl
      have env1 := e.env h5 dis
      obtain ⟨N, env2, pm⟩ := env1.putAt (set_at (lk_some.mp hd) none) hσ r2
      rw [List.set_set] at env2
      have sub : ∀ a, a ∈ N → a ∈ P ++ S := fun a m => by simpa using pm.mem_iff.mp m
      refine ⟨_, N, ⟨l, env2, ?_⟩, r2, ?_, fun a m => ?_⟩
      · have q : (P ++ S).Nodup := ndA.sublist (List.Sublist.append_left (List.sublist_append_right C S) P)
        exact (pm.nodup_iff).mpr (by simpa using q)
      · refine ⟨e.frz, fun a o q _ => q, fun a m => ?_, fun a o q => ?_⟩
        · refine .inl (List.mem_append_left _ ?_)
          rw [h2]
          rcases List.mem_append.mp (sub a m) with m | m
          · exact List.mem_append_left _ m
          · exact List.mem_append_right _ (List.mem_append_right _ m)
        · rcases e.newf a o q with z | z | z
          · exact .inl z
          · exact .inr (.inl (List.mem_append_left _ (by rw [h2]; exact List.mem_append_right _ (List.mem_append_left _ z))))
          · exact .inr (.inr z)
      · rw [h2]
        rcases List.mem_append.mp (sub a m) with m | m
        · exact List.mem_append_left _ m
        · exact List.mem_append_right _ (List.mem_append_right _ m)
  | sub => cases h
theorem RepTs.under {F' : Hp} {M : Fp} {N : Fp} (e : Ext M F H N F' H) : ∀ {ts : List T} {vs : List V} {C : Fp}, RepTs K F H σ ts vs C → (∀ a, a ∈ C → a ∉ M) → RepTs K F' H σ ts vs C
  | _, _, _, .nil, _ => .nil
  | _, _, _, .cons q1 q2 z, dd => by
    refine .cons ?_ (RepTs.under e q2 fun a m => dd a (by rw [z]; exact List.mem_append_right _ m)) z
    cases q1 with
    | val q1 => exact .val (e.rep q1 fun a m => dd a (by rw [z]; exact List.mem_append_left _ m))
    | slot q1 => exact .slot q1
    | sub q1 q2 => exact .sub q1 q2
theorem frzTs_ok : ∀ (ts : List T) {vs : List V} {B : Fp} {F : Hp} {ρ : DEnv} {A : Fp}, RepTs K F H σ ts vs B → SRel K F H ρ σ A → B.Nodup → (∀ a, a ∈ B → a ∉ A) → ∀ {ds : List D} {ρ1 : DEnv}, frzTs ts ρ = some (ds, ρ1) →
    ∃ F' A', SRel K F' H ρ1 σ A' ∧ Reps K F' H ds vs [] ∧ Ext (A ++ B) F H A' F' H ∧ (∀ a, a ∈ A' → a ∈ A)
  | [], vs, B, F, ρ, A, r, rel, nd, ap, ds, ρ1, h => by
    cases r
    cases h
    exact ⟨F, A, rel, .nil, Ext.refl fun a m => .inl (List.mem_append_left _ m), fun _ m => m⟩
  | t :: ts, vs, B, F, ρ, A, r, rel, nd, ap, ds, ρ1, h => by
    cases r with
    | @cons _ _ v vs A1 B1 _ r1 r2 e1 =>
      unfold frzTs at h
      split at h
      · rename_i d ρ2 hd
        split at h
        · rename_i ds2 ρ3 hds
          cases h
          subst e1
          have nn := List.nodup_append.mp nd
          obtain ⟨F2, A2, rel2, rd, ext2, sub2⟩ := frzT_ok rel r1 nn.1 (fun a m => ap a (List.mem_append_left _ m)) hd
          have dis : ∀ a, a ∈ B1 → a ∉ A ++ A1 := fun a m z => by
            rcases List.mem_append.mp z with z | z
            · exact ap a (List.mem_append_right _ m) z
            · exact nn.2.2 a z a m rfl
          obtain ⟨F3, A3, rel3, rds, ext3, sub3⟩ := frzTs_ok ts (r2.under ext2 dis) rel2 nn.2.1 (fun a m z => ap a (List.mem_append_right _ m) (sub2 a z)) hds
          have rd3 : Rep K F3 H d v [] := rd.pure ext3.frz
          refine ⟨F3, A3, rel3, .cons rd3 rds rfl, ⟨ext2.frz.trans ext3.frz, fun a o q _ => q, fun a m => .inl (List.mem_append_left _ (sub2 a (sub3 a m))), fun a o q => ?_⟩, fun a m => sub2 a (sub3 a m)⟩
          rcases ext3.newf a o q with z | z | z
          · rcases ext2.newf a o z with z | z | z
            · exact .inl z
            · refine .inr (.inl ?_)
              rcases List.mem_append.mp z with z | z
              · exact List.mem_append_left _ z
              · exact List.mem_append_right _ (List.mem_append_left _ z)
            · exact .inr (.inr z)
          · refine .inr (.inl ?_)
            rcases List.mem_append.mp z with z | z
            · exact List.mem_append_left _ (sub2 a z)
            · exact List.mem_append_right _ (List.mem_append_right _ z)
          · exact .inr (.inr z)
        · cases h
      · cases h
/-- behind a piece, what it gave is frozen -/
theorem Aft.frzs {m : Bool} {ρ2 : DEnv} {A1 : Fp} {F1 H1 : Hp} (x : Aft K m σ ρ A F H ρ1 A1 F1 H1 B) (r : RepTs K F1 H1 σ ts vs B) (h : frzTs ts ρ1 = some (ds, ρ2)) :
    ∃ F2 A2, Aft K false σ ρ A F H ρ2 A2 F2 H1 [] ∧ Reps K F2 H1 ds vs [] := by
  obtain ⟨F2, A2, rel2, rds, ext2, sub2⟩ := frzTs_ok ts r x.rel x.nd x.ap h
  have x' := x.weak (m2 := false) fun e => by cases e
  refine ⟨F2, A2, ⟨rel2, ?_, (fun e => by cases e), List.nodup_nil, fun _ m => (List.not_mem_nil m).elim⟩, rds⟩
  have z := Ext.trans (B1 := []) x'.ext ext2 (fun a q => by simpa [E] using q) (fun a q => (List.not_mem_nil q).elim)
  simpa [E] using z
theorem RepTs.one (r : RepT K F H σ t v B) : RepTs K F H σ [t] [v] B := .cons r .nil (by simp)
theorem Aft.frz1 {m : Bool} {ρ2 : DEnv} {A1 : Fp} {F1 H1 : Hp} (x : Aft K m σ ρ A F H ρ1 A1 F1 H1 B) (r : RepT K F1 H1 σ t v B) (h : frzT t ρ1 = some (d, ρ2)) :
    ∃ F2 A2, Aft K false σ ρ A F H ρ2 A2 F2 H1 [] ∧ Rep K F2 H1 d v [] := by
  obtain ⟨F2, A2, h1, h2⟩ := x.frzs (ds := [d]) (RepTs.one r) (by unfold frzTs; rw [h]; rfl)
  cases h2 with
  | @cons _ _ _ _ A0 B0 _ r1 r2 e =>
    have e0 : A0 = [] := (List.append_eq_nil_iff.mp e.symm).1
    rw [e0] at r1
    exact ⟨F2, A2, h1, r1⟩
end

section
variable {c : SC} {m m2 : Bool} {W : WX}
/-! ### displays -/
/-- (a, b, ..) of frozen things -/
def wTup (wa : WA) : WE := fun ρ Φ Ψ => wa ρ (fun ts ρ1 => wd (frzTs ts ρ1) fun p => p.1.length ≤ sizeLine ∧ Φ (.val (.tup p.1)) p.2) Ψ
theorem de_tup {es : List Expr} {wa : WA} {x1} {pos : Pos} (ha : DA c m es wa) : DE c false (.Tuple es x1 pos) (wTup wa) := by
  obtain ⟨ta, ha1, ha2⟩ := ha
  refine ⟨fun W => tTup (ta W), fun X W fit tk => pe_tup (ha1 X W fit tk), fun W ρ Φ Ψ hw σ F H A rel Q q ex => ?_⟩
  refine ha2 W ρ _ Ψ hw σ F H A rel _ (fun ts vs B ρ1 F1 H1 A1 hk ra af => ?_) ex
  obtain ⟨⟨ds, ρ2⟩, e, hz, hk⟩ := wd_elim hk
  obtain ⟨F2, A2, af2, rds⟩ := af.frzs ra e
  refine ⟨by rw [← rds.length]; exact hz, fun p hp => ?_⟩
  obtain ⟨r, e2, l2⟩ := new_tup af2.rel.le hp rds
  exact q _ _ [] ρ2 _ _ A2 hk (.val r) (af2.pure e2 l2 List.nodup_nil)
/-- .. all of them things -/
def valsT : List T → Option (List D)
  | [] => some []
  | .val d :: ts => (valsT ts).map fun ds => d :: ds
  | _ => none
theorem valsT_ok {K : PySem.W.Frag} {F H : Hp} {σ : Sl} : ∀ {ts : List T} {vs : List V} {B : Fp} {ds : List D}, RepTs K F H σ ts vs B → valsT ts = some ds → Reps K F H ds vs B
  | [], _, _, _, .nil, h => by cases h; exact .nil
  | .val d :: ts, _, _, ds, .cons (.val r1) r2 e, h => by
    have h' : (valsT ts).map (fun ds => d :: ds) = some ds := h
    cases e2 : valsT ts with
    | none => rw [e2] at h'; cases h'
    | some ds2 =>
      rw [e2] at h'
      cases h'
      exact .cons r1 (valsT_ok r2 e2) e
  | .slot _ :: _, _, _, _, _, h => by cases h
  | .sub _ _ :: _, _, _, _, _, h => by cases h
def wTupQ (wa : WA) : WE := fun ρ Φ Ψ => wa ρ (fun ts ρ1 => wd (valsT ts) fun ds => pureL ds = true ∧ ds.length ≤ sizeLine ∧ Φ (.val (.tup ds)) ρ1) Ψ
theorem de_tupQ {es : List Expr} {wa : WA} {x1} {pos : Pos} (ha : DA c m es wa) : DE c m (.Tuple es x1 pos) (wTupQ wa) := by
  obtain ⟨ta, ha1, ha2⟩ := ha
  refine ⟨fun W => tTup (ta W), fun X W fit tk => pe_tup (ha1 X W fit tk), fun W ρ Φ Ψ hw σ F H A rel Q q ex => ?_⟩
  refine ha2 W ρ _ Ψ hw σ F H A rel _ (fun ts vs B ρ1 F1 H1 A1 hk ra af => ?_) ex
  obtain ⟨ds, e, hp1, hz, hk⟩ := wd_elim hk
  have rds := valsT_ok ra e
  have e0 := rds.pure_nil hp1
  subst e0
  refine ⟨by rw [← rds.length]; exact hz, fun p hp => ?_⟩
  obtain ⟨r, e2, l2⟩ := new_tup af.rel.le hp rds
  exact q _ _ [] ρ1 _ _ A1 hk (.val r) (af.pure e2 l2 List.nodup_nil)
/-- [a, b, ..]: slots' things are frozen, others stay as they are -/
def keepTs : List T → DEnv → Option (List D × DEnv)
  | [], ρ => some ([], ρ)
  | .val d :: ts, ρ => (keepTs ts ρ).map fun p => (d :: p.1, p.2)
  | _, _ => none
/-- a list display of things only (owned ones stay owned within) -/
def wLstO (wa : WA) : WE := fun ρ Φ Ψ => wa ρ (fun ts ρ1 => wd (valsT ts) fun ds => ds.length ≤ sizeLine ∧ Φ (.val (.lst true ds)) ρ1) Ψ
theorem de_lstO {es : List Expr} {wa : WA} {pos : Pos} (ha : DA c m es wa) : DE c m (.List es pos) (wLstO wa) := by
  obtain ⟨ta, ha1, ha2⟩ := ha
  refine ⟨fun W => tLst (ta W), fun X W fit tk => pe_lst (ha1 X W fit tk), fun W ρ Φ Ψ hw σ F H A rel Q q ex => ?_⟩
  refine ha2 W ρ _ Ψ hw σ F H A rel _ (fun ts vs B ρ1 F1 H1 A1 hk ra af => ?_) ex
  obtain ⟨ds, e, hz, hk⟩ := wd_elim hk
  have rds := valsT_ok ra e
  refine ⟨by rw [← rds.length]; exact hz, fun p hp => ?_⟩
  have hF : F1 p = none := by
    cases e : F1 p with
    | none => rfl
    | some o => rw [af.rel.le _ _ e] at hp; cases hp
  have npB : p ∉ B := fun z => by
    obtain ⟨⟨o, ho⟩, _⟩ := rds.foot p z
    rw [hp] at ho; cases ho
  have y : Aft c.K true σ ρ1 A1 F1 H1 ρ1 A1 F1 (upd H1 p (.lst vs)) [p] := by
    refine ⟨af.rel.keeps (Ext.new hp) (af.rel.le.new hp), (Ext.new hp).le fun a z => by simpa [E] using z, fun _ => ⟨rfl, rfl⟩, by simp, fun a z z2 => ?_⟩
    obtain ⟨⟨o, ho⟩, _⟩ := af.rel.env.foot a z2
    rw [List.mem_singleton.mp z, hp] at ho; cases ho
  have s1 := af.seq y rds.foot
  rw [Bool.and_true] at s1
  have r2 : Rep c.K F1 (upd H1 p (.lst vs)) (.lst true ds) (.ref p) (p :: B) :=
    .lstO upd_same hF ((Ext.new hp).reps rds fun _ _ => List.not_mem_nil) rfl
  refine q _ _ (p :: B) ρ1 _ _ A1 hk (.val r2) ⟨s1.rel, s1.ext.le fun a z => ?_, s1.qt, List.nodup_cons.mpr ⟨npB, af.nd⟩, fun a z => ?_⟩
  · rcases List.mem_append.mp z with z | z
    · exact List.mem_append_left _ z
    · refine List.mem_append_right _ ?_
      rcases List.mem_cons.mp z with z | z
      · exact List.mem_append_right _ (by simp [z])
      · exact List.mem_append_left _ z
  · rcases List.mem_cons.mp z with z | z
    · exact s1.ap a (List.mem_append_right _ (by simp [z]))
    · exact s1.ap a (List.mem_append_left _ z)
/-- .. all frozen within -/
def wLst (wa : WA) : WE := fun ρ Φ Ψ => wa ρ (fun ts ρ1 => wd (frzTs ts ρ1) fun p => p.1.length ≤ sizeLine ∧ Φ (.val (.lst true p.1)) p.2) Ψ
theorem de_lst {es : List Expr} {wa : WA} {pos : Pos} (ha : DA c m es wa) : DE c false (.List es pos) (wLst wa) := by
  obtain ⟨ta, ha1, ha2⟩ := ha
  refine ⟨fun W => tLst (ta W), fun X W fit tk => pe_lst (ha1 X W fit tk), fun W ρ Φ Ψ hw σ F H A rel Q q ex => ?_⟩
  refine ha2 W ρ _ Ψ hw σ F H A rel _ (fun ts vs B ρ1 F1 H1 A1 hk ra af => ?_) ex
  obtain ⟨⟨ds, ρ2⟩, e, hz, hk⟩ := wd_elim hk
  obtain ⟨F2, A2, af2, rds⟩ := af.frzs ra e
  refine ⟨by rw [← rds.length]; exact hz, fun p hp => ?_⟩
  obtain ⟨r, e2, l2⟩ := new_lst af2.rel.le hp rds
  exact q _ _ [p] ρ2 _ _ A2 hk (.val r) (af2.pure e2 l2 (by simp))

/-! ### items -/
def seqD : D → Option (List D)
  | .tup ds => some ds
  | .lst _ ds => some ds
  | .ro ds => some ds
  | _ => none
def subT (t : T) (j : Nat) (d : D) : T := match t with
  | .slot i => .sub i [j]
  | .sub i p => .sub i (p ++ [j])
  | .val _ => .val d
def atT (t : T) (j : Nat) (d : D) : T := if d.isOwn = true then subT t j d else .val d
def itemD (x : D) (i : Int) (t : T) (k : T → Prop) : Prop := match x with
  | .str z => z.length ≤ sizeLine ∧ wd (atI z.cps.toList i) fun s => k (.val (.str ⟨#[s]⟩))
  | x => wd (seqD x) fun ds => wd (ixN ds.length i) fun j => wd ds[j]? fun d => k (atT t j d)
def asI (d : D) (k : Int → Prop) : Prop := match d with
  | .int i => k i
  | _ => False
theorem asI_elim {d : D} {k : Int → Prop} (h : asI d k) : ∃ i, d = .int i ∧ k i := by
  cases d <;> first
    | exact ⟨_, rfl, h⟩
    | exact h.elim
def wIx (q : Bool) (wa wb : WE) : WE := fun ρ Φ Ψ => wa ρ (fun ta ρ1 => (q || ta.stable) = true ∧ wb ρ1 (fun tb ρ2 => wd (deref ρ2 ta) fun x => wd (deref ρ2 tb) fun y => asI y fun i => itemD x i ta fun t => Φ t ρ2) Ψ) Ψ
theorem PathV.snoc {H : Hp} {v0 v1 v2 : V} {a : Addr} {xs : List V} {j : Nat} : ∀ {p : List Nat}, PathV H v0 p v1 → v1 = .ref a → H a = some (.lst xs) → xs[j]? = some v2 → PathV H v0 (p ++ [j]) v2 := by
  intro p h
  induction h with
  | nil => intro e h1 h2; subst e; exact .lst h1 h2 .nil
  | lst h e _ ih => intro e1 h1 h2; exact .lst h e (ih e1 h1 h2)
  | dK h e _ ih => intro e1 h1 h2; exact .dK h e (ih e1 h1 h2)
  | dT h e _ ih => intro e1 h1 h2; exact .dT h e (ih e1 h1 h2)
theorem de_ix {a b : Expr} {wa wb : WE} {pos : Pos} (ha : DE c m a wa) (hb : DE c m2 b wb) (hs : PlainIx b := by exact fun _ _ => rfl) : DE c (m && m2) (.Subscript a b pos) (wIx m2 wa wb) := by
  obtain ⟨ta, ha1, ha2⟩ := ha
  obtain ⟨tb, hb1, hb2⟩ := hb
  refine ⟨fun W => tOp (rIx c.K) (ta W) (tb W), fun X W fit tk => ?_, fun W ρ Φ Ψ hw σ F H A rel Q q ex => ?_⟩
  · have z := pe_ix (X := X) (pos := pos) ix_seq (ha1 X W fit tk) (hb1 X W fit tk) hs
    rw [fit.K] at z
    exact z
  refine ha2 W ρ _ Ψ hw σ F H A rel _ (fun ta va B ρ1 F1 H1 A1 hk ra af => ?_) ex
  obtain ⟨st, hk⟩ := hk
  refine hb2 W ρ1 _ Ψ hk σ F1 H1 A1 af.rel _ (fun tb vb B2 ρ2 F2 H2 A2 hk rb af2 => ?_) (ex.aft af)
  obtain ⟨x, ex1, hk⟩ := wd_elim hk
  obtain ⟨y, ey, hk⟩ := wd_elim hk
  obtain ⟨i, ei, hk⟩ := asI_elim hk
  subst ei
  have ra2 := af2.repT ra af.ap (by simpa using st)
  obtain ⟨B', rx, sub, _, isv⟩ := deref_rep af2.rel ra2 ex1
  obtain ⟨_, ry, _, _⟩ := deref_rep af2.rel rb ey
  obtain ⟨rfl, _⟩ := ry.int_inv
  have sq := af.seq af2 ra.foot
  -- a text
  by_cases hz : ∃ z, x = .str z
  · obtain ⟨z, e⟩ := hz
    subst e
    obtain ⟨rfl, _⟩ := rx.str_inv
    obtain ⟨h1, h2⟩ := hk
    obtain ⟨s, e, hk⟩ := wd_elim h2
    exact .inr (.inr ⟨z, i, s, rfl, rfl, h1, e, q _ _ [] ρ2 F2 H2 A2 hk (.val (.str _)) (sq.less (List.nil_sublist _))⟩)
  -- a list, a tuple
  have hk : wd (seqD x) fun ds => wd (ixN ds.length i) fun j => wd ds[j]? fun d => Φ (atT ta j d) ρ2 := by
    cases x <;> first
      | exact hk
      | exact absurd ⟨_, rfl⟩ hz
  obtain ⟨ds, e1, hk⟩ := wd_elim hk
  obtain ⟨j, e2, hk⟩ := wd_elim hk
  obtain ⟨d, e3, hk⟩ := wd_elim hk
  -- the item
  have fin : ∀ (a : Addr) (xs : List V) (A' : Fp), va = .ref a → Reps c.K F2 H2 ds xs A' → A'.Sublist B' → (∀ v, xs[j]? = some v → d.isOwn = true → H2 a = some (.lst xs)) → ∃ v, atI xs i = some v ∧ Q v H2 := by
    intro a xs A' eva rr sl hH
    obtain ⟨v, C, h1, h2, h3⟩ := rr.get e3
    refine ⟨v, ?_, ?_⟩
    · unfold atI
      rw [← rr.length, e2]
      exact h1
    · by_cases ho : d.isOwn = true
      · have hk' : Φ (subT ta j d) ρ2 := by
          have z := hk
          unfold atT at z
          rw [if_pos ho] at z
          exact z
        cases ra2 with
        | val r =>
          cases ex1
          have eB : C.Sublist B := by
            rw [← isv _ rfl]
            exact h3.trans sl
          exact q _ _ C ρ2 F2 H2 A2 hk' (.val h2) (sq.less (eB.trans (List.sublist_append_left _ _)))
        | slot r => exact q _ _ [] ρ2 F2 H2 A2 hk' (.sub r (by rw [eva]; exact .lst (hH v h1 ho) h1 .nil)) (sq.less (List.nil_sublist _))
        | sub r p => exact q _ _ [] ρ2 F2 H2 A2 hk' (.sub r (p.snoc eva (hH v h1 ho) h1)) (sq.less (List.nil_sublist _))
      · have e0 := h2.own_nil (Bool.eq_false_iff.mpr ho)
        subst e0
        have hk' : Φ (.val d) ρ2 := by
          have z := hk
          unfold atT at z
          rw [if_neg ho] at z
          exact z
        exact q _ _ [] ρ2 F2 H2 A2 hk' (.val h2) (sq.less (List.nil_sublist _))
  cases x <;> try (cases e1; done)
  · cases e1
    obtain ⟨_, a, xs, eva, h1, r1⟩ := rx.tup_inv
    obtain ⟨v, h2, h3⟩ := fin a xs [] eva r1 (List.nil_sublist _) (fun v hv ho => by
      obtain ⟨v', C, q1, q2, q3⟩ := r1.get e3
      have := q2.foot
      cases d <;> first
        | (cases ho; done)
        | (exfalso
           have e0 : C = [] := List.sublist_nil.mp q3
           rw [e0] at q2
           cases q2 <;> first
             | (cases ho; done)
             | (rename_i z; exact absurd z (by simp))))
    exact .inr (.inl ⟨a, xs, i, v, eva, rfl, af2.rel.le.sqT h1, h2, h3⟩)
  · cases e1
    obtain ⟨a, xs, A', eva, h1, r1, s1⟩ := rx.lst_inv af2.rel.le
    obtain ⟨v, h2, h3⟩ := fin a xs A' eva r1 s1 (fun _ _ _ => h1)
    exact .inl ⟨a, xs, i, v, eva, rfl, SqL.of h1, h2, h3⟩
  · cases e1
    obtain ⟨_, a, xs, eva, h1, r1⟩ := rx.ro_inv
    obtain ⟨v, h2, h3⟩ := fin a xs [] eva r1 (List.nil_sublist _) (fun v hv ho => by
      obtain ⟨v', C, q1, q2, q3⟩ := r1.get e3
      cases d <;> first
        | (cases ho; done)
        | (exfalso
           have e0 : C = [] := List.sublist_nil.mp q3
           rw [e0] at q2
           cases q2 <;> first
             | (cases ho; done)
             | (rename_i z; exact absurd z (by simp))))
    exact .inl ⟨a, xs, i, v, eva, rfl, af2.rel.le.sqL h1, h2, h3⟩
end
end DL

set_option maxHeartbeats 200000
/-! DL7: slices, isinstance, what is walked, targets, comprehensions -/
namespace DL
open PySem PySem.Spec PyProof.Rows L2

section
variable {c : SC} {m m2 : Bool} {W : WX}
/-! ### slices -/
abbrev WO := DEnv → (Option Int → DEnv → Prop) → PsiE → Prop
/-- a part of a slice: nothing owned is touched -/
def DO (c : SC) (e : Option Expr) (w : WO) : Prop := ∃ t : WX → TO, (∀ X W, Fits c X → Takes X W → PO X e (t W)) ∧ ∀ W ρ Φ Ψ, w ρ Φ Ψ → ∀ σ F H A, SRel c.K F H ρ σ A → ∀ Q : Option Int → Hp → Prop,
    (∀ o ρ' F' H' A', Φ o ρ' → Aft c.K true σ ρ A F H ρ' A' F' H' [] → Q o H') → ExcOk c.K c.mg W Ψ σ A F H → t W σ H Q
def wNoPart : WO := fun ρ Φ _ => Φ none ρ
theorem do_none : DO c none wNoPart := ⟨fun _ => tNoPart, fun _ _ _ _ => po_none, fun W ρ Φ Ψ hw σ F H A rel Q q _ => q none ρ F H A hw (Aft.refl rel)⟩
def wPart (wa : WE) : WO := fun ρ Φ Ψ => wa ρ (fun t ρ1 => wd (deref ρ1 t) fun d => asI d fun i => Φ (some i) ρ1) Ψ
theorem do_some {e : Expr} {wa : WE} (ha : DE c true e wa) : DO c (some e) (wPart wa) := by
  obtain ⟨ta, ha1, ha2⟩ := ha
  refine ⟨fun W => tPart (ta W), fun X W fit tk => po_some (ha1 X W fit tk), fun W ρ Φ Ψ hw σ F H A rel Q q ex => ?_⟩
  refine ha2 W ρ _ Ψ hw σ F H A rel _ (fun t v B ρ1 F1 H1 A1 hk ra af => ?_) ex
  obtain ⟨d, e, hk⟩ := wd_elim hk
  obtain ⟨i, ei, hk2⟩ := asI_elim hk
  subst ei
  obtain ⟨_, rx, _⟩ := deref_rep af.rel ra e
  obtain ⟨rfl, _⟩ := rx.int_inv
  exact ⟨i, rfl, q _ ρ1 F1 H1 A1 hk2 (af.less (List.nil_sublist B))⟩
def cutD {α : Type} (ds : List α) (lo hi : Option Int) : List α := (ds.drop (HT.sIx ds.length 0 lo)).take (HT.sIx ds.length ds.length hi - HT.sIx ds.length 0 lo)
def sliceD (x : D) (lo hi : Option Int) (k : D → Prop) : Prop := match x with
  | .tup ds => k (.tup (cutD ds lo hi))
  | .lst _ ds => pureL ds = true ∧ k (.lst true (cutD ds lo hi))
  | .ro ds => k (.lst true (cutD ds lo hi))
  | _ => False
def wSlice (wa : WE) (wl wh : WO) : WE := fun ρ Φ Ψ => wa ρ (fun t ρ1 => wl ρ1 (fun lo ρ2 => wh ρ2 (fun hi ρ3 => wd (deref ρ3 t) fun x => sliceD x lo hi fun d => Φ (.val d) ρ3) Ψ) Ψ) Ψ
def rSlD (K : PySem.W.Frag) : V → Option Int → Option Int → Hp → VK → Prop := fun x lo hi H Q => rSlA K x lo hi H Q ∨ rSlL K x lo hi H Q
theorem cut_reps {K : PySem.W.Frag} {F H : Hp} {ds : List D} {xs : List V} (r : Reps K F H ds xs []) (lo hi : Option Int) : Reps K F H (cutD ds lo hi) (cutV xs lo hi) [] := by
  unfold cutD cutV
  rw [r.length]
  exact (r.drop0 _).take0 _
theorem cut_whole {α : Type} {ds : List α} {lo hi : Option Int} (h : HT.sIx ds.length 0 lo = 0 ∧ HT.sIx ds.length ds.length hi = ds.length) : cutD ds lo hi = ds := by
  unfold cutD
  rw [h.1, h.2]
  simp
theorem de_slice {a : Expr} {lo hi : Option Expr} {wa : WE} {wl wh : WO} {p2 pos : Pos} (ha : DE c m a wa) (hl : DO c lo wl) (hh : DO c hi wh) : DE c m (.Subscript a (.Slice lo hi none p2) pos) (wSlice wa wl wh) := by
  obtain ⟨ta, ha1, ha2⟩ := ha
  obtain ⟨tl, hl1, hl2⟩ := hl
  obtain ⟨th, hh1, hh2⟩ := hh
  refine ⟨fun W => tSl (rSlD c.K) (ta W) (tl W) (th W), fun X W fit tk => ?_, fun W ρ Φ Ψ hw σ F H A rel Q q ex => ?_⟩
  · have z := pe_slice (X := X) (p2 := p2) (pos := pos) (sl_tupA.or sl_list) (ha1 X W fit tk) (hl1 X W fit tk) (hh1 X W fit tk)
    rw [fit.K] at z
    exact z
  refine ha2 W ρ _ Ψ hw σ F H A rel _ (fun t v B ρ1 F1 H1 A1 hk ra af => ?_) ex
  refine hl2 W ρ1 _ Ψ hk σ F1 H1 A1 af.rel _ (fun lo ρ2 F2 H2 A2 hk af2 => ?_) (ex.aft af)
  have s1 := af.seq af2 ra.foot
  have ra2 := af2.repT ra af.ap (.inl rfl)
  refine hh2 W ρ2 _ Ψ hk σ F2 H2 A2 af2.rel _ (fun hi ρ3 F3 H3 A3 hk af3 => ?_) ((ex.aft af).aft af2)
  have s2 := s1.seq af3 (by simpa using ra2.foot)
  have ra3 := af3.repT ra2 (fun a z => s1.ap a (List.mem_append_left _ z)) (.inl rfl)
  simp only [Bool.and_true] at s2
  obtain ⟨x, e, hk⟩ := wd_elim hk
  obtain ⟨_, rx, _⟩ := deref_rep af3.rel ra3 e
  have l := af3.rel.le
  cases x <;> try (exact hk.elim)
  · obtain ⟨_, p, xs, rfl, h1, r1⟩ := rx.tup_inv2
    have hk : Φ (.val (.tup (cutD _ lo hi))) ρ3 := hk
    refine .inl ⟨p, xs, rfl, l.sqT (SqT.of h1), fun hw => ?_, fun _ p hp => ?_⟩
    · rw [← r1.length] at hw
      rw [cut_whole hw] at hk
      exact q _ _ [] ρ3 F3 H3 A3 hk (.val (.tup h1 r1)) (s2.less (List.nil_sublist _))
    · obtain ⟨r, e, l2⟩ := new_tup l hp (cut_reps r1 lo hi)
      exact q _ _ [] ρ3 _ _ A3 hk (.val r) (s2.pure e l2 List.nodup_nil)
  · obtain ⟨hp1, hk⟩ := hk
    obtain ⟨p, xs, A', rfl, h1, r1, _⟩ := rx.lst_inv l
    have e0 := r1.pure_nil hp1
    subst e0
    refine .inr ⟨p, xs, rfl, SqL.of h1, fun p hp => ?_⟩
    obtain ⟨r, e, l2⟩ := new_lst l hp (cut_reps r1 lo hi)
    exact q _ _ [p] ρ3 _ _ A3 hk (.val r) (s2.pure e l2 (by simp))
  · have hk : Φ (.val (.lst true (cutD _ lo hi))) ρ3 := hk
    obtain ⟨_, p, xs, rfl, h1, r1⟩ := rx.ro_inv
    refine .inr ⟨p, xs, rfl, l.sqL h1, fun p hp => ?_⟩
    obtain ⟨r, e, l2⟩ := new_lst l hp (cut_reps r1 lo hi)
    exact q _ _ [p] ρ3 _ _ A3 hk (.val r) (s2.pure e l2 (by simp))
/-- xs[::-1], a list -/
def opRev : Op1 := fun x k => wd (listOf x) fun ds => pureL ds = true ∧ k (.lst true ds.reverse)
def rRev (K : PySem.W.Frag) : V → Hp → VK → Prop := fun x H Q => ∃ a xs, x = .ref a ∧ SqL K H a xs ∧ ∀ p, H p = none → Q (.ref p) (upd H p (.lst xs.reverse))
theorem os_rev {K : PySem.W.Frag} : OpS1 K (rRev K) opRev := by
  intro x k h F H vx Bx l rx Q q
  obtain ⟨ds, e, hp1, hk⟩ := wd_elim h
  obtain ⟨a, xs, A', rfl, h1, r1, _⟩ := rx.listOf l e
  have e0 := r1.pure_nil hp1
  subst e0
  refine ⟨a, xs, rfl, h1, fun p hp => ?_⟩
  obtain ⟨r, e, l2⟩ := new_lst l hp r1.rev0
  exact q _ _ [p] _ _ hk r (by simp) e l2
theorem de_rev {a : Expr} {wa : WE} {k : Nat} {p1 p2 p3 pos : Pos} (ha : DE c m a wa) : DE c m (.Subscript a (.Slice none none (some (.UnaryOp .USub (.Constant (.int 1) k p1) p2)) p3) pos) (w1 opRev wa) := by
  obtain ⟨ta, ha1, ha2⟩ := ha
  refine ⟨fun W => tUn (rRev c.K) (ta W), fun X W fit tk => ?_, fun W => snd_1 (ha2 W) os_rev⟩
  have z := pe_revL (X := X) (k := k) (p1 := p1) (p2 := p2) (p3 := p3) (pos := pos) (ha1 X W fit tk)
  rw [fit.K] at z
  exact z

/-! ### isinstance -/
def opIsi (T : String) : Op1 := fun x k => k (.bl (D.isi T x))
def opIsi2 (T U : String) : Op1 := fun x k => k (.bl (D.isi T x || D.isi U x))
theorem de_isi {a : Expr} {wa : WE} {T : String} {x : Str} {p p2 pos : Pos} (ha : DE c m a wa) (hT : okTy T = true) (hg : GlC c.sc "isinstance") (hm : c.mg "isinstance" = none) (hg2 : GlC c.sc x) (hm2 : c.mg x = none) (hv : bootBuiltins x = some (.type T))
    (hn : x ≠ "__name__" := by decide) (hdb : (x == ("__debug__" : Str)) = false := by decide) (hvi : bootBuiltins "isinstance" = some (.builtin "isinstance") := by decide +kernel)
    (hs : ∀ env, starEach [a, .Name x p2] env = (false, eval a env) :: starEach [.Name x p2] env := by intro _; rfl) : DE c m (.Call (.Name "isinstance" p) [a, .Name x p2] [] pos) (w1 (opIsi T) wa) := by
  obtain ⟨ta, ha1, ha2⟩ := ha
  refine ⟨fun W => tCB (rIsi c.K) (tCons (ta W) (tCons (tC (.ty T)) tNil)), fun X W fit tk => ?_, fun W ρ Φ Ψ hw σ F H A rel Q q ex => ?_⟩
  · have z := pe_callB (X := X) (p := p) (pos := pos) call_isi (gl_of fit hg) (by rw [fit.mg]; exact hm) hvi (pa_cons (ha1 X W fit tk) (pa_cons (pe_bltn (v := .ty T) (gl_of fit hg2) (by rw [fit.mg]; exact hm2) hv rfl hn hdb) pa_nil) (hs X.env)) (by decide) (by decide) (hs X.env) rfl
    rw [fit.K] at z
    exact z
  refine ha2 W ρ _ Ψ hw σ F H A rel _ (fun t v B ρ1 F1 H1 A1 hk ra af => ?_) ex
  obtain ⟨d, e, hk⟩ := wd_elim hk
  obtain ⟨_, rx, _⟩ := deref_rep af.rel ra e
  exact ⟨v, .ty T, _, _, _, rfl, .ty T, rx.tyx af.rel.le, kit_ty (kit_D d T hT), q _ _ [] ρ1 F1 H1 A1 hk (.val (.bl _)) (af.less (List.nil_sublist B))⟩
theorem de_isi2 {a : Expr} {wa : WE} {T U : String} {x y : Str} {k : Nat} {p p1 p2 p3 pos : Pos} (ha : DE c m a wa) (hT : okTy T = true) (hU : okTy U = true) (hg : GlC c.sc "isinstance") (hm : c.mg "isinstance" = none) (hg2 : GlC c.sc x) (hm2 : c.mg x = none) (hv : bootBuiltins x = some (.type T))
    (hg3 : GlC c.sc y) (hm3 : c.mg y = none) (hv3 : bootBuiltins y = some (.type U)) (hn : x ≠ "__name__" := by decide) (hdb : (x == ("__debug__" : Str)) = false := by decide) (hn3 : y ≠ "__name__" := by decide) (hdb3 : (y == ("__debug__" : Str)) = false := by decide)
    (hvi : bootBuiltins "isinstance" = some (.builtin "isinstance") := by decide +kernel)
    (hs : ∀ env, starEach [a, .Tuple [.Name x p1, .Name y p2] k p3] env = (false, eval a env) :: starEach [.Tuple [.Name x p1, .Name y p2] k p3] env := by intro _; rfl) :
    DE c m (.Call (.Name "isinstance" p) [a, .Tuple [.Name x p1, .Name y p2] k p3] [] pos) (w1 (opIsi2 T U) wa) := by
  obtain ⟨ta, ha1, ha2⟩ := ha
  refine ⟨fun W => tCB (rIsiT c.K) (tCons (ta W) (tCons (tTup (tCons (tC (.ty T)) (tCons (tC (.ty U)) tNil))) tNil)), fun X W fit tk => ?_, fun W ρ Φ Ψ hw σ F H A rel Q q ex => ?_⟩
  · have z := pe_callB (X := X) (p := p) (pos := pos) call_isiT (gl_of fit hg) (by rw [fit.mg]; exact hm) hvi (pa_cons (ha1 X W fit tk) (pa_cons (pe_tup (pa_cons (pe_bltn (v := .ty T) (gl_of fit hg2) (by rw [fit.mg]; exact hm2) hv rfl hn hdb)
      (pa_cons (pe_bltn (v := .ty U) (gl_of fit hg3) (by rw [fit.mg]; exact hm3) hv3 rfl hn3 hdb3) pa_nil))) pa_nil) (hs X.env)) (by decide) (by decide) (hs X.env) rfl
    rw [fit.K] at z
    exact z
  refine ha2 W ρ _ Ψ hw σ F H A rel _ (fun t v B ρ1 F1 H1 A1 hk ra af => ?_) ex
  obtain ⟨d, e, hk⟩ := wd_elim hk
  obtain ⟨_, rx, _⟩ := deref_rep af.rel ra e
  refine ⟨by show 2 ≤ sizeLine; decide, fun tp hp => ?_⟩
  have l2 := (Ext.newF (o := .tup [.ty T, .ty U]) af.rel.le hp)
  have ty := rx.tyx af.rel.le
  have af2 := (af.less (List.nil_sublist B)).pure l2.1 l2.2 List.nodup_nil
  have ty2 : TyX c.K (upd H1 tp (.tup [.ty T, .ty U])) v (.type d.ty) := by
    cases ra with
    | val r => exact ((Rep.tyx (r.mono l2.1.frz (fun a o m h => l2.1.keep a o h List.not_mem_nil) (fun a m => by
        cases e2 : upd F1 tp (.tup [.ty T, .ty U]) a with
        | none => rfl
        | some o =>
          rcases l2.1.newf a o e2 with z | z | z
          · rw [(r.foot a m).2] at z; cases z
          · cases z
          · obtain ⟨⟨o', h'⟩, _⟩ := r.foot a m
            rw [h'] at z; cases z)) l2.2)) |> fun z => by cases e; exact z
    | slot r => exact (deref_rep af2.rel (RepT.slot r) e).elim fun _ h => h.1.tyx l2.2
    | sub r p => exact (deref_rep af2.rel (RepT.sub r (p.keep fun a o h => l2.1.keep a o h List.not_mem_nil)) e).elim fun _ h => h.1.tyx l2.2
  refine ⟨v, tp, _, _, _, _, rfl, upd_same, .cons (.ty T) (.cons (.ty U) .nil), ty2, ?_, q _ _ [] ρ1 _ _ A1 hk (.val (.bl _)) af2⟩
  refine kitAny_cons (kit_ty (kit_D d T hT)) (fun h => ?_) fun h => by rw [h]; rfl
  rw [h, Bool.false_or]
  exact kitAny_cons (kit_ty (kit_D d U hU)) (fun h => by rw [h]; exact kitAny_nil) fun h => h
end
end DL

set_option maxHeartbeats 200000
/-! DL8: what is walked, targets, comprehensions -/
namespace DL
open PySem PySem.Spec PyProof.Rows L2

/-- a walk that gives these things, while F stands -/
def WalkD (K : PySem.W.Frag) (F : Hp) (J : It) (ds : List D) : Prop := ∃ (G : Hp → Prop) (Y : Nat → Hp → V → Hp → Prop), Walk J ds.length G Y ∧ (∀ H, Le F H → G H) ∧
  ∀ F1 H i x H' d, Le F F1 → Le F1 H → ds[i]? = some d → Y i H x H' → ∃ F2, Rep K F2 H' d x [] ∧ Ext [] F1 H [] F2 H' ∧ Le F2 H'
theorem WalkD.mono {K : PySem.W.Frag} {F F' : Hp} {J : It} {ds : List D} (w : WalkD K F J ds) (l : Le F F') : WalkD K F' J ds := by
  obtain ⟨G, Y, h1, h2, h3⟩ := w
  exact ⟨G, Y, h1, fun H q => h2 H (l.trans q), fun F1 H i x H' d q => h3 F1 H i x H' d (l.trans q)⟩
theorem walk_seqL {K : PySem.W.Frag} {F H0 : Hp} {a : Addr} {xs : List V} {ds : List D} (h : SqL K F a xs) (r : Reps K F H0 ds xs []) : WalkD K F (Itl K a) ds := by
  refine ⟨_, _, by rw [r.length]; exact walk_list, fun H l => l.sqL h, fun F1 H i x H' d l1 l2 e y => ?_⟩
  obtain ⟨rfl, hx⟩ := y
  obtain ⟨B, r1, s⟩ := r.getV e hx
  have e0 : B = [] := List.sublist_nil.mp s
  subst e0
  exact ⟨F1, r1.pure l1, Ext.nop, l2⟩
theorem walk_seqT {K : PySem.W.Frag} {F H0 : Hp} {a : Addr} {xs : List V} {ds : List D} (h : SqT K F a xs) (r : Reps K F H0 ds xs []) : WalkD K F (Itt K a) ds := by
  refine ⟨_, _, by rw [r.length]; exact walk_tup, fun H l => l.sqT h, fun F1 H i x H' d l1 l2 e y => ?_⟩
  obtain ⟨rfl, hx⟩ := y
  obtain ⟨B, r1, s⟩ := r.getV e hx
  have e0 : B = [] := List.sublist_nil.mp s
  subst e0
  exact ⟨F1, r1.pure l1, Ext.nop, l2⟩
def signsD (z : Str) : List D := z.cps.toList.map fun s => D.str ⟨#[s]⟩
theorem walk_signs {K : PySem.W.Frag} {F : Hp} {z : Str} : WalkD K F (Its z) (signsD z) := by
  refine ⟨_, _, by rw [show (signsD z).length = z.cps.size by simp [signsD]]; exact walk_str, fun _ _ => trivial, fun F1 H i x H' d l1 l2 e y => ?_⟩
  obtain ⟨rfl, s, h1, rfl⟩ := y
  have e1 : d = .str ⟨#[s]⟩ := by
    unfold signsD at e
    rw [List.getElem?_map, Array.getElem?_toList, h1] at e
    exact (Option.some.inj e).symm
  subst e1
  exact ⟨F1, .str _, Ext.nop, l2⟩
def rangeD (lo : Int) (n : Nat) : List D := (List.range n).map fun i => D.int (lo + (i : Nat))
theorem walk_rangeD {K : PySem.W.Frag} {F : Hp} {lo : Int} {n : Nat} : WalkD K F (Itr lo n) (rangeD lo n) := by
  refine ⟨_, _, by rw [show (rangeD lo n).length = n by simp [rangeD]]; exact walk_range, fun _ _ => trivial, fun F1 H i x H' d l1 l2 e y => ?_⟩
  obtain ⟨rfl, rfl⟩ := y
  have e1 : d = .int (lo + (i : Nat)) := by
    unfold rangeD at e
    rw [List.getElem?_map] at e
    cases q : (List.range n)[i]? with
    | none => rw [q] at e; cases e
    | some j =>
      rw [q] at e
      have z := List.getElem?_eq_some_iff.mp q
      obtain ⟨hz, z⟩ := z
      rw [List.getElem_range] at z
      subst z
      exact (Option.some.inj e).symm
  subst e1
  exact ⟨F1, .int _, Ext.nop, l2⟩
/-- pairs -/
theorem walk_pairs {K : PySem.W.Frag} {F H0 : Hp} {J : It} {n : Nat} {G : Hp → Prop} {fx fy : Nat → Option V} {ds : List D} (w : Walk J n G (YPair fx fy)) (hn : ds.length = n) (hG : ∀ H, Le F H → G H)
    (h : ∀ i d x y, ds[i]? = some d → fx i = some x → fy i = some y → ∃ d1 d2, d = .tup [d1, d2] ∧ Rep K F H0 d1 x [] ∧ Rep K F H0 d2 y []) : WalkD K F J ds := by
  refine ⟨G, _, by rw [hn]; exact w, hG, fun F1 H i v H' d l1 l2 e y => ?_⟩
  obtain ⟨T, x, z, rfl, hT, rfl, h1, h2⟩ := y
  obtain ⟨d1, d2, rfl, r1, r2⟩ := h i d x z e h1 h2
  obtain ⟨r, e2, l3⟩ := new_tup (ds := [d1, d2]) (xs := [x, z]) (K := K) l2 hT (.cons (r1.pure l1) (.cons (r2.pure l1) .nil rfl) rfl)
  exact ⟨_, r, e2, l3⟩
def enumD (ds : List D) : List D := (List.range ds.length).map fun i => D.tup [.int (i : Nat), ds.getD i .non]
theorem enumD_at {ds : List D} {i : Nat} {d : D} (h : (enumD ds)[i]? = some d) : ∃ y, ds[i]? = some y ∧ d = .tup [.int (i : Nat), y] := by
  unfold enumD at h
  rw [List.getElem?_map] at h
  cases q : (List.range ds.length)[i]? with
  | none => rw [q] at h; cases h
  | some j =>
    rw [q] at h
    obtain ⟨hz, z⟩ := List.getElem?_eq_some_iff.mp q
    rw [List.getElem_range] at z
    subst z
    have hz' : i < ds.length := by simpa using hz
    refine ⟨ds[i], by simp [hz'], ?_⟩
    have e := (Option.some.inj h).symm
    rw [e]
    simp [hz']
theorem walk_enumD {K : PySem.W.Frag} {F H0 : Hp} {a : Addr} {xs : List V} {ds : List D} (r : Reps K F H0 ds xs []) {J : It} {G : Hp → Prop} (w : Walk J xs.length G (YPair (fun i => some (.int (i : Nat))) (fun i => xs[i]?))) (hG : ∀ H, Le F H → G H) : WalkD K F J (enumD ds) := by
  refine walk_pairs (H0 := H0) w (by simp [enumD, r.length]) hG fun i d x y e h1 h2 => ?_
  obtain ⟨z, hz, rfl⟩ := enumD_at e
  obtain ⟨B, r1, s⟩ := r.getV hz h2
  have e0 : B = [] := List.sublist_nil.mp s
  subst e0
  cases h1
  exact ⟨_, _, rfl, .int _, r1⟩
def zipD (xs ys : List D) : List D := List.zipWith (fun x y => D.tup [x, y]) xs ys
theorem walk_zipD {K : PySem.W.Frag} {F H0 : Hp} {xs ys : List V} {ds es : List D} (r : Reps K F H0 ds xs []) (s : Reps K F H0 es ys []) {J : It} {G : Hp → Prop} (w : Walk J (min xs.length ys.length) G (YPair (fun i => xs[i]?) (fun i => ys[i]?))) (hG : ∀ H, Le F H → G H) : WalkD K F J (zipD ds es) := by
  refine walk_pairs (H0 := H0) w (by simp [zipD, r.length, s.length]) hG fun i d x y e h1 h2 => ?_
  unfold zipD at e
  rw [List.getElem?_zipWith] at e
  cases q1 : ds[i]? with
  | none => rw [q1] at e; cases e
  | some d1 =>
    cases q2 : es[i]? with
    | none => rw [q1, q2] at e; cases e
    | some d2 =>
      rw [q1, q2] at e
      have e1 := (Option.some.inj e).symm
      obtain ⟨B, r1, s1⟩ := r.getV q1 h1
      obtain ⟨C, r2, s2⟩ := s.getV q2 h2
      have e0 : B = [] := List.sublist_nil.mp s1
      have e0' : C = [] := List.sublist_nil.mp s2
      subst e0 e0'
      exact ⟨d1, d2, e1, r1, r2⟩

theorem Reps.one0 {K : PySem.W.Frag} {F H : Hp} {d : D} {vs : List V} (r : Reps K F H [d] vs []) : ∃ v, vs = [v] ∧ Rep K F H d v [] := by
  cases r with
  | @cons _ _ v vs A B _ r1 r2 e =>
    obtain ⟨e1, e2⟩ := List.append_eq_nil_iff.mp e.symm
    subst e1 e2
    cases r2
    exact ⟨v, rfl, r1⟩
theorem Reps.two0 {K : PySem.W.Frag} {F H : Hp} {d e : D} {vs : List V} (r : Reps K F H [d, e] vs []) : ∃ v w, vs = [v, w] ∧ Rep K F H d v [] ∧ Rep K F H e w [] := by
  cases r with
  | @cons _ _ v vs A B _ r1 r2 e =>
    obtain ⟨e1, e2⟩ := List.append_eq_nil_iff.mp e.symm
    subst e1 e2
    obtain ⟨w, rfl, r3⟩ := r2.one0
    exact ⟨v, w, rfl, r1, r3⟩
abbrev WI := DEnv → (List D → DEnv → Prop) → PsiE → Prop
def DI (c : SC) (tg e : Expr) (w : WI) : Prop := ∃ t : WX → TI, (∀ X W, Fits c X → Takes X W → PI X tg e (t W)) ∧ ∀ W ρ Φ Ψ, w ρ Φ Ψ → ∀ σ F H A, SRel c.K F H ρ σ A → ∀ R : It → Hp → Prop,
    (∀ ds ρ' F' H' A' J, Φ ds ρ' → Aft c.K false σ ρ A F H ρ' A' F' H' [] → WalkD c.K F' J ds → R J H') → ExcOk c.K c.mg W Ψ σ A F H → t W σ H R
def itemsD : D → Option (List D)
  | .tup ds => some ds
  | .lst _ ds => some ds
  | .ro ds => some ds
  | .str z => some (signsD z)
  | _ => none
section
variable {c : SC} {m m2 : Bool} {W : WX} {tg : Expr} {pos p : Pos}
def wSeq (wa : WE) : WI := fun ρ Φ Ψ => wa ρ (fun t ρ1 => wd (frzT t ρ1) fun q => wd (itemsD q.1) fun ds => Φ ds q.2) Ψ
theorem Rep.frzL {K : PySem.W.Frag} {F H : Hp} {o : Bool} {ds : List D} {v : V} (r : Rep K F H (.lst o ds) v []) : ∃ a xs, v = .ref a ∧ F a = some (.lst xs) ∧ Reps K F H ds xs [] := by
  cases r with
  | lstF h r => exact ⟨_, _, rfl, h, r⟩
  | lstO _ _ _ e => cases e
theorem di_seq {e : Expr} {wa : WE} (ha : DE c m e wa) : DI c tg e (wSeq wa) := by
  obtain ⟨ta, ha1, ha2⟩ := ha
  refine ⟨fun W => iSeq c.K (ta W), fun X W fit tk => ?_, fun W ρ Φ Ψ hw σ F H A rel R q ex => ?_⟩
  · have z := pi_seq (tg := tg) (ha1 X W fit tk)
    rw [fit.K] at z
    exact z
  refine ha2 W ρ _ Ψ hw σ F H A rel _ (fun t v B ρ1 F1 H1 A1 hk ra af => ?_) ex
  obtain ⟨⟨d, ρ2⟩, e, hk⟩ := wd_elim hk
  obtain ⟨ds, e2, hk⟩ := wd_elim hk
  obtain ⟨F2, A2, af2, rd⟩ := af.frz1 ra e
  have l := af2.rel.le
  have hk : Φ ds ρ2 := hk
  have e2 : itemsD d = some ds := e2
  cases d <;> try (cases e2; done)
  · cases e2
    obtain ⟨rfl, _⟩ := rd.str_inv
    exact .inr ⟨_, rfl, q _ ρ2 F2 H1 A2 _ hk af2 walk_signs⟩
  · cases e2
    obtain ⟨_, a, xs, rfl, h1, r1⟩ := rd.tup_inv
    exact .inl ⟨a, rfl, .inr ⟨⟨xs, l.sqT h1⟩, q _ ρ2 F2 H1 A2 _ hk af2 (walk_seqT h1 r1)⟩⟩
  · cases e2
    obtain ⟨a, xs, rfl, h1, r1⟩ := rd.frzL
    exact .inl ⟨a, rfl, .inl ⟨⟨xs, SqL.of (l _ _ h1)⟩, q _ ρ2 F2 H1 A2 _ hk af2 (walk_seqL (SqL.of h1) r1)⟩⟩
  · cases e2
    obtain ⟨_, a, xs, rfl, h1, r1⟩ := rd.ro_inv
    exact .inl ⟨a, rfl, .inl ⟨⟨xs, l.sqL h1⟩, q _ ρ2 F2 H1 A2 _ hk af2 (walk_seqL h1 r1)⟩⟩
def rgOk (i : Int) : Prop := -(2 ^ 62) ≤ i ∧ i < 2 ^ 62
def wRange1 (wa : WA) : WI := fun ρ Φ Ψ => wa ρ (fun ts ρ1 => wd (derefs ρ1 ts) fun xs => match xs with
  | [.int j] => rgOk j ∧ Φ (rangeD 0 j.toNat) ρ1
  | _ => False) Ψ
theorem di_range1 {a : Expr} {wa : WA} (hg : GlC c.sc "range") (hm : c.mg "range" = none) (ha : DA c m [a] wa) (hs : ∀ env, starEach [a] env = [(false, eval a env)] := by intro _; rfl) : DI c tg (.Call (.Name "range" p) [a] [] pos) (wRange1 wa) := by
  obtain ⟨ta, ha1, ha2⟩ := ha
  refine ⟨fun W => iRng1 (ta W), fun X W fit tk => pi_range1 (gl_of fit hg) (by rw [fit.mg]; exact hm) (ha1 X W fit tk) (hs X.env), fun W ρ Φ Ψ hw σ F H A rel R q ex => ?_⟩
  refine ha2 W ρ _ Ψ hw σ F H A rel _ (fun ts vs B ρ1 F1 H1 A1 hk ra af => ?_) ex
  obtain ⟨xs, e, hk⟩ := wd_elim hk
  have r := derefs_rep af.rel ra e
  split at hk
  · obtain ⟨v, B', rfl, rr⟩ := r.one
    obtain ⟨rfl, _⟩ := rr.int_inv
    obtain ⟨h1, hk⟩ := hk
    exact ⟨_, rfl, h1.1, h1.2, q _ ρ1 F1 H1 A1 _ hk ((af.less (List.nil_sublist B)).weak fun e => by cases e) walk_rangeD⟩
  · exact hk.elim
def wRange2 (wa : WA) : WI := fun ρ Φ Ψ => wa ρ (fun ts ρ1 => wd (derefs ρ1 ts) fun xs => match xs with
  | [.int i, .int j] => rgOk i ∧ rgOk j ∧ Φ (rangeD i (j - i).toNat) ρ1
  | _ => False) Ψ
theorem di_range2 {a b : Expr} {wa : WA} (hg : GlC c.sc "range") (hm : c.mg "range" = none) (ha : DA c m [a, b] wa) (hs : ∀ env, starEach [a, b] env = [(false, eval a env), (false, eval b env)] := by intro _; rfl)
    (hs2 : ∀ env, starEach [b] env = [(false, eval b env)] := by intro _; rfl) : DI c tg (.Call (.Name "range" p) [a, b] [] pos) (wRange2 wa) := by
  obtain ⟨ta, ha1, ha2⟩ := ha
  refine ⟨fun W => iRng2 (ta W), fun X W fit tk => pi_range2 (gl_of fit hg) (by rw [fit.mg]; exact hm) (ha1 X W fit tk) (hs X.env) (hs2 X.env), fun W ρ Φ Ψ hw σ F H A rel R q ex => ?_⟩
  refine ha2 W ρ _ Ψ hw σ F H A rel _ (fun ts vs B ρ1 F1 H1 A1 hk ra af => ?_) ex
  obtain ⟨xs, e, hk⟩ := wd_elim hk
  have r := derefs_rep af.rel ra e
  split at hk
  · obtain ⟨v, w, B', C', rfl, rr, rs⟩ := r.two
    obtain ⟨rfl, _⟩ := rr.int_inv
    obtain ⟨rfl, _⟩ := rs.int_inv
    obtain ⟨h1, h2, hk⟩ := hk
    exact ⟨_, _, rfl, ⟨h1.1, h1.2, h2.1, h2.2⟩, q _ ρ1 F1 H1 A1 _ hk ((af.less (List.nil_sublist B)).weak fun e => by cases e) walk_rangeD⟩
  · exact hk.elim
def wEnum (wa : WA) : WI := fun ρ Φ Ψ => wa ρ (fun ts ρ1 => wd (frzTs ts ρ1) fun q => match q.1 with
  | [d] => wd (seqD d) fun ds => Φ (enumD ds) q.2
  | _ => False) Ψ
theorem di_enum {a : Expr} {es : List Expr} {k : Nat} {tp : Pos} {wa : WA} (hg : GlC c.sc "enumerate") (hm : c.mg "enumerate" = none) (ha : DA c m [a] wa) (hs : ∀ env, starEach [a] env = [(false, eval a env)] := by intro _; rfl) : DI c (.Tuple es k tp) (.Call (.Name "enumerate" p) [a] [] pos) (wEnum wa) := by
  obtain ⟨ta, ha1, ha2⟩ := ha
  refine ⟨fun W => iEnumA c.K (ta W), fun X W fit tk => ?_, fun W ρ Φ Ψ hw σ F H A rel R q ex => ?_⟩
  · have z := pi_enumA (elts := es) (kk := k) (tpos := tp) (p := p) (pos := pos) (gl_of fit hg) (by rw [fit.mg]; exact hm) (ha1 X W fit tk) (hs X.env)
    rw [fit.K] at z
    exact z
  refine ha2 W ρ _ Ψ hw σ F H A rel _ (fun ts vs B ρ1 F1 H1 A1 hk ra af => ?_) ex
  obtain ⟨⟨xs, ρ2⟩, e, hk⟩ := wd_elim hk
  obtain ⟨F2, A2, af2, rds⟩ := af.frzs ra e
  have l := af2.rel.le
  match xs, hk, rds with
  | [d], hk, rds =>
    obtain ⟨ds, e2, hk⟩ := wd_elim hk
    obtain ⟨v, rfl, rd⟩ := rds.one0
    have hk : Φ (enumD ds) ρ2 := hk
    cases d <;> try (cases e2; done)
    · cases e2
      obtain ⟨_, a, ys, rfl, h1, r1⟩ := rd.tup_inv
      exact ⟨a, ys, rfl, .inr ⟨l.sqT h1, q _ ρ2 F2 H1 A2 _ hk af2 (walk_enumD (a := a) r1 walk_enumT fun H l => l.sqT h1)⟩⟩
    · cases e2
      obtain ⟨a, ys, rfl, h1, r1⟩ := rd.frzL
      exact ⟨a, ys, rfl, .inl ⟨SqL.of (l _ _ h1), q _ ρ2 F2 H1 A2 _ hk af2 (walk_enumD (a := a) r1 walk_enum fun H l => SqL.of (l _ _ h1))⟩⟩
    · cases e2
      obtain ⟨_, a, ys, rfl, h1, r1⟩ := rd.ro_inv
      exact ⟨a, ys, rfl, .inl ⟨l.sqL h1, q _ ρ2 F2 H1 A2 _ hk af2 (walk_enumD (a := a) r1 walk_enum fun H l => l.sqL h1)⟩⟩
  | [], hk, _ => exact hk.elim
  | _ :: _ :: _, hk, _ => exact hk.elim
def zipOk : D → D → Option (List D × List D)
  | .tup xs, .tup ys => some (xs, ys)
  | .lst _ xs, .lst _ ys => some (xs, ys)
  | _, _ => none
def wZip (wa : WA) : WI := fun ρ Φ Ψ => wa ρ (fun ts ρ1 => wd (frzTs ts ρ1) fun q => match q.1 with
  | [d, e] => wd (zipOk d e) fun z => Φ (zipD z.1 z.2) q.2
  | _ => False) Ψ
theorem di_zip {a b : Expr} {es : List Expr} {k : Nat} {tp : Pos} {wa : WA} (hg : GlC c.sc "zip") (hm : c.mg "zip" = none) (ha : DA c m [a, b] wa)
    (hs : ∀ env, starEach [a, b] env = (false, eval a env) :: starEach [b] env := by intro _; rfl) (hpl : ∀ env, (backTo pos (starEach [b] env)).any (·.1) = false := by intro _; rfl) : DI c (.Tuple es k tp) (.Call (.Name "zip" p) [a, b] [] pos) (wZip wa) := by
  obtain ⟨ta, ha1, ha2⟩ := ha
  refine ⟨fun W => RZ.iZipA c.K (ta W), fun X W fit tk => ?_, fun W ρ Φ Ψ hw σ F H A rel R q ex => ?_⟩
  · have z := RZ.pi_zipA (elts := es) (kk := k) (tpos := tp) (p := p) (pos := pos) (gl_of fit hg) (by rw [fit.mg]; exact hm) (ha1 X W fit tk) (hs X.env) (hpl X.env)
    rw [fit.K] at z
    exact z
  refine ha2 W ρ _ Ψ hw σ F H A rel _ (fun ts vs B ρ1 F1 H1 A1 hk ra af => ?_) ex
  obtain ⟨⟨xs, ρ2⟩, e, hk⟩ := wd_elim hk
  obtain ⟨F2, A2, af2, rds⟩ := af.frzs ra e
  have l := af2.rel.le
  match xs, hk, rds with
  | [d, e], hk, rds =>
    obtain ⟨⟨us, ws⟩, e2, hk⟩ := wd_elim hk
    obtain ⟨v, w, rfl, rd, re⟩ := rds.two0
    have hk : Φ (zipD us ws) ρ2 := hk
    cases d <;> cases e <;> try (cases e2; done)
    · cases e2
      obtain ⟨_, a, xs, rfl, h1, r1⟩ := rd.tup_inv
      obtain ⟨_, b, ys, rfl, h2, r2⟩ := re.tup_inv
      exact ⟨a, b, xs, ys, rfl, .inr ⟨l.sqT h1, l.sqT h2, q _ ρ2 F2 H1 A2 _ hk af2 (walk_zipD r1 r2 (walk_zipT rfl) fun H l => ⟨l.sqT h1, l.sqT h2⟩)⟩⟩
    · cases e2
      obtain ⟨a, xs, rfl, h1, r1⟩ := rd.frzL
      obtain ⟨b, ys, rfl, h2, r2⟩ := re.frzL
      exact ⟨a, b, xs, ys, rfl, .inl ⟨SqL.of (l _ _ h1), SqL.of (l _ _ h2), q _ ρ2 F2 H1 A2 _ hk af2 (walk_zipD r1 r2 (walk_zip rfl) fun H l => ⟨SqL.of (l _ _ h1), SqL.of (l _ _ h2)⟩)⟩⟩
  | [], hk, _ => exact hk.elim
  | [_], hk, _ => exact hk.elim
  | _ :: _ :: _ :: _, hk, _ => exact hk.elim
end
end DL

set_option maxHeartbeats 200000
/-! DL9: targets, comprehensions -/
namespace DL
open PySem PySem.Spec PyProof.Rows L2

section
variable {K : PySem.W.Frag} {F H : Hp} {ρ : DEnv} {σ : Sl} {A : Fp}
/-- a thing is stored in a slot -/
theorem SRel.store {i : Nat} {d : D} {v : V} {B : Fp} (rel : SRel K F H ρ σ A) (hi : i < ρ.length) (r : Rep K F H d v B) (nd : B.Nodup) (ap : ∀ a, a ∈ B → a ∉ A) :
    ∃ A', SRel K F H (ρ.set i (some d)) (σ.set i (some v)) A' ∧ ∀ a, a ∈ A' → a ∈ A ∨ a ∈ B := by
  obtain ⟨C, h1, _, h3, h4⟩ := rel.env.drop i
  have e : (ρ.set i none)[i]? = some none := List.getElem?_set_self hi
  obtain ⟨N, h5, pm⟩ := (h1 none).put e r
  rw [List.set_set, List.set_set] at h5
  refine ⟨N, ⟨rel.le, h5, (pm.nodup_iff).mpr (List.nodup_append.mpr ⟨nd, h4 rel.nd, fun a ha b hb e => ap a ha (h3 a (by rw [e]; exact hb))⟩)⟩, fun a m => ?_⟩
  rcases List.mem_append.mp (pm.mem_iff.mp m) with m | m
  · exact .inr m
  · exact .inl (h3 a m)
theorem EnvR.agree (h : EnvR K F H ρ σ A) : ∀ {σ' : Sl}, (∀ (i : Nat) (d : D), ρ[i]? = some (some d) → σ'[i]? = σ[i]?) → σ'.length = σ.length → EnvR K F H ρ σ' A := by
  induction h with
  | nil =>
    intro σ' _ hl
    have e : σ' = [] := List.length_eq_zero_iff.mp hl
    rw [e]
    exact .nil
  | no h ih =>
    intro σ' ha hl
    cases σ' with
    | nil => simp at hl
    | cons v' σ' => exact .no (ih (fun i d e => by simpa using ha (i + 1) d (by simpa using e)) (by simpa using hl))
  | @yes d0 ρ v0 σ A0 B0 C0 r h e ih =>
    intro σ' ha hl
    cases σ' with
    | nil => simp at hl
    | cons v' σ' =>
      have e1 : v' = some v0 := by simpa using ha 0 d0 rfl
      rw [e1]
      exact .yes r (ih (fun i d e => by simpa using ha (i + 1) d (by simpa using e)) (by simpa using hl)) e
end
def wipeD (ρ : DEnv) : List Nat → DEnv
  | [] => ρ
  | v :: vs => (wipeD ρ vs).set v none
theorem wipeD_none (ρ : DEnv) : ∀ (vs : List Nat) (i : Nat) (d : D), (wipeD ρ vs)[i]? = some (some d) → i ∉ vs
  | [], _, _, _ => List.not_mem_nil
  | v :: vs, i, d, h => by
    unfold wipeD at h
    intro m
    by_cases e : v = i
    · subst e
      by_cases hv : v < (wipeD ρ vs).length
      · rw [List.getElem?_set_self hv] at h; cases h
      · rw [List.getElem?_eq_none (by simpa using hv)] at h; cases h
    · rw [List.getElem?_set_ne e] at h
      rcases List.mem_cons.mp m with m | m
      · exact e m.symm
      · exact wipeD_none ρ vs i d h m
theorem wipe_at (σ : Sl) : ∀ (vs : List Nat) (i : Nat), i ∉ vs → (wipe σ vs)[i]? = σ[i]?
  | [], _, _ => rfl
  | v :: vs, i, h => by
    unfold wipe
    rw [List.getElem?_set_ne (fun e => h (by rw [e]; exact List.mem_cons_self))]
    exact wipe_at σ vs i fun m => h (List.mem_cons_of_mem _ m)
theorem wipe_in (σ : Sl) : ∀ (vs : List Nat) (i : Nat), i ∈ vs → i < σ.length → (wipe σ vs)[i]? = some none
  | v :: vs, i, h, hi => by
    unfold wipe
    by_cases e : v = i
    · subst e
      exact List.getElem?_set_self (by rw [wipe_length]; exact hi)
    · rw [List.getElem?_set_ne e]
      exact wipe_in σ vs i ((List.mem_cons.mp h).resolve_left fun z => e z.symm) hi
theorem wipe_eq {σ σ' : Sl} {vs : List Nat} (hl : σ'.length = σ.length) (h : ∀ i, i ∉ vs → σ'[i]? = σ[i]?) : wipe σ' vs = wipe σ vs := by
  apply List.ext_getElem?
  intro i
  by_cases hi : i ∈ vs
  · by_cases hs : i < σ.length
    · rw [wipe_in σ vs i hi hs, wipe_in σ' vs i hi (by rw [hl]; exact hs)]
    · rw [List.getElem?_eq_none (by rw [wipe_length]; omega), List.getElem?_eq_none (by rw [wipe_length]; omega)]
  · rw [wipe_at σ vs i hi, wipe_at σ' vs i hi, h i hi]
section
variable {K : PySem.W.Frag} {F H : Hp} {ρ : DEnv} {σ : Sl} {A : Fp}
/-- own slots are forgotten -/
theorem SRel.wipe (rel : SRel K F H ρ σ A) : ∀ vs : List Nat, ∃ A', SRel K F H (wipeD ρ vs) (wipe σ vs) A' ∧ SRel K F H (wipeD ρ vs) σ A' ∧ ∀ a, a ∈ A' → a ∈ A
  | [] => ⟨A, rel, rel, fun _ m => m⟩
  | v :: vs => by
    obtain ⟨A1, r1, r2, s1⟩ := rel.wipe vs
    obtain ⟨C, h1, _, h3, h4⟩ := r1.env.drop v
    obtain ⟨C2, _, h6, h7, h8⟩ := r2.env.drop v
    refine ⟨C, ⟨rel.le, h1 none, h4 r1.nd⟩, ⟨rel.le, (h1 none).agree (fun i d e => ?_) ?_, h4 r1.nd⟩, fun a m => s1 a (h3 a m)⟩
    · have ni := wipeD_none ρ (v :: vs) i d e
      exact (wipe_at σ (v :: vs) i ni).symm
    · rw [List.length_set, wipe_length]
theorem SRel.unwipe {vs : List Nat} {ρ0 : DEnv} (rel : SRel K F H ρ (L2.wipe σ vs) A) (h : ∀ (i : Nat) (d : D), ρ[i]? = some (some d) → i ∉ vs) : SRel K F H ρ σ A :=
  ⟨rel.le, rel.env.agree (fun i d e => (wipe_at σ vs i (h i d e)).symm) (by rw [wipe_length]), rel.nd⟩
end

/-! ### targets -/
abbrev WG := D → DEnv → (DEnv → Prop) → Prop
/-- sl: the slots that it stores -/
def DG (c : SC) (sl : List Nat) (tg : Expr) (w : WG) : Prop := ∃ g : TG, (∀ X, Fits c X → PG X tg g) ∧ ∀ d ρ k, w d ρ k → ∀ σ F H A v, SRel c.K F H ρ σ A → Rep c.K F H d v [] → ∀ Q : Sl → Hp → Prop,
    (∀ ρ' σ' A', k ρ' → SRel c.K F H ρ' σ' A' → (∀ a, a ∈ A' → a ∈ A) → (σ'.length = σ.length ∧ ∀ i, i ∉ sl → σ'[i]? = σ[i]?) → Q σ' H) → g v σ H Q
section
variable {c : SC} {m m2 : Bool} {W : WX}
def wgName (i : Nat) : WG := fun d ρ k => i < ρ.length ∧ k (ρ.set i (some d))
theorem Reps.one_of {K : PySem.W.Frag} {F H : Hp} {d : D} {v : V} {A : Fp} (r : Rep K F H d v A) (h : d.isOwn = false) : A = [] := r.own_nil h
theorem dg_name {i : Nat} {x : Str} {pos : Pos} (hNd : c.N.Nodup) (hi : c.N[i]? = some x := by rfl) (hx : c.sc.names.lookup x = some .local ∨ c.sc.names.lookup x = some .cell := by first | exact Or.inl rfl | exact Or.inr rfl)
    (hf : c.fn x = true ∨ c.sc.names.lookup x = some .local := by first | exact Or.inl rfl | exact Or.inr rfl) : DG c [i] (.Name x pos) (wgName i) := by
  refine ⟨gName i, fun X fit => pg_name (by rw [fit.N]; exact hNd) (by rw [fit.N]; exact hi) (by unfold L2.Loc; rw [fit.sc]; exact hx) (by rw [fit.fn, fit.sc]; exact hf), fun d ρ k hw σ F H A v rel r Q q => ?_⟩
  obtain ⟨hl, hk⟩ := hw
  obtain ⟨A', rel', sub⟩ := rel.store hl r List.nodup_nil fun _ m => (List.not_mem_nil m).elim
  refine q _ _ A' hk rel' (fun a m => (sub a m).elim id fun z => (List.not_mem_nil z).elim) ⟨List.length_set, fun j hj => ?_⟩
  exact List.getElem?_set_ne (fun e => hj (by simp [e]))
/-- (a, b, ..) = .. -/
abbrev WGs := List D → DEnv → (DEnv → Prop) → Prop
def DGs (c : SC) (sl : List Nat) (tgs : List Expr) (w : WGs) : Prop := ∃ g : TGs, (∀ X, Fits c X → PGs X tgs g) ∧ ∀ ds ρ k, w ds ρ k → ∀ σ F H A vs, SRel c.K F H ρ σ A → Reps c.K F H ds vs [] → ∀ Q : Sl → Hp → Prop,
    (∀ ρ' σ' A', k ρ' → SRel c.K F H ρ' σ' A' → (∀ a, a ∈ A' → a ∈ A) → (σ'.length = σ.length ∧ ∀ i, i ∉ sl → σ'[i]? = σ[i]?) → Q σ' H) → g vs σ H Q
def wgsNil : WGs := fun ds ρ k => match ds with
  | [] => k ρ
  | _ => False
def wgsCons (w : WG) (ws : WGs) : WGs := fun ds ρ k => match ds with
  | d :: ds => w d ρ fun ρ1 => ws ds ρ1 k
  | _ => False
theorem dgs_nil : DGs c [] [] wgsNil := by
  refine ⟨gNil, fun X _ => pgs_nil, fun ds ρ k hw σ F H A vs rel r Q q => ?_⟩
  cases ds with
  | nil =>
    cases r
    exact ⟨rfl, q ρ σ A hw rel (fun _ m => m) ⟨rfl, fun _ _ => rfl⟩⟩
  | cons d ds => exact hw.elim
theorem dgs_cons {sl sl2 : List Nat} {e : Expr} {es : List Expr} {w : WG} {ws : WGs} (h1 : DG c sl e w) (h2 : DGs c sl2 es ws) (hs : ∀ env, (assignEach (e :: es) env).map (·.2) = assign e env :: (assignEach es env).map (·.2) := by intro _; rfl) : DGs c (sl ++ sl2) (e :: es) (wgsCons w ws) := by
  obtain ⟨g1, a1, b1⟩ := h1
  obtain ⟨g2, a2, b2⟩ := h2
  refine ⟨gCons g1 g2, fun X fit => pgs_cons (a1 X fit) (a2 X fit) (hs X.env), fun ds ρ k hw σ F H A vs rel r Q q => ?_⟩
  cases ds with
  | nil => exact hw.elim
  | cons d ds =>
    cases r with
    | @cons _ _ v vs A0 B0 _ r1 r2 e =>
      obtain ⟨e1, e2⟩ := List.append_eq_nil_iff.mp e.symm
      subst e1 e2
      refine ⟨v, vs, rfl, b1 d ρ _ hw σ F H A v rel r1 _ fun ρ1 σ1 A1 hk rel1 sub1 ag1 => ?_⟩
      refine b2 ds ρ1 k hk σ1 F H A1 vs rel1 r2 Q fun ρ2 σ2 A2 hk2 rel2 sub2 ag2 => q ρ2 σ2 A2 hk2 rel2 (fun a m => sub1 a (sub2 a m)) ⟨ag2.1.trans ag1.1, fun i hi => ?_⟩
      rw [ag2.2 i fun z => hi (List.mem_append_right _ z), ag1.2 i fun z => hi (List.mem_append_left _ z)]
def wgTup (n : Nat) (ws : WGs) : WG := fun d ρ k => match d with
  | .tup ds => ds.length = n ∧ ws ds ρ k
  | .lst _ ds => ds.length = n ∧ ws ds ρ k
  | _ => False
theorem dg_tup {sl : List Nat} {es : List Expr} {ws : WGs} {k : Nat} {n : Nat} {pos : Pos} (h : DGs c sl es ws) (hn : ∀ env, (assignEach es env).length = n := by intro _; rfl) (hst : ∀ env, (assignEach es env).findIdx? (·.1) = none := by intro _; rfl) : DG c sl (.Tuple es k pos) (wgTup n ws) := by
  obtain ⟨g, a, b⟩ := h
  refine ⟨fun v σ H Q => gTup c.K n g v σ H Q ∨ gLst c.K n g v σ H Q, fun X fit => ?_, fun d ρ k hw σ F H A v rel r Q q => ?_⟩
  · have z := pg_tup (k := k) (pos := pos) fit.calm (a X fit) (hn X.env) (hst X.env)
    have z2 := pg_lst (k := k) (pos := pos) fit.calm (a X fit) (hn X.env) (hst X.env)
    rw [fit.K] at z z2
    exact ⟨fun pins s σ H v u Q I r h => h.elim (z.run pins s σ H v u Q I r) (z2.run pins s σ H v u Q I r)⟩
  · cases d with
    | tup ds =>
      obtain ⟨hl, hk⟩ := hw
      obtain ⟨_, p, xs, rfl, h1, r1⟩ := r.tup_inv
      exact .inl ⟨p, xs, rfl, rel.le.sqT h1, by rw [← r1.length]; exact hl, b ds ρ k hk σ F H A xs rel r1 Q q⟩
    | lst o ds =>
      obtain ⟨hl, hk⟩ := hw
      obtain ⟨p, xs, A', rfl, h1, r1, sb⟩ := r.lst_inv rel.le
      have e : A' = [] := List.sublist_nil.mp sb
      subst e
      exact .inr ⟨p, xs, rfl, .inl (.inl h1), by rw [← r1.length]; exact hl, b ds ρ k hk σ F H A xs rel r1 Q q⟩
    | _ => exact hw.elim

/-! ### comprehensions -/
/-- the context of a block -/
def SC.blk (c : SC) (scope : Scope) : SC := { c with sc := relS scope c.sc, fn := fun x => scope.names.lookup x == some .cell }
theorem Fits.blk {X : Cx} (fit : Fits c X) (s : Shared) (H : Hp) (scope : Scope) (C : Addr) (cl : List (Str × Addr)) (fp : List Addr) : Fits (c.blk scope) (X.blk s H scope (compEnvC scope cl C X.env) fp) := by
  refine ⟨fit.P, fit.w, fit.K, fit.mg, fit.base, fit.N, ?_, fit.calm, fit.room, rfl⟩
  show relS scope X.env.scope = relS scope c.sc
  rw [fit.sc]
theorem takes_blk {X : Cx} {s : Shared} {H : Hp} {scope : Scope} {cenv : Env} {fp : List Addr} : Takes (X.blk s H scope cenv fp) (fun _ _ _ _ => False) := takes0
def noPsi : PsiE := fun _ _ => False
theorem excOk_no {K : PySem.W.Frag} {mg : Str → Option Value} {W : WX} {σ : Sl} {A : Fp} {F H : Hp} : ExcOk K mg W noPsi σ A F H := fun _ _ _ _ _ _ _ h => h.elim
/-- the tests of a clause -/
def DTs (c : SC) (ifs : List Expr) (w : WT) : Prop := ∃ t : WX → TT, (∀ X W, Fits c X → Takes X W → PTs X ifs (t W)) ∧ ∀ W, SndT c false W (t W) w
def wYes : WT := fun ρ Φ _ => Φ true ρ
theorem dts_nil : DTs c [] wYes := ⟨fun _ => tYes, fun _ _ _ _ => pts_nil, fun W ρ Φ Ψ hw σ F H A rel Q q _ => q true ρ F H A hw (Aft.refl rel)⟩
theorem dts_one {e : Expr} {w : WT} (h : DT c m e w) : DTs c [e] w := by
  obtain ⟨t, h1, h2⟩ := h
  exact ⟨t, fun X W fit tk => pts_one (h1 X W fit tk), fun W => (h2 W).weak fun e => by cases e⟩
/-- an element: a thing as it is, a slot's frozen -/
def elemT : T → DEnv → Option (D × DEnv)
  | .val d, ρ => some (d, ρ)
  | t, ρ => frzT t ρ
def lcGo (vs : List Nat) (wg : WG) (wt : WT) (we : WE) (k : List D → DEnv → Prop) : List D → DEnv → List D → Prop
  | [], ρ, acc => k acc ρ
  | d :: ds, ρ, acc => wg d ρ fun ρ1 => wt ρ1 (fun b ρ2 => if b = true then we ρ2 (fun t ρ3 => acc.length < sizeLine ∧ wd (elemT t ρ3) fun q => lcGo vs wg wt we k ds (wipeD q.2 vs) (acc ++ [q.1])) noPsi else lcGo vs wg wt we k ds (wipeD ρ2 vs) acc) noPsi
def wLc (vs : List Nat) (wi : WI) (wg : WG) (wt : WT) (we : WE) : WE := fun ρ Φ Ψ => wi ρ (fun ds ρ1 => lcGo vs wg wt we (fun ys ρ2 => Φ (.val (.lst true ys)) ρ2) ds (wipeD ρ1 vs) []) Ψ
theorem elem_ok {K : PySem.W.Frag} {σ : Sl} {ρ ρ1 ρ2 : DEnv} {A A1 B : Fp} {F H F1 H1 : Hp} {t : T} {d : D} {v : V} (x : Aft K m σ ρ A F H ρ1 A1 F1 H1 B) (r : RepT K F1 H1 σ t v B) (h : elemT t ρ1 = some (d, ρ2)) :
    ∃ F2 A2 B2, Aft K false σ ρ A F H ρ2 A2 F2 H1 B2 ∧ Rep K F2 H1 d v B2 := by
  cases r with
  | val r =>
    cases h
    exact ⟨F1, A1, B, x.weak (fun e => by cases e), r⟩
  | slot r =>
    obtain ⟨F2, A2, h1, h2⟩ := x.frz1 (.slot r) h
    exact ⟨F2, A2, [], h1, h2⟩
  | sub r p => cases h
theorem Reps.snoc {K : PySem.W.Frag} {F H : Hp} {ds : List D} {vs : List V} {A B : Fp} {d : D} {v : V} (r : Reps K F H ds vs A) (s : Rep K F H d v B) : Reps K F H (ds ++ [d]) (vs ++ [v]) (A ++ B) :=
  r.append (.cons s .nil (by simp))
/-- the state between two turns: what is made so far, apart from the slots -/
structure LcI (K : PySem.W.Frag) (A0 : Fp) (F0 H0 : Hp) (Dd : Addr) (acc : List D) (F : Hp) (A : Fp) (H : Hp) : Prop where
  ex : ∃ (xs : List V) (B : Fp), H Dd = some (.lst xs) ∧ F Dd = none ∧ Reps K F H acc xs B ∧ Dd ∉ B ∧ Ext A0 F0 H0 (A ++ (Dd :: B)) F H ∧ (Dd :: B).Nodup ∧ ∀ a, a ∈ Dd :: B → a ∉ A
theorem LcI.less {K : PySem.W.Frag} {A0 A A1 : Fp} {F0 H0 F H : Hp} {Dd : Addr} {acc : List D} (I : LcI K A0 F0 H0 Dd acc F A H) (h : ∀ a, a ∈ A1 → a ∈ A) : LcI K A0 F0 H0 Dd acc F A1 H := by
  obtain ⟨xs, B, hD, hF, ra, nD, ext, nd, ap⟩ := I.ex
  refine ⟨xs, B, hD, hF, ra, nD, ext.le fun a m => ?_, nd, fun a m z => ap a m (h a z)⟩
  rcases List.mem_append.mp m with m | m
  · exact List.mem_append_left _ (h a m)
  · exact List.mem_append_right _ m
theorem LcI.step {K : PySem.W.Frag} {A0 A A1 B1 : Fp} {F0 H0 F H F1 H1 : Hp} {Dd : Addr} {acc : List D} (I : LcI K A0 F0 H0 Dd acc F A H) (x : Ext A F H (A1 ++ B1) F1 H1) :
    LcI K A0 F0 H0 Dd acc F1 A1 H1 ∧ ∃ xs B, H1 Dd = some (.lst xs) ∧ F1 Dd = none ∧ Reps K F1 H1 acc xs B ∧ Dd ∉ B ∧ Ext A0 F0 H0 ((A1 ++ B1) ++ (Dd :: B)) F1 H1 ∧ (Dd :: B).Nodup ∧ ∀ a, a ∈ Dd :: B → a ∉ A1 ++ B1 := by
  obtain ⟨xs, B, hD, hF, ra, nD, ext, nd, ap⟩ := I.ex
  have ft : ∀ a, a ∈ Dd :: B → (∃ o, H a = some o) ∧ F a = none := fun a m => by
    rcases List.mem_cons.mp m with e | m
    · rw [e]; exact ⟨⟨_, hD⟩, hF⟩
    · exact ra.foot a m
  obtain ⟨k1, k2, k3⟩ := x.stays ft ap
  have ext1 := Ext.trans (B1 := Dd :: B) ext x (fun a m => List.mem_append_left _ m) (fun a m => List.mem_append_right _ m)
  have hD1 := k1 Dd _ List.mem_cons_self hD
  have hF1 := k2 Dd List.mem_cons_self
  have ra1 : Reps K F1 H1 acc xs B := ra.mono x.frz (fun a o m h => k1 a o (List.mem_cons_of_mem _ m) h) fun a m => k2 a (List.mem_cons_of_mem _ m)
  refine ⟨⟨xs, B, hD1, hF1, ra1, nD, ext1.le fun a m => ?_, nd, fun a m z => k3 a m (List.mem_append_left _ z)⟩, xs, B, hD1, hF1, ra1, nD, ext1, nd, k3⟩
  rcases List.mem_append.mp m with m | m
  · exact List.mem_append_left _ (List.mem_append_left _ m)
  · exact List.mem_append_right _ m
theorem LcI.turn {K : PySem.W.Frag} {A0 A A1 B1 : Fp} {F0 H0 F H F1 H1 : Hp} {Dd : Addr} {acc : List D} {d : D} {v : V} (I : LcI K A0 F0 H0 Dd acc F A H) (x : Ext A F H (A1 ++ B1) F1 H1) (nd1 : B1.Nodup) (ap1 : ∀ a, a ∈ B1 → a ∉ A1) (r : Rep K F1 H1 d v B1) :
    ∃ xs, H1 Dd = some (.lst xs) ∧ xs.length = acc.length ∧ LcI K A0 F0 H0 Dd (acc ++ [d]) F1 A1 (upd H1 Dd (.lst (xs ++ [v]))) ∧ ∀ ρ σ, SRel K F1 H1 ρ σ A1 → SRel K F1 (upd H1 Dd (.lst (xs ++ [v]))) ρ σ A1 := by
  obtain ⟨_, xs, B, hD1, hF1, ra1, nD, ext1, nd, ap⟩ := I.step x
  have nD1 : Dd ∉ B1 := fun z => ap Dd List.mem_cons_self (List.mem_append_right _ z)
  have nA1 : Dd ∉ A1 := fun z => ap Dd List.mem_cons_self (List.mem_append_left _ z)
  have keep : ∀ a o, a ≠ Dd → H1 a = some o → upd H1 Dd (.lst (xs ++ [v])) a = some o := fun a o ne h => by rw [upd_ne ne]; exact h
  have r2 : Rep K F1 (upd H1 Dd (.lst (xs ++ [v]))) d v B1 := r.mono (Le.refl _) (fun a o m h => keep a o (fun e => nD1 (by rw [← e]; exact m)) h) fun a m => (r.foot a m).2
  have ra2 : Reps K F1 (upd H1 Dd (.lst (xs ++ [v]))) acc xs B := ra1.mono (Le.refl _) (fun a o m h => keep a o (fun e => nD (by rw [← e]; exact m)) h) fun a m => (ra1.foot a m).2
  have own0 : Dd ∈ A0 ∨ H0 Dd = none := ext1.own Dd (List.mem_append_right _ List.mem_cons_self)
  refine ⟨xs, hD1, ra1.length.symm, ⟨xs ++ [v], B ++ B1, upd_same, hF1, ra2.snoc r2, fun z => ?_, ⟨ext1.frz, fun a o h hm => ?_, fun a m => ?_, ext1.newf⟩, ?_, fun a m z => ?_⟩, fun ρ σ rel => ⟨fun a o h => ?_, rel.env.mono (Le.refl _) (fun a o m h => keep a o (fun e => nA1 (by rw [← e]; exact m)) h) fun a m => (rel.env.foot a m).2, rel.nd⟩⟩
  · rcases List.mem_append.mp z with z | z
    · exact nD z
    · exact nD1 z
  · refine keep a o (fun e => ?_) (ext1.keep a o h hm)
    subst e
    rcases own0 with z | z
    · exact hm z
    · rw [h] at z; cases z
  · refine ext1.own a ?_
    rcases List.mem_append.mp m with m | m
    · exact List.mem_append_left _ (List.mem_append_left _ m)
    · rcases List.mem_cons.mp m with e | m
      · rw [e]; exact List.mem_append_right _ List.mem_cons_self
      · rcases List.mem_append.mp m with m | m
        · exact List.mem_append_right _ (List.mem_cons_of_mem _ m)
        · exact List.mem_append_left _ (List.mem_append_right _ m)
  · have n1 := List.nodup_cons.mp nd
    refine List.nodup_cons.mpr ⟨fun z => ?_, List.nodup_append.mpr ⟨n1.2, nd1, fun a ha b hb e => ap a (List.mem_cons_of_mem _ ha) (List.mem_append_right _ (by rw [e]; exact hb))⟩⟩
    rcases List.mem_append.mp z with z | z
    · exact nD z
    · exact nD1 z
  · rcases List.mem_cons.mp m with e | m
    · rw [e] at z; exact nA1 z
    · rcases List.mem_append.mp m with m | m
      · exact ap a (List.mem_cons_of_mem _ m) (List.mem_append_left _ z)
      · exact ap1 a m z
  · refine keep a o (fun e => ?_) (rel.le a o h)
    rw [e, hF1] at h; cases h
theorem Ext.loud {K : PySem.W.Frag} {σ : Sl} {ρ ρ1 : DEnv} {A A1 B : Fp} {F H F1 H1 : Hp} (x : Aft K m σ ρ A F H ρ1 A1 F1 H1 B) : Ext A F H (A1 ++ B) F1 H1 := (x.weak (m2 := false) fun e => by cases e).ext
theorem wipe_wipe {σ σ' : Sl} {sl vs : List Nat} (hs : ∀ i, i ∈ sl → i ∈ vs) (h : σ'.length = (wipe σ vs).length ∧ ∀ i, i ∉ sl → σ'[i]? = (wipe σ vs)[i]?) : wipe σ' vs = wipe σ vs :=
  wipe_eq (by rw [h.1, wipe_length]) fun i hi => by rw [h.2 i fun z => hi (hs i z), wipe_at σ vs i hi]
theorem drop_cons {α : Type} {ds : List α} {i : Nat} {d : α} (h : ds[i]? = some d) : ds.drop i = d :: ds.drop (i + 1) := by
  obtain ⟨hi, e⟩ := List.getElem?_eq_some_iff.mp h
  rw [List.drop_eq_getElem_cons hi, e]
/-- one turn of a comprehension's inner part: the test, the element -/
theorem lc_turn {sl vs : List Nat} {cb : SC} {wg : WG} {wt : WT} {we : WE} {g : TG} {tt : TT} {te : TE} (hsl : ∀ i, i ∈ sl → i ∈ vs)
    (hg : ∀ d ρ k, wg d ρ k → ∀ σ F H A v, SRel cb.K F H ρ σ A → Rep cb.K F H d v [] → ∀ Q : Sl → Hp → Prop, (∀ ρ' σ' A', k ρ' → SRel cb.K F H ρ' σ' A' → (∀ a, a ∈ A' → a ∈ A) → (σ'.length = σ.length ∧ ∀ i, i ∉ sl → σ'[i]? = σ[i]?) → Q σ' H) → g v σ H Q)
    (ht : SndT cb false (fun _ _ _ _ => False) tt wt) (he : SndE cb m (fun _ _ _ _ => False) te we)
    {k : List D → DEnv → Prop} {σ : Sl} {d : D} {ds : List D} {ρ : DEnv} {acc : List D} {A0 A : Fp} {F0 H0 F H : Hp} {Dd : Addr} {v : V} (go : lcGo vs wg wt we k (d :: ds) ρ acc) (rel : SRel cb.K F H ρ (wipe σ vs) A) (rd : Rep cb.K F H d v []) (I : LcI cb.K A0 F0 H0 Dd acc F A H)
    (Nx : Hp → Prop) (hN : ∀ ρ' acc' F' A' H', lcGo vs wg wt we k ds ρ' acc' → (∀ (i : Nat) (d : D), ρ'[i]? = some (some d) → i ∉ vs) → SRel cb.K F' H' ρ' (wipe σ vs) A' → LcI cb.K A0 F0 H0 Dd acc' F' A' H' → Le F F' → Nx H') :
    g v (wipe σ vs) H fun σ2 H2 => wipe σ2 vs = wipe σ vs ∧ tt σ2 H2 fun b H3 =>
      if b = true then te σ2 H3 fun y H4 => ∃ acc, H4 Dd = some (.lst acc) ∧ acc.length < sizeLine ∧ Nx (upd H4 Dd (.lst (acc ++ [y]))) else Nx H3 := by
  refine hg d ρ _ go (wipe σ vs) F H A v rel rd _ fun ρ1 σ1 A1 hk rel1 sub1 ag1 => ?_
  have ew := wipe_wipe hsl ag1
  refine ⟨ew, ht ρ1 _ noPsi hk σ1 F H A1 rel1 _ (fun b ρ2 F2 H2 A2 hk2 af2 => ?_) excOk_no⟩
  have I1 := I.less sub1
  have I2 := (I1.step (B1 := []) (Ext.loud af2)).1
  have wipe_to : ∀ {ρ' : DEnv} {A' : Fp} {F' H' : Hp}, SRel cb.K F' H' ρ' σ1 A' → ∃ A'', SRel cb.K F' H' (wipeD ρ' vs) (wipe σ vs) A'' ∧ ∀ a, a ∈ A'' → a ∈ A' := fun r => by
    obtain ⟨A'', r1, _, s⟩ := r.wipe vs
    rw [ew] at r1
    exact ⟨A'', r1, s⟩
  cases b with
  | false =>
    rw [if_neg Bool.false_ne_true] at hk2 ⊢
    obtain ⟨A3, r3, s3⟩ := wipe_to af2.rel
    exact hN _ _ F2 A3 H2 hk2 (wipeD_none _ vs) r3 (I2.less s3) af2.ext.frz
  | true =>
    rw [if_pos rfl] at hk2 ⊢
    refine he ρ2 _ noPsi hk2 σ1 F2 H2 A2 af2.rel _ (fun t v B ρ3 F3 H3 A3 hk3 r3 af3 => ?_) excOk_no
    obtain ⟨hz, hk3⟩ := hk3
    obtain ⟨⟨y, ρ4⟩, e, hk4⟩ := wd_elim hk3
    obtain ⟨F4, A4, B4, af4, r4⟩ := elem_ok af3 r3 e
    obtain ⟨xs, hD, hl, I4, up⟩ := I2.turn (Ext.loud af4) af4.nd af4.ap r4
    refine ⟨xs, hD, by rw [hl]; exact hz, ?_⟩
    obtain ⟨A5, r5, s5⟩ := wipe_to (up ρ4 σ1 af4.rel)
    exact hN _ _ F4 A5 _ hk4 (wipeD_none _ vs) r5 (I4.less s5) (af2.ext.frz.trans af4.ext.frz)
abbrev noW : WX := fun _ _ _ _ => False
/-- what a walk's beginning is worth -/
def SndI (c : SC) (W : WX) (ti : TI) (wi : WI) : Prop := ∀ ρ Φ Ψ, wi ρ Φ Ψ → ∀ σ F H A, SRel c.K F H ρ σ A → ∀ R : It → Hp → Prop,
    (∀ ds ρ' F' H' A' J, Φ ds ρ' → Aft c.K false σ ρ A F H ρ' A' F' H' [] → WalkD c.K F' J ds → R J H') → ExcOk c.K c.mg W Ψ σ A F H → ti σ H R
/-- what a target is worth -/
def SndG (c : SC) (sl : List Nat) (g : TG) (w : WG) : Prop := ∀ d ρ k, w d ρ k → ∀ σ F H A v, SRel c.K F H ρ σ A → Rep c.K F H d v [] → ∀ Q : Sl → Hp → Prop,
    (∀ ρ' σ' A', k ρ' → SRel c.K F H ρ' σ' A' → (∀ a, a ∈ A' → a ∈ A) → (σ'.length = σ.length ∧ ∀ i, i ∉ sl → σ'[i]? = σ[i]?) → Q σ' H) → g v σ H Q
theorem snd_lc {scope : Scope} {vs sl : List Nat} {wi : WI} {wg : WG} {wt : WT} {we : WE} {ti : TI} {g : TG} {tt : TT} {te : TE} (hi2 : SndI c W ti wi) (hg2 : SndG (c.blk scope) sl g wg) (hsl : ∀ i, i ∈ sl → i ∈ vs)
    (ht2 : SndT (c.blk scope) false noW tt wt) (he2 : SndE (c.blk scope) m noW te we) : SndE c false W (tLc ti g tt te vs) (wLc vs wi wg wt we) := by
  intro ρ Φ Ψ hw σ F H A rel Q q ex
  refine hi2 ρ _ Ψ hw σ F H A rel _ (fun ds ρ1 F1 H1 A1 J hk af wk => ?_) ex
  intro Dd hD
  obtain ⟨G, Y, w, hG, hY⟩ := wk
  have hF1 : F1 Dd = none := by
    cases e : F1 Dd with
    | none => rfl
    | some o => rw [af.rel.le _ _ e] at hD; cases hD
  obtain ⟨A2, r2, r2', s2⟩ := af.rel.wipe vs
  have ext0 : Ext A1 F1 H1 (A2 ++ [Dd]) F1 (upd H1 Dd (.lst [])) := ⟨Le.refl _, fun a o h _ => by rw [upd_ne (ne_of_none h hD)]; exact h, fun a m => by
    rcases List.mem_append.mp m with m | m
    · exact .inl (s2 a m)
    · rw [List.mem_singleton.mp m]; exact .inr hD, fun a o h => .inl h⟩
  have nA : Dd ∉ A2 := fun z => by
    obtain ⟨⟨o, ho⟩, _⟩ := r2.env.foot Dd z
    rw [hD] at ho; cases ho
  have I0 : LcI c.K A1 F1 H1 Dd [] F1 A2 (upd H1 Dd (.lst [])) := ⟨[], [], upd_same, hF1, .nil, List.not_mem_nil, ext0, by simp, fun a m => by rw [List.mem_singleton.mp m]; exact nA⟩
  have r20 : SRel c.K F1 (upd H1 Dd (.lst [])) (wipeD ρ1 vs) (wipe σ vs) A2 := r2.keeps ⟨Le.refl _, fun a o h _ => by rw [upd_ne (ne_of_none h hD)]; exact h, fun a m => (List.not_mem_nil m).elim, fun a o h => .inl h⟩ (r2.le.new hD)
  refine lc_it w (fun i H => ∃ ρ' acc F' A', lcGo vs wg wt we (fun ys ρ2 => Φ (.val (.lst true ys)) ρ2) (ds.drop i) ρ' acc ∧ (∀ (i : Nat) (d : D), ρ'[i]? = some (some d) → i ∉ vs) ∧ SRel c.K F' H ρ' (wipe σ vs) A' ∧ LcI c.K A1 F1 H1 Dd acc F' A' H ∧ Le F1 F')
    ⟨_, [], F1, A2, by simpa using hk, wipeD_none _ _, r20, I0, Le.refl _⟩ (fun i H _ ⟨_, _, F', _, _, _, rel', _, l⟩ => hG H (l.trans rel'.le)) (fun i x H H' hi ⟨ρ', acc, F', A', go, nv, rel', I, l⟩ y => ?_) (fun H ⟨ρ', acc, F', A', go, nv, rel', I, l⟩ => ?_)
  · have hd : ds[i]? = some ds[i] := List.getElem?_eq_getElem hi
    obtain ⟨F2, rd, e2, l2⟩ := hY F' H i x H' ds[i] l rel'.le hd y
    rw [drop_cons hd] at go
    have rel2 : SRel c.K F2 H' ρ' (wipe σ vs) A' := rel'.keeps e2 l2
    have I2 := (I.step (A1 := A') (B1 := []) ((e2.wider fun _ m => (List.not_mem_nil m).elim).le (N2 := []) (fun _ m => (List.not_mem_nil m).elim) |> fun z => ⟨z.frz, z.keep, fun a m => .inl (by simpa using m), z.newf⟩)).1
    exact lc_turn (cb := c.blk scope) hsl hg2 ht2 he2 go rel2 rd I2 _ fun ρ3 acc3 F3 A3 H3 go3 nv3 rel3 I3 l3 => ⟨ρ3, acc3, F3, A3, go3, nv3, rel3, I3, l.trans (e2.frz.trans l3)⟩
  · rw [List.drop_length] at go
    obtain ⟨xs, B, hD2, hF2, ra, nD, ext2, nd2, ap2⟩ := I.ex
    have go' : Φ (.val (.lst true acc)) ρ' := go
    have relS : SRel c.K F' H ρ' σ A' := rel'.unwipe (ρ0 := ρ') nv
    refine q _ _ (Dd :: B) ρ' F' H A' go' (.val (.lstO hD2 hF2 ra rfl)) ⟨relS, ?_, (fun e => by cases e), nd2, ap2⟩
    have z := Ext.trans (B1 := []) af.ext ext2 (fun a m => by simpa [E] using m) (fun a m => (List.not_mem_nil m).elim)
    simpa [E] using z
theorem de_lc {elt tg iter : Expr} {ifs : List Expr} {scope : Scope} {own : List (Str × Nat)} {pos : Pos} {wi : WI} {wg : WG} {wt : WT} {we : WE} {sl : List Nat} (hNd : c.N.Nodup) (ok : BlkOk c.N c.sc scope own) (hi : DI c tg iter wi)
    (hg : DG (c.blk scope) sl tg wg) (hsl : ∀ i, i ∈ sl → i ∈ own.map (·.2)) (ht : DTs (c.blk scope) ifs wt) (he : DE (c.blk scope) m elt we) (hs : ∀ env x, foldedSetIterable iter env x = pure x := by intro _ _; rfl) :
    DE c false (.ListComp elt [⟨tg, iter, ifs, 0⟩] scope pos) (wLc (own.map (·.2)) wi wg wt we) := by
  obtain ⟨ti, hi1, hi2⟩ := hi
  obtain ⟨g, hg1, hg2⟩ := hg
  obtain ⟨tt, ht1, ht2⟩ := ht
  obtain ⟨te, he1, he2⟩ := he
  refine ⟨fun W => tLc (ti W) g (tt noW) (te noW) (own.map (·.2)), fun X W fit tk => ?_, fun W => snd_lc (hi2 W) hg2 hsl (ht2 _) (he2 _)⟩
  exact pe_lc fit.calm (by rw [fit.N]; exact hNd) (hi1 X W fit tk) (by rw [fit.N, fit.sc]; exact ok) (fun s H C cl fp => hg1 _ (fit.blk s H scope C cl fp)) (fun s H C cl fp => ht1 _ _ (fit.blk s H scope C cl fp) takes_blk)
      (fun s H C cl fp => he1 _ _ (fit.blk s H scope C cl fp) takes_blk) (hs X.env)
end
end DL

set_option maxHeartbeats 200000
/-! DLA: statements, calls, defs -/
namespace DL
open PySem PySem.Spec PyProof.Rows L2

/-- what is wished behind a statement -/
structure DEnds where
  nx : DEnv → Prop
  rt : D → DEnv → Prop
  bk : DEnv → Prop := fun _ => False
  ct : DEnv → Prop := fun _ => False
abbrev WS := DEnds → PsiE → DEnv → Prop
/-- slots but ws are as they were -/
def Ag (ws : List Nat) (σ σ' : Sl) : Prop := σ'.length = σ.length ∧ ∀ i, i ∉ ws → σ'[i]? = σ[i]?
theorem Ag.refl {ws : List Nat} {σ : Sl} : Ag ws σ σ := ⟨rfl, fun _ _ => rfl⟩
theorem Ag.trans {w1 w2 : List Nat} {σ σ1 σ2 : Sl} (h1 : Ag w1 σ σ1) (h2 : Ag w2 σ1 σ2) : Ag (w1 ++ w2) σ σ2 :=
  ⟨h2.1.trans h1.1, fun i hi => (h2.2 i fun z => hi (List.mem_append_right _ z)).trans (h1.2 i fun z => hi (List.mem_append_left _ z))⟩
theorem Ag.mono {w1 w2 : List Nat} {σ σ1 : Sl} (h1 : Ag w1 σ σ1) (h : ∀ i, i ∈ w1 → i ∈ w2) : Ag w2 σ σ1 := ⟨h1.1, fun i hi => h1.2 i fun z => hi (h i z)⟩
theorem Ag.two {w : List Nat} {σ σ1 σ2 : Sl} (h1 : Ag w σ σ1) (h2 : Ag w σ1 σ2) : Ag w σ σ2 := (h1.trans h2).mono fun i h => by simpa using h
theorem Ag.set {i : Nat} {v : Option V} {σ : Sl} : Ag [i] σ (σ.set i v) := ⟨List.length_set, fun j hj => List.getElem?_set_ne fun e => hj (by simp [e])⟩
def ExcOkS (K : PySem.W.Frag) (mg : Str → Option Value) (W : WX) (Ψ : PsiE) (ws : List Nat) (σ : Sl) (A : Fp) (F H : Hp) : Prop :=
  ∀ x cls d ρ' σ' F' H' A', Ψ x ρ' → ExcRep K mg F' H' x cls d → SRel K F' H' ρ' σ' A' → Ext A F H A' F' H' → Ag ws σ σ' → W cls d σ' H'
structure EndsOk (K : PySem.W.Frag) (ws : List Nat) (D : DEnds) (Dq : Ends) (σ : Sl) (A : Fp) (F H : Hp) : Prop where
  nx : ∀ ρ' σ' F' H' A', D.nx ρ' → SRel K F' H' ρ' σ' A' → Ext A F H A' F' H' → Ag ws σ σ' → Dq.nx σ' H'
  bk : ∀ ρ' σ' F' H' A', D.bk ρ' → SRel K F' H' ρ' σ' A' → Ext A F H A' F' H' → Ag ws σ σ' → Dq.bk σ' H'
  ct : ∀ ρ' σ' F' H' A', D.ct ρ' → SRel K F' H' ρ' σ' A' → Ext A F H A' F' H' → Ag ws σ σ' → Dq.ct σ' H'
  rt : ∀ d v B ρ' σ' F' H' A', D.rt d ρ' → Rep K F' H' d v B → SRel K F' H' ρ' σ' A' → B.Nodup → (∀ a, a ∈ B → a ∉ A') → Ext A F H (A' ++ B) F' H' → Ag ws σ σ' → Dq.rt v H'
theorem Ext.seq0 {A A1 N : Fp} {F H F1 H1 F2 H2 : Hp} (x : Ext A F H A1 F1 H1) (y : Ext A1 F1 H1 N F2 H2) : Ext A F H N F2 H2 := by
  have z := Ext.trans (B1 := []) x y (fun _ h => h) (fun a h => (List.not_mem_nil h).elim)
  rwa [List.append_nil] at z
theorem Ext.drop {A N B : Fp} {F H F1 H1 : Hp} (x : Ext A F H (N ++ B) F1 H1) : Ext A F H N F1 H1 := x.le fun _ h => List.mem_append_left _ h
section
variable {K : PySem.W.Frag} {mg : Str → Option Value} {W : WX} {Ψ : PsiE} {ws w1 w2 : List Nat} {σ σ1 : Sl} {A A1 : Fp} {F H F1 H1 : Hp} {Dd : DEnds} {Dq : Ends}
theorem ExcOkS.expr (h : ExcOkS K mg W Ψ ws σ A F H) : ExcOk K mg W Ψ σ A F H := fun x cls d ρ' F' H' A' a b c e => h x cls d ρ' σ F' H' A' a b c e Ag.refl
theorem ExcOkS.next (h : ExcOkS K mg W Ψ (w1 ++ w2) σ A F H) (e : Ext A F H A1 F1 H1) (ag : Ag w1 σ σ1) : ExcOkS K mg W Ψ w2 σ1 A1 F1 H1 := fun x cls d ρ' σ' F' H' A' a b c e' g => h x cls d ρ' σ' F' H' A' a b c (e.seq0 e') (ag.trans g)
theorem ExcOkS.same (h : ExcOkS K mg W Ψ ws σ A F H) (e : Ext A F H A1 F1 H1) (ag : Ag ws σ σ1) : ExcOkS K mg W Ψ ws σ1 A1 F1 H1 := fun x cls d ρ' σ' F' H' A' a b c e' g => h x cls d ρ' σ' F' H' A' a b c (e.seq0 e') (ag.two g)
theorem ExcOkS.less (h : ExcOkS K mg W Ψ w2 σ A F H) (hs : ∀ i, i ∈ w1 → i ∈ w2) : ExcOkS K mg W Ψ w1 σ A F H := fun x cls d ρ' σ' F' H' A' a b c e' g => h x cls d ρ' σ' F' H' A' a b c e' (g.mono hs)
theorem EndsOk.same (h : EndsOk K ws Dd Dq σ A F H) (e : Ext A F H A1 F1 H1) (ag : Ag ws σ σ1) : EndsOk K ws Dd Dq σ1 A1 F1 H1 :=
  ⟨fun ρ' σ' F' H' A' a b c g => h.nx ρ' σ' F' H' A' a b (e.seq0 c) (ag.two g), fun ρ' σ' F' H' A' a b c g => h.bk ρ' σ' F' H' A' a b (e.seq0 c) (ag.two g), fun ρ' σ' F' H' A' a b c g => h.ct ρ' σ' F' H' A' a b (e.seq0 c) (ag.two g),
    fun d v B ρ' σ' F' H' A' a b c n p x g => h.rt d v B ρ' σ' F' H' A' a b c n p (e.seq0 x) (ag.two g)⟩
theorem EndsOk.less (h : EndsOk K w2 Dd Dq σ A F H) (hs : ∀ i, i ∈ w1 → i ∈ w2) : EndsOk K w1 Dd Dq σ A F H :=
  ⟨fun ρ' σ' F' H' A' a b c g => h.nx ρ' σ' F' H' A' a b c (g.mono hs), fun ρ' σ' F' H' A' a b c g => h.bk ρ' σ' F' H' A' a b c (g.mono hs), fun ρ' σ' F' H' A' a b c g => h.ct ρ' σ' F' H' A' a b c (g.mono hs),
    fun d v B ρ' σ' F' H' A' a b c n p x g => h.rt d v B ρ' σ' F' H' A' a b c n p x (g.mono hs)⟩
end
structure FitsS (c : SC) (X : Cx) : Prop where
  fit : Fits c X
  own : PassesOwn (model X.prog X.w) X.A X.env X.xe
  stk : X.stack = X.env :: X.outer
  frm : X.env.frame = some X.env.locals
def SndS (c : SC) (ws : List Nat) (W : WX) (t : TS) (w : WS) : Prop :=
  ∀ Dd Ψ ρ, w Dd Ψ ρ → ∀ σ F H A, SRel c.K F H ρ σ A → ∀ Dq : Ends, EndsOk c.K ws Dd Dq σ A F H → ExcOkS c.K c.mg W Ψ ws σ A F H → t Dq σ H
def DS (c : SC) (ws : List Nat) (st : Stmt) (w : WS) : Prop := ∃ t : WX → TS, (∀ X W, FitsS c X → Takes X W → PS X st (t W)) ∧ ∀ W, SndS c ws W (t W) w
def DSs (c : SC) (ws : List Nat) (sts : List Stmt) (w : WS) : Prop := ∃ t : WX → TS, (∀ X W, FitsS c X → Takes X W → PSs X sts (t W)) ∧ ∀ W, SndS c ws W (t W) w
section
variable {c : SC} {m m2 : Bool} {ws w1 w2 w3 : List Nat} {st : Stmt} {rest : List Stmt} {pos : Pos}
def wNext : WS := fun D _ ρ => D.nx ρ
def wsSeq (w u : WS) : WS := fun D Ψ ρ => w { D with nx := u D Ψ } Ψ ρ
theorem snd_next {W : WX} : SndS c [] W tNext wNext := fun Dd Ψ ρ hw σ F H A rel Dq q _ => q.nx ρ σ F H A hw rel (Ext.refl fun _ h => .inl h) Ag.refl
theorem dss_nil : DSs c [] [] wNext := ⟨fun _ => tNext, fun _ _ _ _ => pss_nil, fun W => snd_next⟩
theorem dss_one {w : WS} (h : DS c ws st w) : DSs c ws [st] w := h.imp fun t ⟨h1, h2⟩ => ⟨fun X W fit tk => pss_one (h1 X W fit tk), h2⟩
theorem dss_cons {w u : WS} (h1 : DS c w1 st w) (h2 : DSs c w2 rest u) : DSs c (w1 ++ w2) (st :: rest) (wsSeq w u) := by
  obtain ⟨t, a1, b1⟩ := h1
  obtain ⟨t2, a2, b2⟩ := h2
  refine ⟨fun W => tSeq (t W) (t2 W), fun X W fit tk => pss_cons (a1 X W fit tk) (a2 X W fit tk), fun W Dd Ψ ρ hw σ F H A rel Dq q ex => ?_⟩
  have q1 := q.less (w1 := w1) fun i h => List.mem_append_left _ h
  refine b1 W _ Ψ ρ hw σ F H A rel _ ⟨fun ρ' σ' F' H' A' hk rel' e ag => ?_, q1.bk, q1.ct, q1.rt⟩ (ex.less fun i h => List.mem_append_left _ h)
  have q2 := (q.same e (ag.mono fun i h => List.mem_append_left _ h)).less (w1 := w2) fun i h => List.mem_append_right _ h
  exact b2 W Dd Ψ ρ' hk σ' F' H' A' rel' Dq q2 (ex.next e ag)
theorem ds_pass : DS c [] (.Pass pos) wNext := ⟨fun _ => tNext, fun _ _ _ _ => ps_pass, fun W => snd_next⟩
def wBreak : WS := fun D _ ρ => D.bk ρ
def wCont : WS := fun D _ ρ => D.ct ρ
theorem ds_break : DS c [] (.Break pos) wBreak := ⟨fun _ => tBreak, fun _ _ _ _ => ps_break, fun W Dd Ψ ρ hw σ F H A rel Dq q _ => q.bk ρ σ F H A hw rel (Ext.refl fun _ h => .inl h) Ag.refl⟩
theorem ds_continue : DS c [] (.Continue pos) wCont := ⟨fun _ => tCont, fun _ _ _ _ => ps_continue, fun W Dd Ψ ρ hw σ F H A rel Dq q _ => q.ct ρ σ F H A hw rel (Ext.refl fun _ h => .inl h) Ag.refl⟩
/-- a thing is taken out of a slot -/
def moveT : T → DEnv → Option (D × DEnv)
  | .val d, ρ => some (d, ρ)
  | .slot i, ρ => (lk ρ i).map fun d => (d, ρ.set i none)
  | .sub _ _, _ => none
theorem move_ok {K : PySem.W.Frag} {σ : Sl} {ρ ρ1 ρ2 : DEnv} {A A1 B : Fp} {F H F1 H1 : Hp} {t : T} {d : D} {v : V} (x : Aft K m σ ρ A F H ρ1 A1 F1 H1 B) (r : RepT K F1 H1 σ t v B) (h : moveT t ρ1 = some (d, ρ2)) :
    ∃ A2 B2, Aft K false σ ρ A F H ρ2 A2 F1 H1 B2 ∧ Rep K F1 H1 d v B2 := by
  have x' := x.weak (m2 := false) fun e => by cases e
  cases r with
  | val r =>
    cases h
    exact ⟨A1, B, x', r⟩
  | @slot i v hσ =>
    have h' : (lk ρ1 i).map (fun d => (d, ρ1.set i none)) = some (d, ρ2) := h
    cases hd : lk ρ1 i with
    | none => rw [hd] at h'; cases h'
    | some d0 =>
      rw [hd] at h'
      cases h'
      obtain ⟨v', P, C, S, h1, h2, h3, h4, h5⟩ := x.rel.env.focus (lk_some.mp hd)
      rw [hσ] at h1
      cases h1
      have ndA := x.rel.nd
      rw [h2] at ndA
      have n1 := List.nodup_append.mp ndA
      have n2 := List.nodup_append.mp n1.2.1
      refine ⟨P ++ S, C, ⟨⟨x.rel.le, h5, ndA.sublist (List.Sublist.append_left (List.sublist_append_right C S) P)⟩, x'.ext.le fun a m => ?_, (fun e => by cases e), n2.1, fun a m z => ?_⟩, h3⟩
      · refine List.mem_append_left _ ?_
        show a ∈ A1
        rw [h2]
        rcases List.mem_append.mp m with m | m
        · rcases List.mem_append.mp (show a ∈ P ++ S from m) with m | m
          · exact List.mem_append_left _ m
          · exact List.mem_append_right _ (List.mem_append_right _ m)
        · exact List.mem_append_right _ (List.mem_append_left _ m)
      · rcases List.mem_append.mp z with z | z
        · exact n1.2.2 a z a (List.mem_append_left _ m) rfl
        · exact n2.2.2 a m a z rfl
  | sub r p => cases h
/-- name = e, the thing moved or frozen -/
def wAsg (i : Nat) (wa : WE) : WS := fun D Ψ ρ => wa ρ (fun t ρ1 => wd (moveT t ρ1) fun q => i < q.2.length ∧ D.nx (q.2.set i (some q.1))) Ψ
def wAsgF (i : Nat) (wa : WE) : WS := fun D Ψ ρ => wa ρ (fun t ρ1 => wd (frzT t ρ1) fun q => i < q.2.length ∧ D.nx (q.2.set i (some q.1))) Ψ
theorem snd_asg {i : Nat} {W : WX} {te : TE} {wa : WE} (ha : SndE c m W te wa) : SndS c [i] W (tAsg te (gName i)) (wAsg i wa) := by
  intro Dd Ψ ρ hw σ F H A rel Dq q ex
  refine ha ρ _ Ψ hw σ F H A rel _ (fun t v B ρ1 F1 H1 A1 hk ra af => ?_) ex.expr
  obtain ⟨⟨d, ρ2⟩, e, hl, hk⟩ := wd_elim hk
  obtain ⟨A2, B2, af2, r2⟩ := move_ok af ra e
  obtain ⟨A3, rel3, s3⟩ := af2.rel.store hl r2 af2.nd af2.ap
  exact q.nx _ _ F1 H1 A3 hk rel3 ((Ext.loud af2).le fun a m => (s3 a m).elim (List.mem_append_left _) (List.mem_append_right _)) Ag.set
theorem snd_asgF {i : Nat} {W : WX} {te : TE} {wa : WE} (ha : SndE c m W te wa) : SndS c [i] W (tAsg te (gName i)) (wAsgF i wa) := by
  intro Dd Ψ ρ hw σ F H A rel Dq q ex
  refine ha ρ _ Ψ hw σ F H A rel _ (fun t v B ρ1 F1 H1 A1 hk ra af => ?_) ex.expr
  obtain ⟨⟨d, ρ2⟩, e, hl, hk⟩ := wd_elim hk
  obtain ⟨F2, A2, af2, r2⟩ := af.frz1 ra e
  obtain ⟨A3, rel3, s3⟩ := af2.rel.store hl r2 List.nodup_nil fun _ m => (List.not_mem_nil m).elim
  exact q.nx _ _ F2 H1 A3 hk rel3 ((Ext.loud af2).le fun a m => (s3 a m).elim (List.mem_append_left _) (List.mem_append_right _)) Ag.set
def LocC (c : SC) (x : Str) : Prop := c.sc.names.lookup x = some .local ∨ c.sc.names.lookup x = some .cell
def HfC (c : SC) (x : Str) : Prop := c.fn x = true ∨ c.sc.names.lookup x = some .local
theorem ps_set_of {X : Cx} {i : Nat} {x : Str} {e : Expr} {te : TE} {pos' : Pos} (fit : Fits c X) (hNd : c.N.Nodup) (hi : c.N[i]? = some x) (hx : LocC c x) (hf : HfC c x) (he : PE X e te) (hs : swapsWith e (some (.Name x pos')) pos.line X.env = pure false) : PS X (.Assign [.Name x pos'] e pos) (tAsg te (gName i)) :=
  ps_set (by rw [fit.N]; exact hNd) (by rw [fit.N]; exact hi) (by unfold L2.Loc; rw [fit.sc]; exact hx) he hs (by rw [fit.fn, fit.sc]; exact hf)
theorem ds_asg (i : Nat) {x : Str} {e : Expr} {wa : WE} {pos' : Pos} (hNd : c.N.Nodup) (ha : DE c m e wa) (hi : c.N[i]? = some x := by rfl) (hx : LocC c x := by first | exact Or.inl rfl | exact Or.inr rfl) (hf : HfC c x := by first | exact Or.inl rfl | exact Or.inr rfl)
    (hs : ∀ env, swapsWith e (some (.Name x pos')) pos.line env = pure false := by intro _; rfl) : DS c [i] (.Assign [.Name x pos'] e pos) (wAsg i wa) := by
  obtain ⟨t, h1, h2⟩ := ha
  exact ⟨fun W => tAsg (t W) (gName i), fun X W fit tk => ps_set_of fit.fit hNd hi hx hf (h1 X W fit.fit tk) (hs X.env), fun W => snd_asg (h2 W)⟩
theorem ds_asgF (i : Nat) {x : Str} {e : Expr} {wa : WE} {pos' : Pos} (hNd : c.N.Nodup) (ha : DE c m e wa) (hi : c.N[i]? = some x := by rfl) (hx : LocC c x := by first | exact Or.inl rfl | exact Or.inr rfl) (hf : HfC c x := by first | exact Or.inl rfl | exact Or.inr rfl)
    (hs : ∀ env, swapsWith e (some (.Name x pos')) pos.line env = pure false := by intro _; rfl) : DS c [i] (.Assign [.Name x pos'] e pos) (wAsgF i wa) := by
  obtain ⟨t, h1, h2⟩ := ha
  exact ⟨fun W => tAsg (t W) (gName i), fun X W fit tk => ps_set_of fit.fit hNd hi hx hf (h1 X W fit.fit tk) (hs X.env), fun W => snd_asgF (h2 W)⟩
/-- return e -/
def wRet (wa : WE) : WS := fun D Ψ ρ => wa ρ (fun t ρ1 => wd (moveT t ρ1) fun q => D.rt q.1 q.2) Ψ
theorem ds_ret {e : Expr} {wa : WE} (ha : DE c m e wa) : DS c [] (.Return (some e) pos) (wRet wa) := by
  obtain ⟨t, h1, h2⟩ := ha
  refine ⟨fun W => tRet (t W), fun X W fit tk => ps_ret (h1 X W fit.fit tk), fun W Dd Ψ ρ hw σ F H A rel Dq q ex => ?_⟩
  refine h2 W ρ _ Ψ hw σ F H A rel _ (fun t v B ρ1 F1 H1 A1 hk ra af => ?_) ex.expr
  obtain ⟨⟨d, ρ2⟩, e, hk⟩ := wd_elim hk
  obtain ⟨A2, B2, af2, r2⟩ := move_ok af ra e
  exact q.rt d v B2 ρ2 σ F1 H1 A2 hk r2 af2.rel af2.nd af2.ap (Ext.loud af2) Ag.refl
def wRetN : WS := fun D _ ρ => D.rt .non ρ
theorem ds_retN : DS c [] (.Return none pos) wRetN := ⟨fun _ => tRetN, fun X W fit tk => ps_retN, fun W Dd Ψ ρ hw σ F H A rel Dq q ex => q.rt .non .non [] ρ σ F H A hw .non rel List.nodup_nil (fun _ m => (List.not_mem_nil m).elim) (Ext.refl fun a h => .inl (by simpa using h)) Ag.refl⟩
/-- e -/
def wDrop (wa : WE) : WS := fun D Ψ ρ => wa ρ (fun _ ρ1 => D.nx ρ1) Ψ
theorem ds_expr {e : Expr} {wa : WE} (ha : DE c m e wa) (hs : ∀ env, swapsWith e none pos.line env = pure false := by intro _; rfl) : DS c [] (.Expr e pos) (wDrop wa) := by
  obtain ⟨t, h1, h2⟩ := ha
  refine ⟨fun W => tDrop (t W), fun X W fit tk => ps_expr (h1 X W fit.fit tk) (hs X.env), fun W Dd Ψ ρ hw σ F H A rel Dq q ex => ?_⟩
  exact h2 W ρ _ Ψ hw σ F H A rel _ (fun t v B ρ1 F1 H1 A1 hk ra af => q.nx ρ1 σ F1 H1 A1 hk af.rel (Ext.loud af).drop Ag.refl) ex.expr
/-- if -/
def wsIf (wt : WT) (w u : WS) : WS := fun D Ψ ρ => wt ρ (fun b ρ1 => if b = true then w D Ψ ρ1 else u D Ψ ρ1) Ψ
theorem ds_ifS {t : Expr} {a b : List Stmt} {wt : WT} {w u : WS} (ht : DT c m t wt) (ha : DSs c w1 a w) (hb : DSs c w2 b u) : DS c (w1 ++ w2) (.If t a b pos) (wsIf wt w u) := by
  obtain ⟨tt, t1, t2⟩ := ht
  obtain ⟨ta, a1, a2⟩ := ha
  obtain ⟨tb, b1, b2⟩ := hb
  refine ⟨fun W => tIfS (tt W) (ta W) (tb W), fun X W fit tk => ps_if (t1 X W fit.fit tk) (a1 X W fit tk) (b1 X W fit tk), fun W Dd Ψ ρ hw σ F H A rel Dq q ex => ?_⟩
  refine t2 W ρ _ Ψ hw σ F H A rel _ (fun k ρ1 F1 H1 A1 hk af => ?_) ex.expr
  have e1 : Ext A F H A1 F1 H1 := (Ext.loud af).drop
  have q1 := q.same e1 Ag.refl
  have x1 := ex.same e1 Ag.refl
  cases k with
  | true =>
    rw [if_pos rfl] at hk ⊢
    exact a2 W Dd Ψ ρ1 hk σ F1 H1 A1 af.rel Dq (q1.less fun i h => List.mem_append_left _ h) (x1.less fun i h => List.mem_append_left _ h)
  | false =>
    rw [if_neg Bool.false_ne_true] at hk ⊢
    exact b2 W Dd Ψ ρ1 hk σ F1 H1 A1 af.rel Dq (q1.less fun i h => List.mem_append_right _ h) (x1.less fun i h => List.mem_append_right _ h)
/-- for -/
def forGo (wg : WG) (wb : WS) (De : DEnds) (Ψ : PsiE) : List D → DEnv → Prop
  | [], ρ => De.nx ρ
  | d :: ds, ρ => wg d ρ fun ρ1 => wb { De with nx := forGo wg wb De Ψ ds, ct := forGo wg wb De Ψ ds, bk := De.nx } Ψ ρ1
def wFor (wi : WI) (wg : WG) (wb : WS) : WS := fun D Ψ ρ => wi ρ (fun ds ρ1 => forGo wg wb D Ψ ds ρ1) Ψ
theorem ds_for {tg iter : Expr} {body : List Stmt} {wi : WI} {wg : WG} {wb : WS} {sl : List Nat} (hi : DI c tg iter wi) (hg : DG c sl tg wg) (hb : DSs c w1 body wb) (hs : ∀ env x, foldedSetIterable iter env x = pure x := by intro _ _; rfl) :
    DS c (sl ++ w1) (.For tg iter body [] pos) (wFor wi wg wb) := by
  obtain ⟨ti, i1, i2⟩ := hi
  obtain ⟨g, g1, g2⟩ := hg
  obtain ⟨tb, b1, b2⟩ := hb
  refine ⟨fun W => tFor (ti W) g (tb W), fun X W fit tk => ps_for fit.own fit.fit.calm (i1 X W fit.fit tk) (g1 X fit.fit) (b1 X W fit tk) (hs X.env), fun W Dd Ψ ρ hw σ F H A rel Dq q ex => ?_⟩
  refine i2 W ρ _ Ψ hw σ F H A rel _ (fun ds ρ1 F1 H1 A1 J hk af wk => ?_) ex.expr
  obtain ⟨G, Y, w, hG, hY⟩ := wk
  have e1 : Ext A F H A1 F1 H1 := (Ext.loud af).drop
  have q1 := q.same e1 Ag.refl
  have x1 := ex.same e1 Ag.refl
  refine for_it w (fun i σ' H' => ∃ ρ' F' A', forGo wg wb Dd Ψ (ds.drop i) ρ' ∧ SRel c.K F' H' ρ' σ' A' ∧ Ext A1 F1 H1 A' F' H' ∧ Ag (sl ++ w1) σ σ')
    ⟨ρ1, F1, A1, by simpa using hk, af.rel, Ext.refl fun _ h => .inl h, Ag.refl⟩ (fun i σ' H' _ ⟨_, F', _, _, rel', e', _⟩ => hG H' (e'.frz.trans rel'.le)) (fun i x σ' H' H'' hi ⟨ρ', F', A', go, rel', e', ag⟩ y => ?_)
    (fun σ' H' ⟨ρ', F', A', go, rel', e', ag⟩ => ?_)
  · have hd : ds[i]? = some ds[i] := List.getElem?_eq_getElem hi
    obtain ⟨F2, rd, e2, l2⟩ := hY F' H' i x H'' ds[i] e'.frz rel'.le hd y
    rw [drop_cons hd] at go
    have rel2 : SRel c.K F2 H'' ρ' σ' A' := rel'.keeps e2 l2
    have ext2 : Ext A1 F1 H1 A' F2 H'' := by
      refine e'.seq0 ⟨e2.frz, fun a o h _ => e2.keep a o h List.not_mem_nil, fun a m => .inl m, fun a o h => ?_⟩
      rcases e2.newf a o h with z | z | z
      · exact .inl z
      · cases z
      · exact .inr (.inr z)
    refine g2 _ ρ' _ go σ' F2 H'' A' x rel2 rd _ fun ρ3 σ3 A3 hk3 rel3 s3 ag3 => ?_
    have ext3 : Ext A1 F1 H1 A3 F2 H'' := ext2.le s3
    have ag3' : Ag (sl ++ w1) σ σ3 := ag.two (Ag.mono ⟨ag3.1, ag3.2⟩ fun i h => List.mem_append_left _ h)
    have q3 := (q1.same ext3 ag3').less (w1 := w1) fun i h => List.mem_append_right _ h
    have x3 := (x1.same ext3 ag3').less (w1 := w1) fun i h => List.mem_append_right _ h
    refine b2 W _ Ψ ρ3 hk3 σ3 F2 H'' A3 rel3 _ ⟨fun ρ4 σ4 F4 H4 A4 hk4 rel4 e4 ag4 => ?_, fun ρ4 σ4 F4 H4 A4 hk4 rel4 e4 ag4 => ?_, fun ρ4 σ4 F4 H4 A4 hk4 rel4 e4 ag4 => ?_, q3.rt⟩ x3
    · exact ⟨ρ4, F4, A4, hk4, rel4, ext3.seq0 e4, ag3'.two (ag4.mono fun i h => List.mem_append_right _ h)⟩
    · exact q1.nx ρ4 σ4 F4 H4 A4 hk4 rel4 (ext3.seq0 e4) (ag3'.two (ag4.mono fun i h => List.mem_append_right _ h))
    · exact ⟨ρ4, F4, A4, hk4, rel4, ext3.seq0 e4, ag3'.two (ag4.mono fun i h => List.mem_append_right _ h)⟩
  · rw [List.drop_length] at go
    exact q1.nx ρ' σ' _ H' A' go rel' e' ag
/-- while: n turns at most -/
def whGo (wt : WT) (wb : WS) (De : DEnds) (Ψ : PsiE) : Nat → DEnv → Prop
  | 0, _ => False
  | n + 1, ρ => wt ρ (fun b ρ1 => if b = true then wb { De with nx := whGo wt wb De Ψ n, ct := whGo wt wb De Ψ n, bk := De.nx } Ψ ρ1 else De.nx ρ1) Ψ
def wWhile (wt : WT) (wb : WS) : WS := fun D Ψ ρ => ∃ n, whGo wt wb D Ψ n ρ
theorem ds_while {t : Expr} {body : List Stmt} {wt : WT} {wb : WS} (ht : DT c m t wt) (hb : DSs c w1 body wb) : DS c w1 (.While t body [] pos) (wWhile wt wb) := by
  obtain ⟨tt, t1, t2⟩ := ht
  obtain ⟨tb, b1, b2⟩ := hb
  refine ⟨fun W => tWhile (tt W) (tb W), fun X W fit tk => ps_while fit.own (t1 X W fit.fit tk) (b1 X W fit tk), fun W Dd Ψ ρ hw σ F H A rel Dq q ex => ?_⟩
  obtain ⟨n, hw⟩ := hw
  refine ⟨fun n σ' H' => ∃ ρ' F' A', whGo wt wb Dd Ψ n ρ' ∧ SRel c.K F' H' ρ' σ' A' ∧ Ext A F H A' F' H' ∧ Ag w1 σ σ', ⟨n, ρ, F, A, hw, rel, Ext.refl fun _ h => .inl h, Ag.refl⟩, ?_⟩
  rintro n σ' H' ⟨ρ', F', A', go, rel', e', ag⟩
  cases n with
  | zero => exact go.elim
  | succ n =>
    have q1 := q.same e' ag
    have x1 := ex.same e' ag
    refine t2 W ρ' _ Ψ go σ' F' H' A' rel' _ (fun k ρ1 F1 H1 A1 hk af => ?_) x1.expr
    have e1 : Ext A' F' H' A1 F1 H1 := (Ext.loud af).drop
    cases k with
    | true =>
      rw [if_pos rfl] at hk ⊢
      refine ⟨fun σ2 H2 => ∃ ρ2 F2 A2, whGo wt wb Dd Ψ n ρ2 ∧ SRel c.K F2 H2 ρ2 σ2 A2 ∧ Ext A F H A2 F2 H2 ∧ Ag w1 σ σ2, fun σ2 H2 h => ⟨n, Nat.lt_succ_self n, h⟩, ?_⟩
      have q2 := q1.same e1 Ag.refl
      refine b2 W _ Ψ ρ1 hk σ' F1 H1 A1 af.rel _ ⟨fun ρ4 σ4 F4 H4 A4 hk4 rel4 e4 ag4 => ?_, fun ρ4 σ4 F4 H4 A4 hk4 rel4 e4 ag4 => ?_, fun ρ4 σ4 F4 H4 A4 hk4 rel4 e4 ag4 => ?_, q2.rt⟩ (x1.same e1 Ag.refl)
      · exact ⟨ρ4, F4, A4, hk4, rel4, e'.seq0 (e1.seq0 e4), ag.two ag4⟩
      · exact q2.nx ρ4 σ4 F4 H4 A4 hk4 rel4 e4 ag4
      · exact ⟨ρ4, F4, A4, hk4, rel4, e'.seq0 (e1.seq0 e4), ag.two ag4⟩
    | false =>
      rw [if_neg Bool.false_ne_true] at hk ⊢
      exact q1.nx ρ1 σ' F1 H1 A1 hk af.rel e1 Ag.refl
end
end DL

set_option maxHeartbeats 200000
/-! DLB: calls of defs, defs -/
namespace DL
open PySem PySem.Spec PyProof.Rows L2

/-- what a def is worth: the arguments, what is wished of its value and of the arguments behind it, what is wished of exceptions -/
abbrev FS := List D → (D → List D → Prop) → (Exc → List D → Prop) → Prop
def ioOk : List Bool → List D → Bool
  | [], [] => true
  | true :: io, _ :: ds => ioOk io ds
  | false :: io, d :: ds => !d.isOwn && ioOk io ds
  | _, _ => false
def spOf (K : PySem.W.Frag) (mg : Str → Option Value) (io : List Bool) (fs : FS) : Sp := fun vs H Q E => ∃ F ds A Φ Ψ, Le F H ∧ Reps K F H ds vs A ∧ A.Nodup ∧ ioOk io ds = true ∧ fs ds Φ Ψ ∧
  (∀ d ds' v F' H' B A', Φ d ds' → Rep K F' H' d v B → Reps K F' H' ds' vs A' → (A' ++ B).Nodup → Ext A F H (A' ++ B) F' H' → Le F' H' → Q v H') ∧
  ∀ x cls dd ds' F' H' A', Ψ x ds' → ExcRep K mg F' H' x cls dd → Reps K F' H' ds' vs A' → A'.Nodup → Ext A F H A' F' H' → Le F' H' → E cls dd H'
def takeT1 (io : Bool) (t : T) (ρ : DEnv) : Option (D × Option Nat × DEnv) := match io with
  | true => match t with
    | .val d => some (d, none, ρ)
    | .slot i => (lk ρ i).map fun d => (d, some i, ρ.set i none)
    | .sub _ _ => none
  | false => (frzT t ρ).map fun q => (q.1, none, q.2)
def takeTs : List Bool → List T → DEnv → Option (List D × List (Option Nat) × DEnv)
  | [], [], ρ => some ([], [], ρ)
  | b :: io, t :: ts, ρ => match takeT1 b t ρ with
    | some (d, o, ρ1) => match takeTs io ts ρ1 with
      | some (ds, os, ρ2) => some (d :: ds, o :: os, ρ2)
      | none => none
    | none => none
  | _, _, _ => none
def putBack : List (Option Nat) → List D → DEnv → DEnv
  | some i :: wb, d :: ds, ρ => putBack wb ds (ρ.set i (some d))
  | none :: wb, _ :: ds, ρ => putBack wb ds ρ
  | _, _, ρ => ρ
def WBok (σ : Sl) : List (Option Nat) → List V → Prop
  | [], [] => True
  | none :: wb, _ :: vs => WBok σ wb vs
  | some i :: wb, v :: vs => σ[i]? = some (some v) ∧ WBok σ wb vs
  | _, _ => False
def outArgs : List Bool → List D → DEnv → Option (List D)
  | [], [], _ => some []
  | true :: io, _ :: ds, some d :: ρ => (outArgs io ds ρ).map fun l => d :: l
  | false :: io, d0 :: ds, _ :: ρ => (outArgs io ds ρ).map fun l => d0 :: l
  | _, _, _ => none

section
variable {K : PySem.W.Frag} {F H : Hp} {ρ ρ1 : DEnv} {σ : Sl} {A B : Fp} {d : D} {v : V} {t : T} {ds : List D} {vs : List V} {ts : List T}
/-- one argument -/
theorem takeT1_ok {io : Bool} {o : Option Nat} (rel : SRel K F H ρ σ A) (r : RepT K F H σ t v B) (nd : B.Nodup) (ap : ∀ a, a ∈ B → a ∉ A) (h : takeT1 io t ρ = some (d, o, ρ1)) :
    ∃ F' A' C, SRel K F' H ρ1 σ A' ∧ Rep K F' H d v C ∧ C.Nodup ∧ (∀ a, a ∈ C → a ∉ A') ∧ Ext (A ++ B) F H (A' ++ C) F' H ∧ (∀ a, a ∈ A' ++ C → a ∈ A ++ B) ∧ (io = false → d.isOwn = false) ∧
      (match o with | some i => σ[i]? = some (some v) ∧ ρ1[i]? = some none ∧ ∀ j : Nat, ρ[j]? = some none → ρ1[j]? = some none | none => ∀ j : Nat, ρ[j]? = some none → ρ1[j]? = some none) := by
  cases io with
  | false =>
    have h' : (frzT t ρ).map (fun q => (q.1, (none : Option Nat), q.2)) = some (d, o, ρ1) := h
    cases e : frzT t ρ with
    | none => rw [e] at h'; cases h'
    | some q =>
      rw [e] at h'
      cases h'
      obtain ⟨F', A', rel', r', e', s'⟩ := frzT_ok rel r nd ap (show frzT t ρ = some (q.1, q.2) from e)
      refine ⟨F', A', [], rel', r', List.nodup_nil, fun _ m => (List.not_mem_nil m).elim, by simpa using e', fun a m => List.mem_append_left _ (s' a (by simpa using m)), fun _ => ?_, ?_⟩
      · have z : ∀ x : D, x.frz.isOwn = false := fun x => by cases x <;> simp [D.frz, D.isOwn]
        cases t with
        | val x => cases e; exact z _
        | slot i =>
          have e2 : (lk ρ i).map (fun d => (d.frz, ρ.set i (some d.frz))) = some q := e
          cases e3 : lk ρ i with
          | none => rw [e3] at e2; cases e2
          | some x => rw [e3] at e2; cases e2; exact z _
        | sub _ _ => cases e
      · intro j hj
        cases t with
        | val x => cases e; exact hj
        | slot i =>
          have e2 : (lk ρ i).map (fun d => (d.frz, ρ.set i (some d.frz))) = some q := e
          cases e3 : lk ρ i with
          | none => rw [e3] at e2; cases e2
          | some x =>
            rw [e3] at e2
            cases e2
            have ne : i ≠ j := fun z => by
              have := lk_some.mp e3
              rw [z, hj] at this; cases this
            show (ρ.set i (some x.frz))[j]? = _
            rw [List.getElem?_set_ne ne]
            exact hj
        | sub _ _ => cases e
  | true =>
    cases r with
    | val r =>
      cases h
      exact ⟨F, A, B, rel, r, nd, ap, Ext.refl fun a m => .inl m, fun a m => m, (fun e => by cases e), fun _ h => h⟩
    | @slot i v hσ =>
      have h' : (lk ρ i).map (fun d => (d, some i, ρ.set i none)) = some (d, o, ρ1) := h
      cases hd : lk ρ i with
      | none => rw [hd] at h'; cases h'
      | some d0 =>
        rw [hd] at h'
        cases h'
        obtain ⟨v', P, C, S, h1, h2, h3, h4, h5⟩ := rel.env.focus (lk_some.mp hd)
        rw [hσ] at h1
        cases h1
        have ndA := rel.nd
        rw [h2] at ndA
        have n1 := List.nodup_append.mp ndA
        have n2 := List.nodup_append.mp n1.2.1
        have sub : ∀ a, a ∈ (P ++ S) ++ C → a ∈ A ++ [] := fun a m => by
          rw [List.append_nil, h2]
          rcases List.mem_append.mp m with m | m
          · rcases List.mem_append.mp m with m | m
            · exact List.mem_append_left _ m
            · exact List.mem_append_right _ (List.mem_append_right _ m)
          · exact List.mem_append_right _ (List.mem_append_left _ m)
        refine ⟨F, P ++ S, C, ⟨rel.le, h5, ndA.sublist (List.Sublist.append_left (List.sublist_append_right C S) P)⟩, h3, n2.1, fun a m z => ?_, Ext.refl fun a m => .inl (sub a m), sub, (fun e => by cases e), hσ, set_at (lk_some.mp hd) none, fun j hj => ?_⟩
        · rcases List.mem_append.mp z with z | z
          · exact n1.2.2 a z a (List.mem_append_left _ m) rfl
          · exact n2.2.2 a m a z rfl
        · have ne : i ≠ j := fun z => by
            have := lk_some.mp hd
            rw [z, hj] at this; cases this
          rw [List.getElem?_set_ne ne]
          exact hj
    | sub r p => cases h
theorem takeTs_ok : ∀ (io : List Bool) (ts : List T) {vs : List V} {B : Fp} {F : Hp} {ρ : DEnv} {A : Fp}, RepTs K F H σ ts vs B → SRel K F H ρ σ A → B.Nodup → (∀ a, a ∈ B → a ∉ A) → ∀ {ds : List D} {os : List (Option Nat)} {ρ1 : DEnv}, takeTs io ts ρ = some (ds, os, ρ1) →
    ∃ F' A' C, SRel K F' H ρ1 σ A' ∧ Reps K F' H ds vs C ∧ C.Nodup ∧ (∀ a, a ∈ C → a ∉ A') ∧ Ext (A ++ B) F H (A' ++ C) F' H ∧ (∀ a, a ∈ A' ++ C → a ∈ A ++ B) ∧ ioOk io ds = true ∧ WBok σ os vs ∧ (∀ i : Nat, some i ∈ os → ρ1[i]? = some none) ∧ ∀ j : Nat, ρ[j]? = some none → ρ1[j]? = some none
  | [], [], vs, B, F, ρ, A, r, rel, nd, ap, ds, os, ρ1, h => by
    cases r
    cases h
    exact ⟨F, A, [], rel, .nil, List.nodup_nil, fun _ m => (List.not_mem_nil m).elim, Ext.refl fun a m => .inl m, fun a m => m, rfl, trivial, fun i m => (List.not_mem_nil m).elim, fun _ h => h⟩
  | [], _ :: _, _, _, _, _, _, _, _, _, _, _, _, _, h => by cases h
  | _ :: _, [], _, _, _, _, _, _, _, _, _, _, _, _, h => by cases h
  | b :: io, t :: ts, vs, B, F, ρ, A, r, rel, nd, ap, ds, os, ρ1, h => by
    cases r with
    | @cons _ _ v vs A1 B1 _ r1 r2 e1 =>
      unfold takeTs at h
      split at h
      · rename_i d o ρ2 hd
        split at h
        · rename_i ds2 os2 ρ3 hds
          cases h
          subst e1
          have nn := List.nodup_append.mp nd
          obtain ⟨F2, A2, C2, rel2, rd, ndC, apC, ext2, sub2, own2, wb2⟩ := takeT1_ok rel r1 nn.1 (fun a m => ap a (List.mem_append_left _ m)) hd
          have dis : ∀ a, a ∈ B1 → a ∉ A ++ A1 := fun a m z => by
            rcases List.mem_append.mp z with z | z
            · exact ap a (List.mem_append_right _ m) z
            · exact nn.2.2 a z a m rfl
          have dis2 : ∀ a, a ∈ B1 → a ∉ A2 ++ C2 := fun a m z => dis a m (sub2 a z)
          obtain ⟨F3, A3, C3, rel3, rds, ndC3, apC3, ext3, sub3, io3, wb3, no3, st3⟩ := takeTs_ok io ts (r2.under ext2 dis) rel2 nn.2.1 (fun a m z => dis2 a m (List.mem_append_left _ z)) hds
          have c2 : ∀ a, a ∈ C2 → a ∉ A2 ++ B1 := fun a m z => by
            rcases List.mem_append.mp z with z | z
            · exact apC a m z
            · exact dis2 a z (List.mem_append_right _ m)
          have rd3 : Rep K F3 H d v C2 := ext3.rep rd c2
          have c23 : ∀ a, a ∈ C2 → a ∉ A3 ++ C3 := fun a m z => c2 a m (sub3 a z)
          refine ⟨F3, A3, C2 ++ C3, rel3, .cons rd3 rds rfl, List.nodup_append.mpr ⟨ndC, ndC3, fun a ha b hb e => c23 a ha (List.mem_append_right _ (by rw [e]; exact hb))⟩, fun a m z => ?_, ?_, fun a m => ?_, ?_, ?_, fun i m => ?_, fun j hj => ?_⟩
          · rcases List.mem_append.mp m with m | m
            · exact c23 a m (List.mem_append_left _ z)
            · exact apC3 a m z
          · have sub : ∀ a, a ∈ A3 ++ (C2 ++ C3) → a ∈ A ++ (A1 ++ B1) := fun a m => by
              have z : a ∈ A3 ++ C3 ∨ a ∈ C2 := by
                rcases List.mem_append.mp m with m | m
                · exact .inl (List.mem_append_left _ m)
                · rcases List.mem_append.mp m with m | m
                  · exact .inr m
                  · exact .inl (List.mem_append_right _ m)
              rcases z with z | z
              · rcases List.mem_append.mp (sub3 a z) with z | z
                · rcases List.mem_append.mp (sub2 a (List.mem_append_left _ z)) with z | z
                  · exact List.mem_append_left _ z
                  · exact List.mem_append_right _ (List.mem_append_left _ z)
                · exact List.mem_append_right _ (List.mem_append_right _ z)
              · rcases List.mem_append.mp (sub2 a (List.mem_append_right _ z)) with z | z
                · exact List.mem_append_left _ z
                · exact List.mem_append_right _ (List.mem_append_left _ z)
            refine ⟨ext2.frz.trans ext3.frz, fun a o q _ => q, fun a m => .inl (sub a m), fun a o q => ?_⟩
            rcases ext3.newf a o q with z | z | z
            · rcases ext2.newf a o z with z | z | z
              · exact .inl z
              · refine .inr (.inl ?_)
                rcases List.mem_append.mp z with z | z
                · exact List.mem_append_left _ z
                · exact List.mem_append_right _ (List.mem_append_left _ z)
              · exact .inr (.inr z)
            · refine .inr (.inl ?_)
              rcases List.mem_append.mp z with z | z
              · rcases List.mem_append.mp (sub2 a (List.mem_append_left _ z)) with z | z
                · exact List.mem_append_left _ z
                · exact List.mem_append_right _ (List.mem_append_left _ z)
              · exact List.mem_append_right _ (List.mem_append_right _ z)
            · exact .inr (.inr z)
          · have z : a ∈ A3 ++ C3 ∨ a ∈ C2 := by
              rcases List.mem_append.mp m with m | m
              · exact .inl (List.mem_append_left _ m)
              · rcases List.mem_append.mp m with m | m
                · exact .inr m
                · exact .inl (List.mem_append_right _ m)
            rcases z with z | z
            · rcases List.mem_append.mp (sub3 a z) with z | z
              · rcases List.mem_append.mp (sub2 a (List.mem_append_left _ z)) with z | z
                · exact List.mem_append_left _ z
                · exact List.mem_append_right _ (List.mem_append_left _ z)
              · exact List.mem_append_right _ (List.mem_append_right _ z)
            · rcases List.mem_append.mp (sub2 a (List.mem_append_right _ z)) with z | z
              · exact List.mem_append_left _ z
              · exact List.mem_append_right _ (List.mem_append_left _ z)
          · cases b with
            | true => exact io3
            | false =>
              show (!d.isOwn && ioOk io ds2) = true
              rw [own2 rfl, io3]; rfl
          · cases o with
            | none => exact wb3
            | some i => exact ⟨wb2.1, wb3⟩
          · rcases List.mem_cons.mp m with m | m
            · subst m
              exact st3 i wb2.2.1
            · exact no3 i m
          · cases o with
            | none => exact st3 j (wb2 j hj)
            | some i => exact st3 j (wb2.2.2 j hj)
        · cases h
      · cases h
theorem putBack_ok : ∀ (os : List (Option Nat)) {ds : List D} {vs : List V} {C : Fp} {ρ : DEnv} {A : Fp}, SRel K F H ρ σ A → Reps K F H ds vs C → C.Nodup → (∀ a, a ∈ C → a ∉ A) → WBok σ os vs → (∀ i : Nat, some i ∈ os → ρ[i]? = some none) → (os.filterMap id).Nodup →
    ∃ A', SRel K F H (putBack os ds ρ) σ A' ∧ ∀ a, a ∈ A' → a ∈ A ∨ a ∈ C
  | [], ds, vs, C, ρ, A, rel, r, nd, ap, wb, no, nn => by
    cases vs with
    | nil => cases r; exact ⟨A, rel, fun a m => .inl m⟩
    | cons => exact wb.elim
  | o :: os, ds, vs, C, ρ, A, rel, r, nd, ap, wb, no, nn => by
    cases r with
    | nil => cases o <;> exact wb.elim
    | @cons d ds v vs C1 C2 _ r1 r2 e =>
      subst e
      have n1 := List.nodup_append.mp nd
      cases o with
      | none =>
        obtain ⟨A', h1, h2⟩ := putBack_ok os rel r2 n1.2.1 (fun a m => ap a (List.mem_append_right _ m)) wb (fun i m => no i (List.mem_cons_of_mem _ m)) nn
        exact ⟨A', h1, fun a m => (h2 a m).imp_right fun z => List.mem_append_right _ z⟩
      | some i =>
        obtain ⟨N, q1, pm⟩ := rel.env.putAt (no i List.mem_cons_self) wb.1 r1
        have rel1 : SRel K F H (ρ.set i (some d)) σ N := ⟨rel.le, q1, (pm.nodup_iff).mpr (List.nodup_append.mpr ⟨n1.1, rel.nd, fun a ha b hb e => ap a (List.mem_append_left _ ha) (by rw [e]; exact hb)⟩)⟩
        have nn' : i ∉ os.filterMap id ∧ (os.filterMap id).Nodup := by
          have z : (List.filterMap id (some i :: os)) = i :: os.filterMap id := rfl
          rw [z] at nn
          exact List.nodup_cons.mp nn
        have ap1 : ∀ a, a ∈ C2 → a ∉ N := fun a m z => by
          rcases List.mem_append.mp (pm.mem_iff.mp z) with z | z
          · exact n1.2.2 a z a m rfl
          · exact ap a (List.mem_append_right _ m) z
        have no1 : ∀ j : Nat, some j ∈ os → (ρ.set i (some d))[j]? = some none := fun j m => by
          have ne : i ≠ j := fun z => nn'.1 (List.mem_filterMap.mpr ⟨some i, by rw [z]; exact m, rfl⟩)
          rw [List.getElem?_set_ne ne]
          exact no j (List.mem_cons_of_mem _ m)
        obtain ⟨A', h1, h2⟩ := putBack_ok os rel1 r2 n1.2.1 ap1 wb.2 no1 nn'.2
        refine ⟨A', h1, fun a m => ?_⟩
        rcases h2 a m with z | z
        · rcases List.mem_append.mp (pm.mem_iff.mp z) with z | z
          · exact .inr (List.mem_append_left _ z)
          · exact .inl z
        · exact .inr (List.mem_append_right _ z)
end

/-! ### f(e, ..) -/
def wCall (io : List Bool) (fs : FS) (wa : WA) : WE := fun ρ Φ Ψ => wa ρ (fun ts ρ1 => wd (takeTs io ts ρ1) fun q => (q.2.1.filterMap id).Nodup ∧ fs q.1 (fun d ds' => Φ (.val d) (putBack q.2.1 ds' q.2.2)) (fun x ds' => Ψ x (putBack q.2.1 ds' q.2.2))) Ψ
section
variable {c : SC} {m : Bool}
theorem snd_call {W : WX} {io : List Bool} {fs : FS} {wa : WA} {ta : TA} (ha : SndA c m W ta wa) : SndE c false W (tCallSD (spOf c.K c.mg io fs) [] (L2.WE W) ta) (wCall io fs wa) := by
  intro ρ Φ Ψ hw σ F H A rel Q q ex
  refine ha ρ _ Ψ hw σ F H A rel _ (fun ts vs B ρ1 F1 H1 A1 hk ra af => ?_) ex
  obtain ⟨⟨ds, os, ρ2⟩, e, nn, hk⟩ := wd_elim hk
  have x1 := Ext.loud af
  obtain ⟨F2, A2, C, rel2, rds, ndC, apC, ext2, sub2, io2, wb2, no2, _⟩ := takeTs_ok io ts ra af.rel af.nd af.ap e
  rw [List.append_nil]
  have x2 : Ext A F H (A2 ++ C) F2 H1 := x1.seq0 ext2
  refine ⟨F2, ds, C, _, _, rel2.le, rds, ndC, io2, hk, fun d ds' v F' H' B' C' hΦ rd rds' nd' e' l' => ?_, fun x cls dd ds' F' H' C' hΨ rx rds' nd' e' l' => ?_⟩
  · -- the value
    have n1 := List.nodup_append.mp nd'
    have envA : SRel c.K F' H' ρ2 σ A2 := ⟨l', e'.env rel2.env fun a m z => apC a z m, rel2.nd⟩
    have st := e'.stays rel2.env.foot (fun a m z => apC a z m)
    obtain ⟨A3, rel3, s3⟩ := putBack_ok os envA rds' n1.1 (fun a m z => st.2.2 a z (List.mem_append_left _ m)) wb2 no2 nn
    have x3 := Ext.trans (B1 := A2) x2 e' (fun a m => List.mem_append_right _ m) (fun a m => List.mem_append_left _ m)
    refine q _ v B' _ F' H' A3 hΦ (.val rd) ⟨rel3, x3.le fun a m => ?_, (fun e => by cases e), n1.2.1, fun a m z => ?_⟩
    · rcases List.mem_append.mp m with m | m
      · rcases s3 a m with z | z
        · exact List.mem_append_right _ z
        · exact List.mem_append_left _ (List.mem_append_left _ z)
      · exact List.mem_append_left _ (List.mem_append_right _ m)
    · rcases s3 a z with z | z
      · exact st.2.2 a z (List.mem_append_right _ m)
      · exact n1.2.2 a z a m rfl
  · -- an exception
    have envA : SRel c.K F' H' ρ2 σ A2 := ⟨l', e'.env rel2.env fun a m z => apC a z m, rel2.nd⟩
    have st := e'.stays rel2.env.foot (fun a m z => apC a z m)
    obtain ⟨A3, rel3, s3⟩ := putBack_ok os envA rds' nd' (fun a m z => st.2.2 a z m) wb2 no2 nn
    have x3 := Ext.trans (B1 := A2) x2 e' (fun a m => List.mem_append_right _ m) (fun a m => List.mem_append_left _ m)
    refine ex x cls dd _ F' H' A3 hΨ rx rel3 (x3.le fun a m => ?_)
    rcases s3 a m with z | z
    · exact List.mem_append_right _ z
    · exact List.mem_append_left _ z
theorem de_call {k : Nat} {f : Addr} {fd : FuncData} {ps : List Str} {io : List Bool} {fs : FS} {x : Str} {p pos : Pos} {e : Expr} {es : List Expr} {wa : WA} (G : FnOk c.P c.w c.K c.mg c.base (L2.CX c.P c.w) k f fd ps (spOf c.K c.mg io fs)) (hk : k ≤ c.room) (hm : c.mg x = some (.ref f)) (kp : PySem.W.keepIn c.K (.ref f) = true)
    (hb : Binds c.K fd ps []) (ha : DA c m (e :: es) wa) (hg : GlC c.sc x := by rfl) (hdb : (x == ("__debug__" : Str)) = false := by decide) (he : ∀ env, starEach (e :: es) env = (false, eval e env) :: starEach es env := by intro _; rfl)
    (hpl : ∀ env, (backTo pos (starEach es env)).any (·.1) = false := by intro _; rfl) : DE c false (.Call (.Name x p) (e :: es) [] pos) (wCall io fs wa) := by
  obtain ⟨ta, h1, h2⟩ := ha
  refine ⟨fun W => tCallSD (spOf c.K c.mg io fs) [] (L2.WE W) (ta W), fun X W fit tk => ?_, fun W => snd_call (h2 W)⟩
  have z := fit
  obtain ⟨e1, e2, e3, e4, e5, e6, e7, e8, e9, e10⟩ := z
  refine pe_callSD (k := k) (f := f) (fd := fd) (ps := ps) (ds := []) (CX := L2.CX X.prog X.w) ?_ (e9.mono hk) (gl_of fit hg) (by rw [e4]; exact hm) (by rw [e3]; exact kp) (by rw [e3]; exact hb) .nil (fun σ => passAt tk σ) (h1 X W fit tk) hdb (he X.env) (hpl X.env)
  rw [e1, e2, e3, e4, e5]
  exact G
end

/-! ### a def -/
def startD (N : List Str) (ds : List D) : DEnv := ds.map some ++ List.replicate (N.length - ds.length) none
def scOf (P : Program) (w : World) (K : PySem.W.Frag) (mg : Str → Option Value) (base : Heap) (N : List Str) (st : Stmt) (k : Nat) : SC := ⟨P, w, K, mg, base, N, defScope st, fun _ => true, k⟩
def outOk (io : List Bool) (ds : List D) (ρ : DEnv) (k : List D → Prop) : Prop := wd (outArgs io ds ρ) k
section
variable {K : PySem.W.Frag} {F H : Hp}
theorem start_env : ∀ {ds : List D} {vs : List V} {A : Fp} (n : Nat), Reps K F H ds vs A → EnvR K F H (ds.map some ++ List.replicate n none) (vs.map some ++ List.replicate n none) A
  | [], _, _, n, .nil => by
    show EnvR K F H (List.replicate n none) (List.replicate n none) []
    induction n with
    | zero => exact .nil
    | succ n ih => exact .no ih
  | d :: ds, _, _, n, .cons r1 r2 e => .yes r1 (start_env n r2) e
theorem out_ok : ∀ (io : List Bool) {ds : List D} {ρ : DEnv} {σ : Sl} {A : Fp} {vs : List V} {ds' : List D}, outArgs io ds ρ = some ds' → EnvR K F H ρ σ A → vs.length = ds.length →
    (∀ (j : Nat) (v : V), io[j]? = some true → vs[j]? = some v → σ[j]? = some (some v)) → (∀ (j : Nat) (d : D) (v : V), io[j]? = some false → ds[j]? = some d → vs[j]? = some v → Rep K F H d v []) → ∃ C, Reps K F H ds' vs C ∧ C.Sublist A
  | [], [], ρ, σ, A, vs, ds', h, r, hl, _, _ => by
    cases h
    have e : vs = [] := List.length_eq_zero_iff.mp hl
    subst e
    exact ⟨[], .nil, List.nil_sublist _⟩
  | [], _ :: _, _, _, _, _, _, h, _, _, _, _ => by cases h
  | true :: _, [], _, _, _, _, _, h, _, _, _, _ => by cases h
  | false :: _, [], _, _, _, _, _, h, _, _, _, _ => by cases h
  | true :: io, d0 :: ds, [], σ, A, vs, ds', h, _, _, _, _ => by cases h
  | true :: io, d0 :: ds, none :: ρ, σ, A, vs, ds', h, _, _, _, _ => by cases h
  | false :: io, d0 :: ds, [], σ, A, vs, ds', h, _, _, _, _ => by cases h
  | true :: io, d0 :: ds, some d :: ρ, σ, A, vs, ds', h, r, hl, ht, hf => by
    have h' : (outArgs io ds ρ).map (fun l => d :: l) = some ds' := h
    cases e : outArgs io ds ρ with
    | none => rw [e] at h'; cases h'
    | some l =>
      rw [e] at h'
      cases h'
      cases vs with
      | nil => cases hl
      | cons v vs =>
        cases r with
        | @yes _ _ v' σ A1 B1 _ r1 r2 e1 =>
          have ev : v' = v := by
            have z := ht 0 v rfl rfl
            exact Option.some.inj (Option.some.inj z)
          subst ev
          obtain ⟨C, q1, q2⟩ := out_ok io e r2 (by simpa using hl) (fun j v a b => ht (j + 1) v a b) (fun j d v a b c => hf (j + 1) d v a b c)
          exact ⟨A1 ++ C, .cons r1 q1 rfl, by rw [e1]; exact List.Sublist.append_left q2 A1⟩
  | false :: io, d0 :: ds, x :: ρ, σ, A, vs, ds', h, r, hl, ht, hf => by
    have h' : (outArgs io ds ρ).map (fun l => d0 :: l) = some ds' := by cases x <;> exact h
    cases e : outArgs io ds ρ with
    | none => rw [e] at h'; cases h'
    | some l =>
      rw [e] at h'
      cases h'
      cases vs with
      | nil => cases hl
      | cons v vs =>
        have r0 := hf 0 d0 v rfl rfl rfl
        cases r with
        | no r2 =>
          obtain ⟨C, q1, q2⟩ := out_ok io e r2 (by simpa using hl) (fun j v a b => ht (j + 1) v a b) (fun j d v a b c => hf (j + 1) d v a b c)
          exact ⟨C, .cons r0 q1 (by simp), q2⟩
        | @yes _ _ v' σ A1 B1 _ r1 r2 e1 =>
          obtain ⟨C, q1, q2⟩ := out_ok io e r2 (by simpa using hl) (fun j v a b => ht (j + 1) v a b) (fun j d v a b c => hf (j + 1) d v a b c)
          exact ⟨C, .cons r0 q1 (by simp), by rw [e1]; exact q2.trans (List.sublist_append_right _ _)⟩
theorem io_own : ∀ {io : List Bool} {ds : List D}, ioOk io ds = true → (∀ (j : Nat) (d : D), io[j]? = some false → ds[j]? = some d → d.isOwn = false)
  | [], [], _, j, d, h, _ => by simp at h
  | true :: io, _ :: ds, h, 0, d, e, _ => by simp at e
  | true :: io, _ :: ds, h, j + 1, d, e, e2 => io_own (io := io) (ds := ds) h j d (by simpa using e) (by simpa using e2)
  | false :: io, d0 :: ds, h, 0, d, e, e2 => by
    have h' : (!d0.isOwn) = true ∧ ioOk io ds = true := Bool.and_eq_true_iff.mp h
    have e3 : d0 = d := by simpa using e2
    rw [← e3]
    simpa using h'.1
  | false :: io, d0 :: ds, h, j + 1, d, e, e2 => by
    have h' : (!d0.isOwn) = true ∧ ioOk io ds = true := Bool.and_eq_true_iff.mp h
    exact io_own (io := io) (ds := ds) h'.2 j d (by simpa using e) (by simpa using e2)
  | [], _ :: _, h, _, _, _, _ => by cases h
  | true :: _, [], h, _, _, _, _ => by cases h
  | false :: _, [], h, _, _, _, _ => by cases h
end
section
variable {P : Program} {w : World} {K : PySem.W.Frag} {mg : Str → Option Value} {base : Heap}
theorem fnD_of {x qual : Str} {st : Stmt} {f : Addr} {fd : FuncData} {N ps : List Str} {k : Nat} {io : List Bool} {fs : FS} {ws : List Nat} {wb : WS} (F : Fun K x qual st f fd) (S : FnScope N ps (defScope st)) (hb : DSs (scOf P w K mg base N st k) ws (defBody st) wb)
    (hio : ∀ j : Nat, io[j]? = some true → j ∉ ws) (hlen : ∀ ds Φ Ψ, fs ds Φ Ψ → ds.length = ps.length)
    (h : ∀ ds Φ Ψ, fs ds Φ Ψ → wb ⟨fun ρ => outOk io ds ρ (Φ .non), fun d ρ => outOk io ds ρ (Φ d), fun _ => False, fun _ => False⟩ (fun x ρ => outOk io ds ρ (Ψ x)) (startD N ds)) : FnOk P w K mg base (L2.CX P w) (k + 1) f fd ps (spOf K mg io fs) := by
  obtain ⟨t, b1, b2⟩ := hb
  refine F.okX S (fun vs H Q E h => ?_) (fun cdv A outer s H vs Q E hr hsp => ?_)
  · obtain ⟨F, ds, A, Φ, Ψ, _, r, _, _, hf, _⟩ := h
    rw [← r.length]
    exact hlen ds Φ Ψ hf
  · obtain ⟨F0, ds, A0, Φ, Ψ, l0, r0, nd0, io0, hf, hQ, hE⟩ := hsp
    have hl := hlen ds Φ Ψ hf
    have hl2 : vs.length = ds.length := r0.length.symm
    have fits : FitsS (scOf P w K mg base N st k) (cxOf (L2.CX P w) P w K mg base N qual (defScope st) f cdv A outer s H E) := ⟨⟨rfl, rfl, rfl, rfl, rfl, rfl, rfl, rfl, hr, rfl⟩, passes_of rfl, rfl, rfl⟩
    have tk : Takes (cxOf (L2.CX P w) P w K mg base N qual (defScope st) f cdv A outer s H E) (fun cls d _ H => E cls d H) := takes_of rfl rfl rfl rfl
    refine ⟨t (fun cls d _ H => E cls d H), b1 _ _ fits tk, ?_⟩
    have env0 : EnvR K F0 H (startD N ds) (L2.start N vs) A0 := by
      unfold startD L2.start
      rw [hl2]
      exact start_env _ r0
    have at0 : ∀ (j : Nat) (v : V), vs[j]? = some v → (L2.start N vs)[j]? = some (some v) := fun j v e => by
      unfold L2.start
      obtain ⟨hj, _⟩ := List.getElem?_eq_some_iff.mp e
      rw [List.getElem?_append_left (by simpa using hj), List.getElem?_map, e]
      rfl
    -- what the parameters hold behind it
    have outs : ∀ {ρ' : DEnv} {σ' : Sl} {F' H' : Hp} {A' N' : Fp} {ds' : List D}, outArgs io ds ρ' = some ds' → SRel K F' H' ρ' σ' A' → Ext A0 F0 H N' F' H' → Ag ws (L2.start N vs) σ' → ∃ C, Reps K F' H' ds' vs C ∧ C.Sublist A' := by
      intro ρ' σ' F' H' A' N' ds' e rel e' ag
      refine out_ok io e rel.env hl2 (fun j v h1 h2 => ?_) (fun j d v h1 h2 h3 => ?_)
      · rw [ag.2 j (hio j h1)]
        exact at0 j v h2
      · obtain ⟨B, rd, s⟩ := r0.getV h2 h3
        have e0 := rd.own_nil (io_own io0 j d h1 h2)
        subst e0
        exact rd.pure e'.frz
    have fin : ∀ d v B ρ' σ' F' H' A', outOk io ds ρ' (Φ d) → Rep K F' H' d v B → SRel K F' H' ρ' σ' A' → B.Nodup → (∀ a, a ∈ B → a ∉ A') → Ext A0 F0 H (A' ++ B) F' H' → Ag ws (L2.start N vs) σ' → Q v H' := by
      intro d v B ρ' σ' F' H' A' hk rd rel nd ap e' ag
      obtain ⟨ds', e, hk⟩ := wd_elim hk
      obtain ⟨C, rC, sC⟩ := outs e rel e' ag
      refine hQ d ds' v F' H' B C hk rd rC (List.nodup_append.mpr ⟨rel.nd.sublist sC, nd, fun a ha b hb e => ap b hb (by rw [← e]; exact sC.subset ha)⟩) (e'.le fun a m => ?_) rel.le
      rcases List.mem_append.mp m with m | m
      · exact List.mem_append_left _ (sC.subset m)
      · exact List.mem_append_right _ m
    refine b2 _ _ _ (startD N ds) (h ds Φ Ψ hf) _ F0 H A0 ⟨l0, env0, nd0⟩ _ ⟨fun ρ' σ' F' H' A' hk rel e' ag => ?_, fun _ _ _ _ _ h => h.elim, fun _ _ _ _ _ h => h.elim, fin⟩ (fun x cls d ρ' σ' F' H' A' hk rx rel e' ag => ?_)
    · exact fin .non .non [] ρ' σ' F' H' A' hk .non rel List.nodup_nil (fun _ m => (List.not_mem_nil m).elim) (by simpa using e') ag
    · obtain ⟨ds', e, hk⟩ := wd_elim hk
      obtain ⟨C, rC, sC⟩ := outs e rel e' ag
      exact hE x cls d ds' F' H' C hk rx rC (rel.nd.sublist sC) (e'.le fun a m => sC.subset m) rel.le
end
end DL

set_option maxHeartbeats 200000
/-! DLC: owned lists that change -/
namespace DL
open PySem PySem.Spec PyProof.Rows L2

def setP : D → List Nat → D → Option D
  | _, [], d => some d
  | .lst o ds, k :: p, d => match ds[k]? with
    | some x => (setP x p d).map fun y => .lst o (ds.set k y)
    | none => none
  | .dK o ks ds, k :: p, d => match ds[k]? with
    | some x => (setP x p d).map fun y => .dK o ks (ds.set k y)
    | none => none
  | .dT o ks ds, k :: p, d => match ds[k]? with
    | some x => (setP x p d).map fun y => .dT o ks (ds.set k y)
    | none => none
  | _, _ :: _, _ => none
/-- the place that an expression gave -/
def placeT : T → Option (Nat × List Nat)
  | .slot i => some (i, [])
  | .sub i p => some (i, p)
  | .val _ => none
def setPlace (ρ : DEnv) (i : Nat) (p : List Nat) (d : D) : Option DEnv := (lk ρ i).bind fun d0 => (setP d0 p d).map fun d1 => ρ.set i (some d1)
theorem setP_nil (d0 d : D) : setP d0 [] d = some d := by cases d0 <;> rfl
theorem walkD_nil (d : D) : walkD d [] = some d := by cases d <;> rfl

section
variable {K : PySem.W.Frag} {F H : Hp}
theorem Reps.focus {ds : List D} {vs : List V} {A : Fp} (r : Reps K F H ds vs A) : ∀ {k : Nat} {d : D}, ds[k]? = some d → ∃ v P B S, vs[k]? = some v ∧ A = P ++ (B ++ S) ∧ Rep K F H d v B ∧
    ∀ (F' H' : Hp) (d' : D) (v' : V) (B' : Fp), Le F F' → (∀ a o, a ∈ P ++ S → H a = some o → H' a = some o) → (∀ a, a ∈ P ++ S → F' a = none) → Rep K F' H' d' v' B' → Reps K F' H' (ds.set k d') (vs.set k v') (P ++ (B' ++ S)) := by
  induction ds generalizing vs A with
  | nil => intro k d e; simp at e
  | cons x ds ih =>
    intro k d e
    cases r with
    | @cons _ _ v vs A0 B0 C0 r1 r2 e0 =>
      cases k with
      | zero =>
        have e1 : x = d := by simpa using e
        subst e1
        refine ⟨v, [], A0, B0, rfl, by simpa using e0, r1, fun F' H' d' v' B' l k n r' => ?_⟩
        exact .cons r' (r2.mono l (fun a o m h => k a o (by simpa using m) h) fun a m => n a (by simpa using m)) rfl
      | succ k =>
        obtain ⟨w, P, B, S, h1, h2, h3, h4⟩ := ih r2 (k := k) (d := d) (by simpa using e)
        refine ⟨w, A0 ++ P, B, S, by simpa using h1, by rw [e0, h2]; simp, h3, fun F' H' d' v' B' l k n r' => ?_⟩
        refine .cons (r1.mono l (fun a o m h => k a o (List.mem_append_left _ (List.mem_append_left _ m)) h) fun a m => n a (List.mem_append_left _ (List.mem_append_left _ m))) (h4 F' H' d' v' B' l (fun a o m h => k a o ?_ h) (fun a m => n a ?_) r') (by simp)
        · rcases List.mem_append.mp m with m | m
          · exact List.mem_append_left _ (List.mem_append_right _ m)
          · exact List.mem_append_right _ m
        · rcases List.mem_append.mp m with m | m
          · exact List.mem_append_left _ (List.mem_append_right _ m)
          · exact List.mem_append_right _ m
/-- an owned list within a thing, and the thing when that list is changed -/
theorem path_set (l : Le F H) : ∀ {p : List Nat} {d0 : D} {v0 v : V} {A : Fp} {ds : List D}, Rep K F H d0 v0 A → A.Nodup → walkD d0 p = some (.lst true ds) → PathV H v0 p v →
    ∃ a xs P C S, v = .ref a ∧ H a = some (.lst xs) ∧ F a = none ∧ Reps K F H ds xs C ∧ A = P ++ (a :: C ++ S) ∧
      ∀ (H' : Hp) (d' : D) (C' : Fp), (∀ b o, b ≠ a → b ∈ P ++ S → H b = some o → H' b = some o) → Rep K F H' d' (.ref a) C' → ∃ d1, setP d0 p d' = some d1 ∧ Rep K F H' d1 v0 (P ++ (C' ++ S)) := by
  intro p
  induction p with
  | nil =>
    intro d0 v0 v A ds r nd e q
    cases q
    have e1 : d0 = .lst true ds := by rw [walkD_nil] at e; exact Option.some.inj e
    subst e1
    cases r with
    | @lstO a xs _ C _ h f r e0 =>
      refine ⟨a, xs, [], C, [], rfl, h, f, r, by simpa using e0, fun H' d' C' _ r' => ⟨d', setP_nil _ _, by simpa using r'⟩⟩
  | cons k p ih =>
    intro d0 v0 v A ds r nd e q
    have none_of : ∀ {x : D} {u : V} {B : Fp}, Rep K F H x u B → B = [] → walkD x p = some (.lst true ds) → PathV H u p v → False := fun rx eB ex qx => by
      obtain ⟨B2, r2, s2⟩ := walk_rep l rx ex qx
      rw [eB] at s2
      have z := List.sublist_nil.mp s2
      subst z
      cases r2 with
      | lstO _ _ _ e => cases e
    cases r with
    | lstF h r =>
      unfold walkD at e
      split at e
      · rename_i d1 hd
        cases q with
        | lst h' hx q =>
          rw [l _ _ h] at h'; cases h'
          obtain ⟨B, r1, s1⟩ := r.getV hd hx
          exact (none_of r1 (List.sublist_nil.mp s1) e q).elim
        | dK h' _ _ => rw [l _ _ h] at h'; cases h'
        | dT h' _ _ => rw [l _ _ h] at h'; cases h'
      · cases e
    | @lstO a0 xs0 ds0 A0 _ h f r e0 =>
      unfold walkD at e
      split at e
      · rename_i d1 hd
        cases q with
        | @lst _ _ _ _ v1 _ h' hx q =>
          rw [h] at h'; cases h'
          obtain ⟨w, P, B, S, h1, h2, h3, h4⟩ := r.focus hd
          rw [hx] at h1; cases h1
          have nd0 : (a0 :: A0).Nodup := by rw [← e0]; exact nd
          have n1 := List.nodup_cons.mp nd0
          have ndB : B.Nodup := by
            have z := n1.2
            rw [h2] at z
            exact (List.nodup_append.mp (List.nodup_append.mp z).2.1).1
          obtain ⟨a, xs, P2, C, S2, q1, q2, q3, q4, q5, q6⟩ := ih h3 ndB e q
          refine ⟨a, xs, a0 :: (P ++ P2), C, S2 ++ S, q1, q2, q3, q4, by rw [e0, h2, q5]; simp, fun H' d' C' kp r' => ?_⟩
          have ain : a ∈ A0 := by rw [h2, q5]; simp
          have ne : a0 ≠ a := fun z => n1.1 (by rw [z]; exact ain)
          obtain ⟨d1', s1, s2⟩ := q6 H' d' C' (fun b o hb m hh => kp b o hb (by
            rcases List.mem_append.mp m with m | m
            · simp [m]
            · simp [m]) hh) r'
          have z := h4 F H' d1' v1 _ (Le.refl _) (fun b o m hh => kp b o (fun zz => ?_) (by
            rcases List.mem_append.mp m with m | m
            · simp [m]
            · simp [m]) hh) (fun b m => (r.foot b (by
            rw [h2]
            rcases List.mem_append.mp m with m | m
            · exact List.mem_append_left _ m
            · exact List.mem_append_right _ (List.mem_append_right _ m))).2) s2
          · refine ⟨.lst true (ds0.set k d1'), ?_, ?_⟩
            · show (match ds0[k]? with
                | some x => (setP x p d').map fun y => D.lst true (ds0.set k y)
                | none => none) = _
              rw [hd]
              show (setP d1 p d').map _ = _
              rw [s1]; rfl
            · have hxs : xs0.set k v1 = xs0 := by
                obtain ⟨hi, e⟩ := List.getElem?_eq_some_iff.mp hx
                rw [← e]
                exact List.set_getElem_self hi
              rw [hxs] at z
              exact .lstO (kp a0 _ ne (by simp) h) f z (by simp)
          · -- a is not among the others
            have z := n1.2
            rw [h2] at z
            have n2 := List.nodup_append.mp z
            have n3 := List.nodup_append.mp n2.2.1
            have aB : a ∈ B := by rw [q5]; simp
            rw [zz] at m
            rcases List.mem_append.mp m with m | m
            · exact n2.2.2 a m a (List.mem_append_left _ aB) rfl
            · exact n3.2.2 a aB a m rfl
        | dK h' _ _ => rw [h] at h'; cases h'
        | dT h' _ _ => rw [h] at h'; cases h'
      · cases e
    | dKF h _ r =>
      unfold walkD at e
      split at e
      · rename_i d1 hd
        cases q with
        | dK h' hx q =>
          rw [l _ _ h] at h'; cases h'
          obtain ⟨B, r1, s1⟩ := r.getV hd hx
          exact (none_of r1 (List.sublist_nil.mp s1) e q).elim
        | lst h' _ _ => rw [l _ _ h] at h'; cases h'
        | dT h' _ _ => rw [l _ _ h] at h'; cases h'
      · cases e
    | @dKO a0 kvs ks ds0 A0 _ h f ek r e0 =>
      unfold walkD at e
      split at e
      · rename_i d1 hd
        cases q with
        | @dK _ _ _ _ v1 _ h' hx q =>
          rw [h] at h'; cases h'
          obtain ⟨w, P, B, S, h1, h2, h3, h4⟩ := r.focus hd
          rw [hx] at h1; cases h1
          have nd0 : (a0 :: A0).Nodup := by rw [← e0]; exact nd
          have n1 := List.nodup_cons.mp nd0
          have ndB : B.Nodup := by
            have z := n1.2
            rw [h2] at z
            exact (List.nodup_append.mp (List.nodup_append.mp z).2.1).1
          obtain ⟨a, xs, P2, C, S2, q1, q2, q3, q4, q5, q6⟩ := ih h3 ndB e q
          refine ⟨a, xs, a0 :: (P ++ P2), C, S2 ++ S, q1, q2, q3, q4, by rw [e0, h2, q5]; simp, fun H' d' C' kp r' => ?_⟩
          have ain : a ∈ A0 := by rw [h2, q5]; simp
          have ne : a0 ≠ a := fun z => n1.1 (by rw [z]; exact ain)
          obtain ⟨d1', s1, s2⟩ := q6 H' d' C' (fun b o hb m hh => kp b o hb (by
            rcases List.mem_append.mp m with m | m
            · simp [m]
            · simp [m]) hh) r'
          have z := h4 F H' d1' v1 _ (Le.refl _) (fun b o m hh => kp b o (fun zz => ?_) (by
            rcases List.mem_append.mp m with m | m
            · simp [m]
            · simp [m]) hh) (fun b m => (r.foot b (by
            rw [h2]
            rcases List.mem_append.mp m with m | m
            · exact List.mem_append_left _ m
            · exact List.mem_append_right _ (List.mem_append_right _ m))).2) s2
          · refine ⟨.dK true ks (ds0.set k d1'), ?_, ?_⟩
            · show (match ds0[k]? with
                | some x => (setP x p d').map fun y => D.dK true ks (ds0.set k y)
                | none => none) = _
              rw [hd]
              show (setP d1 p d').map _ = _
              rw [s1]; rfl
            · have hxs : (kvs.map (·.2)).set k v1 = kvs.map (·.2) := by
                obtain ⟨hi, e⟩ := List.getElem?_eq_some_iff.mp hx
                rw [← e]
                exact List.set_getElem_self hi
              rw [hxs] at z
              exact .dKO (kp a0 _ ne (by simp) h) f ek z (by simp)
          · have z := n1.2
            rw [h2] at z
            have n2 := List.nodup_append.mp z
            have n3 := List.nodup_append.mp n2.2.1
            have aB : a ∈ B := by rw [q5]; simp
            rw [zz] at m
            rcases List.mem_append.mp m with m | m
            · exact n2.2.2 a m a (List.mem_append_left _ aB) rfl
            · exact n3.2.2 a aB a m rfl
        | lst h' _ _ => rw [h] at h'; cases h'
        | dT h' _ _ => rw [h] at h'; cases h'
      · cases e
    | dTF h _ r =>
      unfold walkD at e
      split at e
      · rename_i d1 hd
        cases q with
        | dT h' hx q =>
          rw [l _ _ h] at h'; cases h'
          obtain ⟨B, r1, s1⟩ := r.getV hd hx
          exact (none_of r1 (List.sublist_nil.mp s1) e q).elim
        | lst h' _ _ => rw [l _ _ h] at h'; cases h'
        | dK h' _ _ => rw [l _ _ h] at h'; cases h'
      · cases e
    | @dTO a0 kvs ks ds0 A0 _ h f ek r e0 =>
      unfold walkD at e
      split at e
      · rename_i d1 hd
        cases q with
        | @dT _ _ _ _ v1 _ h' hx q =>
          rw [h] at h'; cases h'
          obtain ⟨w, P, B, S, h1, h2, h3, h4⟩ := r.focus hd
          rw [hx] at h1; cases h1
          have nd0 : (a0 :: A0).Nodup := by rw [← e0]; exact nd
          have n1 := List.nodup_cons.mp nd0
          have ndB : B.Nodup := by
            have z := n1.2
            rw [h2] at z
            exact (List.nodup_append.mp (List.nodup_append.mp z).2.1).1
          obtain ⟨a, xs, P2, C, S2, q1, q2, q3, q4, q5, q6⟩ := ih h3 ndB e q
          refine ⟨a, xs, a0 :: (P ++ P2), C, S2 ++ S, q1, q2, q3, q4, by rw [e0, h2, q5]; simp, fun H' d' C' kp r' => ?_⟩
          have ain : a ∈ A0 := by rw [h2, q5]; simp
          have ne : a0 ≠ a := fun z => n1.1 (by rw [z]; exact ain)
          obtain ⟨d1', s1, s2⟩ := q6 H' d' C' (fun b o hb m hh => kp b o hb (by
            rcases List.mem_append.mp m with m | m
            · simp [m]
            · simp [m]) hh) r'
          have z := h4 F H' d1' v1 _ (Le.refl _) (fun b o m hh => kp b o (fun zz => ?_) (by
            rcases List.mem_append.mp m with m | m
            · simp [m]
            · simp [m]) hh) (fun b m => (r.foot b (by
            rw [h2]
            rcases List.mem_append.mp m with m | m
            · exact List.mem_append_left _ m
            · exact List.mem_append_right _ (List.mem_append_right _ m))).2) s2
          · refine ⟨.dT true ks (ds0.set k d1'), ?_, ?_⟩
            · show (match ds0[k]? with
                | some x => (setP x p d').map fun y => D.dT true ks (ds0.set k y)
                | none => none) = _
              rw [hd]
              show (setP d1 p d').map _ = _
              rw [s1]; rfl
            · have hxs : (kvs.map (·.2)).set k v1 = kvs.map (·.2) := by
                obtain ⟨hi, e⟩ := List.getElem?_eq_some_iff.mp hx
                rw [← e]
                exact List.set_getElem_self hi
              rw [hxs] at z
              exact .dTO (kp a0 _ ne (by simp) h) f ek z (by simp)
          · have z := n1.2
            rw [h2] at z
            have n2 := List.nodup_append.mp z
            have n3 := List.nodup_append.mp n2.2.1
            have aB : a ∈ B := by rw [q5]; simp
            rw [zz] at m
            rcases List.mem_append.mp m with m | m
            · exact n2.2.2 a m a (List.mem_append_left _ aB) rfl
            · exact n3.2.2 a aB a m rfl
        | lst h' _ _ => rw [h] at h'; cases h'
        | dK h' _ _ => rw [h] at h'; cases h'
      · cases e
    | non => unfold walkD at e; cases e
    | bl => unfold walkD at e; cases e
    | int => unfold walkD at e; cases e
    | str => unfold walkD at e; cases e
    | tup => unfold walkD at e; cases e
    | ro => unfold walkD at e; cases e
/-- the owned list at a place of the slots, changed -/
theorem mut_place {ρ : DEnv} {σ : Sl} {A : Fp} {t : T} {v : V} {B : Fp} {i : Nat} {p : List Nat} {ds : List D} (rel : SRel K F H ρ σ A) (rt : RepT K F H σ t v B) (hp : placeT t = some (i, p)) (hd : deref ρ t = some (.lst true ds)) :
    ∃ a xs C, v = .ref a ∧ H a = some (.lst xs) ∧ F a = none ∧ a ∈ A ∧ Reps K F H ds xs C ∧ C.Nodup ∧ (∀ b, b ∈ C → b ∈ A) ∧ a ∉ C ∧
      ∀ (xs' : List V) (ds' : List D) (C' : Fp), Reps K F (upd H a (.lst xs')) ds' xs' C' → C'.Nodup → (∀ b, b ∈ C' → b ∈ C ∨ b ∉ A) → a ∉ C' →
        ∃ ρ' A', setPlace ρ i p (.lst true ds') = some ρ' ∧ SRel K F (upd H a (.lst xs')) ρ' σ A' ∧ (∀ b, b ∈ A' → b ∈ C' ∨ (b ∈ A ∧ b ∉ C)) := by
  obtain ⟨v0, d0, hσ, hlk, hw, hpv⟩ : ∃ v0 d0, σ[i]? = some (some v0) ∧ lk ρ i = some d0 ∧ walkD d0 p = some (.lst true ds) ∧ PathV H v0 p v := by
    cases rt with
    | val _ => cases hp
    | slot h =>
      cases hp
      have hd : lk ρ _ = some (.lst true ds) := hd
      exact ⟨_, _, h, hd, walkD_nil _, .nil⟩
    | sub h q =>
      cases hp
      have hd : (lk ρ _).bind (fun d => walkD d _) = some (.lst true ds) := hd
      cases e : lk ρ i with
      | none => rw [e] at hd; cases hd
      | some d0 => rw [e] at hd; exact ⟨_, d0, h, rfl, hd, q⟩
  obtain ⟨v1, Q1, B0, Q2, h1, h2, h3, h4, h5⟩ := rel.env.focus (lk_some.mp hlk)
  rw [hσ] at h1; cases h1
  have ndA := rel.nd
  rw [h2] at ndA
  have n1 := List.nodup_append.mp ndA
  have n2 := List.nodup_append.mp n1.2.1
  obtain ⟨a, xs, P, C, S, q1, q2, q3, q4, q5, q6⟩ := path_set rel.le h3 n2.1 hw hpv
  have nB := n2.1
  rw [q5] at nB
  have m1 := List.nodup_append.mp nB
  have m2 : (a :: C).Nodup ∧ S.Nodup ∧ ∀ x, x ∈ a :: C → ∀ y, y ∈ S → x ≠ y := List.nodup_append.mp m1.2.1
  have m3 := List.nodup_cons.mp m2.1
  have inA : ∀ b, b ∈ P ++ (a :: C ++ S) → b ∈ A := fun b m => by
    rw [h2, q5]
    exact List.mem_append_right _ (List.mem_append_left _ m)
  have oth : ∀ b, b ∈ Q1 ++ Q2 → b ∉ B0 := fun b m z => by
    rcases List.mem_append.mp m with m | m
    · exact n1.2.2 b m b (List.mem_append_left _ z) rfl
    · exact n2.2.2 b z b m rfl
  refine ⟨a, xs, C, q1, q2, q3, inA a (by simp), q4, m3.2, fun b m => inA b (by simp [m]), m3.1, fun xs' ds' C' r' nd' sub' na' => ?_⟩
  have rd' : Rep K F (upd H a (.lst xs')) (.lst true ds') (.ref a) (a :: C') := .lstO upd_same q3 r' rfl
  obtain ⟨d1, s1, s2⟩ := q6 (upd H a (.lst xs')) (.lst true ds') (a :: C') (fun b o ne _ h => by rw [upd_ne ne]; exact h) rd'
  have aB : a ∈ B0 := by rw [q5]; simp
  have hle : Le F (upd H a (.lst xs')) := fun b o h => by
    rw [upd_ne (fun z => by rw [z, q3] at h; cases h)]
    exact rel.le b o h
  have env1 : EnvR K F (upd H a (.lst xs')) (ρ.set i none) σ (Q1 ++ Q2) := h5.mono (Le.refl _) (fun b o m h => by rw [upd_ne (fun z => oth b m (by rw [z]; exact aB))]; exact h) fun b m => (h5.foot b m).2
  obtain ⟨N, g1, pm⟩ := env1.putAt (set_at (lk_some.mp hlk) none) hσ s2
  rw [List.set_set] at g1
  have cA : ∀ b, b ∈ C' → b ∉ P ++ S := fun b m z => by
    rcases sub' b m with q | q
    · rcases List.mem_append.mp z with z | z
      · exact m1.2.2 b z b (by simp [q]) rfl
      · exact m2.2.2 b (List.mem_cons_of_mem _ q) b z rfl
    · refine q (inA b ?_)
      rcases List.mem_append.mp z with z | z
      · exact List.mem_append_left _ z
      · exact List.mem_append_right _ (List.mem_append_right _ z)
  have aPS : a ∉ P ++ S := fun z => by
    rcases List.mem_append.mp z with z | z
    · exact m1.2.2 a z a (by simp) rfl
    · exact m2.2.2 a List.mem_cons_self a z rfl
  have ndN : (P ++ (a :: C' ++ S)).Nodup := by
    refine List.nodup_append.mpr ⟨m1.1, List.nodup_append.mpr ⟨List.nodup_cons.mpr ⟨na', nd'⟩, m2.2.1, fun x hx y hy e => ?_⟩, fun x hx y hy e => ?_⟩
    · subst e
      rcases List.mem_cons.mp hx with z | z
      · rw [z] at hy; exact aPS (List.mem_append_right _ hy)
      · exact cA x z (List.mem_append_right _ hy)
    · subst e
      rcases List.mem_append.mp hy with hy | hy
      · rcases List.mem_cons.mp hy with z | z
        · rw [z] at hx; exact aPS (List.mem_append_left _ hx)
        · exact cA x z (List.mem_append_left _ hx)
      · exact m1.2.2 x hx x (List.mem_append_right _ hy) rfl
  refine ⟨ρ.set i (some d1), N, ?_, ⟨hle, g1, (pm.nodup_iff).mpr (List.nodup_append.mpr ⟨ndN, ndA.sublist (List.Sublist.append_left (List.sublist_append_right B0 Q2) Q1), fun x hx y hy e => ?_⟩)⟩, fun b m => ?_⟩
  · unfold setPlace
    rw [hlk]
    show (setP d0 p _).map _ = _
    rw [s1]; rfl
  · subst e
    have inB : ∀ z, z ∈ P ++ (a :: S) → z ∈ B0 := fun z m => by
      rw [q5]
      rcases List.mem_append.mp m with m | m
      · exact List.mem_append_left _ m
      · rcases List.mem_cons.mp m with m | m
        · rw [m]; simp
        · simp [m]
    have xQ : x ∈ A := by
      rw [h2]
      rcases List.mem_append.mp hy with z | z
      · exact List.mem_append_left _ z
      · exact List.mem_append_right _ (List.mem_append_right _ z)
    rcases List.mem_append.mp hx with z | z
    · exact oth x hy (inB x (List.mem_append_left _ z))
    · rcases List.mem_append.mp z with z | z
      · rcases List.mem_cons.mp z with z | z
        · exact oth x hy (by rw [z]; exact aB)
        · rcases sub' x z with q | q
          · exact oth x hy (by rw [q5]; simp [q])
          · exact q xQ
      · exact oth x hy (inB x (List.mem_append_right _ (List.mem_cons_of_mem _ z)))
  · have cases2 : b ∈ P ++ (a :: C' ++ S) ∨ b ∈ Q1 ++ Q2 := List.mem_append.mp (pm.mem_iff.mp m)
    rcases cases2 with z | z
    · rcases List.mem_append.mp z with z | z
      · exact .inr ⟨inA b (List.mem_append_left _ z), fun q => m1.2.2 b z b (by simp [q]) rfl⟩
      · rcases List.mem_append.mp z with z | z
        · rcases List.mem_cons.mp z with z | z
          · rw [z]; exact .inr ⟨inA a (by simp), m3.1⟩
          · exact .inl z
        · exact .inr ⟨inA b (by simp [z]), fun q => m2.2.2 b (List.mem_cons_of_mem _ q) b z rfl⟩
    · refine .inr ⟨?_, fun q => oth b z (by rw [q5]; simp [q])⟩
      rw [h2]
      rcases List.mem_append.mp z with z | z
      · exact List.mem_append_left _ z
      · exact List.mem_append_right _ (List.mem_append_right _ z)
end
end DL

set_option maxHeartbeats 200000
/-! DLD: append, pop, items stored, several names at once, comprehensions stored, chains, join -/
namespace DL
open PySem PySem.Spec PyProof.Rows L2

section
variable {K : PySem.W.Frag} {σ : Sl} {ρ ρ3 : DEnv} {A A3 B0 B3 : Fp} {F H F3 H2 : Hp} {t : T} {vx : V} {i : Nat} {p : List Nat} {ds : List D}
theorem RepT.place {F' : Hp} {l : Nat × List Nat} (r : RepT K F H σ t vx B0) (h : placeT t = some l) : RepT K F' H σ t vx [] := by
  cases r with
  | val _ => cases h
  | slot h1 => exact .slot h1
  | sub h1 q => exact .sub h1 q
theorem mut_aft (x : Aft K false σ ρ A F H ρ3 A3 F3 H2 B3) (rt : RepT K F3 H2 σ t vx B0) (hp : placeT t = some (i, p)) (hd : deref ρ3 t = some (.lst true ds)) :
    ∃ a xs C, vx = .ref a ∧ H2 a = some (.lst xs) ∧ Reps K F3 H2 ds xs C ∧ C.Nodup ∧ (∀ b, b ∈ C → b ∉ B3) ∧
      ∀ (xs' : List V) (ds' : List D) (C' : Fp) (d' : D) (v' : V) (B' : Fp), Reps K F3 H2 ds' xs' C' → Rep K F3 H2 d' v' B' → C'.Nodup → B'.Nodup → (∀ b, b ∈ C' → b ∈ C ∨ b ∈ B3) → (∀ b, b ∈ B' → (b ∈ C ∨ b ∈ B3) ∧ b ∉ C') →
        ∃ ρ' A', setPlace ρ3 i p (.lst true ds') = some ρ' ∧ Aft K false σ ρ A F H ρ' A' F3 (upd H2 a (.lst xs')) B' ∧ Rep K F3 (upd H2 a (.lst xs')) d' v' B' := by
  obtain ⟨a, xs, C, q1, q2, q3, q4, q5, q6, q7, q8, q9⟩ := mut_place x.rel rt hp hd
  refine ⟨a, xs, C, q1, q2, q5, q6, fun b m z => x.ap b z (q7 b m), fun xs' ds' C' d' v' B' rs rd nC nB sC sB => ?_⟩
  have naB3 : a ∉ B3 := fun z => x.ap a z q4
  have na : ∀ b, (b ∈ C ∨ b ∈ B3) → b ≠ a := fun b m e => by
    rw [e] at m
    exact m.elim q8 naB3
  have keep : ∀ b o, b ≠ a → H2 b = some o → upd H2 a (.lst xs') b = some o := fun b o ne h => by rw [upd_ne ne]; exact h
  have rs' : Reps K F3 (upd H2 a (.lst xs')) ds' xs' C' := rs.mono (Le.refl _) (fun b o m h => keep b o (na b (sC b m)) h) fun b m => (rs.foot b m).2
  have rd' : Rep K F3 (upd H2 a (.lst xs')) d' v' B' := rd.mono (Le.refl _) (fun b o m h => keep b o (na b (sB b m).1) h) fun b m => (rd.foot b m).2
  obtain ⟨ρ', A', e, rel', sub⟩ := q9 xs' ds' C' rs' nC (fun b m => (sC b m).imp_right fun z z2 => x.ap b z z2) (fun z => na a (sC a z) rfl)
  have inA : ∀ b, b ∈ A' → b ∈ A3 ∨ b ∈ B3 := fun b m => by
    rcases sub b m with z | z
    · rcases sC b z with z | z
      · exact .inl (q7 b z)
      · exact .inr z
    · exact .inl z.1
  have ext := Ext.loud x
  refine ⟨ρ', A', e, ⟨rel', ?_, (fun e => by cases e), nB, fun b m z => ?_⟩, rd'⟩
  · refine Ext.le (N := A' ++ B') ⟨ext.frz, fun b o h hm => ?_, fun b m => ?_, ext.newf⟩ (fun b m => m)
    · refine keep b o (fun z => ?_) (ext.keep b o h hm)
      subst z
      rcases ext.own b (List.mem_append_left _ q4) with z | z
      · exact hm z
      · rw [h] at z; cases z
    · rcases List.mem_append.mp m with m | m
      · rcases inA b m with z | z
        · exact ext.own b (List.mem_append_left _ z)
        · exact ext.own b (List.mem_append_right _ z)
      · rcases (sB b m).1 with z | z
        · exact ext.own b (List.mem_append_left _ (q7 b z))
        · exact ext.own b (List.mem_append_right _ z)
  · rcases sub b z with z | z
    · exact (sB b m).2 z
    · rcases (sB b m).1 with y | y
      · exact z.2 y
      · exact x.ap b y z.1
end
def asLO (o : Option D) (k : List D → Prop) : Prop := match o with
  | some (.lst true ds) => k ds
  | _ => False
theorem asLO_elim {o : Option D} {k : List D → Prop} (h : asLO o k) : ∃ ds, o = some (.lst true ds) ∧ k ds := by
  unfold asLO at h
  split at h
  · exact ⟨_, rfl, h⟩
  · exact h.elim

section
variable {c : SC} {m m2 : Bool} {W : WX} {apos pos : Pos}
/-! ### xs.append(e) -/
theorem tyV_list {K : PySem.W.Frag} {H : Hp} {x : V} {l : Addr} {xs : List V} (e : x = .ref l) (h : H l = some (.lst xs)) : tyV K "list" x H := by
  subst e
  exact Or.inl ⟨rfl, _, SqL.of h⟩
theorem RepTs.one_inv {K : PySem.W.Frag} {F H : Hp} {σ : Sl} {u : T} {vs : List V} {B : Fp} (r : RepTs K F H σ [u] vs B) : ∃ v, vs = [v] ∧ RepT K F H σ u v B := by
  cases r with
  | cons r1 r2 e =>
    cases r2
    rw [List.append_nil] at e
    subst e
    exact ⟨_, rfl, r1⟩
theorem nd_app {A B : Fp} (h1 : A.Nodup) (h2 : B.Nodup) (h : ∀ a, a ∈ A → a ∉ B) : (A ++ B).Nodup := List.nodup_append.mpr ⟨h1, h2, fun a ha b hb e => h a ha (by rw [e]; exact hb)⟩
/-- a list at a place -/
theorem lst_here {K : PySem.W.Frag} {F H : Hp} {ρ : DEnv} {σ : Sl} {A B : Fp} {t : T} {v : V} {ds : List D} (rel : SRel K F H ρ σ A) (r : RepT K F H σ t v B) (e : deref ρ t = some (.lst true ds)) : tyV K "list" v H := by
  obtain ⟨_, rx, _, _⟩ := deref_rep rel r e
  obtain ⟨a, xs, _, e, h, _⟩ := rx.lst_inv rel.le
  exact tyV_list e h
def wAppend (q : Bool) (wx : WE) (wa : WA) : WE := fun ρ Φ Ψ => wx ρ (fun t ρ1 => (q || t.stable) = true ∧ asLO (deref ρ1 t) fun _ => wa ρ1 (fun us ρ2 => match us with
  | [u] => wd (elemT u ρ2) fun y => asLO (deref y.2 t) fun ds => ds.length < sizeLine ∧ wd (placeT t) fun l => wd (setPlace y.2 l.1 l.2 (.lst true (ds ++ [y.1]))) fun ρ4 => Φ (.val .non) ρ4
  | _ => False) Ψ) Ψ
theorem de_append {o e : Expr} {wx : WE} {wa : WA} (hx : DE c m o wx) (ha : DA c m2 [e] wa)
    (hbase : ∀ env, attributeBase o "append" env (eval o env) = eval o env := by intro _; rfl)
    (hfew : ∀ env, ((backTo pos (starEach [e] env)).all (fun x => !x.1) && (backToKw pos (keywordEach [] env)).all (fun x => x.1.isSome)
      && decide ([e].length + ([] : List Keyword).length + (if ([] : List Keyword).isEmpty then 0 else 1) < 30)) = true := by intro _; rfl)
    (hline : (apos.endLine == pos.line) = true := by rfl) (hs : ∀ env, starEach [e] env = (false, eval e env) :: starEach [] env := by intro _; rfl) (hplain : ∀ env, (backTo pos (starEach [] env)).any (·.1) = false := by intro _; rfl) :
    DE c false (.Call (.Attribute o "append" apos) [e] [] pos) (wAppend m2 wx wa) := by
  obtain ⟨tx, x1, x2⟩ := hx
  obtain ⟨ta, a1, a2⟩ := ha
  refine ⟨fun W => tBM c.K "list" rAppend (tx W) (ta W), fun X W fit tk => ?_, fun W ρ Φ Ψ hw σ F H A rel Q q ex => ?_⟩
  · have z := pe_bm (X := X) (cpos := pos) (apos := apos) PySem.F.plainAttrs_list PySem.F.slot_list_append PySem.F.type_list_append mt_append (x1 X W fit tk) (a1 X W fit tk) (hbase X.env) (hfew X.env) hline (hs X.env) (hplain X.env)
    rw [fit.K] at z
    exact z
  refine x2 W ρ _ Ψ hw σ F H A rel _ (fun t vx B ρ1 F1 H1 A1 hk ra af => ?_) ex
  obtain ⟨st, hk⟩ := hk
  obtain ⟨_, e0, hk⟩ := asLO_elim hk
  refine ⟨lst_here af.rel ra e0, ?_⟩
  refine a2 W ρ1 _ Ψ hk σ F1 H1 A1 af.rel _ (fun us vs B2 ρ2 F2 H2 A2 hk rb af2 => ?_) (ex.aft af)
  match us, hk, rb with
  | [], hk, _ => exact hk.elim
  | _ :: _ :: _, hk, _ => exact hk.elim
  | [u], hk, rb =>
    obtain ⟨v, rfl, rc⟩ := rb.one_inv
    obtain ⟨⟨d, ρ3⟩, e1, hk⟩ := wd_elim hk
    obtain ⟨ds, e2, hz, hk⟩ := asLO_elim hk
    obtain ⟨⟨i, p⟩, e3, hk⟩ := wd_elim hk
    obtain ⟨ρ4, e4, hk⟩ := wd_elim hk
    have ra2 := af2.repT ra af.ap (by simpa using st)
    obtain ⟨F3, A3, B3, af3, r3⟩ := elem_ok af2 rc e1
    have rt : RepT c.K F3 H2 σ t vx [] := ra2.place e3
    have sq : Aft c.K false σ ρ A F H ρ3 A3 F3 H2 B3 := by
      have z := (af.weak (m2 := false) fun e => by cases e).less (List.nil_sublist B)
      simpa using z.seq0 af3
    obtain ⟨a, xs, C, rfl, hH, rs, nC, dj, go⟩ := mut_aft sq rt e3 e2
    have r2 := rs.append (Reps.cons r3 .nil (by simp : B3 = B3 ++ []))
    obtain ⟨ρ', A', e5, af5, _⟩ := go (xs ++ [v]) (ds ++ [d]) (C ++ B3) .non .non [] r2 .non (nd_app nC af3.nd dj) List.nodup_nil (fun b m => List.mem_append.mp m) (fun b m => (List.not_mem_nil m).elim)
    rw [e4] at e5
    cases e5
    exact ⟨a, xs, v, rfl, rfl, hH, by rw [← rs.length]; exact hz, q _ _ [] ρ4 F3 _ A' hk (.val .non) af5⟩
/-! ### xs.pop(), xs.pop(i) -/
def popD (x : Option D) (t : T) (ρ : DEnv) (k : Nat) (Φ : D → DEnv → Prop) : Prop := asLO x fun ds => wd ds[k]? fun d => wd (placeT t) fun l => wd (setPlace ρ l.1 l.2 (.lst true (ds.eraseIdx k))) fun ρ' => Φ d ρ'
def wPop (wx : WE) : WE := fun ρ Φ Ψ => wx ρ (fun t ρ1 => asLO (deref ρ1 t) fun ds => popD (deref ρ1 t) t ρ1 (ds.length - 1) fun d ρ2 => Φ (.val d) ρ2) Ψ
theorem Reps.erase {K : PySem.W.Frag} {F H : Hp} {ds : List D} {vs : List V} {A : Fp} (r : Reps K F H ds vs A) : ∀ {k : Nat} {d : D}, ds[k]? = some d → ∃ v B C, vs[k]? = some v ∧ Rep K F H d v B ∧ Reps K F H (ds.eraseIdx k) (vs.eraseIdx k) C ∧ A.Perm (B ++ C) := by
  induction ds generalizing vs A with
  | nil => intro k d e; simp at e
  | cons d0 ds ih =>
    intro k d e
    cases r with
    | @cons _ _ v vs A0 B0 _ r1 r2 e0 =>
      subst e0
      cases k with
      | zero =>
        have e1 : d0 = d := by simpa using e
        subst e1
        exact ⟨v, A0, B0, rfl, r1, r2, .refl _⟩
      | succ k =>
        obtain ⟨w, B, C, h1, h2, h3, h4⟩ := ih r2 (k := k) (d := d) (by simpa using e)
        refine ⟨w, B, A0 ++ C, by simpa using h1, h2, .cons r1 h3 rfl, ?_⟩
        refine (List.Perm.append_left A0 h4).trans ?_
        rw [← List.append_assoc, ← List.append_assoc]
        exact List.Perm.append_right _ List.perm_append_comm
theorem pop_ok {K : PySem.W.Frag} {σ : Sl} {ρ ρ3 : DEnv} {A A3 B0 B3 : Fp} {F H F3 H2 : Hp} {t : T} {vx : V} {k : Nat} {Φ : D → DEnv → Prop} (x : Aft K false σ ρ A F H ρ3 A3 F3 H2 B3) (rt : RepT K F3 H2 σ t vx B0) (h : popD (deref ρ3 t) t ρ3 k Φ) :
    ∃ a xs ds v d ρ' A' B' , deref ρ3 t = some (.lst true ds) ∧ ds.length = xs.length ∧ vx = .ref a ∧ H2 a = some (.lst xs) ∧ xs[k]? = some v ∧ Φ d ρ' ∧ Aft K false σ ρ A F H ρ' A' F3 (upd H2 a (.lst (xs.eraseIdx k))) B' ∧ Rep K F3 (upd H2 a (.lst (xs.eraseIdx k))) d v B' := by
  obtain ⟨ds, e2, h⟩ := asLO_elim h
  obtain ⟨d, e3, h⟩ := wd_elim h
  obtain ⟨⟨i, p⟩, e4, h⟩ := wd_elim h
  obtain ⟨ρ4, e5, h⟩ := wd_elim h
  obtain ⟨a, xs, C, rfl, hH, rs, nC, dj, go⟩ := mut_aft x rt e4 e2
  obtain ⟨v, B, C', h1, h2, h3, h4⟩ := rs.erase e3
  have nn := h4.nodup_iff.mp nC
  have n1 := List.nodup_append.mp nn
  obtain ⟨ρ', A', e6, af6, r6⟩ := go (xs.eraseIdx k) (ds.eraseIdx k) C' d v B h3 h2 n1.2.1 n1.1 (fun b m => .inl (h4.mem_iff.mpr (List.mem_append_right _ m))) (fun b m => ⟨.inl (h4.mem_iff.mpr (List.mem_append_left _ m)), fun z => n1.2.2 b m b z rfl⟩)
  rw [e5] at e6
  cases e6
  exact ⟨a, xs, ds, v, d, ρ4, A', B, e2, rs.length, rfl, hH, h1, h, af6, r6⟩
theorem drop_erase {α : Type} (xs : List α) : xs.dropLast = xs.eraseIdx (xs.length - 1) := by
  rw [List.eraseIdx_length_sub_one]
theorem de_pop {o : Expr} {wx : WE} (hx : DE c m o wx) (hbase : ∀ env, attributeBase o "pop" env (eval o env) = eval o env := by intro _; rfl) (hline : (apos.endLine == pos.line) = true := by rfl) :
    DE c false (.Call (.Attribute o "pop" apos) [] [] pos) (wPop wx) := by
  obtain ⟨tx, x1, x2⟩ := hx
  refine ⟨fun W => tBM0 c.K "list" rPop (tx W), fun X W fit tk => ?_, fun W ρ Φ Ψ hw σ F H A rel Q q ex => ?_⟩
  · have z := pe_bm0 (X := X) (cpos := pos) (apos := apos) PySem.F.plainAttrs_list PySem.F.slot_list_pop PySem.F.type_list_pop mt_pop (x1 X W fit tk) (hbase X.env) hline
    rw [fit.K] at z
    exact z
  refine x2 W ρ _ Ψ hw σ F H A rel _ (fun t vx B ρ1 F1 H1 A1 hk ra af => ?_) ex
  obtain ⟨ds, e0, hk⟩ := asLO_elim hk
  refine ⟨lst_here af.rel ra e0, ?_⟩
  obtain ⟨a, xs, ds', v, d, ρ', A', B', h1, h2, h3, h4, h5, h6, h7, h8⟩ := pop_ok (af.weak (m2 := false) fun e => by cases e) ra hk
  rw [e0] at h1
  cases h1
  rw [h2] at h5 h7 h8
  exact ⟨a, xs, v, h3, rfl, h4, h5, by rw [drop_erase]; exact q _ _ B' ρ' F1 _ A' h6 (.val h8) h7⟩
def wPopAt (q : Bool) (wx : WE) (wa : WA) : WE := fun ρ Φ Ψ => wx ρ (fun t ρ1 => (q || t.stable) = true ∧ asLO (deref ρ1 t) fun _ => wa ρ1 (fun us ρ2 => match us with
  | [u] => wd (deref ρ2 u) fun y => asI y fun i => asLO (deref ρ2 t) fun ds => (-(2 ^ 63) ≤ i ∧ i < 2 ^ 63) ∧ wd (ixN ds.length i) fun k => popD (deref ρ2 t) t ρ2 k fun d ρ3 => Φ (.val d) ρ3
  | _ => False) Ψ) Ψ
theorem de_popAt {o e : Expr} {wx : WE} {wa : WA} (hx : DE c m o wx) (ha : DA c m2 [e] wa)
    (hbase : ∀ env, attributeBase o "pop" env (eval o env) = eval o env := by intro _; rfl)
    (hfew : ∀ env, ((backTo pos (starEach [e] env)).all (fun x => !x.1) && (backToKw pos (keywordEach [] env)).all (fun x => x.1.isSome)
      && decide ([e].length + ([] : List Keyword).length + (if ([] : List Keyword).isEmpty then 0 else 1) < 30)) = true := by intro _; rfl)
    (hline : (apos.endLine == pos.line) = true := by rfl) (hs : ∀ env, starEach [e] env = (false, eval e env) :: starEach [] env := by intro _; rfl) (hplain : ∀ env, (backTo pos (starEach [] env)).any (·.1) = false := by intro _; rfl) :
    DE c false (.Call (.Attribute o "pop" apos) [e] [] pos) (wPopAt m2 wx wa) := by
  obtain ⟨tx, x1, x2⟩ := hx
  obtain ⟨ta, a1, a2⟩ := ha
  refine ⟨fun W => tBM c.K "list" rPopAt (tx W) (ta W), fun X W fit tk => ?_, fun W ρ Φ Ψ hw σ F H A rel Q q ex => ?_⟩
  · have z := pe_bm (X := X) (cpos := pos) (apos := apos) PySem.F.plainAttrs_list PySem.F.slot_list_pop PySem.F.type_list_pop mt_popAt (x1 X W fit tk) (a1 X W fit tk) (hbase X.env) (hfew X.env) hline (hs X.env) (hplain X.env)
    rw [fit.K] at z
    exact z
  refine x2 W ρ _ Ψ hw σ F H A rel _ (fun t vx B ρ1 F1 H1 A1 hk ra af => ?_) ex
  obtain ⟨st, hk⟩ := hk
  obtain ⟨_, e0, hk⟩ := asLO_elim hk
  refine ⟨lst_here af.rel ra e0, ?_⟩
  refine a2 W ρ1 _ Ψ hk σ F1 H1 A1 af.rel _ (fun us vs B2 ρ2 F2 H2 A2 hk rb af2 => ?_) (ex.aft af)
  match us, hk, rb with
  | [], hk, _ => exact hk.elim
  | _ :: _ :: _, hk, _ => exact hk.elim
  | [u], hk, rb =>
    obtain ⟨v, rfl, rc⟩ := rb.one_inv
    obtain ⟨y, e1, hk⟩ := wd_elim hk
    obtain ⟨i, rfl, hk⟩ := asI_elim hk
    obtain ⟨ds, e2, ⟨hi1, hi2⟩, hk⟩ := asLO_elim hk
    obtain ⟨k, e3, hk⟩ := wd_elim hk
    obtain ⟨_, ry, _, _⟩ := deref_rep af2.rel rc e1
    obtain ⟨rfl, _⟩ := ry.int_inv
    have ra2 := af2.repT ra af.ap (by simpa using st)
    have sq : Aft c.K false σ ρ A F H ρ2 A2 F2 H2 B2 := by
      have z := (af.weak (m2 := false) fun e => by cases e).less (List.nil_sublist B)
      simpa using z.seq0 af2
    obtain ⟨a, xs, ds', v, d, ρ', A', B', h1, h2, h3, h4, h5, h6, h7, h8⟩ := pop_ok sq ra2 hk
    rw [e2] at h1
    cases h1
    rw [h2] at e3
    exact ⟨a, xs, i, k, v, h3, rfl, h4, hi1, hi2, (ixN_seq e3).1, h5, q _ _ B' ρ' F2 _ A' h6 (.val h8) h7⟩

/-! ### xs[i] = e -/
def wSetIx (we wx wi : WE) : WS := fun D Ψ ρ => we ρ (fun u ρ1 => wd (elemT u ρ1) fun y => wx y.2 (fun t ρ2 => wi ρ2 (fun s ρ3 => wd (deref ρ3 s) fun z => asI z fun i => asLO (deref ρ3 t) fun ds => wd (ixN ds.length i) fun j => wd (placeT t) fun l => wd (setPlace ρ3 l.1 l.2 (.lst true (ds.set j y.1))) fun ρ4 => D.nx ρ4) Ψ) Ψ) Ψ
theorem RepT.pval {K : PySem.W.Frag} {F H : Hp} {σ : Sl} {d : D} {v : V} {B : Fp} (r : Rep K F H d v B) : RepT K F H σ (.val d) v B := .val r
theorem Reps.setAt {K : PySem.W.Frag} {F H : Hp} {ds : List D} {vs : List V} {A : Fp} (r : Reps K F H ds vs A) : ∀ {k : Nat} {d : D} {v : V} {B : Fp}, k < ds.length → Rep K F H d v B → ∃ C, Reps K F H (ds.set k d) (vs.set k v) C ∧ (∀ b, b ∈ C → b ∈ A ∨ b ∈ B) ∧ (A.Nodup → B.Nodup → (∀ a, a ∈ A → a ∉ B) → C.Nodup) := by
  induction ds generalizing vs A with
  | nil => intro k d v B e; simp at e
  | cons d0 ds ih =>
    intro k d v B e rd
    cases r with
    | @cons _ _ v0 vs A0 B0 _ r1 r2 e0 =>
      subst e0
      cases k with
      | zero =>
        refine ⟨B ++ B0, .cons rd r2 rfl, fun b m => ?_, fun n1 n2 dj => ?_⟩
        · rcases List.mem_append.mp m with m | m
          · exact .inr m
          · exact .inl (List.mem_append_right _ m)
        · exact nd_app n2 (List.nodup_append.mp n1).2.1 fun a m z => dj a (List.mem_append_right _ z) m
      | succ k =>
        obtain ⟨C, h1, h2, h3⟩ := ih r2 (k := k) (d := d) (v := v) (B := B) (by simpa using e) rd
        refine ⟨A0 ++ C, .cons r1 h1 rfl, fun b m => ?_, fun n1 n2 dj => ?_⟩
        · rcases List.mem_append.mp m with m | m
          · exact .inl (List.mem_append_left _ m)
          · exact (h2 b m).imp_left fun z => List.mem_append_right _ z
        · have n := List.nodup_append.mp n1
          refine nd_app n.1 (h3 n.2.1 n2 fun a m => dj a (List.mem_append_right _ m)) fun a m z => ?_
          rcases h2 a z with z | z
          · exact n.2.2 a m a z rfl
          · exact dj a (List.mem_append_left _ m) z
theorem ds_setIx {e o i : Expr} {we wx wi : WE} {p1 : Pos} (he : DE c m e we) (hx : DE c true o wx) (hi : DE c true i wi)
    (ha : ∀ env v, assign (.Subscript o i p1) env v = (do
      let ov ← holding [v] (eval o env)
      let iv ← holding [v, ov] (eval i env)
      standAt p1
      holding [v, ov, iv] (setItem ov iv v)
      release [v, ov, iv] []) := by intro _ _; rfl)
    (hs : ∀ env, swapsWithSole [.Subscript o i p1] e pos.line env = pure false := by intro _; rfl) (hw : ∀ env, swappedStores [.Subscript o i p1] e env = pure none := by intro _; rfl)
    (h1 : ∀ env, (assignEach [.Subscript o i p1] env).map (·.2) = [assign (.Subscript o i p1) env] := by intro _; rfl) : DS c [] (.Assign [.Subscript o i p1] e pos) (wSetIx we wx wi) := by
  obtain ⟨te, e1, e2⟩ := he
  obtain ⟨tx, x1, x2⟩ := hx
  obtain ⟨ti, i1, i2⟩ := hi
  refine ⟨fun W => tAsg (te W) (gSub (tx W) (ti W) rSetL), fun X W fit tk => ps_asg (e1 X W fit.fit tk) (pg_sub (x1 X W fit.fit tk) (i1 X W fit.fit tk) set_list (ha X.env)) (hs X.env) (hw X.env) (h1 X.env), fun W Dd Ψ ρ hw σ F H A rel Dq q ex => ?_⟩
  refine e2 W ρ _ Ψ hw σ F H A rel _ (fun u v B ρ1 F1 H1 A1 hk ra af => ?_) ex.expr
  obtain ⟨⟨d, ρ2⟩, g1, hk⟩ := wd_elim hk
  obtain ⟨F2, A2, B2, af2, r2⟩ := elem_ok af ra g1
  have ex2 := ex.expr.aft af2
  refine x2 W ρ2 _ Ψ hk σ F2 H1 A2 af2.rel _ (fun t vx B3 ρ3 F3 H3 A3 hk rx af3 => ?_) ex2
  refine i2 W ρ3 _ Ψ hk σ F3 H3 A3 af3.rel _ (fun s vi B4 ρ4 F4 H4 A4 hk rs af4 => ?_) (ex2.aft af3)
  obtain ⟨z, g2, hk⟩ := wd_elim hk
  obtain ⟨n, rfl, hk⟩ := asI_elim hk
  obtain ⟨ds, g3, hk⟩ := asLO_elim hk
  obtain ⟨j, g4, hk⟩ := wd_elim hk
  obtain ⟨⟨a1, p⟩, g5, hk⟩ := wd_elim hk
  obtain ⟨ρ5, g6, hk⟩ := wd_elim hk
  obtain ⟨_, rn, _, _⟩ := deref_rep af4.rel rs g2
  obtain ⟨rfl, _⟩ := rn.int_inv
  have rx4 := af4.repT rx af3.ap (.inl rfl)
  have rt : RepT c.K F4 H4 σ t vx [] := rx4.place g5
  have s3 := af2.seq (af3.less (List.nil_sublist B3)) r2.foot
  have s4 := s3.seq (af4.less (List.nil_sublist B4)) (by simpa using ((af3.rep r2 af2.ap).foot))
  have sq : Aft c.K false σ ρ A F H ρ4 A4 F4 H4 B2 := by simpa using s4
  have r4 : Rep c.K F4 H4 d v B2 := af4.rep (af3.rep r2 af2.ap) fun a z => by
    have q := s3.ap a (List.mem_append_left _ z)
    exact q
  obtain ⟨a, xs, C, rfl, hH, rs2, nC, dj, go⟩ := mut_aft sq rt g5 g3
  have hj : j < ds.length := (ixN_seq g4).2.1
  obtain ⟨C', k1, k2, k3⟩ := rs2.setAt hj r4
  obtain ⟨ρ', A', g7, af5, _⟩ := go (xs.set j v) (ds.set j d) C' .non .non [] k1 .non (k3 nC sq.nd dj) List.nodup_nil k2 (fun b m => (List.not_mem_nil m).elim)
  rw [g6] at g7
  cases g7
  refine ⟨a, xs, n, j, rfl, rfl, hH, by rw [← rs2.length]; exact g4, q.nx ρ5 σ F4 _ A' hk af5.rel (Ext.loud af5).drop Ag.refl⟩

/-! ### target = e, the thing frozen -/
def wTgF (wg : WG) (wa : WE) : WS := fun D Ψ ρ => wa ρ (fun t ρ1 => wd (frzT t ρ1) fun q => wg q.1 q.2 fun ρ2 => D.nx ρ2) Ψ
theorem ds_tgF {tg e : Expr} {sl : List Nat} {wg : WG} {wa : WE} (he : DE c m e wa) (hg : DG c sl tg wg) (hs : ∀ env, swapsWithSole [tg] e pos.line env = pure false := by intro _; rfl) (hw : ∀ env, swappedStores [tg] e env = pure none := by intro _; rfl)
    (h1 : ∀ env, (assignEach [tg] env).map (·.2) = [assign tg env] := by intro _; rfl) : DS c sl (.Assign [tg] e pos) (wTgF wg wa) := by
  obtain ⟨te, e1, e2⟩ := he
  obtain ⟨g, g1, g2⟩ := hg
  refine ⟨fun W => tAsg (te W) g, fun X W fit tk => ps_asg (e1 X W fit.fit tk) (g1 X fit.fit) (hs X.env) (hw X.env) (h1 X.env), fun W Dd Ψ ρ hw σ F H A rel Dq q ex => ?_⟩
  refine e2 W ρ _ Ψ hw σ F H A rel _ (fun t v B ρ1 F1 H1 A1 hk ra af => ?_) ex.expr
  obtain ⟨⟨d, ρ2⟩, e, hk⟩ := wd_elim hk
  obtain ⟨F2, A2, af2, r2⟩ := af.frz1 ra e
  refine g2 d ρ2 _ hk σ F2 H1 A2 v af2.rel r2 _ fun ρ' σ' A' hk' rel' sub ag => ?_
  exact q.nx ρ' σ' F2 H1 A' hk' rel' ((Ext.loud af2).drop.le sub) ⟨ag.1, ag.2⟩

/-! ### x, y = a, b with plain names, the things moved -/
def storeD : List Nat → List D → DEnv → Option DEnv
  | [], [], ρ => some ρ
  | i :: is, d :: ds, ρ => if i < ρ.length then storeD is ds (ρ.set i (some d)) else none
  | _, _, _ => none
def storeV : List Nat → List V → Sl → Sl
  | i :: is, v :: vs, σ => storeV is vs (σ.set i (some v))
  | _, _, σ => σ
theorem store_all {K : PySem.W.Frag} {F H : Hp} : ∀ (is : List Nat) {ds : List D} {vs : List V} {ρ ρ' : DEnv} {σ : Sl} {A C : Fp}, SRel K F H ρ σ A → Reps K F H ds vs C → C.Nodup → (∀ a, a ∈ C → a ∉ A) → storeD is ds ρ = some ρ' →
    ∃ A', SRel K F H ρ' (storeV is vs σ) A' ∧ (∀ a, a ∈ A' → a ∈ A ∨ a ∈ C) ∧ Ag is σ (storeV is vs σ)
  | [], [], vs, ρ, ρ', σ, A, C, rel, r, nd, ap, h => by
    cases h
    cases r
    exact ⟨A, rel, fun a m => .inl m, Ag.refl⟩
  | [], _ :: _, _, _, _, _, _, _, _, _, _, _, h => by cases h
  | _ :: _, [], _, _, _, _, _, _, _, _, _, _, h => by cases h
  | i :: is, d :: ds, vs, ρ, ρ', σ, A, C, rel, r, nd, ap, h => by
    cases r with
    | @cons _ _ v vs A0 B0 _ r1 r2 e =>
      subst e
      unfold storeD at h
      split at h
      · rename_i hl
        have n1 := List.nodup_append.mp nd
        obtain ⟨A1, rel1, s1⟩ := rel.store hl r1 n1.1 fun a m => ap a (List.mem_append_left _ m)
        obtain ⟨A2, rel2, s2, ag2⟩ := store_all is rel1 r2 n1.2.1 (fun a m z => by
          rcases s1 a z with z | z
          · exact ap a (List.mem_append_right _ m) z
          · exact n1.2.2 a z a m rfl) h
        refine ⟨A2, rel2, fun a m => ?_, ?_⟩
        · rcases s2 a m with z | z
          · exact (s1 a z).imp_right fun y => List.mem_append_left _ y
          · exact .inr (List.mem_append_right _ z)
        · have z := (Ag.set (i := i) (v := some v) (σ := σ)).trans ag2
          exact z.mono fun j hj => by simpa using hj
      · cases h
def wPar (is : List Nat) (wa : WA) : WS := fun D Ψ ρ => wa ρ (fun ts ρ1 => wd (takeTs (is.map fun _ => true) ts ρ1) fun q => wd (storeD is q.1 q.2.2) fun ρ2 => D.nx ρ2) Ψ
theorem par_ok {is : List Nat} {D0 : DEnds} {Dq : Ends} {σ : Sl} {ρ ρ1 : DEnv} {A A1 B : Fp} {F H F1 H1 : Hp} {ts : List T} {vs : List V} (hk : wd (takeTs (is.map fun _ => true) ts ρ1) fun q => wd (storeD is q.1 q.2.2) fun ρ2 => D0.nx ρ2)
    (af : Aft c.K m σ ρ A F H ρ1 A1 F1 H1 B) (ra : RepTs c.K F1 H1 σ ts vs B) (q : EndsOk c.K is D0 Dq σ A F H) : Dq.nx (storeV is vs σ) H1 := by
  obtain ⟨⟨ds, os, ρ2⟩, e, hk⟩ := wd_elim hk
  obtain ⟨ρ3, e2, hk⟩ := wd_elim hk
  obtain ⟨F2, A2, C, rel2, rds, ndC, apC, ext2, sub2, _⟩ := takeTs_ok _ ts ra af.rel af.nd af.ap e
  obtain ⟨A3, rel3, s3, ag3⟩ := store_all is rel2 rds ndC apC e2
  refine q.nx ρ3 _ F2 H1 A3 hk rel3 (((Ext.loud af).seq0 ext2).le fun a m => ?_) ag3
  rcases s3 a m with z | z
  · exact List.mem_append_left _ z
  · exact List.mem_append_right _ z
theorem ds_par (i j : Nat) {x y : Str} {a b : Expr} {wa : WA} {px py pt : Pos} {kt k2 pt2} (hNd : c.N.Nodup) (ha : DA c m [a, b] wa) (hij : i ≠ j := by decide) (hi : c.N[i]? = some x := by rfl) (hj : c.N[j]? = some y := by rfl) (hx : c.sc.names.lookup x = some .local := by rfl) (hy : c.sc.names.lookup y = some .local := by rfl)
    (hw : ∀ env, env.scope = c.sc → swappedStores [.Tuple [.Name x px, .Name y py] kt pt] (.Tuple [a, b] k2 pt2) env = pure (some [x, y]))
    (hs : ∀ env, swapsWithSole [.Tuple [.Name x px, .Name y py] kt pt] (.Tuple [a, b] k2 pt2) pos.line env = pure false := by intro _; rfl) : DS c [i, j] (.Assign [.Tuple [.Name x px, .Name y py] kt pt] (.Tuple [a, b] k2 pt2) pos) (wPar [i, j] wa) := by
  obtain ⟨ta, a1, a2⟩ := ha
  refine ⟨fun W => tPar i j (ta W), fun X W fit tk => ?_, fun W Dd Ψ ρ hw σ F H A rel Dq q ex => ?_⟩
  · have e1 := fit.fit.N
    have e2 := fit.fit.sc
    exact ps_par fit.fit.calm (by rw [e1]; exact hNd) (by rw [e1]; exact hi) (by rw [e1]; exact hj) hij (by rw [e2]; exact hx) (by rw [e2]; exact hy) (a1 X W fit.fit tk) (hw X.env e2) (hs X.env)
  refine a2 W ρ _ Ψ hw σ F H A rel _ (fun ts vs B ρ1 F1 H1 A1 hk ra af => ?_) ex.expr
  have z := par_ok hk af ra q
  obtain ⟨⟨ds, os, ρ2⟩, e, hk⟩ := wd_elim hk
  obtain ⟨ρ3, e2, hk⟩ := wd_elim hk
  have hl : ds.length = vs.length := (takeTs_ok _ ts ra af.rel af.nd af.ap e).elim fun _ h => h.elim fun _ h => h.elim fun _ h => h.2.1.length
  match ds, vs, hl, e2, z with
  | [_, _], [v, w], _, _, z => exact ⟨v, w, rfl, z⟩
  | [], _, _, e2, _ => cases e2
  | [_], _, _, e2, _ =>
    exfalso
    unfold storeD at e2
    split at e2
    · cases e2
    · cases e2
  | _ :: _ :: _ :: _, _, _, e2, _ =>
    exfalso
    unfold storeD at e2
    split at e2
    · unfold storeD at e2
      split at e2
      · cases e2
      · cases e2
    · cases e2
theorem ds_par3 (i j l : Nat) {x y z : Str} {a b d : Expr} {wa : WA} {px py pz pt : Pos} {kt k2 pt2} (hNd : c.N.Nodup) (ha : DA c m [a, b, d] wa) (hij : i ≠ j := by decide) (hil : i ≠ l := by decide) (hjl : j ≠ l := by decide) (hi : c.N[i]? = some x := by rfl) (hj : c.N[j]? = some y := by rfl) (hl : c.N[l]? = some z := by rfl)
    (hx : c.sc.names.lookup x = some .local := by rfl) (hy : c.sc.names.lookup y = some .local := by rfl) (hz : c.sc.names.lookup z = some .local := by rfl)
    (hw : ∀ env, env.scope = c.sc → swappedStores [.Tuple [.Name x px, .Name y py, .Name z pz] kt pt] (.Tuple [a, b, d] k2 pt2) env = pure (some [x, y, z]))
    (hs : ∀ env, swapsWithSole [.Tuple [.Name x px, .Name y py, .Name z pz] kt pt] (.Tuple [a, b, d] k2 pt2) pos.line env = pure false := by intro _; rfl) : DS c [i, j, l] (.Assign [.Tuple [.Name x px, .Name y py, .Name z pz] kt pt] (.Tuple [a, b, d] k2 pt2) pos) (wPar [i, j, l] wa) := by
  obtain ⟨ta, a1, a2⟩ := ha
  refine ⟨fun W => tPar3 i j l (ta W), fun X W fit tk => ?_, fun W Dd Ψ ρ hw σ F H A rel Dq q ex => ?_⟩
  · have e1 := fit.fit.N
    have e2 := fit.fit.sc
    exact ps_par3 fit.fit.calm (by rw [e1]; exact hNd) (by rw [e1]; exact hi) (by rw [e1]; exact hj) (by rw [e1]; exact hl) hij hil hjl (by rw [e2]; exact hx) (by rw [e2]; exact hy) (by rw [e2]; exact hz) (a1 X W fit.fit tk) (hw X.env e2) (hs X.env)
  refine a2 W ρ _ Ψ hw σ F H A rel _ (fun ts vs B ρ1 F1 H1 A1 hk ra af => ?_) ex.expr
  have z := par_ok hk af ra q
  obtain ⟨⟨ds, os, ρ2⟩, e, hk⟩ := wd_elim hk
  obtain ⟨ρ3, e2, hk⟩ := wd_elim hk
  have hl : ds.length = vs.length := (takeTs_ok _ ts ra af.rel af.nd af.ap e).elim fun _ h => h.elim fun _ h => h.elim fun _ h => h.2.1.length
  match ds, vs, hl, e2, z with
  | [_, _, _], [u, v, w], _, _, z => exact ⟨u, v, w, rfl, z⟩
  | [], _, _, e2, _ => cases e2
  | [_], _, _, e2, _ =>
    exfalso
    unfold storeD at e2
    split at e2 <;> cases e2
  | [_, _], _, _, e2, _ =>
    exfalso
    unfold storeD at e2
    split at e2
    · unfold storeD at e2
      split at e2 <;> cases e2
    · cases e2
  | _ :: _ :: _ :: _ :: _, _, _, e2, _ =>
    exfalso
    unfold storeD at e2
    split at e2
    · unfold storeD at e2
      split at e2
      · unfold storeD at e2
        split at e2 <;> cases e2
      · cases e2
    · cases e2

/-! ### y = [e for ..] -/
theorem ds_setLc (i : Nat) {y : Str} {py : Pos} {elt tg iter : Expr} {ifs : List Expr} {scope : Scope} {own : List (Str × Nat)} {p1 : Pos} {wi : WI} {wg : WG} {wt : WT} {we : WE} {sl : List Nat} (hNd : c.N.Nodup) (hk : c.sc.kind = .function) (ok : BlkOk c.N c.sc scope own) (hi : DI c tg iter wi)
    (hg : DG (c.blk scope) sl tg wg) (hsl : ∀ i, i ∈ sl → i ∈ own.map (·.2)) (ht : DTs (c.blk scope) ifs wt) (he : DE (c.blk scope) m elt we) (hy : c.N[i]? = some y := by rfl) (hyl : c.sc.names.lookup y = some .local := by rfl) (hl : (py.line == p1.line) = true := by rfl)
    (ho : (scope.names.any fun (n, k) => n == y && (k == .local || k == .cell)) = false := by decide +kernel) (hs : ∀ env x, foldedSetIterable iter env x = pure x := by intro _ _; rfl) :
    DS c [i] (.Assign [.Name y py] (.ListComp elt [⟨tg, iter, ifs, 0⟩] scope p1) pos) (wAsg i (wLc (own.map (·.2)) wi wg wt we)) := by
  obtain ⟨ti, hi1, hi2⟩ := hi
  obtain ⟨g, hg1, hg2⟩ := hg
  obtain ⟨tt, ht1, ht2⟩ := ht
  obtain ⟨te, he1, he2⟩ := he
  refine ⟨fun W => tAsg (tLc (ti W) g (tt noW) (te noW) (own.map (·.2))) (gName i), fun X W fit tk => ?_, fun W => snd_asg (snd_lc (hi2 W) hg2 hsl (ht2 _) (he2 _))⟩
  have e1 := fit.fit.N
  have e2 := fit.fit.sc
  exact ps_setLc fit.fit.calm (by rw [e1]; exact hNd) (by rw [e1]; exact hy) (by rw [e2]; exact hyl) (sw_true (by rw [e2]; exact hk) (by rw [e2]; exact hyl) hl ho) (hi1 X W fit.fit tk) (by rw [e1, e2]; exact ok) (fun s H C cl fp => hg1 _ (fit.fit.blk s H scope C cl fp)) (fun s H C cl fp => ht1 _ _ (fit.fit.blk s H scope C cl fp) takes_blk)
    (fun s H C cl fp => he1 _ _ (fit.fit.blk s H scope C cl fp) takes_blk) (hs X.env)

/-! ### a < b < d -/
def wChain (q : Bool) (f g : Op2) (wa wb wc : WE) : WE := fun ρ Φ Ψ => wa ρ (fun ta ρ1 => (q || ta.stable) = true ∧ wb ρ1 (fun tb ρ2 => wd (deref ρ2 ta) fun x => wd (deref ρ2 tb) fun y => f x y fun d => asB d fun k => if k = true then
  wc ρ2 (fun tc ρ3 => wd (deref ρ3 tb) fun y => wd (deref ρ3 tc) fun z => g y z fun d => Φ (.val d) ρ3) Ψ else Φ (.val (.bl false)) ρ2) Ψ) Ψ
theorem snd_chain {ta tb tc : TE} {wa wb wc : WE} {r r2 : R2} {f g : Op2} (ha : SndE c m W ta wa) (hb : SndE c m2 W tb wb) (hc : SndE c true W tc wc) (hf : OpS2 c.K r f) (hg : OpS2 c.K r2 g) : SndE c (m && m2) W (tChain r r2 ta tb tc) (wChain m2 f g wa wb wc) := by
  intro ρ Φ Ψ hw σ F H A rel Q q ex
  refine ha ρ _ Ψ hw σ F H A rel _ (fun ta va B ρ1 F1 H1 A1 hk ra af => ?_) ex
  obtain ⟨st, hk⟩ := hk
  refine hb ρ1 _ Ψ hk σ F1 H1 A1 af.rel _ (fun tb vb B2 ρ2 F2 H2 A2 hk rb af2 => ?_) (ex.aft af)
  obtain ⟨x, ex1, hk⟩ := wd_elim hk
  obtain ⟨y, ey, hk⟩ := wd_elim hk
  have ra2 := af2.repT ra af.ap (by simpa using st)
  obtain ⟨_, rx, _, _⟩ := deref_rep af2.rel ra2 ex1
  obtain ⟨_, ry, _, _⟩ := deref_rep af2.rel rb ey
  have sq := af.seq af2 ra.foot
  refine hf x y _ hk F2 H2 va vb _ _ af2.rel.le rx ry _ fun d v B3 F3 H3 hk3 r3 n3 e3 l3 => ?_
  obtain ⟨k, ek, hk9⟩ := asB_elim hk3
  clear hk3
  subst ek
  have hk3 := hk9
  clear hk9
  obtain ⟨rfl, _⟩ := r3.bl_inv
  refine ⟨k, rfl, ?_⟩
  have af3 := sq.pure e3 l3 n3
  cases k with
  | false =>
    rw [if_neg Bool.false_ne_true] at hk3 ⊢
    exact q _ _ B3 ρ2 F3 H3 A2 hk3 (.val r3) af3
  | true =>
    rw [if_pos rfl] at hk3 ⊢
    have af23 : Aft c.K true σ ρ2 A2 F2 H2 ρ2 A2 F3 H3 B3 := by
      have z := (Aft.refl (σ := σ) (m := true) af2.rel).pure e3 l3 n3
      exact z
    have rb3 : RepT c.K F3 H3 σ tb vb B2 := af23.repT rb af2.ap (.inl rfl)
    have afb := (sq.less (List.sublist_append_right B B2)).seq af23 rb.foot
    rw [Bool.and_true] at afb
    refine hc ρ2 _ Ψ hk3 σ F3 H3 A2 af3.rel _ (fun tc vc B4 ρ4 F4 H4 A4 hk4 rc af4 => ?_) (ex.aft af3)
    obtain ⟨y', ey', hk4⟩ := wd_elim hk4
    obtain ⟨z, ez, hk4⟩ := wd_elim hk4
    have rb4 := af4.repT rb3 (fun a m => af2.ap a m) (.inl rfl)
    obtain ⟨_, ry4, _, _⟩ := deref_rep af4.rel rb4 ey'
    obtain ⟨_, rz4, _, _⟩ := deref_rep af4.rel rc ez
    have af5 := (af3.less (List.nil_sublist B3)).seq0 af4
    rw [Bool.and_true] at af5
    exact hg y' z _ hk4 F4 H4 vb vc _ _ af4.rel.le ry4 rz4 Q fun d v B6 F6 H6 hΦ r n e l => q _ v B6 ρ4 F6 H6 A4 hΦ (.val r) (af5.pure e l n)
theorem de_chain {op op2 : CmpOp} {a b d : Expr} {wa wb wc : WE} {r r2 : PySem.W.Frag → R2} {f g : Op2} (ho : ∀ X, Fits c X → OpR X (compareOp op) (r X.K)) (ho2 : ∀ X, Fits c X → OpR X (compareOp op2) (r2 X.K)) (hf : OpS2 c.K (r c.K) f) (hg : OpS2 c.K (r2 c.K) g) (ha : DE c m a wa) (hb : DE c m2 b wb) (hd : DE c true d wc)
    (hm : lastMarks [op, op2] [b, d] = false := by with_unfolding_all rfl) : DE c (m && m2) (.Compare a [op, op2] [b, d] pos) (wChain m2 f g wa wb wc) := by
  obtain ⟨ta, ha1, ha2⟩ := ha
  obtain ⟨tb, hb1, hb2⟩ := hb
  obtain ⟨tc, hc1, hc2⟩ := hd
  refine ⟨fun W => tChain (r c.K) (r2 c.K) (ta W) (tb W) (tc W), fun X W fit tk => ?_, fun W => snd_chain (ha2 W) (hb2 W) (hc2 W) hf hg⟩
  have z := ho X fit
  have z2 := ho2 X fit
  rw [fit.K] at z z2
  exact pe_chain z z2 (ha1 X W fit tk) (hb1 X W fit tk) (hc1 X W fit tk) hm
theorem dt_chain {op op2 : CmpOp} {a b d : Expr} {wa wb wc : WE} {r r2 : PySem.W.Frag → R2} {f g : Op2} (ho : ∀ X, Fits c X → OpR X (compareOp op) (r X.K)) (ho2 : ∀ X, Fits c X → OpR X (compareOp op2) (r2 X.K)) (hf : OpS2 c.K (r c.K) f) (hg : OpS2 c.K (r2 c.K) g) (ha : DE c m a wa) (hb : DE c m2 b wb) (hd : DE c true d wc)
    (hm : lastMarks [op, op2] [b, d] = false := by with_unfolding_all rfl) : DT c (m && m2) (.Compare a [op, op2] [b, d] pos) (wTest (wChain m2 f g wa wb wc)) := by
  obtain ⟨ta, ha1, ha2⟩ := ha
  obtain ⟨tb, hb1, hb2⟩ := hb
  obtain ⟨tc, hc1, hc2⟩ := hd
  refine ⟨fun W => tTest (tChain (r c.K) (r2 c.K) (ta W) (tb W) (tc W)), fun X W fit tk => ?_, fun W => snd_test (snd_chain (ha2 W) (hb2 W) (hc2 W) hf hg)⟩
  have z := ho X fit
  have z2 := ho2 X fit
  rw [fit.K] at z z2
  exact pt_chain z z2 (ha1 X W fit tk) (hb1 X W fit tk) (hc1 X W fit tk) hm
end
end DL

set_option maxHeartbeats 200000
/-! DLF: calls with keywords, comprehensions with two for, join -/
namespace DL
open PySem PySem.Spec PyProof.Rows L2

/-! ### calls with keywords -/
def permL {α : Type} (p : List Nat) (l : List α) : List α := p.filterMap fun i => l[i]?
theorem permL_map {α β : Type} (f : α → β) (p : List Nat) (l : List α) : permL p (l.map f) = (permL p l).map f := by
  unfold permL
  rw [List.map_filterMap]
  congr 1
  funext i
  simp
theorem permL_range {α : Type} (l : List α) : (List.range l.length).filterMap (fun i => l[i]?) = l := by
  induction l with
  | nil => rfl
  | cons x l ih =>
    rw [List.length_cons, List.range_succ_eq_map, List.filterMap_cons_some (b := x) (by rfl), List.filterMap_map]
    congr 1
theorem permL_perm {α : Type} {p : List Nat} {l : List α} (h : p.Perm (List.range l.length)) : (permL p l).Perm l := by
  have z := h.filterMap (fun i => l[i]?)
  rw [permL_range] at z
  exact z
section
variable {K : PySem.W.Frag} {F H : Hp} {σ : Sl}
theorem RepTs.split {ts : List T} {vs : List V} {B : Fp} (r : RepTs K F H σ ts vs B) : ∃ L : List (T × V × Fp), ts = L.map (·.1) ∧ vs = L.map (·.2.1) ∧ B = (L.map (·.2.2)).flatten ∧ ∀ x ∈ L, RepT K F H σ x.1 x.2.1 x.2.2 := by
  induction r with
  | nil => exact ⟨[], rfl, rfl, rfl, fun x h => (List.not_mem_nil h).elim⟩
  | @cons t ts v vs A B C r1 r2 e ih =>
    obtain ⟨L, h1, h2, h3, h4⟩ := ih
    refine ⟨(t, v, A) :: L, by rw [h1]; rfl, by rw [h2]; rfl, by rw [e, h3]; rfl, fun x hx => ?_⟩
    rcases List.mem_cons.mp hx with z | z
    · rw [z]; exact r1
    · exact h4 x z
theorem RepTs.join : ∀ (L : List (T × V × Fp)), (∀ x ∈ L, RepT K F H σ x.1 x.2.1 x.2.2) → RepTs K F H σ (L.map (·.1)) (L.map (·.2.1)) (L.map (·.2.2)).flatten
  | [], _ => .nil
  | x :: L, h => .cons (h x List.mem_cons_self) (RepTs.join L fun y m => h y (List.mem_cons_of_mem _ m)) rfl
theorem RepTs.perm {ts : List T} {vs : List V} {B : Fp} {p : List Nat} (r : RepTs K F H σ ts vs B) (hp : p.Perm (List.range ts.length)) : ∃ B', RepTs K F H σ (permL p ts) (permL p vs) B' ∧ B'.Perm B := by
  obtain ⟨L, rfl, rfl, rfl, h4⟩ := r.split
  rw [List.length_map] at hp
  have q := permL_perm hp
  rw [permL_map, permL_map]
  exact ⟨_, RepTs.join (permL p L) fun x m => h4 x (q.mem_iff.mp m), (q.map _).flatten⟩
theorem RepTs.append {ts us : List T} {vs ws : List V} {A B : Fp} (r : RepTs K F H σ ts vs A) (s : RepTs K F H σ us ws B) : RepTs K F H σ (ts ++ us) (vs ++ ws) (A ++ B) := by
  induction r with
  | nil => exact s
  | cons r1 r2 e ih => exact .cons r1 ih (by rw [e, List.append_assoc])
theorem RepTs.foot {ts : List T} {vs : List V} {A : Fp} (r : RepTs K F H σ ts vs A) : ∀ a, a ∈ A → (∃ o, H a = some o) ∧ F a = none := by
  induction r with
  | nil => intro a m; cases m
  | cons r1 _ e ih =>
    intro a m
    subst e
    rcases List.mem_append.mp m with m | m
    · exact r1.foot a m
    · exact ih a m
end
theorem Aft.repTs {K : PySem.W.Frag} {m : Bool} {σ : Sl} {ρ ρ1 : DEnv} {A A1 B : Fp} {F H F1 H1 : Hp} {ts : List T} {vs : List V} {B0 : Fp} (x : Aft K m σ ρ A F H ρ1 A1 F1 H1 B) (r : RepTs K F H σ ts vs B0) : (∀ a, a ∈ B0 → a ∉ A) → (m = true ∨ ts.all T.stable = true) → RepTs K F1 H1 σ ts vs B0 := by
  induction r with
  | nil => intro _ _; exact .nil
  | cons r1 r2 e ih =>
    intro n h
    refine .cons (x.repT r1 (fun a m => n a (by rw [e]; exact List.mem_append_left _ m)) (h.imp_right fun z => ?_)) (ih (fun a m => n a (by rw [e]; exact List.mem_append_right _ m)) (h.imp_right fun z => ?_)) e
    · rw [List.all_cons] at z
      exact (Bool.and_eq_true_iff.mp z).1
    · rw [List.all_cons] at z
      exact (Bool.and_eq_true_iff.mp z).2
theorem Aft.perm {K : PySem.W.Frag} {m : Bool} {σ : Sl} {ρ ρ1 : DEnv} {A A1 B B' : Fp} {F H F1 H1 : Hp} (x : Aft K m σ ρ A F H ρ1 A1 F1 H1 B) (p : B'.Perm B) : Aft K m σ ρ A F H ρ1 A1 F1 H1 B' :=
  ⟨x.rel, x.ext.le fun a q => by
    rcases List.mem_append.mp q with q | q
    · exact List.mem_append_left _ q
    · exact List.mem_append_right _ (p.mem_iff.mp q), x.qt, p.nodup_iff.mpr x.nd, fun a q => x.ap a (p.mem_iff.mp q)⟩
/-- the values of keywords -/
def DK (c : SC) (m : Bool) (kws : List Keyword) (w : WA) : Prop := ∃ t : WX → TA, (∀ X W, Fits c X → Takes X W → PK X kws (t W)) ∧ ∀ W, SndA c m W (t W) w
section
variable {c : SC} {m m2 : Bool} {W : WX}
theorem dk_nil : DK c true [] wNil := ⟨fun _ => tNil, fun _ _ _ _ => pk_nil, fun W ρ Φ Ψ hw σ F H A rel Q q _ => q [] [] [] ρ F H A hw .nil (Aft.refl rel)⟩
theorem dk_cons {nm : Option Str} {kp : Pos} {e : Expr} {kws : List Keyword} {wa : WE} {wr : WA} (ha : DE c m e wa) (hr : DK c m2 kws wr) : DK c (m && m2) (⟨nm, e, kp⟩ :: kws) (wCons m2 wa wr) := by
  obtain ⟨ta, ha1, ha2⟩ := ha
  obtain ⟨tr, hr1, hr2⟩ := hr
  refine ⟨fun W => tCons (ta W) (tr W), fun X W fit tk => pk_cons (ha1 X W fit tk) (hr1 X W fit tk), fun W ρ Φ Ψ hw σ F H A rel Q q ex => ?_⟩
  refine ha2 W ρ _ Ψ hw σ F H A rel _ (fun t v B ρ1 F1 H1 A1 hk ra af => ?_) ex
  obtain ⟨st, hk⟩ := hk
  refine hr2 W ρ1 _ Ψ hk σ F1 H1 A1 af.rel _ (fun ts vs B2 ρ2 F2 H2 A2 hk rr af2 => ?_) (ex.aft af)
  exact q (t :: ts) (v :: vs) (B ++ B2) ρ2 F2 H2 A2 hk (.cons (af2.repT ra af.ap (by simpa using st)) rr rfl) (af.seq af2 ra.foot)
/-- a call of a def, the arguments in the parameters' order -/
def wCallP (io : List Bool) (p : List Nat) (fs : FS) (wa : WA) : WE := fun ρ Φ Ψ => wa ρ (fun ts ρ1 => p.isPerm (List.range ts.length) = true ∧ wd (takeTs io (permL p ts) ρ1) fun q => (q.2.1.filterMap id).Nodup ∧ fs q.1 (fun d ds' => Φ (.val d) (putBack q.2.1 ds' q.2.2)) (fun x ds' => Ψ x (putBack q.2.1 ds' q.2.2))) Ψ
theorem call_core {io : List Bool} {fs : FS} {σ : Sl} {ρ ρ1 : DEnv} {A A1 B : Fp} {F H F1 H1 : Hp} {ts : List T} {vs : List V} {Φ : T → DEnv → Prop} {Ψ : PsiE} {Q : VK} (af : Aft c.K m σ ρ A F H ρ1 A1 F1 H1 B) (ra : RepTs c.K F1 H1 σ ts vs B)
    (hk : wd (takeTs io ts ρ1) fun q => (q.2.1.filterMap id).Nodup ∧ fs q.1 (fun d ds' => Φ (.val d) (putBack q.2.1 ds' q.2.2)) (fun x ds' => Ψ x (putBack q.2.1 ds' q.2.2)))
    (q : ∀ x v B ρ' F' H' A', Φ x ρ' → RepT c.K F' H' σ x v B → Aft c.K false σ ρ A F H ρ' A' F' H' B → Q v H') (ex : ExcOk c.K c.mg W Ψ σ A F H) : spOf c.K c.mg io fs vs H1 Q (L2.WE W σ) := by
  obtain ⟨⟨ds, os, ρ2⟩, e, nn, hk⟩ := wd_elim hk
  have x1 := Ext.loud af
  obtain ⟨F2, A2, C, rel2, rds, ndC, apC, ext2, sub2, io2, wb2, no2, _⟩ := takeTs_ok io ts ra af.rel af.nd af.ap e
  have x2 : Ext A F H (A2 ++ C) F2 H1 := x1.seq0 ext2
  refine ⟨F2, ds, C, _, _, rel2.le, rds, ndC, io2, hk, fun d ds' v F' H' B' C' hΦ rd rds' nd' e' l' => ?_, fun x cls dd ds' F' H' C' hΨ rx rds' nd' e' l' => ?_⟩
  · -- the value
    have n1 := List.nodup_append.mp nd'
    have envA : SRel c.K F' H' ρ2 σ A2 := ⟨l', e'.env rel2.env fun a m z => apC a z m, rel2.nd⟩
    have st := e'.stays rel2.env.foot (fun a m z => apC a z m)
    obtain ⟨A3, rel3, s3⟩ := putBack_ok os envA rds' n1.1 (fun a m z => st.2.2 a z (List.mem_append_left _ m)) wb2 no2 nn
    have x3 := Ext.trans (B1 := A2) x2 e' (fun a m => List.mem_append_right _ m) (fun a m => List.mem_append_left _ m)
    refine q _ v B' _ F' H' A3 hΦ (.val rd) ⟨rel3, x3.le fun a m => ?_, (fun e => by cases e), n1.2.1, fun a m z => ?_⟩
    · rcases List.mem_append.mp m with m | m
      · rcases s3 a m with z | z
        · exact List.mem_append_right _ z
        · exact List.mem_append_left _ (List.mem_append_left _ z)
      · exact List.mem_append_left _ (List.mem_append_right _ m)
    · rcases s3 a z with z | z
      · exact st.2.2 a z (List.mem_append_right _ m)
      · exact n1.2.2 a z a m rfl
  · -- an exception
    have envA : SRel c.K F' H' ρ2 σ A2 := ⟨l', e'.env rel2.env fun a m z => apC a z m, rel2.nd⟩
    have st := e'.stays rel2.env.foot (fun a m z => apC a z m)
    obtain ⟨A3, rel3, s3⟩ := putBack_ok os envA rds' nd' (fun a m z => st.2.2 a z m) wb2 no2 nn
    have x3 := Ext.trans (B1 := A2) x2 e' (fun a m => List.mem_append_right _ m) (fun a m => List.mem_append_left _ m)
    refine ex x cls dd _ F' H' A3 hΨ rx rel3 (x3.le fun a m => ?_)
    rcases s3 a m with z | z
    · exact List.mem_append_right _ z
    · exact List.mem_append_left _ z
theorem RepTs.length {K : PySem.W.Frag} {F H : Hp} {σ : Sl} {ts : List T} {vs : List V} {B : Fp} (r : RepTs K F H σ ts vs B) : ts.length = vs.length := by
  induction r with
  | nil => rfl
  | cons _ _ _ ih => simp [ih]
/-- positional ones first, then keywords -/
def wBoth (n : Nat) (q : Bool) (wa wk : WA) : WA := fun ρ Φ Ψ => wa ρ (fun ts ρ1 => ts.length = n ∧ (q || ts.all T.stable) = true ∧ wk ρ1 (fun us ρ2 => Φ (ts ++ us) ρ2) Ψ) Ψ
end
section
variable {X : Cx} {CX : CXT} {k n : Nat} {f : Addr} {fd : FuncData} {ps ks : List Str} {sp : Sp} {E : Sl → XK} {x : Str} {p pos : Pos} {e : Expr} {es : List Expr} {kws : List Keyword} {t tk : TA} {g : List Value → List Value → List Value} {gV : List V → List V → List V}
def tCallNS (n m : Nat) (sp : Sp) (gV : List V → List V → List V) (E : Sl → XK) (t tk : TA) : TE := fun σ H Q => t σ H fun vs H1 => tk σ H1 fun zs H2 => vs.length = n ∧ zs.length = m ∧ sp (gV vs zs) H2 Q (E σ)
theorem run_fnNS {pins : List (Addr × Obj)} {σ : Sl} {H : Hp} {s : Shared} {Q : VK} {us ws : List Value} {vs zs : List V} (F : FnOk X.prog X.w X.K X.mg X.base CX k f fd ps sp) (hr : Room k X.A) (hb : KBn X.K fd ps n ks g gV) (hx : PassesAt CX X σ (E σ))
    (I : Inv X pins σ H s) (r : Vals vs us) (rz : Vals zs ws) (l1 : vs.length = n) (l2 : zs.length = ks.length) (h : sp (gV vs zs) H Q (E σ)) : wpAny (model X.prog X.w) X.A (call (.ref f) us (ks.zip ws)) (EP X pins σ Q) X.xe s := by
  have r2 := hb.rel r rz
  refine wpAny_call (codeAny_mono (F.run X.A X.stack s H ⟨us, ks.zip ws⟩ (g us ws) (gV vs zs) Q (E σ) hr I.env0 (hb.to s us ws I.kIn (r.length.symm.trans l1) (rz.length.symm.trans l2)) r2 h) fun r s' hq => ?_)
  cases r with
  | error e => exact hx pins H s e s' I hq
  | ok fl =>
    cases fl with
    | ret u => exact I.after hq
    | next => exact False.elim hq
    | brk => exact False.elim hq
    | cont => exact False.elim hq
theorem pe_callNS (F : FnOk X.prog X.w X.K X.mg X.base CX k f fd ps sp) (hr : Room k X.A) (hg : Gl X x) (hm : X.mg x = some (.ref f)) (hk : PySem.W.keepIn X.K (.ref f) = true) (hb : KBn X.K fd ps n ks g gV) (hx : ∀ σ, PassesAt CX X σ (E σ))
    (ha : PA X (e :: es) t) (hkw : PK X kws tk) (hall : (backToKw pos (keywordEach kws X.env)).all (·.1.isSome) = true) (hks : (backToKw pos (keywordEach kws X.env)).filterMap (·.1) = ks)
    (hdb : (x == ("__debug__" : Str)) = false) (he : starEach (e :: es) X.env = (false, eval e X.env) :: starEach es X.env)
    (hpl : ((backTo pos (starEach (e :: es) X.env)).any (·.1) || (backToKw pos (keywordEach kws X.env)).any (·.1.isNone)) = false) :
    PE X (.Call (.Name x p) (e :: es) kws pos) (tCallNS n ks.length sp gV E t tk) := by
  refine ⟨fun pins s σ H Q I h => ?_⟩
  refine wpAny_Call_Name_kw (ld_glob I hg hm ?_ hdb)
  refine PySem.W.callWith_KW (h₀ := X.base) I.ok.mod.kin hk hall (thn (ha.run pos pins s σ H _ I h) fun us s1 ⟨vs, H1, I1, r, q⟩ => ?_) hpl he
  refine thn (hkw.run pos pins s1 σ H1 _ I1 q) fun ws s2 ⟨zs, H2, I2, rz, l1, l2, q2⟩ => ⟨I2.kIn, ?_⟩
  rw [hks]
  exact run_fnNS F hr hb (hx σ) I2 r rz l1 l2 q2
theorem pe_callNS0 (F : FnOk X.prog X.w X.K X.mg X.base CX k f fd ps sp) (hr : Room k X.A) (hg : Gl X x) (hm : X.mg x = some (.ref f)) (hk : PySem.W.keepIn X.K (.ref f) = true) (hb : KBn X.K fd ps 0 ks g gV) (hx : ∀ σ, PassesAt CX X σ (E σ))
    (hkw : PK X kws tk) (hall : (backToKw pos (keywordEach kws X.env)).all (·.1.isSome) = true) (hks : (backToKw pos (keywordEach kws X.env)).filterMap (·.1) = ks)
    (hdb : (x == ("__debug__" : Str)) = false) (hpl : ((backTo pos (starEach [] X.env)).any (·.1) || (backToKw pos (keywordEach kws X.env)).any (·.1.isNone)) = false) :
    PE X (.Call (.Name x p) [] kws pos) (tCallNS 0 ks.length sp gV E tNil tk) := by
  refine ⟨fun pins s σ H Q I h => ?_⟩
  refine wpAny_Call_Name_kw (ld_glob I hg hm ?_ hdb)
  refine PySem.W.callWith_KW0 (h₀ := X.base) I.ok.mod.kin hk hall (thn (hkw.run pos pins s σ H _ I h) fun ws s2 ⟨zs, H2, I2, rz, l1, l2, q2⟩ => ⟨I2.kIn, ?_⟩) hpl
  rw [hks]
  exact run_fnNS F hr hb (hx σ) I2 .nil rz l1 l2 q2
end
theorem permVals {vs : List V} {us : List Value} (p : List Nat) (r : Vals vs us) : Vals (permL p vs) (permL p us) := by
  have get : ∀ {vs : List V} {us : List Value}, Vals vs us → ∀ i : Nat, (vs[i]? = none ∧ us[i]? = none) ∨ ∃ v u, vs[i]? = some v ∧ us[i]? = some u ∧ RelV v u := by
    intro vs us r
    induction r with
    | nil => intro i; exact .inl ⟨by simp, by simp⟩
    | cons h _ ih =>
      intro i
      cases i with
      | zero => exact .inr ⟨_, _, rfl, rfl, h⟩
      | succ i => simpa using ih i
  unfold permL
  induction p with
  | nil => exact .nil
  | cons i p ih =>
    rcases get r i with ⟨h1, h2⟩ | ⟨v, u, h1, h2, h3⟩
    · rw [List.filterMap_cons_none h1, List.filterMap_cons_none h2]; exact ih
    · rw [List.filterMap_cons_some h1, List.filterMap_cons_some h2]; exact .cons h3 ih
/-- how keywords bind: p says where the parameters' values stand among those written -/
def KwOk (fd : FuncData) (ps : List Str) (n : Nat) (ks : List Str) (p : List Nat) : Prop := ∀ us ws : List Value, us.length = n → ws.length = ks.length → bindArgs fd ⟨us, ks.zip ws⟩ = pure (ps.zip (permL p (us ++ ws)))
theorem KwOk.kbn {K : PySem.W.Frag} {fd : FuncData} {ps ks : List Str} {n : Nat} {p : List Nat} (h : KwOk fd ps n ks p) : KBn K fd ps n ks (fun us ws => permL p (us ++ ws)) (fun vs zs => permL p (vs ++ zs)) :=
  ⟨fun s us ws _ h1 h2 => BindsTo.of_eq (h us ws h1 h2), fun r rz => permVals p (r.append rz)⟩
section
variable {c : SC} {m m2 : Bool} {W : WX}
theorem snd_callK {io : List Bool} {p : List Nat} {fs : FS} {wa wk : WA} {ta tk : TA} {n k : Nat} (hp : p.length = n + k) (ha : SndA c m W ta wa) (hk : SndA c m2 W tk wk) : SndE c false W (tCallNS n k (spOf c.K c.mg io fs) (fun vs zs => permL p (vs ++ zs)) (L2.WE W) ta tk) (wCallP io p fs (wBoth n m2 wa wk)) := by
  intro ρ Φ Ψ hw σ F H A rel Q q ex
  refine ha ρ _ Ψ hw σ F H A rel _ (fun ts vs B ρ1 F1 H1 A1 hh ra af => ?_) ex
  obtain ⟨hn, st, hh⟩ := hh
  refine hk ρ1 _ Ψ hh σ F1 H1 A1 af.rel _ (fun us zs B2 ρ2 F2 H2 A2 hh rb af2 => ?_) (ex.aft af)
  obtain ⟨hpm, hh⟩ := hh
  have r2 := (af2.repTs ra af.ap (by simpa using st)).append rb
  have sq := af.seq af2 ra.foot
  have hpm' := List.isPerm_iff.mp hpm
  obtain ⟨B', r', pm⟩ := r2.perm hpm'
  have l1 := ra.length
  have l2 := rb.length
  have l3 := hpm'.length_eq
  rw [List.length_range, List.length_append] at l3
  exact ⟨by omega, by omega, call_core (sq.perm pm) r' hh q ex⟩
theorem de_callK {k n : Nat} {f : Addr} {fd : FuncData} {ps ks : List Str} {io : List Bool} {pm : List Nat} {fs : FS} {x : Str} {p pos : Pos} {e : Expr} {es : List Expr} {kws : List Keyword} {wa wk : WA} (G : FnOk c.P c.w c.K c.mg c.base (L2.CX c.P c.w) k f fd ps (spOf c.K c.mg io fs)) (hk : k ≤ c.room) (hm : c.mg x = some (.ref f)) (kp : PySem.W.keepIn c.K (.ref f) = true)
    (hb : KwOk fd ps n ks pm) (ha : DA c m (e :: es) wa) (hkw : DK c m2 kws wk) (hl : pm.length = n + ks.length := by rfl) (hg : GlC c.sc x := by rfl) (hdb : (x == ("__debug__" : Str)) = false := by decide)
    (hall : ∀ env, (backToKw pos (keywordEach kws env)).all (·.1.isSome) = true := by intro _; rfl) (hks : ∀ env, (backToKw pos (keywordEach kws env)).filterMap (·.1) = ks := by intro _; rfl)
    (he : ∀ env, starEach (e :: es) env = (false, eval e env) :: starEach es env := by intro _; rfl)
    (hpl : ∀ env, ((backTo pos (starEach (e :: es) env)).any (·.1) || (backToKw pos (keywordEach kws env)).any (·.1.isNone)) = false := by intro _; rfl) : DE c false (.Call (.Name x p) (e :: es) kws pos) (wCallP io pm fs (wBoth n m2 wa wk)) := by
  obtain ⟨ta, h1, h2⟩ := ha
  obtain ⟨tk, k1, k2⟩ := hkw
  refine ⟨fun W => tCallNS n ks.length (spOf c.K c.mg io fs) (fun vs zs => permL pm (vs ++ zs)) (L2.WE W) (ta W) (tk W), fun X W fit tk => ?_, fun W => snd_callK hl (h2 W) (k2 W)⟩
  have z := fit
  obtain ⟨e1, e2, e3, e4, e5, e6, e7, e8, e9, e10⟩ := z
  refine pe_callNS (k := k) (f := f) (fd := fd) (ps := ps) (CX := L2.CX X.prog X.w) (g := fun us ws => permL pm (us ++ ws)) ?_ (e9.mono hk) (gl_of fit hg) (by rw [e4]; exact hm) (by rw [e3]; exact kp) hb.kbn (fun σ => passAt tk σ) (h1 X W fit tk) (k1 X W fit tk) (hall X.env) (hks X.env) hdb (he X.env) (hpl X.env)
  rw [e1, e2, e3, e4, e5]
  exact G
theorem snd_nil : SndA c true W tNil wNil := fun ρ Φ Ψ hw σ F H A rel Q q _ => q [] [] [] ρ F H A hw .nil (Aft.refl rel)
theorem de_callK0 {k : Nat} {f : Addr} {fd : FuncData} {ps ks : List Str} {io : List Bool} {pm : List Nat} {fs : FS} {x : Str} {p pos : Pos} {kws : List Keyword} {wk : WA} (G : FnOk c.P c.w c.K c.mg c.base (L2.CX c.P c.w) k f fd ps (spOf c.K c.mg io fs)) (hk : k ≤ c.room) (hm : c.mg x = some (.ref f)) (kp : PySem.W.keepIn c.K (.ref f) = true)
    (hb : KwOk fd ps 0 ks pm) (hkw : DK c m2 kws wk) (hl : pm.length = 0 + ks.length := by rfl) (hg : GlC c.sc x := by rfl) (hdb : (x == ("__debug__" : Str)) = false := by decide)
    (hall : ∀ env, (backToKw pos (keywordEach kws env)).all (·.1.isSome) = true := by intro _; rfl) (hks : ∀ env, (backToKw pos (keywordEach kws env)).filterMap (·.1) = ks := by intro _; rfl)
    (hpl : ∀ env, ((backTo pos (starEach [] env)).any (·.1) || (backToKw pos (keywordEach kws env)).any (·.1.isNone)) = false := by intro _; rfl) : DE c false (.Call (.Name x p) [] kws pos) (wCallP io pm fs (wBoth 0 m2 wNil wk)) := by
  obtain ⟨tk, k1, k2⟩ := hkw
  refine ⟨fun W => tCallNS 0 ks.length (spOf c.K c.mg io fs) (fun vs zs => permL pm (vs ++ zs)) (L2.WE W) tNil (tk W), fun X W fit tk => ?_, fun W => snd_callK hl snd_nil (k2 W)⟩
  have z := fit
  obtain ⟨e1, e2, e3, e4, e5, e6, e7, e8, e9, e10⟩ := z
  refine pe_callNS0 (k := k) (f := f) (fd := fd) (ps := ps) (CX := L2.CX X.prog X.w) (g := fun us ws => permL pm (us ++ ws)) ?_ (e9.mono hk) (gl_of fit hg) (by rw [e4]; exact hm) (by rw [e3]; exact kp) hb.kbn (fun σ => passAt tk σ) (k1 X W fit tk) (hall X.env) (hks X.env) hdb (hpl X.env)
  rw [e1, e2, e3, e4, e5]
  exact G

/-! ### comprehensions with two for -/
theorem lc_it1 {J : It} {n : Nat} {G : Hp → Prop} {Y : Nat → Hp → V → Hp → Prop} (w : Walk J n G Y) {g : TG} {tt : TT} {te : TE} {vs : List Nat} {σ : Sl} {H1 : Hp} {D : Addr} {Qd : Hp → Prop} (Pv : Nat → Hp → Prop) (h0 : Pv 0 H1) (hG : ∀ i H, i ≤ n → Pv i H → G H)
    (hs : ∀ i x H H', i < n → Pv i H → Y i H x H' → g x (wipe σ vs) H' fun σ2 H2 => wipe σ2 vs = wipe σ vs ∧ tt σ2 H2 fun b H3 =>
      if b = true then te σ2 H3 fun y H4 => ∃ acc, H4 D = some (.lst acc) ∧ acc.length < sizeLine ∧ Pv (i + 1) (upd H4 D (.lst (acc ++ [y]))) else Pv (i + 1) H3) (hd : ∀ H, Pv n H → Qd H) :
    ∃ W : Nat → Nat → Hp → Prop, (∃ m, W 0 m H1) ∧ ∀ i m H, W i m H →
      (J.stop i H ∧ Qd H) ∨ (J.go i H ∧ ∃ Nx : Hp → Prop, (∀ H', Nx H' → ∃ m', m' < m ∧ W (i + 1) m' H') ∧ ∀ x H', J.yld i H x H' → g x (wipe σ vs) H' fun σ2 H2 => wipe σ2 vs = wipe σ vs ∧ tt σ2 H2 fun b H3 =>
        if b = true then te σ2 H3 fun y H4 => ∃ acc, H4 D = some (.lst acc) ∧ acc.length < sizeLine ∧ Nx (upd H4 D (.lst (acc ++ [y]))) else Nx H3) := by
  refine ⟨fun i m H => m = n - i ∧ i ≤ n ∧ Pv i H, ⟨n, by simp, Nat.zero_le _, h0⟩, ?_⟩
  rintro i m H ⟨rfl, hi, p⟩
  have q := hG i H hi p
  by_cases hlt : i < n
  · refine .inr ⟨w.goes i H hlt q, Pv (i + 1), fun H' p' => ⟨n - (i + 1), by omega, rfl, hlt, p'⟩, fun x H' y => hs i x H H' hlt p (w.yields i H x H' hlt q y)⟩
  · have e : i = n := by omega
    subst e
    exact .inl ⟨w.stops H q, hd H p⟩
def lcGo2 (vs vs1 : List Nat) (wg : WG) (wt : WT) (wi1 : WI) (wg1 : WG) (wt1 : WT) (we : WE) (k : List D → DEnv → Prop) : List D → DEnv → List D → Prop
  | [], ρ, acc => k acc ρ
  | d :: ds, ρ, acc => wg d ρ fun ρ1 => wt ρ1 (fun b ρ2 => if b = true then wi1 ρ2 (fun ds1 ρ3 => lcGo vs1 wg1 wt1 we (fun acc' ρ' => lcGo2 vs vs1 wg wt wi1 wg1 wt1 we k ds (wipeD ρ' vs) acc') ds1 (wipeD ρ3 vs1) acc) noPsi else lcGo2 vs vs1 wg wt wi1 wg1 wt1 we k ds (wipeD ρ2 vs) acc) noPsi
def wLc2 (vs vs1 : List Nat) (wi : WI) (wg : WG) (wt : WT) (wi1 : WI) (wg1 : WG) (wt1 : WT) (we : WE) : WE := fun ρ Φ Ψ => wi ρ (fun ds ρ1 => lcGo2 vs vs1 wg wt wi1 wg1 wt1 we (fun ys ρ2 => Φ (.val (.lst true ys)) ρ2) ds (wipeD ρ1 vs) []) Ψ
theorem wipe_sub {σ σ' : Sl} {vs : List Nat} (h : ∀ i, i ∉ vs → σ'[i]? = σ[i]?) (hl : σ'.length = σ.length) : wipe σ' vs = wipe σ vs := wipe_eq hl h
theorem snd_lc2 {scope : Scope} {vs vs1 sl sl1 : List Nat} {wi wi1 : WI} {wg wg1 : WG} {wt wt1 : WT} {we : WE} {ti ti1 : TI} {g g1 : TG} {tt tt1 : TT} {te : TE} (hi2 : SndI c W ti wi) (hg2 : SndG (c.blk scope) sl g wg) (hsl : ∀ i, i ∈ sl → i ∈ vs) (hv1 : ∀ i, i ∈ vs1 → i ∈ vs)
    (ht2 : SndT (c.blk scope) false noW tt wt) (hi12 : SndI (c.blk scope) noW ti1 wi1) (hg12 : SndG (c.blk scope) sl1 g1 wg1) (hsl1 : ∀ i, i ∈ sl1 → i ∈ vs1) (ht12 : SndT (c.blk scope) false noW tt1 wt1) (he2 : SndE (c.blk scope) m noW te we) :
    SndE c false W (tLc2 ti g tt ti1 g1 tt1 te vs vs1) (wLc2 vs vs1 wi wg wt wi1 wg1 wt1 we) := by
  intro ρ Φ Ψ hw σ F H A rel Q q ex
  refine hi2 ρ _ Ψ hw σ F H A rel _ (fun ds ρ1 F1 H1 A1 J hk af wk => ?_) ex
  intro Dd hD
  obtain ⟨G, Y, w, hG, hY⟩ := wk
  have hF1 : F1 Dd = none := by
    cases e : F1 Dd with
    | none => rfl
    | some o => rw [af.rel.le _ _ e] at hD; cases hD
  obtain ⟨A2, r2, r2', s2⟩ := af.rel.wipe vs
  have ext0 : Ext A1 F1 H1 (A2 ++ [Dd]) F1 (upd H1 Dd (.lst [])) := ⟨Le.refl _, fun a o h _ => by rw [upd_ne (ne_of_none h hD)]; exact h, fun a m => by
    rcases List.mem_append.mp m with m | m
    · exact .inl (s2 a m)
    · rw [List.mem_singleton.mp m]; exact .inr hD, fun a o h => .inl h⟩
  have nA : Dd ∉ A2 := fun z => by
    obtain ⟨⟨o, ho⟩, _⟩ := r2.env.foot Dd z
    rw [hD] at ho; cases ho
  have I0 : LcI c.K A1 F1 H1 Dd [] F1 A2 (upd H1 Dd (.lst [])) := ⟨[], [], upd_same, hF1, .nil, List.not_mem_nil, ext0, by simp, fun a m => by rw [List.mem_singleton.mp m]; exact nA⟩
  have r20 : SRel c.K F1 (upd H1 Dd (.lst [])) (wipeD ρ1 vs) (wipe σ vs) A2 := r2.keeps ⟨Le.refl _, fun a o h _ => by rw [upd_ne (ne_of_none h hD)]; exact h, fun a m => (List.not_mem_nil m).elim, fun a o h => .inl h⟩ (r2.le.new hD)
  have less0 : ∀ {F H F' H' : Hp} {A' : Fp}, Ext [] F H [] F' H' → Ext A' F H (A' ++ []) F' H' := fun e2 => ⟨e2.frz, fun a o h _ => e2.keep a o h List.not_mem_nil, fun a m => .inl (by simpa using m), fun a o h => (e2.newf a o h).imp_right fun z => z.elim (fun z => (List.not_mem_nil z).elim) .inr⟩
  have hN0 : ∀ (i : Nat) (P : Hp → Prop), True := fun _ _ => trivial
  -- outer
  let Pv : Nat → Hp → Prop := fun i H => ∃ ρ' acc F' A', lcGo2 vs vs1 wg wt wi1 wg1 wt1 we (fun ys ρ2 => Φ (.val (.lst true ys)) ρ2) (ds.drop i) ρ' acc ∧ (∀ (i : Nat) (d : D), ρ'[i]? = some (some d) → i ∉ vs) ∧ SRel c.K F' H ρ' (wipe σ vs) A' ∧ LcI c.K A1 F1 H1 Dd acc F' A' H ∧ Le F1 F'
  refine ⟨fun i m H => m = ds.length - i ∧ i ≤ ds.length ∧ Pv i H, ⟨ds.length, by simp, Nat.zero_le _, _, [], F1, A2, by simpa using hk, wipeD_none _ _, r20, I0, Le.refl _⟩, ?_⟩
  rintro i mm H ⟨rfl, hi, p⟩
  have qG : G H := by
    obtain ⟨_, _, F', _, _, _, rel', _, l⟩ := p
    exact hG H (l.trans rel'.le)
  by_cases hlt : i < ds.length
  · refine .inr ⟨w.goes i H hlt qG, Pv (i + 1), fun H' p' => ⟨ds.length - (i + 1), by omega, rfl, hlt, p'⟩, fun x H' yy => ?_⟩
    have y := w.yields i H x H' hlt qG yy
    obtain ⟨ρ', acc, F', A', go, nv, rel', I, l⟩ := p
    have hd : ds[i]? = some ds[i] := List.getElem?_eq_getElem hlt
    obtain ⟨F2, rd, e2, l2⟩ := hY F' H i x H' ds[i] l rel'.le hd y
    rw [drop_cons hd] at go
    have rel2 : SRel c.K F2 H' ρ' (wipe σ vs) A' := rel'.keeps e2 l2
    have I2 := (I.step (A1 := A') (B1 := []) (less0 e2)).1
    refine hg2 _ ρ' _ go (wipe σ vs) F2 H' A' x rel2 rd _ fun ρ3 σ3 A3 hk3 rel3 sub3 ag3 => ?_
    have ew := wipe_wipe hsl ag3
    have wipe_to : ∀ {ρ' : DEnv} {A' : Fp} {F' H' : Hp}, SRel c.K F' H' ρ' σ3 A' → ∃ A'', SRel c.K F' H' (wipeD ρ' vs) (wipe σ vs) A'' ∧ ∀ a, a ∈ A'' → a ∈ A' := fun r => by
      obtain ⟨A'', r1, _, s⟩ := r.wipe vs
      rw [ew] at r1
      exact ⟨A'', r1, s⟩
    refine ⟨ew, ht2 ρ3 _ noPsi hk3 σ3 F2 H' A3 rel3 _ (fun b ρ4 F4 H4 A4 hk4 af4 => ?_) excOk_no⟩
    have I3 := I2.less sub3
    have I4 := (I3.step (B1 := []) (Ext.loud af4)).1
    cases b with
    | false =>
      rw [if_neg Bool.false_ne_true] at hk4 ⊢
      obtain ⟨A5, r5, s5⟩ := wipe_to af4.rel
      exact ⟨_, _, F4, A5, hk4, wipeD_none _ vs, r5, I4.less s5, l.trans (e2.frz.trans af4.ext.frz)⟩
    | true =>
      rw [if_pos rfl] at hk4 ⊢
      refine hi12 ρ4 _ noPsi hk4 σ3 F4 H4 A4 af4.rel _ (fun ds1 ρ5 F5 H5 A5 J1 hk5 af5 wk1 => ?_) excOk_no
      have I5 := (I4.step (B1 := []) (Ext.loud af5)).1
      obtain ⟨G1, Y1, w1, hG1, hY1⟩ := wk1
      obtain ⟨A6, r6, _, s6⟩ := af5.rel.wipe vs1
      have l5 : Le F1 F5 := l.trans (e2.frz.trans (af4.ext.frz.trans af5.ext.frz))
      refine lc_it1 w1 (fun j H => ∃ ρ' acc F' A', lcGo vs1 wg1 wt1 we (fun acc' ρ' => lcGo2 vs vs1 wg wt wi1 wg1 wt1 we (fun ys ρ2 => Φ (.val (.lst true ys)) ρ2) (ds.drop (i + 1)) (wipeD ρ' vs) acc') (ds1.drop j) ρ' acc ∧ (∀ (i : Nat) (d : D), ρ'[i]? = some (some d) → i ∉ vs1) ∧ SRel c.K F' H ρ' (wipe σ3 vs1) A' ∧ LcI c.K A1 F1 H1 Dd acc F' A' H ∧ Le F5 F')
        ⟨_, acc, F5, A6, by simpa using hk5, wipeD_none _ _, r6, I5.less s6, Le.refl _⟩ (fun j H _ ⟨_, _, F', _, _, _, rel', _, l⟩ => hG1 H (l.trans rel'.le)) (fun j x H H' hj ⟨ρ', acc, F', A', go, nv, rel', I, l'⟩ y => ?_) (fun H ⟨ρ', acc, F', A', go, nv, rel', I, l'⟩ => ?_)
      · have hd1 : ds1[j]? = some ds1[j] := List.getElem?_eq_getElem hj
        obtain ⟨F7, rd7, e7, l7⟩ := hY1 F' H j x H' ds1[j] l' rel'.le hd1 y
        rw [drop_cons hd1] at go
        have rel7 : SRel c.K F7 H' ρ' (wipe σ3 vs1) A' := rel'.keeps e7 l7
        have I7 := (I.step (A1 := A') (B1 := []) (less0 e7)).1
        exact lc_turn (cb := c.blk scope) hsl1 hg12 ht12 he2 go rel7 rd7 I7 _ fun ρ3 acc3 F3 A3 H3 go3 nv3 rel3 I3 l3 => ⟨ρ3, acc3, F3, A3, go3, nv3, rel3, I3, l'.trans (e7.frz.trans l3)⟩
      · rw [List.drop_length] at go
        have relS : SRel c.K F' H ρ' σ3 A' := rel'.unwipe (ρ0 := ρ') nv
        obtain ⟨A8, r8, s8⟩ := wipe_to relS
        exact ⟨_, _, F', A8, go, wipeD_none _ vs, r8, I.less s8, l5.trans l'⟩
  · have e : i = ds.length := by omega
    subst e
    obtain ⟨ρ', acc, F', A', go, nv, rel', I, l⟩ := p
    refine .inl ⟨w.stops H qG, ?_⟩
    rw [List.drop_length] at go
    obtain ⟨xs, B, hD2, hF2, ra, nD, ext2, nd2, ap2⟩ := I.ex
    have go' : Φ (.val (.lst true acc)) ρ' := go
    have relS : SRel c.K F' H ρ' σ A' := rel'.unwipe (ρ0 := ρ') nv
    refine q _ _ (Dd :: B) ρ' F' H A' go' (.val (.lstO hD2 hF2 ra rfl)) ⟨relS, ?_, (fun e => by cases e), nd2, ap2⟩
    have z := Ext.trans (B1 := []) af.ext ext2 (fun a m => by simpa [E] using m) (fun a m => (List.not_mem_nil m).elim)
    simpa [E] using z
theorem de_lc2 {elt tg iter tg1 iter1 : Expr} {ifs ifs1 : List Expr} {scope : Scope} {own : List (Str × Nat)} {vs1 : List Nat} {pos : Pos} {wi wi1 : WI} {wg wg1 : WG} {wt wt1 : WT} {we : WE} {sl sl1 : List Nat} (hNd : c.N.Nodup) (ok : BlkOk c.N c.sc scope own) (hv1 : ∀ i, i ∈ vs1 → i ∈ own.map (·.2)) (hi : DI c tg iter wi)
    (hg : DG (c.blk scope) sl tg wg) (hsl : ∀ i, i ∈ sl → i ∈ own.map (·.2)) (ht : DTs (c.blk scope) ifs wt) (hi1 : DI (c.blk scope) tg1 iter1 wi1) (hg1 : DG (c.blk scope) sl1 tg1 wg1) (hsl1 : ∀ i, i ∈ sl1 → i ∈ vs1) (ht1 : DTs (c.blk scope) ifs1 wt1) (he : DE (c.blk scope) m elt we)
    (hs : ∀ env x, foldedSetIterable iter env x = pure x := by intro _ _; rfl) (hs1 : ∀ env x, foldedSetIterable iter1 env x = pure x := by intro _ _; rfl) :
    DE c false (.ListComp elt [⟨tg, iter, ifs, 0⟩, ⟨tg1, iter1, ifs1, 0⟩] scope pos) (wLc2 (own.map (·.2)) vs1 wi wg wt wi1 wg1 wt1 we) := by
  obtain ⟨ti, hi1a, hi2⟩ := hi
  obtain ⟨g, hg1a, hg2⟩ := hg
  obtain ⟨tt, ht1a, ht2⟩ := ht
  obtain ⟨ti1, hi1b, hi12⟩ := hi1
  obtain ⟨g1, hg1b, hg12⟩ := hg1
  obtain ⟨tt1, ht1b, ht12⟩ := ht1
  obtain ⟨te, he1, he2⟩ := he
  refine ⟨fun W => tLc2 (ti W) g (tt noW) (ti1 noW) g1 (tt1 noW) (te noW) (own.map (·.2)) vs1, fun X W fit tk => ?_, fun W => snd_lc2 (hi2 W) hg2 hsl hv1 (ht2 _) (hi12 _) hg12 hsl1 (ht12 _) (he2 _)⟩
  exact pe_lc2 fit.calm (by rw [fit.N]; exact hNd) (hi1a X W fit tk) (by rw [fit.N, fit.sc]; exact ok) hv1 (fun s H C cl fp => hg1a _ (fit.blk s H scope C cl fp)) (fun s H C cl fp => ht1a _ _ (fit.blk s H scope C cl fp) takes_blk)
    (fun s H C cl fp => hi1b _ _ (fit.blk s H scope C cl fp) takes_blk) (fun s H C cl fp => hg1b _ (fit.blk s H scope C cl fp)) (fun s H C cl fp => ht1b _ _ (fit.blk s H scope C cl fp) takes_blk)
      (fun s H C cl fp => he1 _ _ (fit.blk s H scope C cl fp) takes_blk) (hs X.env) hs1
theorem ds_setLc2 (i : Nat) {y : Str} {py : Pos} {elt tg iter tg1 iter1 : Expr} {ifs ifs1 : List Expr} {scope : Scope} {own : List (Str × Nat)} {vs1 : List Nat} {p1 pos : Pos} {wi wi1 : WI} {wg wg1 : WG} {wt wt1 : WT} {we : WE} {sl sl1 : List Nat} (hNd : c.N.Nodup) (hk : c.sc.kind = .function) (ok : BlkOk c.N c.sc scope own) (hv1 : ∀ i, i ∈ vs1 → i ∈ own.map (·.2)) (hi : DI c tg iter wi)
    (hg : DG (c.blk scope) sl tg wg) (hsl : ∀ i, i ∈ sl → i ∈ own.map (·.2)) (ht : DTs (c.blk scope) ifs wt) (hi1 : DI (c.blk scope) tg1 iter1 wi1) (hg1 : DG (c.blk scope) sl1 tg1 wg1) (hsl1 : ∀ i, i ∈ sl1 → i ∈ vs1) (ht1 : DTs (c.blk scope) ifs1 wt1) (he : DE (c.blk scope) m elt we)
    (hy : c.N[i]? = some y := by rfl) (hyl : c.sc.names.lookup y = some .local := by rfl) (hl : (py.line == p1.line) = true := by rfl)
    (ho : (scope.names.any fun (n, k) => n == y && (k == .local || k == .cell)) = false := by decide +kernel)
    (hs : ∀ env x, foldedSetIterable iter env x = pure x := by intro _ _; rfl) (hs1 : ∀ env x, foldedSetIterable iter1 env x = pure x := by intro _ _; rfl) :
    DS c [i] (.Assign [.Name y py] (.ListComp elt [⟨tg, iter, ifs, 0⟩, ⟨tg1, iter1, ifs1, 0⟩] scope p1) pos) (wAsg i (wLc2 (own.map (·.2)) vs1 wi wg wt wi1 wg1 wt1 we)) := by
  obtain ⟨ti, hi1a, hi2⟩ := hi
  obtain ⟨g, hg1a, hg2⟩ := hg
  obtain ⟨tt, ht1a, ht2⟩ := ht
  obtain ⟨ti1, hi1b, hi12⟩ := hi1
  obtain ⟨g1, hg1b, hg12⟩ := hg1
  obtain ⟨tt1, ht1b, ht12⟩ := ht1
  obtain ⟨te, he1, he2⟩ := he
  refine ⟨fun W => tAsg (tLc2 (ti W) g (tt noW) (ti1 noW) g1 (tt1 noW) (te noW) (own.map (·.2)) vs1) (gName i), fun X W fit tk => ?_, fun W => snd_asg (snd_lc2 (hi2 W) hg2 hsl hv1 (ht2 _) (hi12 _) hg12 hsl1 (ht12 _) (he2 _))⟩
  have e1 := fit.fit.N
  have e2 := fit.fit.sc
  have fit := fit.fit
  exact ps_setLc2 fit.calm (by rw [e1]; exact hNd) (by rw [e1]; exact hy) (by rw [e2]; exact hyl) (sw_true (by rw [e2]; exact hk) (by rw [e2]; exact hyl) hl ho) (hi1a X W fit tk) (by rw [e1, e2]; exact ok) hv1 (fun s H C cl fp => hg1a _ (fit.blk s H scope C cl fp)) (fun s H C cl fp => ht1a _ _ (fit.blk s H scope C cl fp) takes_blk)
    (fun s H C cl fp => hi1b _ _ (fit.blk s H scope C cl fp) takes_blk) (fun s H C cl fp => hg1b _ (fit.blk s H scope C cl fp)) (fun s H C cl fp => ht1b _ _ (fit.blk s H scope C cl fp) takes_blk)
      (fun s H C cl fp => he1 _ _ (fit.blk s H scope C cl fp) takes_blk) (hs X.env) hs1

/-! ### 'x'.join(xs) -/
def opJoin : Op2 := fun x y k => match x with
  | .str a => wd (seqD y) fun ds => wd (asStrs ds) fun ys => (ys.map (·.length)).sum + ys.length * a.length ≤ 16777216 ∧ k (.str (Txt.join a ys))
  | _ => False
end
end DL

set_option maxHeartbeats 200000
/-! DLG: list(range), comprehensions to a cell, several names among them cells, join, defs together -/
namespace DL
open PySem PySem.Spec PyProof.Rows L2

section
variable {c : SC} {m m2 : Bool} {W : WX}
/-! ### list(range(..)) -/
theorem rg_reps {K : PySem.W.Frag} {F H : Hp} (a : Int) : ∀ n : Nat, Reps K F H ((List.range n).map fun i => D.int (a + (i : Nat))) ((List.range n).map fun i => V.int (a + (i : Nat))) [] := by
  intro n
  induction n with
  | zero => exact .nil
  | succ n ih =>
    rw [List.range_succ, List.map_append, List.map_append]
    exact ih.append (B := []) (.cons (.int _) .nil rfl)
def rgOk2 (a b : Int) : Prop := L2.RgOk a b
def wListRg1 (wa : WE) : WE := fun ρ Φ Ψ => wa ρ (fun t ρ1 => wd (deref ρ1 t) fun d => asI d fun n => rgOk2 0 n ∧ Φ (.val (.lst true (rangeD 0 (n - 0).toNat))) ρ1) Ψ
theorem de_listRg1 {a : Expr} {wa : WE} {p p2 pos p3 : Pos} (ha : DE c m a wa) (hg : GlC c.sc "range") (hm : c.mg "range" = none) (hg2 : GlC c.sc "list") (hm2 : c.mg "list" = none) (na : ∀ env, starEach [a] env = (false, eval a env) :: starEach [] env := by intro _; rfl)
    (nb : ∀ env, starEach [.Call (.Name "range" p) [a] [] p2] env = (false, eval (.Call (.Name "range" p) [a] [] p2) env) :: starEach [] env := by intro _; rfl) : DE c m (.Call (.Name "list" p3) [.Call (.Name "range" p) [a] [] p2] [] pos) (wListRg1 wa) := by
  obtain ⟨ta, ha1, ha2⟩ := ha
  refine ⟨fun W => tLstRg (tRg1 (ta W)), fun X W fit tk => pe_listRg fit.calm (gl_of fit hg2) (by rw [fit.mg]; exact hm2) (prg_1 (gl_of fit hg) (by rw [fit.mg]; exact hm) (ha1 X W fit tk) (na X.env)) (nb X.env), fun W ρ Φ Ψ hw σ F H A rel Q q ex => ?_⟩
  refine ha2 W ρ _ Ψ hw σ F H A rel _ (fun t v B ρ1 F1 H1 A1 hk ra af => ?_) ex
  obtain ⟨d, e, hk⟩ := wd_elim hk
  obtain ⟨n, en, h1, hk7⟩ := asI_elim hk
  clear hk
  subst en
  have hk := hk7
  obtain ⟨_, rx, _, _⟩ := deref_rep af.rel ra e
  obtain ⟨rfl, _⟩ := rx.int_inv
  refine ⟨n, rfl, h1, fun p hp => ?_⟩
  obtain ⟨r, e2, l2⟩ := new_lst (K := c.K) af.rel.le hp (rg_reps (K := c.K) (F := F1) (H := H1) 0 (n - 0).toNat)
  exact q _ _ [p] ρ1 _ _ A1 hk (.val r) (af.pure e2 l2 (by simp))
def wTupRg1 (wa : WE) : WE := fun ρ Φ Ψ => wa ρ (fun t ρ1 => wd (deref ρ1 t) fun d => asI d fun n => rgOk2 0 n ∧ Φ (.val (.tup (rangeD 0 (n - 0).toNat))) ρ1) Ψ
theorem de_tupRg1 {a : Expr} {wa : WE} {p p2 pos p3 : Pos} (ha : DE c m a wa) (hg : GlC c.sc "range") (hm : c.mg "range" = none) (hg2 : GlC c.sc "tuple") (hm2 : c.mg "tuple" = none) (na : ∀ env, starEach [a] env = (false, eval a env) :: starEach [] env := by intro _; rfl)
    (nb : ∀ env, starEach [.Call (.Name "range" p) [a] [] p2] env = (false, eval (.Call (.Name "range" p) [a] [] p2) env) :: starEach [] env := by intro _; rfl) : DE c m (.Call (.Name "tuple" p3) [.Call (.Name "range" p) [a] [] p2] [] pos) (wTupRg1 wa) := by
  obtain ⟨ta, ha1, ha2⟩ := ha
  refine ⟨fun W => tTupRg (tRg1 (ta W)), fun X W fit tk => pe_tupRg fit.calm (gl_of fit hg2) (by rw [fit.mg]; exact hm2) (prg_1 (gl_of fit hg) (by rw [fit.mg]; exact hm) (ha1 X W fit tk) (na X.env)) (nb X.env), fun W ρ Φ Ψ hw σ F H A rel Q q ex => ?_⟩
  refine ha2 W ρ _ Ψ hw σ F H A rel _ (fun t v B ρ1 F1 H1 A1 hk ra af => ?_) ex
  obtain ⟨d, e, hk⟩ := wd_elim hk
  obtain ⟨n, en, h1, hk7⟩ := asI_elim hk
  clear hk
  subst en
  have hk := hk7
  obtain ⟨_, rx, _, _⟩ := deref_rep af.rel ra e
  obtain ⟨rfl, _⟩ := rx.int_inv
  refine ⟨n, rfl, h1, fun p hp => ?_⟩
  obtain ⟨r, e2, l2⟩ := new_tup (K := c.K) af.rel.le hp (rg_reps (K := c.K) (F := F1) (H := H1) 0 (n - 0).toNat)
  exact q _ _ [] ρ1 _ _ A1 hk (.val r) (af.pure e2 l2 List.nodup_nil)
def wListRg2 (q : Bool) (wa wb : WE) : WE := fun ρ Φ Ψ => wa ρ (fun t ρ1 => (q || t.stable) = true ∧ wb ρ1 (fun u ρ2 => wd (deref ρ2 t) fun d => wd (deref ρ2 u) fun e => asI d fun i => asI e fun j => rgOk2 i j ∧ Φ (.val (.lst true (rangeD i (j - i).toNat))) ρ2) Ψ) Ψ
theorem de_listRg2 {a b : Expr} {wa wb : WE} {p p2 pos p3 : Pos} (ha : DE c m a wa) (hb : DE c m2 b wb) (hg : GlC c.sc "range") (hm : c.mg "range" = none) (hg2 : GlC c.sc "list") (hm2 : c.mg "list" = none) (na : ∀ env, starEach [a, b] env = (false, eval a env) :: starEach [b] env := by intro _; rfl)
    (na2 : ∀ env, starEach [b] env = (false, eval b env) :: starEach [] env := by intro _; rfl) (hp : ∀ env, (backTo p2 (starEach [b] env)).any (·.1) = false := by intro _; rfl)
    (nb : ∀ env, starEach [.Call (.Name "range" p) [a, b] [] p2] env = (false, eval (.Call (.Name "range" p) [a, b] [] p2) env) :: starEach [] env := by intro _; rfl) : DE c (m && m2) (.Call (.Name "list" p3) [.Call (.Name "range" p) [a, b] [] p2] [] pos) (wListRg2 m2 wa wb) := by
  obtain ⟨ta, ha1, ha2⟩ := ha
  obtain ⟨tb, hb1, hb2⟩ := hb
  refine ⟨fun W => tLstRg (tRg2 (ta W) (tb W)), fun X W fit tk => pe_listRg fit.calm (gl_of fit hg2) (by rw [fit.mg]; exact hm2) (prg_2 (gl_of fit hg) (by rw [fit.mg]; exact hm) (ha1 X W fit tk) (hb1 X W fit tk) (na X.env) (na2 X.env) (hp X.env)) (nb X.env), fun W ρ Φ Ψ hw σ F H A rel Q q ex => ?_⟩
  refine ha2 W ρ _ Ψ hw σ F H A rel _ (fun t v B ρ1 F1 H1 A1 hk ra af => ?_) ex
  obtain ⟨st, hk⟩ := hk
  refine hb2 W ρ1 _ Ψ hk σ F1 H1 A1 af.rel _ (fun u vb B2 ρ2 F2 H2 A2 hk rb af2 => ?_) (ex.aft af)
  obtain ⟨d, e1, hk⟩ := wd_elim hk
  obtain ⟨d2, e2, hk⟩ := wd_elim hk
  obtain ⟨i, ei, hk7⟩ := asI_elim hk
  clear hk
  subst ei
  obtain ⟨j, ej, h1, hk⟩ := asI_elim hk7
  clear hk7
  subst ej
  have ra2 := af2.repT ra af.ap (by simpa using st)
  obtain ⟨_, rx, _, _⟩ := deref_rep af2.rel ra2 e1
  obtain ⟨rfl, _⟩ := rx.int_inv
  obtain ⟨_, ry, _, _⟩ := deref_rep af2.rel rb e2
  obtain ⟨rfl, _⟩ := ry.int_inv
  refine ⟨i, j, rfl, rfl, h1, fun p hp => ?_⟩
  obtain ⟨r, e3, l3⟩ := new_lst (K := c.K) af2.rel.le hp (rg_reps (K := c.K) (F := F2) (H := H2) i (j - i).toNat)
  exact q _ _ [p] ρ2 _ _ A2 hk (.val r) ((af.seq af2 ra.foot).pure e3 l3 (by simp))

/-! ### y = [e for ..], y a cell -/
theorem sw_cell {elt : Expr} {gs : List Comprehension} {scope : Scope} {p1 py : Pos} {y : Str} {l : Nat} {env : Env} (hy : env.scope.names.lookup y = some .cell) : swapsWith (.ListComp elt gs scope p1) (some (.Name y py)) l env = pure false := by
  have ky : env.kindOf y = some .cell := hy
  unfold swapsWith
  simp only [ky]
  show pure _ = pure false
  congr 1
  simp
theorem ds_asgC (i : Nat) {x : Str} {e : Expr} {wa : WE} {pos' pos : Pos} (hNd : c.N.Nodup) (ha : DE c m e wa) (hi : c.N[i]? = some x := by rfl) (hx : c.sc.names.lookup x = some .cell := by rfl) (hf : HfC c x := by exact Or.inl rfl)
    (hs : ∀ env, env.scope.names.lookup x = some .cell → swapsWith e (some (.Name x pos')) pos.line env = pure false := by exact fun _ h => sw_cell h) : DS c [i] (.Assign [.Name x pos'] e pos) (wAsg i wa) := by
  obtain ⟨t, h1, h2⟩ := ha
  exact ⟨fun W => tAsg (t W) (gName i), fun X W fit tk => ps_set_of fit.fit hNd hi (Or.inr hx) hf (h1 X W fit.fit tk) (hs X.env (by rw [fit.fit.sc]; exact hx)), fun W => snd_asg (h2 W)⟩

/-! ### x, y = a, b, some of them cells -/
def gNames : List Nat → TGs
  | [] => gNil
  | i :: is => gCons (gName i) (gNames is)
theorem gNames_ok : ∀ (is : List Nat) {vs : List V} {σ : Sl} {H : Hp} {Q : Sl → Hp → Prop}, vs.length = is.length → Q (storeV is vs σ) H → gNames is vs σ H Q
  | [], [], σ, H, Q, _, q => ⟨rfl, q⟩
  | [], _ :: _, _, _, _, h, _ => by cases h
  | _ :: _, [], _, _, _, h, _ => by cases h
  | i :: is, v :: vs, σ, H, Q, h, q => ⟨v, vs, rfl, gNames_ok is (by simpa using h) q⟩
def DNm (c : SC) (es : List Expr) (is : List Nat) : Prop := ∀ X, Fits c X → PGs X es (gNames is)
theorem dnm_nil : DNm c [] [] := fun _ _ => pgs_nil
theorem dnm_cons {i : Nat} {x : Str} {p : Pos} {es : List Expr} {is : List Nat} (hNd : c.N.Nodup) (h : DNm c es is) (hi : c.N[i]? = some x := by rfl) (hx : LocC c x := by first | exact Or.inl rfl | exact Or.inr rfl) (hf : HfC c x := by first | exact Or.inl rfl | exact Or.inr rfl)
    (hs : ∀ env, (assignEach (.Name x p :: es) env).map (·.2) = assign (.Name x p) env :: (assignEach es env).map (·.2) := by intro _; rfl) : DNm c (.Name x p :: es) (i :: is) :=
  fun X fit => pgs_cons (pg_name (by rw [fit.N]; exact hNd) (by rw [fit.N]; exact hi) (by unfold L2.Loc; rw [fit.sc]; exact hx) (by rw [fit.fn, fit.sc]; exact hf)) (h X fit) (hs X.env)
theorem storeD_len : ∀ (is : List Nat) {ds : List D} {ρ ρ' : DEnv}, storeD is ds ρ = some ρ' → ds.length = is.length
  | [], [], _, _, _ => rfl
  | [], _ :: _, _, _, h => by cases h
  | _ :: _, [], _, _, h => by cases h
  | i :: is, d :: ds, ρ, ρ', h => by
    unfold storeD at h
    split at h
    · simp [storeD_len is h]
    · cases h
theorem ds_parC {is : List Nat} {es as : List Expr} {wa : WA} {pt pt2 pos : Pos} {kt k2} (ha : DA c m as wa) (hn : DNm c es is) (hz : is.length ≤ sizeLine := by decide)
    (hw : ∀ env, env.scope = c.sc → swappedStores [.Tuple es kt pt] (.Tuple as k2 pt2) env = pure none)
    (hl : ∀ env, (assignEach es env).length = is.length := by intro _; rfl) (hst : ∀ env, (assignEach es env).findIdx? (·.1) = none := by intro _; rfl)
    (hs : ∀ env, swapsWithSole [.Tuple es kt pt] (.Tuple as k2 pt2) pos.line env = pure false := by intro _; rfl) (h1 : ∀ env, (assignEach [.Tuple es kt pt] env).map (·.2) = [assign (.Tuple es kt pt) env] := by intro _; rfl) : DS c is (.Assign [.Tuple es kt pt] (.Tuple as k2 pt2) pos) (wPar is wa) := by
  obtain ⟨ta, a1, a2⟩ := ha
  refine ⟨fun W => tAsg (tTup (ta W)) (gTup c.K is.length (gNames is)), fun X W fit tk => ?_, fun W Dd Ψ ρ hw σ F H A rel Dq q ex => ?_⟩
  · have z := pg_tup (k := kt) (pos := pt) fit.fit.calm (hn X fit.fit) (hl X.env) (hst X.env)
    rw [fit.fit.K] at z
    exact ps_asg (pe_tup (a1 X W fit.fit tk)) z (hs X.env) (hw X.env fit.fit.sc) (h1 X.env)
  refine a2 W ρ _ Ψ hw σ F H A rel _ (fun ts vs B ρ1 F1 H1 A1 hk ra af => ?_) ex.expr
  obtain ⟨⟨ds, os, ρ2⟩, e, hk⟩ := wd_elim hk
  obtain ⟨ρ3, e2, hk⟩ := wd_elim hk
  obtain ⟨F2, A2, C, rel2, rds, ndC, apC, ext2, sub2, _⟩ := takeTs_ok _ ts ra af.rel af.nd af.ap e
  obtain ⟨A3, rel3, s3, ag3⟩ := store_all is rel2 rds ndC apC e2
  have hlen : vs.length = is.length := by rw [← rds.length]; exact storeD_len is e2
  refine ⟨by rw [hlen]; exact hz, fun p hp => ?_⟩
  have rel4 : SRel c.K F2 (upd H1 p (.tup vs)) ρ3 (storeV is vs σ) A3 := rel3.keeps (Ext.new hp) (rel3.le.new hp)
  refine ⟨p, vs, rfl, .inl (.inl upd_same), hlen, gNames_ok is hlen ?_⟩
  have e1 := (Ext.loud af).seq0 ext2
  refine q.nx ρ3 _ F2 _ A3 hk rel4 ⟨e1.frz, fun a o h hm => ?_, fun a mm => ?_, e1.newf⟩ ag3
  · have z := e1.keep a o h hm
    rw [upd_ne (ne_of_none z hp)]
    exact z
  · rcases s3 a mm with z | z
    · exact e1.own a (List.mem_append_left _ z)
    · exact e1.own a (List.mem_append_right _ z)

/-! ### 'x'.join(xs) -/
theorem Reps.strs2 {K : PySem.W.Frag} {F H : Hp} {ys : List Str} {vs : List V} {A : Fp} : Reps K F H (ys.map D.str) vs A → vs = ys.map V.str := by
  induction ys generalizing vs A with
  | nil => intro r; cases r; rfl
  | cons y ys ih =>
    intro r
    cases r with
    | cons r1 r2 e =>
      obtain ⟨rfl, _⟩ := r1.str_inv
      rw [ih r2]; rfl
def wJoin (q : Bool) (wo wa : WE) : WE := fun ρ Φ Ψ => wo ρ (fun t ρ1 => (q || t.stable) = true ∧ wd (deref ρ1 t) fun x => (match x with
  | .str a => wa ρ1 (fun u ρ2 => wd (deref ρ2 u) fun y => wd (seqD y) fun ds => wd (asStrs ds) fun ys => (ys.map (·.length)).sum + ys.length * a.length ≤ 16777216 ∧ Φ (.val (.str (Txt.join a ys))) ρ2) Ψ
  | _ => False)) Ψ
theorem de_join {o e : Expr} {wo wa : WE} {apos pos : Pos} (ho : DE c m o wo) (he : DE c m2 e wa) (hs : ∀ env, starEach [e] env = [(false, eval e env)] := by intro _; rfl) (hbase : ∀ env, attributeBase o "join" env (eval o env) = eval o env := by intro _; rfl) (hline : (apos.endLine == pos.line) = true := by rfl) :
    DE c (m && m2) (.Call (.Attribute o "join" apos) [e] [] pos) (wJoin m2 wo wa) := by
  obtain ⟨to, o1, o2⟩ := ho
  obtain ⟨te, e1, e2⟩ := he
  refine ⟨fun W => tM1 (fun x xs H Q => ∃ a p, ∃ ys : List Str, x = .str a ∧ xs = [.ref p] ∧ (SqL c.K H p (ys.map V.str) ∨ SqT c.K H p (ys.map V.str)) ∧ (ys.map (·.length)).sum + ys.length * a.length ≤ 16777216 ∧ Q (.str (Txt.join a ys)) H) (to W) (te W), fun X W fit tk => ?_, fun W ρ Φ Ψ hw σ F H A rel Q q ex => ?_⟩
  · have z := pe_join (X := X) (apos := apos) (pos := pos) (o1 X W fit tk) (e1 X W fit tk) (hs X.env) (hbase X.env) hline
    rw [fit.K] at z
    exact z
  refine o2 W ρ _ Ψ hw σ F H A rel _ (fun t vx B ρ1 F1 H1 A1 hk ra af => ?_) ex
  obtain ⟨st, hk⟩ := hk
  obtain ⟨x, ex1, hk⟩ := wd_elim hk
  obtain ⟨_, rx, _, _⟩ := deref_rep af.rel ra ex1
  cases x <;> try (exact hk.elim)
  obtain ⟨rfl, _⟩ := rx.str_inv
  refine ⟨⟨_, rfl⟩, ?_⟩
  refine e2 W ρ1 _ Ψ hk σ F1 H1 A1 af.rel _ (fun u v B2 ρ2 F2 H2 A2 hk rb af2 => ?_) (ex.aft af)
  obtain ⟨y, ey, hk⟩ := wd_elim hk
  obtain ⟨ds, e3, hk⟩ := wd_elim hk
  obtain ⟨ys, e4, hz, hk9⟩ := wd_elim hk
  clear hk
  obtain ⟨_, ry, _, _⟩ := deref_rep af2.rel rb ey
  have e5 := asStrs_eq e4
  subst e5
  have sq := (af.seq af2 ra.foot).less (List.nil_sublist _)
  have fin := q _ _ [] ρ2 F2 H2 A2 hk9 (.val (.str _)) sq
  cases y <;> try (cases e3; done)
  · cases e3
    obtain ⟨_, a, xs, rfl, h1, r1⟩ := ry.tup_inv
    have e6 := r1.strs2
    subst e6
    exact ⟨_, a, ys, rfl, rfl, .inr (af2.rel.le.sqT h1), hz, fin⟩
  · cases e3
    obtain ⟨a, xs, A', rfl, h1, r1, _⟩ := ry.lst_inv af2.rel.le
    have e6 := r1.strs2
    subst e6
    exact ⟨_, a, ys, rfl, rfl, .inl (SqL.of h1), hz, fin⟩
  · cases e3
    obtain ⟨_, a, xs, rfl, h1, r1⟩ := ry.ro_inv
    have e6 := r1.strs2
    subst e6
    exact ⟨_, a, ys, rfl, rfl, .inl (af2.rel.le.sqL h1), hz, fin⟩
end

/-! ### the defs of a text -/
structure Df (P : Program) (w : World) (K : PySem.W.Frag) (mg : Str → Option Value) (base : Heap) (x : Str) (ps : List Str) (k : Nat) (io : List Bool) (fs : FS) (f : Addr) (fd : FuncData) : Prop where
  ok : FnOk P w K mg base (L2.CX P w) k f fd ps (spOf K mg io fs)
  mg : mg x = some (.ref f)
  kp : PySem.W.keepIn K (.ref f) = true
  bd : Binds K fd ps []
theorem fnOk_no {P : Program} {w : World} {K : PySem.W.Frag} {mg : Str → Option Value} {base : Heap} {CX : CXT} {k : Nat} {f : Addr} {fd : FuncData} {ps : List Str} {io : List Bool} : FnOk P w K mg base CX k f fd ps (spOf K mg io fun _ _ _ => False) :=
  ⟨fun _ _ _ _ h => by obtain ⟨_, _, _, _, _, _, _, _, _, z, _⟩ := h; exact z.elim, fun _ _ _ _ _ _ _ _ _ _ _ _ _ h => by obtain ⟨_, _, _, _, _, _, _, _, _, z, _⟩ := h; exact z.elim⟩
section
variable {c : SC} {m m2 : Bool}
theorem de_callD {k : Nat} {f : Addr} {fd : FuncData} {ps : List Str} {io : List Bool} {fs : FS} {x : Str} {p pos : Pos} {e : Expr} {es : List Expr} {wa : WA} (G : Df c.P c.w c.K c.mg c.base x ps k io fs f fd) (ha : DA c m (e :: es) wa) (hk : k ≤ c.room := by first | exact Nat.le_of_ble_eq_true rfl | exact Nat.le_refl _) (hg : GlC c.sc x := by rfl) (hdb : (x == ("__debug__" : Str)) = false := by decide)
    (he : ∀ env, starEach (e :: es) env = (false, eval e env) :: starEach es env := by intro _; rfl) (hpl : ∀ env, (backTo pos (starEach es env)).any (·.1) = false := by intro _; rfl) : DE c false (.Call (.Name x p) (e :: es) [] pos) (wCall io fs wa) :=
  de_call G.ok hk G.mg G.kp G.bd ha hg hdb he hpl
end
end DL

set_option maxHeartbeats 200000
/-! DLH: the operators by name -/
namespace DL
open PySem PySem.Spec PyProof.Rows L2
theorem Fits.u64 {c : SC} {X : Cx} (fit : Fits c X) : X.A.units + 64 < cLine := fit.room.units
theorem Fits.u65 {c : SC} {X : Cx} (fit : Fits c X) : X.A.units + 65 < cLine := by have := fit.room.un; omega
section
variable {c : SC} {m m2 m3 : Bool} {a b d : Expr} {wa wb wc : WE} {pos : Pos}
theorem de_lt (ha : DE c m a wa) (hb : DE c m2 b wb) (hm : behindInMarks .Lt b = false := by rfl) : DE c (m && m2) (.Compare a [.Lt] [b] pos) (w2 m2 opLt wa wb) := de_cmp (r := fun _ => rI0 fun i j => .bl (decide (i < j))) (fun X fit => op_lt) os_lt ha hb hm
theorem dt_lt (ha : DE c m a wa) (hb : DE c m2 b wb) (hm : behindInMarks .Lt b = false := by rfl) : DT c (m && m2) (.Compare a [.Lt] [b] pos) (wTest (w2 m2 opLt wa wb)) := dt_cmp (r := fun _ => rI0 fun i j => .bl (decide (i < j))) (fun X fit => op_lt) os_lt ha hb hm
theorem de_le (ha : DE c m a wa) (hb : DE c m2 b wb) (hm : behindInMarks .LtE b = false := by rfl) : DE c (m && m2) (.Compare a [.LtE] [b] pos) (w2 m2 opLe wa wb) := de_cmp (r := fun _ => rI0 fun i j => .bl (decide (i ≤ j))) (fun X fit => op_le) os_le ha hb hm
theorem dt_le (ha : DE c m a wa) (hb : DE c m2 b wb) (hm : behindInMarks .LtE b = false := by rfl) : DT c (m && m2) (.Compare a [.LtE] [b] pos) (wTest (w2 m2 opLe wa wb)) := dt_cmp (r := fun _ => rI0 fun i j => .bl (decide (i ≤ j))) (fun X fit => op_le) os_le ha hb hm
theorem de_gt (ha : DE c m a wa) (hb : DE c m2 b wb) (hm : behindInMarks .Gt b = false := by rfl) : DE c (m && m2) (.Compare a [.Gt] [b] pos) (w2 m2 opGt wa wb) := de_cmp (r := fun _ => rI0 fun i j => .bl (decide (j < i))) (fun X fit => op_gt) os_gt ha hb hm
theorem dt_gt (ha : DE c m a wa) (hb : DE c m2 b wb) (hm : behindInMarks .Gt b = false := by rfl) : DT c (m && m2) (.Compare a [.Gt] [b] pos) (wTest (w2 m2 opGt wa wb)) := dt_cmp (r := fun _ => rI0 fun i j => .bl (decide (j < i))) (fun X fit => op_gt) os_gt ha hb hm
theorem de_ge (ha : DE c m a wa) (hb : DE c m2 b wb) (hm : behindInMarks .GtE b = false := by rfl) : DE c (m && m2) (.Compare a [.GtE] [b] pos) (w2 m2 opGe wa wb) := de_cmp (r := fun _ => rI0 fun i j => .bl (decide (j ≤ i))) (fun X fit => op_ge) os_ge ha hb hm
theorem dt_ge (ha : DE c m a wa) (hb : DE c m2 b wb) (hm : behindInMarks .GtE b = false := by rfl) : DT c (m && m2) (.Compare a [.GtE] [b] pos) (wTest (w2 m2 opGe wa wb)) := dt_cmp (r := fun _ => rI0 fun i j => .bl (decide (j ≤ i))) (fun X fit => op_ge) os_ge ha hb hm
theorem de_eq (ha : DE c m a wa) (hb : DE c m2 b wb) (hm : behindInMarks .Eq b = false := by rfl) : DE c (m && m2) (.Compare a [.Eq] [b] pos) (w2 m2 opEq wa wb) := de_cmp (r := rEqA) (fun X fit => or_eq fit.u64) os_eq ha hb hm
theorem dt_eq (ha : DE c m a wa) (hb : DE c m2 b wb) (hm : behindInMarks .Eq b = false := by rfl) : DT c (m && m2) (.Compare a [.Eq] [b] pos) (wTest (w2 m2 opEq wa wb)) := dt_cmp (r := rEqA) (fun X fit => or_eq fit.u64) os_eq ha hb hm
theorem de_ne (ha : DE c m a wa) (hb : DE c m2 b wb) (hm : behindInMarks .NotEq b = false := by rfl) : DE c (m && m2) (.Compare a [.NotEq] [b] pos) (w2 m2 opNe wa wb) := de_cmp (r := rNeA) (fun X fit => or_ne fit.u64) os_ne ha hb hm
theorem dt_ne (ha : DE c m a wa) (hb : DE c m2 b wb) (hm : behindInMarks .NotEq b = false := by rfl) : DT c (m && m2) (.Compare a [.NotEq] [b] pos) (wTest (w2 m2 opNe wa wb)) := dt_cmp (r := rNeA) (fun X fit => or_ne fit.u64) os_ne ha hb hm
theorem de_is (ha : DE c m a wa) (hb : DE c m2 b wb) (hm : behindInMarks .Is b = false := by rfl) : DE c (m && m2) (.Compare a [.Is] [b] pos) (w2 m2 opIs wa wb) := de_cmp (r := fun _ => rIsC) (fun X fit => or_is) os_is ha hb hm
theorem dt_is (ha : DE c m a wa) (hb : DE c m2 b wb) (hm : behindInMarks .Is b = false := by rfl) : DT c (m && m2) (.Compare a [.Is] [b] pos) (wTest (w2 m2 opIs wa wb)) := dt_cmp (r := fun _ => rIsC) (fun X fit => or_is) os_is ha hb hm
theorem de_isnot (ha : DE c m a wa) (hb : DE c m2 b wb) (hm : behindInMarks .IsNot b = false := by rfl) : DE c (m && m2) (.Compare a [.IsNot] [b] pos) (w2 m2 opIsNot wa wb) := de_cmp (r := fun _ => rNotC) (fun X fit => or_isnot) os_isnot ha hb hm
theorem dt_isnot (ha : DE c m a wa) (hb : DE c m2 b wb) (hm : behindInMarks .IsNot b = false := by rfl) : DT c (m && m2) (.Compare a [.IsNot] [b] pos) (wTest (w2 m2 opIsNot wa wb)) := dt_cmp (r := fun _ => rNotC) (fun X fit => or_isnot) os_isnot ha hb hm
theorem de_in (ha : DE c m a wa) (hb : DE c m2 b wb) (hm : behindInMarks .In b = false := by rfl) : DE c (m && m2) (.Compare a [.In] [b] pos) (w2 m2 opIn wa wb) := de_cmp (r := rInA) (fun X fit => or_in fit.u65) os_in ha hb hm
theorem dt_in (ha : DE c m a wa) (hb : DE c m2 b wb) (hm : behindInMarks .In b = false := by rfl) : DT c (m && m2) (.Compare a [.In] [b] pos) (wTest (w2 m2 opIn wa wb)) := dt_cmp (r := rInA) (fun X fit => or_in fit.u65) os_in ha hb hm
theorem de_notin (ha : DE c m a wa) (hb : DE c m2 b wb) (hm : behindInMarks .NotIn b = false := by rfl) : DE c (m && m2) (.Compare a [.NotIn] [b] pos) (w2 m2 opNotIn wa wb) := de_cmp (r := rNotInA) (fun X fit => or_notin fit.u65) os_notin ha hb hm
theorem dt_notin (ha : DE c m a wa) (hb : DE c m2 b wb) (hm : behindInMarks .NotIn b = false := by rfl) : DT c (m && m2) (.Compare a [.NotIn] [b] pos) (wTest (w2 m2 opNotIn wa wb)) := dt_cmp (r := rNotInA) (fun X fit => or_notin fit.u65) os_notin ha hb hm
theorem de_add (ha : DE c m a wa) (hb : DE c m2 b wb) : DE c (m && m2) (.BinOp a .Add b pos) (w2 m2 opAdd wa wb) := de_bin (r := rAddD) (fun X fit => or_add) os_add ha hb
theorem de_sub (ha : DE c m a wa) (hb : DE c m2 b wb) : DE c (m && m2) (.BinOp a .Sub b pos) (w2 m2 opSub wa wb) := de_bin (r := fun _ => rI0 fun i j => .int (i - j)) (fun X fit => op_sub) os_sub ha hb
theorem de_mod (ha : DE c m a wa) (hb : DE c m2 b wb) : DE c (m && m2) (.BinOp a .Mod b pos) (w2 m2 opMod wa wb) := de_bin (r := fun _ => rI (fun _ j => 0 < j) fun i j => .int (i % j)) (fun X fit => op_mod) os_mod ha hb
theorem de_div (ha : DE c m a wa) (hb : DE c m2 b wb) : DE c (m && m2) (.BinOp a .FloorDiv b pos) (w2 m2 opDiv wa wb) := de_bin (r := fun _ => rI CDivW fun i j => .int (i / j)) (fun X fit => op_fdivW) os_div ha hb
theorem de_pow (ha : DE c m a wa) (hb : DE c m2 b wb) : DE c (m && m2) (.BinOp a .Pow b pos) (w2 m2 opPow wa wb) := de_bin (r := fun _ => rI CPow fun i j => .int (i ^ j.toNat)) (fun X fit => op_pow) os_pow ha hb
theorem de_mul (ha : DE c m a wa) (hb : DE c m2 b wb) : DE c (m && m2) (.BinOp a .Mult b pos) (w2 m2 opMul wa wb) := de_bin (r := rMulD) (fun X fit => or_mul) os_mul ha hb
theorem de_neg (ha : DE c m a wa) : DE c m (.UnaryOp .USub a pos) (w1 opNeg wa) := de_un (r := rU fun i => .int (-i)) (fun X fit => un_neg) os_neg ha
theorem de_lt_lt (ha : DE c m a wa) (hb : DE c m2 b wb) (hd : DE c true d wc) (hm : lastMarks [.Lt, .Lt] [b, d] = false := by with_unfolding_all rfl) : DE c (m && m2) (.Compare a [.Lt, .Lt] [b, d] pos) (wChain m2 opLt opLt wa wb wc) := de_chain (r := fun _ => rI0 fun i j => .bl (decide (i < j))) (r2 := fun _ => rI0 fun i j => .bl (decide (i < j))) (fun X fit => op_lt) (fun X fit => op_lt) os_lt os_lt ha hb hd hm
theorem dt_lt_lt (ha : DE c m a wa) (hb : DE c m2 b wb) (hd : DE c true d wc) (hm : lastMarks [.Lt, .Lt] [b, d] = false := by with_unfolding_all rfl) : DT c (m && m2) (.Compare a [.Lt, .Lt] [b, d] pos) (wTest (wChain m2 opLt opLt wa wb wc)) := dt_chain (r := fun _ => rI0 fun i j => .bl (decide (i < j))) (r2 := fun _ => rI0 fun i j => .bl (decide (i < j))) (fun X fit => op_lt) (fun X fit => op_lt) os_lt os_lt ha hb hd hm
theorem de_lt_le (ha : DE c m a wa) (hb : DE c m2 b wb) (hd : DE c true d wc) (hm : lastMarks [.Lt, .LtE] [b, d] = false := by with_unfolding_all rfl) : DE c (m && m2) (.Compare a [.Lt, .LtE] [b, d] pos) (wChain m2 opLt opLe wa wb wc) := de_chain (r := fun _ => rI0 fun i j => .bl (decide (i < j))) (r2 := fun _ => rI0 fun i j => .bl (decide (i ≤ j))) (fun X fit => op_lt) (fun X fit => op_le) os_lt os_le ha hb hd hm
theorem dt_lt_le (ha : DE c m a wa) (hb : DE c m2 b wb) (hd : DE c true d wc) (hm : lastMarks [.Lt, .LtE] [b, d] = false := by with_unfolding_all rfl) : DT c (m && m2) (.Compare a [.Lt, .LtE] [b, d] pos) (wTest (wChain m2 opLt opLe wa wb wc)) := dt_chain (r := fun _ => rI0 fun i j => .bl (decide (i < j))) (r2 := fun _ => rI0 fun i j => .bl (decide (i ≤ j))) (fun X fit => op_lt) (fun X fit => op_le) os_lt os_le ha hb hd hm
theorem de_lt_gt (ha : DE c m a wa) (hb : DE c m2 b wb) (hd : DE c true d wc) (hm : lastMarks [.Lt, .Gt] [b, d] = false := by with_unfolding_all rfl) : DE c (m && m2) (.Compare a [.Lt, .Gt] [b, d] pos) (wChain m2 opLt opGt wa wb wc) := de_chain (r := fun _ => rI0 fun i j => .bl (decide (i < j))) (r2 := fun _ => rI0 fun i j => .bl (decide (j < i))) (fun X fit => op_lt) (fun X fit => op_gt) os_lt os_gt ha hb hd hm
theorem dt_lt_gt (ha : DE c m a wa) (hb : DE c m2 b wb) (hd : DE c true d wc) (hm : lastMarks [.Lt, .Gt] [b, d] = false := by with_unfolding_all rfl) : DT c (m && m2) (.Compare a [.Lt, .Gt] [b, d] pos) (wTest (wChain m2 opLt opGt wa wb wc)) := dt_chain (r := fun _ => rI0 fun i j => .bl (decide (i < j))) (r2 := fun _ => rI0 fun i j => .bl (decide (j < i))) (fun X fit => op_lt) (fun X fit => op_gt) os_lt os_gt ha hb hd hm
theorem de_lt_ge (ha : DE c m a wa) (hb : DE c m2 b wb) (hd : DE c true d wc) (hm : lastMarks [.Lt, .GtE] [b, d] = false := by with_unfolding_all rfl) : DE c (m && m2) (.Compare a [.Lt, .GtE] [b, d] pos) (wChain m2 opLt opGe wa wb wc) := de_chain (r := fun _ => rI0 fun i j => .bl (decide (i < j))) (r2 := fun _ => rI0 fun i j => .bl (decide (j ≤ i))) (fun X fit => op_lt) (fun X fit => op_ge) os_lt os_ge ha hb hd hm
theorem dt_lt_ge (ha : DE c m a wa) (hb : DE c m2 b wb) (hd : DE c true d wc) (hm : lastMarks [.Lt, .GtE] [b, d] = false := by with_unfolding_all rfl) : DT c (m && m2) (.Compare a [.Lt, .GtE] [b, d] pos) (wTest (wChain m2 opLt opGe wa wb wc)) := dt_chain (r := fun _ => rI0 fun i j => .bl (decide (i < j))) (r2 := fun _ => rI0 fun i j => .bl (decide (j ≤ i))) (fun X fit => op_lt) (fun X fit => op_ge) os_lt os_ge ha hb hd hm
theorem de_le_lt (ha : DE c m a wa) (hb : DE c m2 b wb) (hd : DE c true d wc) (hm : lastMarks [.LtE, .Lt] [b, d] = false := by with_unfolding_all rfl) : DE c (m && m2) (.Compare a [.LtE, .Lt] [b, d] pos) (wChain m2 opLe opLt wa wb wc) := de_chain (r := fun _ => rI0 fun i j => .bl (decide (i ≤ j))) (r2 := fun _ => rI0 fun i j => .bl (decide (i < j))) (fun X fit => op_le) (fun X fit => op_lt) os_le os_lt ha hb hd hm
theorem dt_le_lt (ha : DE c m a wa) (hb : DE c m2 b wb) (hd : DE c true d wc) (hm : lastMarks [.LtE, .Lt] [b, d] = false := by with_unfolding_all rfl) : DT c (m && m2) (.Compare a [.LtE, .Lt] [b, d] pos) (wTest (wChain m2 opLe opLt wa wb wc)) := dt_chain (r := fun _ => rI0 fun i j => .bl (decide (i ≤ j))) (r2 := fun _ => rI0 fun i j => .bl (decide (i < j))) (fun X fit => op_le) (fun X fit => op_lt) os_le os_lt ha hb hd hm
theorem de_le_le (ha : DE c m a wa) (hb : DE c m2 b wb) (hd : DE c true d wc) (hm : lastMarks [.LtE, .LtE] [b, d] = false := by with_unfolding_all rfl) : DE c (m && m2) (.Compare a [.LtE, .LtE] [b, d] pos) (wChain m2 opLe opLe wa wb wc) := de_chain (r := fun _ => rI0 fun i j => .bl (decide (i ≤ j))) (r2 := fun _ => rI0 fun i j => .bl (decide (i ≤ j))) (fun X fit => op_le) (fun X fit => op_le) os_le os_le ha hb hd hm
theorem dt_le_le (ha : DE c m a wa) (hb : DE c m2 b wb) (hd : DE c true d wc) (hm : lastMarks [.LtE, .LtE] [b, d] = false := by with_unfolding_all rfl) : DT c (m && m2) (.Compare a [.LtE, .LtE] [b, d] pos) (wTest (wChain m2 opLe opLe wa wb wc)) := dt_chain (r := fun _ => rI0 fun i j => .bl (decide (i ≤ j))) (r2 := fun _ => rI0 fun i j => .bl (decide (i ≤ j))) (fun X fit => op_le) (fun X fit => op_le) os_le os_le ha hb hd hm
theorem de_le_gt (ha : DE c m a wa) (hb : DE c m2 b wb) (hd : DE c true d wc) (hm : lastMarks [.LtE, .Gt] [b, d] = false := by with_unfolding_all rfl) : DE c (m && m2) (.Compare a [.LtE, .Gt] [b, d] pos) (wChain m2 opLe opGt wa wb wc) := de_chain (r := fun _ => rI0 fun i j => .bl (decide (i ≤ j))) (r2 := fun _ => rI0 fun i j => .bl (decide (j < i))) (fun X fit => op_le) (fun X fit => op_gt) os_le os_gt ha hb hd hm
theorem dt_le_gt (ha : DE c m a wa) (hb : DE c m2 b wb) (hd : DE c true d wc) (hm : lastMarks [.LtE, .Gt] [b, d] = false := by with_unfolding_all rfl) : DT c (m && m2) (.Compare a [.LtE, .Gt] [b, d] pos) (wTest (wChain m2 opLe opGt wa wb wc)) := dt_chain (r := fun _ => rI0 fun i j => .bl (decide (i ≤ j))) (r2 := fun _ => rI0 fun i j => .bl (decide (j < i))) (fun X fit => op_le) (fun X fit => op_gt) os_le os_gt ha hb hd hm
theorem de_le_ge (ha : DE c m a wa) (hb : DE c m2 b wb) (hd : DE c true d wc) (hm : lastMarks [.LtE, .GtE] [b, d] = false := by with_unfolding_all rfl) : DE c (m && m2) (.Compare a [.LtE, .GtE] [b, d] pos) (wChain m2 opLe opGe wa wb wc) := de_chain (r := fun _ => rI0 fun i j => .bl (decide (i ≤ j))) (r2 := fun _ => rI0 fun i j => .bl (decide (j ≤ i))) (fun X fit => op_le) (fun X fit => op_ge) os_le os_ge ha hb hd hm
theorem dt_le_ge (ha : DE c m a wa) (hb : DE c m2 b wb) (hd : DE c true d wc) (hm : lastMarks [.LtE, .GtE] [b, d] = false := by with_unfolding_all rfl) : DT c (m && m2) (.Compare a [.LtE, .GtE] [b, d] pos) (wTest (wChain m2 opLe opGe wa wb wc)) := dt_chain (r := fun _ => rI0 fun i j => .bl (decide (i ≤ j))) (r2 := fun _ => rI0 fun i j => .bl (decide (j ≤ i))) (fun X fit => op_le) (fun X fit => op_ge) os_le os_ge ha hb hd hm
theorem de_gt_lt (ha : DE c m a wa) (hb : DE c m2 b wb) (hd : DE c true d wc) (hm : lastMarks [.Gt, .Lt] [b, d] = false := by with_unfolding_all rfl) : DE c (m && m2) (.Compare a [.Gt, .Lt] [b, d] pos) (wChain m2 opGt opLt wa wb wc) := de_chain (r := fun _ => rI0 fun i j => .bl (decide (j < i))) (r2 := fun _ => rI0 fun i j => .bl (decide (i < j))) (fun X fit => op_gt) (fun X fit => op_lt) os_gt os_lt ha hb hd hm
theorem dt_gt_lt (ha : DE c m a wa) (hb : DE c m2 b wb) (hd : DE c true d wc) (hm : lastMarks [.Gt, .Lt] [b, d] = false := by with_unfolding_all rfl) : DT c (m && m2) (.Compare a [.Gt, .Lt] [b, d] pos) (wTest (wChain m2 opGt opLt wa wb wc)) := dt_chain (r := fun _ => rI0 fun i j => .bl (decide (j < i))) (r2 := fun _ => rI0 fun i j => .bl (decide (i < j))) (fun X fit => op_gt) (fun X fit => op_lt) os_gt os_lt ha hb hd hm
theorem de_gt_le (ha : DE c m a wa) (hb : DE c m2 b wb) (hd : DE c true d wc) (hm : lastMarks [.Gt, .LtE] [b, d] = false := by with_unfolding_all rfl) : DE c (m && m2) (.Compare a [.Gt, .LtE] [b, d] pos) (wChain m2 opGt opLe wa wb wc) := de_chain (r := fun _ => rI0 fun i j => .bl (decide (j < i))) (r2 := fun _ => rI0 fun i j => .bl (decide (i ≤ j))) (fun X fit => op_gt) (fun X fit => op_le) os_gt os_le ha hb hd hm
theorem dt_gt_le (ha : DE c m a wa) (hb : DE c m2 b wb) (hd : DE c true d wc) (hm : lastMarks [.Gt, .LtE] [b, d] = false := by with_unfolding_all rfl) : DT c (m && m2) (.Compare a [.Gt, .LtE] [b, d] pos) (wTest (wChain m2 opGt opLe wa wb wc)) := dt_chain (r := fun _ => rI0 fun i j => .bl (decide (j < i))) (r2 := fun _ => rI0 fun i j => .bl (decide (i ≤ j))) (fun X fit => op_gt) (fun X fit => op_le) os_gt os_le ha hb hd hm
theorem de_gt_gt (ha : DE c m a wa) (hb : DE c m2 b wb) (hd : DE c true d wc) (hm : lastMarks [.Gt, .Gt] [b, d] = false := by with_unfolding_all rfl) : DE c (m && m2) (.Compare a [.Gt, .Gt] [b, d] pos) (wChain m2 opGt opGt wa wb wc) := de_chain (r := fun _ => rI0 fun i j => .bl (decide (j < i))) (r2 := fun _ => rI0 fun i j => .bl (decide (j < i))) (fun X fit => op_gt) (fun X fit => op_gt) os_gt os_gt ha hb hd hm
theorem dt_gt_gt (ha : DE c m a wa) (hb : DE c m2 b wb) (hd : DE c true d wc) (hm : lastMarks [.Gt, .Gt] [b, d] = false := by with_unfolding_all rfl) : DT c (m && m2) (.Compare a [.Gt, .Gt] [b, d] pos) (wTest (wChain m2 opGt opGt wa wb wc)) := dt_chain (r := fun _ => rI0 fun i j => .bl (decide (j < i))) (r2 := fun _ => rI0 fun i j => .bl (decide (j < i))) (fun X fit => op_gt) (fun X fit => op_gt) os_gt os_gt ha hb hd hm
theorem de_gt_ge (ha : DE c m a wa) (hb : DE c m2 b wb) (hd : DE c true d wc) (hm : lastMarks [.Gt, .GtE] [b, d] = false := by with_unfolding_all rfl) : DE c (m && m2) (.Compare a [.Gt, .GtE] [b, d] pos) (wChain m2 opGt opGe wa wb wc) := de_chain (r := fun _ => rI0 fun i j => .bl (decide (j < i))) (r2 := fun _ => rI0 fun i j => .bl (decide (j ≤ i))) (fun X fit => op_gt) (fun X fit => op_ge) os_gt os_ge ha hb hd hm
theorem dt_gt_ge (ha : DE c m a wa) (hb : DE c m2 b wb) (hd : DE c true d wc) (hm : lastMarks [.Gt, .GtE] [b, d] = false := by with_unfolding_all rfl) : DT c (m && m2) (.Compare a [.Gt, .GtE] [b, d] pos) (wTest (wChain m2 opGt opGe wa wb wc)) := dt_chain (r := fun _ => rI0 fun i j => .bl (decide (j < i))) (r2 := fun _ => rI0 fun i j => .bl (decide (j ≤ i))) (fun X fit => op_gt) (fun X fit => op_ge) os_gt os_ge ha hb hd hm
theorem de_ge_lt (ha : DE c m a wa) (hb : DE c m2 b wb) (hd : DE c true d wc) (hm : lastMarks [.GtE, .Lt] [b, d] = false := by with_unfolding_all rfl) : DE c (m && m2) (.Compare a [.GtE, .Lt] [b, d] pos) (wChain m2 opGe opLt wa wb wc) := de_chain (r := fun _ => rI0 fun i j => .bl (decide (j ≤ i))) (r2 := fun _ => rI0 fun i j => .bl (decide (i < j))) (fun X fit => op_ge) (fun X fit => op_lt) os_ge os_lt ha hb hd hm
theorem dt_ge_lt (ha : DE c m a wa) (hb : DE c m2 b wb) (hd : DE c true d wc) (hm : lastMarks [.GtE, .Lt] [b, d] = false := by with_unfolding_all rfl) : DT c (m && m2) (.Compare a [.GtE, .Lt] [b, d] pos) (wTest (wChain m2 opGe opLt wa wb wc)) := dt_chain (r := fun _ => rI0 fun i j => .bl (decide (j ≤ i))) (r2 := fun _ => rI0 fun i j => .bl (decide (i < j))) (fun X fit => op_ge) (fun X fit => op_lt) os_ge os_lt ha hb hd hm
theorem de_ge_le (ha : DE c m a wa) (hb : DE c m2 b wb) (hd : DE c true d wc) (hm : lastMarks [.GtE, .LtE] [b, d] = false := by with_unfolding_all rfl) : DE c (m && m2) (.Compare a [.GtE, .LtE] [b, d] pos) (wChain m2 opGe opLe wa wb wc) := de_chain (r := fun _ => rI0 fun i j => .bl (decide (j ≤ i))) (r2 := fun _ => rI0 fun i j => .bl (decide (i ≤ j))) (fun X fit => op_ge) (fun X fit => op_le) os_ge os_le ha hb hd hm
theorem dt_ge_le (ha : DE c m a wa) (hb : DE c m2 b wb) (hd : DE c true d wc) (hm : lastMarks [.GtE, .LtE] [b, d] = false := by with_unfolding_all rfl) : DT c (m && m2) (.Compare a [.GtE, .LtE] [b, d] pos) (wTest (wChain m2 opGe opLe wa wb wc)) := dt_chain (r := fun _ => rI0 fun i j => .bl (decide (j ≤ i))) (r2 := fun _ => rI0 fun i j => .bl (decide (i ≤ j))) (fun X fit => op_ge) (fun X fit => op_le) os_ge os_le ha hb hd hm
theorem de_ge_gt (ha : DE c m a wa) (hb : DE c m2 b wb) (hd : DE c true d wc) (hm : lastMarks [.GtE, .Gt] [b, d] = false := by with_unfolding_all rfl) : DE c (m && m2) (.Compare a [.GtE, .Gt] [b, d] pos) (wChain m2 opGe opGt wa wb wc) := de_chain (r := fun _ => rI0 fun i j => .bl (decide (j ≤ i))) (r2 := fun _ => rI0 fun i j => .bl (decide (j < i))) (fun X fit => op_ge) (fun X fit => op_gt) os_ge os_gt ha hb hd hm
theorem dt_ge_gt (ha : DE c m a wa) (hb : DE c m2 b wb) (hd : DE c true d wc) (hm : lastMarks [.GtE, .Gt] [b, d] = false := by with_unfolding_all rfl) : DT c (m && m2) (.Compare a [.GtE, .Gt] [b, d] pos) (wTest (wChain m2 opGe opGt wa wb wc)) := dt_chain (r := fun _ => rI0 fun i j => .bl (decide (j ≤ i))) (r2 := fun _ => rI0 fun i j => .bl (decide (j < i))) (fun X fit => op_ge) (fun X fit => op_gt) os_ge os_gt ha hb hd hm
theorem de_ge_ge (ha : DE c m a wa) (hb : DE c m2 b wb) (hd : DE c true d wc) (hm : lastMarks [.GtE, .GtE] [b, d] = false := by with_unfolding_all rfl) : DE c (m && m2) (.Compare a [.GtE, .GtE] [b, d] pos) (wChain m2 opGe opGe wa wb wc) := de_chain (r := fun _ => rI0 fun i j => .bl (decide (j ≤ i))) (r2 := fun _ => rI0 fun i j => .bl (decide (j ≤ i))) (fun X fit => op_ge) (fun X fit => op_ge) os_ge os_ge ha hb hd hm
theorem dt_ge_ge (ha : DE c m a wa) (hb : DE c m2 b wb) (hd : DE c true d wc) (hm : lastMarks [.GtE, .GtE] [b, d] = false := by with_unfolding_all rfl) : DT c (m && m2) (.Compare a [.GtE, .GtE] [b, d] pos) (wTest (wChain m2 opGe opGe wa wb wc)) := dt_chain (r := fun _ => rI0 fun i j => .bl (decide (j ≤ i))) (r2 := fun _ => rI0 fun i j => .bl (decide (j ≤ i))) (fun X fit => op_ge) (fun X fit => op_ge) os_ge os_ge ha hb hd hm
/-- names that the text does not write -/
def Free (mg : Str → Option Value) (l : List Str) : Prop := ∀ x, x ∈ l → mg x = none
variable {es : List Expr} {e : Expr} {wl : WA} {l : List Str} {p : Pos}
theorem b_len (hl : Free c.mg l) (ha : DA c m (e :: es) wl) (hin : ("len" : Str) ∈ l := by decide) (hg : GlC c.sc "len" := by rfl) (he : ∀ env, starEach (e :: es) env = (false, eval e env) :: starEach es env := by intro _; rfl) (hpl : ∀ env, (backTo pos (starEach es env)).any (·.1) = false := by intro _; rfl) : DE c m (.Call (.Name "len" p) (e :: es) [] pos) (wN opLen wl) :=
  de_callB (r := fun K xs H Q => ∃ x n, xs = [x] ∧ LenV K x H n ∧ Q (.int n) H) (fun X fit => call_len) os_len hg (hl _ hin) (by decide +kernel) ha (by decide) (by decide) he hpl
theorem b_tuple (hl : Free c.mg l) (ha : DA c m (e :: es) wl) (hin : ("tuple" : Str) ∈ l := by decide) (hg : GlC c.sc "tuple" := by rfl) (he : ∀ env, starEach (e :: es) env = (false, eval e env) :: starEach es env := by intro _; rfl) (hpl : ∀ env, (backTo pos (starEach es env)).any (·.1) = false := by intro _; rfl) : DE c m (.Call (.Name "tuple" p) (e :: es) [] pos) (wN opTuple wl) :=
  de_callTy (r := fun K xs H Q => ∃ p ys, xs = [.ref p] ∧ ((SqL K H p ys ∧ ∀ l, H l = none → Q (.ref l) (upd H l (.tup ys))) ∨ (SqT K H p ys ∧ Q (.ref p) H))) (fun X fit => call_tuple_of) os_tuple hg (hl _ hin) (by decide +kernel) ha (by decide) (by decide) he hpl
theorem b_list (hl : Free c.mg l) (ha : DA c m (e :: es) wl) (hin : ("list" : Str) ∈ l := by decide) (hg : GlC c.sc "list" := by rfl) (he : ∀ env, starEach (e :: es) env = (false, eval e env) :: starEach es env := by intro _; rfl) (hpl : ∀ env, (backTo pos (starEach es env)).any (·.1) = false := by intro _; rfl) : DE c m (.Call (.Name "list" p) (e :: es) [] pos) (wN opList wl) :=
  de_callTy (r := fun K xs H Q => ∃ p ys, xs = [.ref p] ∧ (SqL K H p ys ∨ SqT K H p ys) ∧ ∀ l, H l = none → Q (.ref l) (upd H l (.lst ys))) (fun X fit => call_list_of) os_list hg (hl _ hin) (by decide +kernel) ha (by decide) (by decide) he hpl
theorem b_sorted (hl : Free c.mg l) (ha : DA c m (e :: es) wl) (hin : ("sorted" : Str) ∈ l := by decide) (hg : GlC c.sc "sorted" := by rfl) (he : ∀ env, starEach (e :: es) env = (false, eval e env) :: starEach es env := by intro _; rfl) (hpl : ∀ env, (backTo pos (starEach es env)).any (·.1) = false := by intro _; rfl) : DE c m (.Call (.Name "sorted" p) (e :: es) [] pos) (wN opSorted wl) :=
  de_callB (r := rSortedI) (fun X fit => cr_sortedI) os_sorted hg (hl _ hin) (by decide +kernel) ha (by decide) (by decide) he hpl
theorem b_abs (hl : Free c.mg l) (ha : DA c m (e :: es) wl) (hin : ("abs" : Str) ∈ l := by decide) (hg : GlC c.sc "abs" := by rfl) (he : ∀ env, starEach (e :: es) env = (false, eval e env) :: starEach es env := by intro _; rfl) (hpl : ∀ env, (backTo pos (starEach es env)).any (·.1) = false := by intro _; rfl) : DE c m (.Call (.Name "abs" p) (e :: es) [] pos) (wN opAbs wl) :=
  de_callB (r := fun _ xs H Q => ∃ i, xs = [.int i] ∧ Q (.int (if i < 0 then -i else i)) H) (fun X fit => call_abs) os_abs hg (hl _ hin) (by decide +kernel) ha (by decide) (by decide) he hpl
theorem b_max2 (hl : Free c.mg l) (ha : DA c m (e :: es) wl) (hin : ("max" : Str) ∈ l := by decide) (hg : GlC c.sc "max" := by rfl) (he : ∀ env, starEach (e :: es) env = (false, eval e env) :: starEach es env := by intro _; rfl) (hpl : ∀ env, (backTo pos (starEach es env)).any (·.1) = false := by intro _; rfl) : DE c m (.Call (.Name "max" p) (e :: es) [] pos) (wN opMax2 wl) :=
  de_callB (r := fun _ xs H Q => ∃ i j, xs = [.int i, .int j] ∧ Q (.int (if j > i then j else i)) H) (fun X fit => call_max2 fit.calm) os_max2 hg (hl _ hin) (by decide +kernel) ha (by decide) (by decide) he hpl
theorem b_min2 (hl : Free c.mg l) (ha : DA c m (e :: es) wl) (hin : ("min" : Str) ∈ l := by decide) (hg : GlC c.sc "min" := by rfl) (he : ∀ env, starEach (e :: es) env = (false, eval e env) :: starEach es env := by intro _; rfl) (hpl : ∀ env, (backTo pos (starEach es env)).any (·.1) = false := by intro _; rfl) : DE c m (.Call (.Name "min" p) (e :: es) [] pos) (wN opMin2 wl) :=
  de_callB (r := fun _ xs H Q => ∃ i j, xs = [.int i, .int j] ∧ Q (.int (if j < i then j else i)) H) (fun X fit => call_min2 fit.calm) os_min2 hg (hl _ hin) (by decide +kernel) ha (by decide) (by decide) he hpl
theorem b_int (hl : Free c.mg l) (ha : DA c m (e :: es) wl) (hin : ("int" : Str) ∈ l := by decide) (hg : GlC c.sc "int" := by rfl) (he : ∀ env, starEach (e :: es) env = (false, eval e env) :: starEach es env := by intro _; rfl) (hpl : ∀ env, (backTo pos (starEach es env)).any (·.1) = false := by intro _; rfl) : DE c m (.Call (.Name "int" p) (e :: es) [] pos) (wN opInt wl) :=
  de_callTy (r := fun _ => rInt) (fun X fit => cr_int) os_int hg (hl _ hin) (by decide +kernel) ha (by decide) (by decide) he hpl
theorem b_str (hl : Free c.mg l) (ha : DA c m (e :: es) wl) (hin : ("str" : Str) ∈ l := by decide) (hg : GlC c.sc "str" := by rfl) (he : ∀ env, starEach (e :: es) env = (false, eval e env) :: starEach es env := by intro _; rfl) (hpl : ∀ env, (backTo pos (starEach es env)).any (·.1) = false := by intro _; rfl) : DE c m (.Call (.Name "str" p) (e :: es) [] pos) (wN opStr wl) :=
  de_callTy (r := fun _ xs H Q => ∃ i, xs = [.int i] ∧ i.natAbs.log2 < 1920 ∧ Q (.str (toString i)) H) (fun X fit => call_str_int) os_str hg (hl _ hin) (by decide +kernel) ha (by decide) (by decide) he hpl
theorem b_all (hl : Free c.mg l) (ha : DA c m (e :: es) wl) (hin : ("all" : Str) ∈ l := by decide) (hg : GlC c.sc "all" := by rfl) (he : ∀ env, starEach (e :: es) env = (false, eval e env) :: starEach es env := by intro _; rfl) (hpl : ∀ env, (backTo pos (starEach es env)).any (·.1) = false := by intro _; rfl) : DE c m (.Call (.Name "all" p) (e :: es) [] pos) (wN opAll wl) :=
  de_callB (r := rAll) (fun X fit => cr_all fit.calm) os_all hg (hl _ hin) (by decide +kernel) ha (by decide) (by decide) he hpl
theorem b_any (hl : Free c.mg l) (ha : DA c m (e :: es) wl) (hin : ("any" : Str) ∈ l := by decide) (hg : GlC c.sc "any" := by rfl) (he : ∀ env, starEach (e :: es) env = (false, eval e env) :: starEach es env := by intro _; rfl) (hpl : ∀ env, (backTo pos (starEach es env)).any (·.1) = false := by intro _; rfl) : DE c m (.Call (.Name "any" p) (e :: es) [] pos) (wN opAny wl) :=
  de_callB (r := rAny) (fun X fit => cr_any fit.calm) os_any hg (hl _ hin) (by decide +kernel) ha (by decide) (by decide) he hpl
theorem b_sum (hl : Free c.mg l) (ha : DA c m (e :: es) wl) (hin : ("sum" : Str) ∈ l := by decide) (hg : GlC c.sc "sum" := by rfl) (he : ∀ env, starEach (e :: es) env = (false, eval e env) :: starEach es env := by intro _; rfl) (hpl : ∀ env, (backTo pos (starEach es env)).any (·.1) = false := by intro _; rfl) : DE c m (.Call (.Name "sum" p) (e :: es) [] pos) (wN opSum wl) :=
  de_callB (r := rSum) (fun X fit => cr_sum fit.calm) os_sum hg (hl _ hin) (by decide +kernel) ha (by decide) (by decide) he hpl
theorem b_max (hl : Free c.mg l) (ha : DA c m (e :: es) wl) (hin : ("max" : Str) ∈ l := by decide) (hg : GlC c.sc "max" := by rfl) (he : ∀ env, starEach (e :: es) env = (false, eval e env) :: starEach es env := by intro _; rfl) (hpl : ∀ env, (backTo pos (starEach es env)).any (·.1) = false := by intro _; rfl) : DE c m (.Call (.Name "max" p) (e :: es) [] pos) (wN opMax wl) :=
  de_callB (r := rMax) (fun X fit => cr_max fit.calm) os_max hg (hl _ hin) (by decide +kernel) ha (by decide) (by decide) he hpl
theorem b_min (hl : Free c.mg l) (ha : DA c m (e :: es) wl) (hin : ("min" : Str) ∈ l := by decide) (hg : GlC c.sc "min" := by rfl) (he : ∀ env, starEach (e :: es) env = (false, eval e env) :: starEach es env := by intro _; rfl) (hpl : ∀ env, (backTo pos (starEach es env)).any (·.1) = false := by intro _; rfl) : DE c m (.Call (.Name "min" p) (e :: es) [] pos) (wN opMin wl) :=
  de_callB (r := rMin) (fun X fit => cr_min fit.calm) os_min hg (hl _ hin) (by decide +kernel) ha (by decide) (by decide) he hpl
theorem b_isi {T : String} {x : Str} {p2 : Pos} (hl : Free c.mg l) (ha : DE c m a wa) (hin : ("isinstance" : Str) ∈ l := by decide) (hin2 : x ∈ l := by decide) (hT : okTy T = true := by decide) (hg : GlC c.sc "isinstance" := by rfl) (hg2 : GlC c.sc x := by rfl) (hv : bootBuiltins x = some (.type T) := by decide +kernel)
    (hn : x ≠ "__name__" := by decide) (hdb : (x == ("__debug__" : Str)) = false := by decide)
    (hs : ∀ env, starEach [a, .Name x p2] env = (false, eval a env) :: starEach [.Name x p2] env := by intro _; rfl) : DE c m (.Call (.Name "isinstance" p) [a, .Name x p2] [] pos) (w1 (opIsi T) wa) :=
  de_isi ha hT hg (hl _ hin) hg2 (hl _ hin2) hv hn hdb (by decide +kernel) hs
theorem i_range1 {tg : Expr} (hl : Free c.mg l) (ha : DA c m [a] wl) (hin : ("range" : Str) ∈ l := by decide) (hg : GlC c.sc "range" := by rfl) (hs : ∀ env, starEach [a] env = [(false, eval a env)] := by intro _; rfl) : DI c tg (.Call (.Name "range" p) [a] [] pos) (wRange1 wl) := di_range1 hg (hl _ hin) ha hs
theorem i_range2 {tg : Expr} (hl : Free c.mg l) (ha : DA c m [a, b] wl) (hin : ("range" : Str) ∈ l := by decide) (hg : GlC c.sc "range" := by rfl) (hs : ∀ env, starEach [a, b] env = [(false, eval a env), (false, eval b env)] := by intro _; rfl)
    (hs2 : ∀ env, starEach [b] env = [(false, eval b env)] := by intro _; rfl) : DI c tg (.Call (.Name "range" p) [a, b] [] pos) (wRange2 wl) := di_range2 hg (hl _ hin) ha hs hs2
theorem i_enum {k : Nat} {tp : Pos} (hl : Free c.mg l) (ha : DA c m [a] wl) (hin : ("enumerate" : Str) ∈ l := by decide) (hg : GlC c.sc "enumerate" := by rfl) (hs : ∀ env, starEach [a] env = [(false, eval a env)] := by intro _; rfl) : DI c (.Tuple es k tp) (.Call (.Name "enumerate" p) [a] [] pos) (wEnum wl) := di_enum hg (hl _ hin) ha hs
theorem i_zip {k : Nat} {tp : Pos} (hl : Free c.mg l) (ha : DA c m [a, b] wl) (hin : ("zip" : Str) ∈ l := by decide) (hg : GlC c.sc "zip" := by rfl) (hs : ∀ env, starEach [a, b] env = (false, eval a env) :: starEach [b] env := by intro _; rfl) (hpl : ∀ env, (backTo pos (starEach [b] env)).any (·.1) = false := by intro _; rfl) : DI c (.Tuple es k tp) (.Call (.Name "zip" p) [a, b] [] pos) (wZip wl) := di_zip hg (hl _ hin) ha hs hpl
theorem b_listRg1 {p2 p3 : Pos} (hl : Free c.mg l) (ha : DE c m a wa) (hin : ("range" : Str) ∈ l := by decide) (hin2 : ("list" : Str) ∈ l := by decide) (hg : GlC c.sc "range" := by rfl) (hg2 : GlC c.sc "list" := by rfl) (na : ∀ env, starEach [a] env = (false, eval a env) :: starEach [] env := by intro _; rfl)
    (nb : ∀ env, starEach [.Call (.Name "range" p) [a] [] p2] env = (false, eval (.Call (.Name "range" p) [a] [] p2) env) :: starEach [] env := by intro _; rfl) : DE c m (.Call (.Name "list" p3) [.Call (.Name "range" p) [a] [] p2] [] pos) (wListRg1 wa) := de_listRg1 ha hg (hl _ hin) hg2 (hl _ hin2) na nb
theorem b_tupRg1 {p2 p3 : Pos} (hl : Free c.mg l) (ha : DE c m a wa) (hin : ("range" : Str) ∈ l := by decide) (hin2 : ("tuple" : Str) ∈ l := by decide) (hg : GlC c.sc "range" := by rfl) (hg2 : GlC c.sc "tuple" := by rfl) (na : ∀ env, starEach [a] env = (false, eval a env) :: starEach [] env := by intro _; rfl)
    (nb : ∀ env, starEach [.Call (.Name "range" p) [a] [] p2] env = (false, eval (.Call (.Name "range" p) [a] [] p2) env) :: starEach [] env := by intro _; rfl) : DE c m (.Call (.Name "tuple" p3) [.Call (.Name "range" p) [a] [] p2] [] pos) (wTupRg1 wa) := de_tupRg1 ha hg (hl _ hin) hg2 (hl _ hin2) na nb
end
/-! ### loops by an invariant -/
theorem for_inv {wg : WG} {wb : WS} {De : DEnds} {Ψ : PsiE} (I : List D → DEnv → Prop) (hs : ∀ d ds (k : DEnv → Prop), (∀ ρ, I ds ρ → k ρ) → ∀ ρ, I (d :: ds) ρ → wg d ρ fun ρ1 => wb { De with nx := k, ct := k, bk := De.nx } Ψ ρ1) (hd : ∀ ρ, I [] ρ → De.nx ρ) : ∀ (ds : List D) (ρ : DEnv), I ds ρ → forGo wg wb De Ψ ds ρ
  | [], ρ, h => hd ρ h
  | d :: ds, ρ, h => hs d ds _ (for_inv I hs hd ds) ρ h
theorem lc_inv {vs : List Nat} {wg : WG} {wt : WT} {we : WE} {k : List D → DEnv → Prop} (I : List D → DEnv → List D → Prop)
    (hs : ∀ d ds (kk : DEnv → List D → Prop), (∀ ρ acc, I ds ρ acc → kk ρ acc) → ∀ ρ acc, I (d :: ds) ρ acc → wg d ρ fun ρ1 => wt ρ1 (fun b ρ2 => if b = true then we ρ2 (fun t ρ3 => acc.length < sizeLine ∧ wd (elemT t ρ3) fun q => kk (wipeD q.2 vs) (acc ++ [q.1])) noPsi else kk (wipeD ρ2 vs) acc) noPsi)
    (hd : ∀ ρ acc, I [] ρ acc → k acc ρ) : ∀ (ds : List D) (ρ : DEnv) (acc : List D), I ds ρ acc → lcGo vs wg wt we k ds ρ acc
  | [], ρ, acc, h => hd ρ acc h
  | d :: ds, ρ, acc, h => hs d ds _ (lc_inv I hs hd ds) ρ acc h
theorem while_inv {wt : WT} {wb : WS} {De : DEnds} {Ψ : PsiE} (I : Nat → DEnv → Prop) (hs : ∀ n (k : DEnv → Prop), (∀ j ρ, j < n → I j ρ → k ρ) → ∀ ρ, I n ρ → wt ρ (fun b ρ1 => if b = true then wb { De with nx := k, ct := k, bk := De.nx } Ψ ρ1 else De.nx ρ1) Ψ) : ∀ (n : Nat) (ρ : DEnv), I n ρ → ∀ m, n < m → whGo wt wb De Ψ m ρ
  | n, ρ, h, 0, hm => (Nat.not_lt_zero _ hm).elim
  | n, ρ, h, m + 1, hm => hs n (whGo wt wb De Ψ m) (fun j ρ' hj hI => while_inv I hs j ρ' hI m (by omega)) ρ h
theorem while_run {wt : WT} {wb : WS} {De : DEnds} {Ψ : PsiE} (I : Nat → DEnv → Prop) (hs : ∀ n (k : DEnv → Prop), (∀ j ρ, j < n → I j ρ → k ρ) → ∀ ρ, I n ρ → wt ρ (fun b ρ1 => if b = true then wb { De with nx := k, ct := k, bk := De.nx } Ψ ρ1 else De.nx ρ1) Ψ) {n : Nat} {ρ : DEnv} (h : I n ρ) : wWhile wt wb De Ψ ρ :=
  ⟨n + 1, while_inv I hs n ρ h (n + 1) (Nat.lt_succ_self n)⟩
end DL

set_option maxHeartbeats 200000
/-! DLS: the combinators applied, for simp -/
namespace DL
open PySem PySem.Spec PyProof.Rows L2
/-- a tag: what its type names, simp leaves alone -/
inductive Tg {α : Sort _} (k : α) : Type
  | mk
def wdk {α : Type} (o : Option α) (k : α → Prop) (t : Tg k := Tg.mk) : Prop := wd o k
def asIk (d : D) (k : Int → Prop) (t : Tg k := Tg.mk) : Prop := asI d k
def asBk (d : D) (k : Bool → Prop) (t : Tg k := Tg.mk) : Prop := asB d k
def asLOk (d : Option D) (k : List D → Prop) (t : Tg k := Tg.mk) : Prop := asLO d k
def ifk (b : Bool) (p q : Prop) (t : Tg p := Tg.mk) (u : Tg q := Tg.mk) : Prop := if b = true then p else q
def lcGok (vs : List Nat) (wg : WG) (wt : WT) (we : WE) (k : List D → DEnv → Prop) (ds : List D) (ρ : DEnv) (acc : List D) (t : Tg k := Tg.mk) : Prop := lcGo vs wg wt we k ds ρ acc
def lcGo2k (vs vs1 : List Nat) (wg : WG) (wt : WT) (wi1 : WI) (wg1 : WG) (wt1 : WT) (we : WE) (k : List D → DEnv → Prop) (ds : List D) (ρ : DEnv) (acc : List D) (t : Tg k := Tg.mk) : Prop := lcGo2 vs vs1 wg wt wi1 wg1 wt1 we k ds ρ acc
def forGok (wg : WG) (wb : WS) (De : DEnds) (Ψ : PsiE) (ds : List D) (ρ : DEnv) (t : Tg De := Tg.mk) (u : Tg Ψ := Tg.mk) : Prop := forGo wg wb De Ψ ds ρ
def whilek (wt : WT) (wb : WS) (De : DEnds) (Ψ : PsiE) (ρ : DEnv) (t : Tg De := Tg.mk) (u : Tg Ψ := Tg.mk) : Prop := wWhile wt wb De Ψ ρ
theorem whilek_ap {wt : WT} {wb : WS} {De : DEnds} {Ψ : PsiE} {ρ : DEnv} : wWhile wt wb De Ψ ρ = whilek wt wb De Ψ ρ := propext Iff.rfl
theorem wdk_some {α : Type} {a : α} {k : α → Prop} : wdk (some a) k = k a := Eq.trans rfl rfl
theorem asIk_int {i : Int} {k : Int → Prop} : asIk (.int i) k = k i := Eq.trans rfl rfl
theorem asBk_bl {i : Bool} {k : Bool → Prop} : asBk (.bl i) k = k i := Eq.trans rfl rfl
theorem asLOk_lst {ds : List D} {k : List D → Prop} : asLOk (some (.lst true ds)) k = k ds := Eq.trans rfl rfl
theorem ifk_t {p q : Prop} : ifk true p q = p := by unfold ifk; rw [if_pos rfl]
theorem ifk_f {p q : Prop} : ifk false p q = q := by unfold ifk; rw [if_neg Bool.false_ne_true]
theorem lcGok_nil {vs : List Nat} {wg : WG} {wt : WT} {we : WE} {k : List D → DEnv → Prop} {ρ : DEnv} {acc : List D} : lcGok vs wg wt we k [] ρ acc = k acc ρ := Eq.trans rfl rfl
theorem forGok_nil {wg : WG} {wb : WS} {De : DEnds} {Ψ : PsiE} {ρ : DEnv} : forGok wg wb De Ψ [] ρ = De.nx ρ := Eq.trans rfl rfl
theorem forGok_cons {wg : WG} {wb : WS} {De : DEnds} {Ψ : PsiE} {d : D} {ds : List D} {ρ : DEnv} : forGok wg wb De Ψ (d :: ds) ρ = wg d ρ fun ρ1 => wb { De with nx := fun ρ => forGok wg wb De Ψ ds ρ, ct := fun ρ => forGok wg wb De Ψ ds ρ, bk := De.nx } Ψ ρ1 := Eq.trans rfl rfl

theorem wVar.ap {i : Nat} {ρ : DEnv} {Φ : T → DEnv → Prop} {x2 : PsiE} : wVar i ρ Φ x2 = (wdk (lk ρ i) fun d => Φ (if d.isOwn = true then .slot i else .val d) ρ) := propext Iff.rfl
theorem wC.ap {d : D} {ρ : DEnv} {Φ : T → DEnv → Prop} {x2 : PsiE} : wC d ρ Φ x2 = (Φ (.val d) ρ) := propext Iff.rfl
theorem w1.ap {f : Op1} {wa : WE} {ρ : DEnv} {Φ : T → DEnv → Prop} {Ψ : PsiE} : w1 f wa ρ Φ Ψ = (wa ρ (fun ta ρ1 => wdk (deref ρ1 ta) fun x => f x fun d => Φ (.val d) ρ1) Ψ) := propext Iff.rfl
theorem w2.ap {q : Bool} {f : Op2} {wa wb : WE} {ρ : DEnv} {Φ : T → DEnv → Prop} {Ψ : PsiE} : w2 q f wa wb ρ Φ Ψ = (wa ρ (fun ta ρ1 => (q || ta.stable) = true ∧ wb ρ1 (fun tb ρ2 => wdk (deref ρ2 ta) fun x => wdk (deref ρ2 tb) fun y => f x y fun d => Φ (.val d) ρ2) Ψ) Ψ) := propext Iff.rfl
theorem wTest.ap {wa : WE} {ρ : DEnv} {Φ : Bool → DEnv → Prop} {Ψ : PsiE} : wTest wa ρ Φ Ψ = (wa ρ (fun t ρ1 => wdk (deref ρ1 t) fun d => asBk d fun b => Φ b ρ1) Ψ) := propext Iff.rfl
theorem wAnd.ap {wa wb : WT} {ρ : DEnv} {Φ : Bool → DEnv → Prop} {Ψ : PsiE} : wAnd wa wb ρ Φ Ψ = (wa ρ (fun b ρ1 => ifk b (wb ρ1 Φ Ψ) (Φ false ρ1)) Ψ) := propext Iff.rfl
theorem wOr.ap {wa wb : WT} {ρ : DEnv} {Φ : Bool → DEnv → Prop} {Ψ : PsiE} : wOr wa wb ρ Φ Ψ = (wa ρ (fun b ρ1 => ifk b (Φ true ρ1) (wb ρ1 Φ Ψ)) Ψ) := propext Iff.rfl
theorem wNot.ap {wa : WT} {ρ : DEnv} {Φ : Bool → DEnv → Prop} {Ψ : PsiE} : wNot wa ρ Φ Ψ = (wa ρ (fun b ρ1 => Φ (!b) ρ1) Ψ) := propext Iff.rfl
theorem wAndV.ap {wa wb : WE} {ρ : DEnv} {Φ : T → DEnv → Prop} {Ψ : PsiE} : wAndV wa wb ρ Φ Ψ = (wa ρ (fun t ρ1 => wdk (deref ρ1 t) fun d => asBk d fun b => ifk b (wb ρ1 Φ Ψ) (Φ (.val (.bl false)) ρ1)) Ψ) := propext Iff.rfl
theorem wOrV.ap {wa wb : WE} {ρ : DEnv} {Φ : T → DEnv → Prop} {Ψ : PsiE} : wOrV wa wb ρ Φ Ψ = (wa ρ (fun t ρ1 => wdk (deref ρ1 t) fun d => asBk d fun b => ifk b (Φ (.val (.bl true)) ρ1) (wb ρ1 Φ Ψ)) Ψ) := propext Iff.rfl
theorem wNotV.ap {wa : WE} {ρ : DEnv} {Φ : T → DEnv → Prop} {Ψ : PsiE} : wNotV wa ρ Φ Ψ = (wa ρ (fun t ρ1 => wdk (deref ρ1 t) fun d => asBk d fun b => Φ (.val (.bl (!b))) ρ1) Ψ) := propext Iff.rfl
theorem wIf.ap {wt : WT} {wa wb : WE} {ρ : DEnv} {Φ : T → DEnv → Prop} {Ψ : PsiE} : wIf wt wa wb ρ Φ Ψ = (wt ρ (fun k ρ1 => ifk k (wa ρ1 Φ Ψ) (wb ρ1 Φ Ψ)) Ψ) := propext Iff.rfl
theorem wNil.ap {ρ : DEnv} {Φ : List T → DEnv → Prop} {x2 : PsiE} : wNil  ρ Φ x2 = (Φ [] ρ) := propext Iff.rfl
theorem wCons.ap {q : Bool} {wa : WE} {wr : WA} {ρ : DEnv} {Φ : List T → DEnv → Prop} {Ψ : PsiE} : wCons q wa wr ρ Φ Ψ = (wa ρ (fun t ρ1 => (q || t.stable) = true ∧ wr ρ1 (fun ts ρ2 => Φ (t :: ts) ρ2) Ψ) Ψ) := propext Iff.rfl
theorem wN.ap {f : OpN} {wa : WA} {ρ : DEnv} {Φ : T → DEnv → Prop} {Ψ : PsiE} : wN f wa ρ Φ Ψ = (wa ρ (fun ts ρ1 => wdk (derefs ρ1 ts) fun ds => f ds fun d => Φ (.val d) ρ1) Ψ) := propext Iff.rfl
theorem wTup.ap {wa : WA} {ρ : DEnv} {Φ : T → DEnv → Prop} {Ψ : PsiE} : wTup wa ρ Φ Ψ = (wa ρ (fun ts ρ1 => wdk (frzTs ts ρ1) fun p => p.1.length ≤ sizeLine ∧ Φ (.val (.tup p.1)) p.2) Ψ) := propext Iff.rfl
theorem wTupQ.ap {wa : WA} {ρ : DEnv} {Φ : T → DEnv → Prop} {Ψ : PsiE} : wTupQ wa ρ Φ Ψ = (wa ρ (fun ts ρ1 => wdk (valsT ts) fun ds => pureL ds = true ∧ ds.length ≤ sizeLine ∧ Φ (.val (.tup ds)) ρ1) Ψ) := propext Iff.rfl
theorem wLstO.ap {wa : WA} {ρ : DEnv} {Φ : T → DEnv → Prop} {Ψ : PsiE} : wLstO wa ρ Φ Ψ = (wa ρ (fun ts ρ1 => wdk (valsT ts) fun ds => ds.length ≤ sizeLine ∧ Φ (.val (.lst true ds)) ρ1) Ψ) := propext Iff.rfl
theorem wLst.ap {wa : WA} {ρ : DEnv} {Φ : T → DEnv → Prop} {Ψ : PsiE} : wLst wa ρ Φ Ψ = (wa ρ (fun ts ρ1 => wdk (frzTs ts ρ1) fun p => p.1.length ≤ sizeLine ∧ Φ (.val (.lst true p.1)) p.2) Ψ) := propext Iff.rfl
theorem wIx.ap {q : Bool} {wa wb : WE} {ρ : DEnv} {Φ : T → DEnv → Prop} {Ψ : PsiE} : wIx q wa wb ρ Φ Ψ = (wa ρ (fun ta ρ1 => (q || ta.stable) = true ∧ wb ρ1 (fun tb ρ2 => wdk (deref ρ2 ta) fun x => wdk (deref ρ2 tb) fun y => asIk y fun i => itemD x i ta fun t => Φ t ρ2) Ψ) Ψ) := propext Iff.rfl
theorem wNoPart.ap {ρ : DEnv} {Φ : Option Int → DEnv → Prop} {x2 : PsiE} : wNoPart  ρ Φ x2 = (Φ none ρ) := propext Iff.rfl
theorem wPart.ap {wa : WE} {ρ : DEnv} {Φ : Option Int → DEnv → Prop} {Ψ : PsiE} : wPart wa ρ Φ Ψ = (wa ρ (fun t ρ1 => wdk (deref ρ1 t) fun d => asIk d fun i => Φ (some i) ρ1) Ψ) := propext Iff.rfl
theorem wSlice.ap {wa : WE} {wl wh : WO} {ρ : DEnv} {Φ : T → DEnv → Prop} {Ψ : PsiE} : wSlice wa wl wh ρ Φ Ψ = (wa ρ (fun t ρ1 => wl ρ1 (fun lo ρ2 => wh ρ2 (fun hi ρ3 => wdk (deref ρ3 t) fun x => sliceD x lo hi fun d => Φ (.val d) ρ3) Ψ) Ψ) Ψ) := propext Iff.rfl
theorem wSeq.ap {wa : WE} {ρ : DEnv} {Φ : List D → DEnv → Prop} {Ψ : PsiE} : wSeq wa ρ Φ Ψ = (wa ρ (fun t ρ1 => wdk (frzT t ρ1) fun q => wdk (itemsD q.1) fun ds => Φ ds q.2) Ψ) := propext Iff.rfl
theorem wRange1.ap {wa : WA} {ρ : DEnv} {Φ : List D → DEnv → Prop} {Ψ : PsiE} : wRange1 wa ρ Φ Ψ = (wa ρ (fun ts ρ1 => wdk (derefs ρ1 ts) fun xs => match xs with
  | [.int j] => rgOk j ∧ Φ (rangeD 0 j.toNat) ρ1
  | _ => False) Ψ) := propext Iff.rfl
theorem wRange2.ap {wa : WA} {ρ : DEnv} {Φ : List D → DEnv → Prop} {Ψ : PsiE} : wRange2 wa ρ Φ Ψ = (wa ρ (fun ts ρ1 => wdk (derefs ρ1 ts) fun xs => match xs with
  | [.int i, .int j] => rgOk i ∧ rgOk j ∧ Φ (rangeD i (j - i).toNat) ρ1
  | _ => False) Ψ) := propext Iff.rfl
theorem wEnum.ap {wa : WA} {ρ : DEnv} {Φ : List D → DEnv → Prop} {Ψ : PsiE} : wEnum wa ρ Φ Ψ = (wa ρ (fun ts ρ1 => wdk (frzTs ts ρ1) fun q => match q.1 with
  | [d] => wdk (seqD d) fun ds => Φ (enumD ds) q.2
  | _ => False) Ψ) := propext Iff.rfl
theorem wZip.ap {wa : WA} {ρ : DEnv} {Φ : List D → DEnv → Prop} {Ψ : PsiE} : wZip wa ρ Φ Ψ = (wa ρ (fun ts ρ1 => wdk (frzTs ts ρ1) fun q => match q.1 with
  | [d, e] => wdk (zipOk d e) fun z => Φ (zipD z.1 z.2) q.2
  | _ => False) Ψ) := propext Iff.rfl
theorem wgName.ap {i : Nat} {d : D} {ρ : DEnv} {k : DEnv → Prop} : wgName i d ρ k = (i < ρ.length ∧ k (ρ.set i (some d))) := propext Iff.rfl
theorem wgsNil.ap {ds : List D} {ρ : DEnv} {k : DEnv → Prop} : wgsNil  ds ρ k = (match ds with
  | [] => k ρ
  | _ => False) := propext Iff.rfl
theorem wgsCons.ap {w : WG} {ws : WGs} {ds : List D} {ρ : DEnv} {k : DEnv → Prop} : wgsCons w ws ds ρ k = (match ds with
  | d :: ds => w d ρ fun ρ1 => ws ds ρ1 k
  | _ => False) := propext Iff.rfl
theorem wgTup.ap {n : Nat} {ws : WGs} {d : D} {ρ : DEnv} {k : DEnv → Prop} : wgTup n ws d ρ k = (match d with
  | .tup ds => ds.length = n ∧ ws ds ρ k
  | .lst _ ds => ds.length = n ∧ ws ds ρ k
  | _ => False) := propext Iff.rfl
theorem wYes.ap {ρ : DEnv} {Φ : Bool → DEnv → Prop} {x2 : PsiE} : wYes  ρ Φ x2 = (Φ true ρ) := propext Iff.rfl
theorem wLc.ap {vs : List Nat} {wi : WI} {wg : WG} {wt : WT} {we : WE} {ρ : DEnv} {Φ : T → DEnv → Prop} {Ψ : PsiE} : wLc vs wi wg wt we ρ Φ Ψ = (wi ρ (fun ds ρ1 => lcGok vs wg wt we (fun ys ρ2 => Φ (.val (.lst true ys)) ρ2) ds (wipeD ρ1 vs) []) Ψ) := propext Iff.rfl
theorem wNext.ap {D : DEnds} {x1 : PsiE} {ρ : DEnv} : wNext  D x1 ρ = (D.nx ρ) := propext Iff.rfl
theorem wsSeq.ap {w u : WS} {D : DEnds} {Ψ : PsiE} {ρ : DEnv} : wsSeq w u D Ψ ρ = (w { D with nx := u D Ψ } Ψ ρ) := propext Iff.rfl
theorem wBreak.ap {D : DEnds} {x1 : PsiE} {ρ : DEnv} : wBreak  D x1 ρ = (D.bk ρ) := propext Iff.rfl
theorem wCont.ap {D : DEnds} {x1 : PsiE} {ρ : DEnv} : wCont  D x1 ρ = (D.ct ρ) := propext Iff.rfl
theorem wAsg.ap {i : Nat} {wa : WE} {D : DEnds} {Ψ : PsiE} {ρ : DEnv} : wAsg i wa D Ψ ρ = (wa ρ (fun t ρ1 => wdk (moveT t ρ1) fun q => i < q.2.length ∧ D.nx (q.2.set i (some q.1))) Ψ) := propext Iff.rfl
theorem wAsgF.ap {i : Nat} {wa : WE} {D : DEnds} {Ψ : PsiE} {ρ : DEnv} : wAsgF i wa D Ψ ρ = (wa ρ (fun t ρ1 => wdk (frzT t ρ1) fun q => i < q.2.length ∧ D.nx (q.2.set i (some q.1))) Ψ) := propext Iff.rfl
theorem wRet.ap {wa : WE} {D : DEnds} {Ψ : PsiE} {ρ : DEnv} : wRet wa D Ψ ρ = (wa ρ (fun t ρ1 => wdk (moveT t ρ1) fun q => D.rt q.1 q.2) Ψ) := propext Iff.rfl
theorem wRetN.ap {D : DEnds} {x1 : PsiE} {ρ : DEnv} : wRetN  D x1 ρ = (D.rt .non ρ) := propext Iff.rfl
theorem wDrop.ap {wa : WE} {D : DEnds} {Ψ : PsiE} {ρ : DEnv} : wDrop wa D Ψ ρ = (wa ρ (fun _ ρ1 => D.nx ρ1) Ψ) := propext Iff.rfl
theorem wsIf.ap {wt : WT} {w u : WS} {D : DEnds} {Ψ : PsiE} {ρ : DEnv} : wsIf wt w u D Ψ ρ = (wt ρ (fun b ρ1 => ifk b (w D Ψ ρ1) (u D Ψ ρ1)) Ψ) := propext Iff.rfl
theorem wFor.ap {wi : WI} {wg : WG} {wb : WS} {D : DEnds} {Ψ : PsiE} {ρ : DEnv} : wFor wi wg wb D Ψ ρ = (wi ρ (fun ds ρ1 => forGok wg wb D Ψ ds ρ1) Ψ) := propext Iff.rfl
theorem wWhile.ap {wt : WT} {wb : WS} {D : DEnds} {Ψ : PsiE} {ρ : DEnv} : wWhile wt wb D Ψ ρ = (∃ n, whGo wt wb D Ψ n ρ) := propext Iff.rfl
theorem wCall.ap {io : List Bool} {fs : FS} {wa : WA} {ρ : DEnv} {Φ : T → DEnv → Prop} {Ψ : PsiE} : wCall io fs wa ρ Φ Ψ = (wa ρ (fun ts ρ1 => wdk (takeTs io ts ρ1) fun q => (q.2.1.filterMap id).Nodup ∧ fs q.1 (fun d ds' => Φ (.val d) (putBack q.2.1 ds' q.2.2)) (fun x ds' => Ψ x (putBack q.2.1 ds' q.2.2))) Ψ) := propext Iff.rfl
theorem wAppend.ap {q : Bool} {wx : WE} {wa : WA} {ρ : DEnv} {Φ : T → DEnv → Prop} {Ψ : PsiE} : wAppend q wx wa ρ Φ Ψ = (wx ρ (fun t ρ1 => (q || t.stable) = true ∧ asLOk (deref ρ1 t) fun _ => wa ρ1 (fun us ρ2 => match us with
  | [u] => wdk (elemT u ρ2) fun y => asLOk (deref y.2 t) fun ds => ds.length < sizeLine ∧ wdk (placeT t) fun l => wdk (setPlace y.2 l.1 l.2 (.lst true (ds ++ [y.1]))) fun ρ4 => Φ (.val .non) ρ4
  | _ => False) Ψ) Ψ) := propext Iff.rfl
theorem wPop.ap {wx : WE} {ρ : DEnv} {Φ : T → DEnv → Prop} {Ψ : PsiE} : wPop wx ρ Φ Ψ = (wx ρ (fun t ρ1 => asLOk (deref ρ1 t) fun ds => popD (deref ρ1 t) t ρ1 (ds.length - 1) fun d ρ2 => Φ (.val d) ρ2) Ψ) := propext Iff.rfl
theorem wPopAt.ap {q : Bool} {wx : WE} {wa : WA} {ρ : DEnv} {Φ : T → DEnv → Prop} {Ψ : PsiE} : wPopAt q wx wa ρ Φ Ψ = (wx ρ (fun t ρ1 => (q || t.stable) = true ∧ asLOk (deref ρ1 t) fun _ => wa ρ1 (fun us ρ2 => match us with
  | [u] => wdk (deref ρ2 u) fun y => asIk y fun i => asLOk (deref ρ2 t) fun ds => (-(2 ^ 63) ≤ i ∧ i < 2 ^ 63) ∧ wdk (ixN ds.length i) fun k => popD (deref ρ2 t) t ρ2 k fun d ρ3 => Φ (.val d) ρ3
  | _ => False) Ψ) Ψ) := propext Iff.rfl
theorem wSetIx.ap {we wx wi : WE} {D : DEnds} {Ψ : PsiE} {ρ : DEnv} : wSetIx we wx wi D Ψ ρ = (we ρ (fun u ρ1 => wdk (elemT u ρ1) fun y => wx y.2 (fun t ρ2 => wi ρ2 (fun s ρ3 => wdk (deref ρ3 s) fun z => asIk z fun i => asLOk (deref ρ3 t) fun ds => wdk (ixN ds.length i) fun j => wdk (placeT t) fun l => wdk (setPlace ρ3 l.1 l.2 (.lst true (ds.set j y.1))) fun ρ4 => D.nx ρ4) Ψ) Ψ) Ψ) := propext Iff.rfl
theorem wTgF.ap {wg : WG} {wa : WE} {D : DEnds} {Ψ : PsiE} {ρ : DEnv} : wTgF wg wa D Ψ ρ = (wa ρ (fun t ρ1 => wdk (frzT t ρ1) fun q => wg q.1 q.2 fun ρ2 => D.nx ρ2) Ψ) := propext Iff.rfl
theorem wPar.ap {is : List Nat} {wa : WA} {D : DEnds} {Ψ : PsiE} {ρ : DEnv} : wPar is wa D Ψ ρ = (wa ρ (fun ts ρ1 => wdk (takeTs (is.map fun _ => true) ts ρ1) fun q => wdk (storeD is q.1 q.2.2) fun ρ2 => D.nx ρ2) Ψ) := propext Iff.rfl
theorem wChain.ap {q : Bool} {f g : Op2} {wa wb wc : WE} {ρ : DEnv} {Φ : T → DEnv → Prop} {Ψ : PsiE} : wChain q f g wa wb wc ρ Φ Ψ = (wa ρ (fun ta ρ1 => (q || ta.stable) = true ∧ wb ρ1 (fun tb ρ2 => wdk (deref ρ2 ta) fun x => wdk (deref ρ2 tb) fun y => f x y fun d => asBk d fun k => ifk k (
  wc ρ2 (fun tc ρ3 => wdk (deref ρ3 tb) fun y => wdk (deref ρ3 tc) fun z => g y z fun d => Φ (.val d) ρ3) Ψ) (Φ (.val (.bl false)) ρ2)) Ψ) Ψ) := propext Iff.rfl
theorem wCallP.ap {io : List Bool} {p : List Nat} {fs : FS} {wa : WA} {ρ : DEnv} {Φ : T → DEnv → Prop} {Ψ : PsiE} : wCallP io p fs wa ρ Φ Ψ = (wa ρ (fun ts ρ1 => p.isPerm (List.range ts.length) = true ∧ wdk (takeTs io (permL p ts) ρ1) fun q => (q.2.1.filterMap id).Nodup ∧ fs q.1 (fun d ds' => Φ (.val d) (putBack q.2.1 ds' q.2.2)) (fun x ds' => Ψ x (putBack q.2.1 ds' q.2.2))) Ψ) := propext Iff.rfl
theorem wBoth.ap {n : Nat} {q : Bool} {wa wk : WA} {ρ : DEnv} {Φ : List T → DEnv → Prop} {Ψ : PsiE} : wBoth n q wa wk ρ Φ Ψ = (wa ρ (fun ts ρ1 => ts.length = n ∧ (q || ts.all T.stable) = true ∧ wk ρ1 (fun us ρ2 => Φ (ts ++ us) ρ2) Ψ) Ψ) := propext Iff.rfl
theorem wLc2.ap {vs vs1 : List Nat} {wi : WI} {wg : WG} {wt : WT} {wi1 : WI} {wg1 : WG} {wt1 : WT} {we : WE} {ρ : DEnv} {Φ : T → DEnv → Prop} {Ψ : PsiE} : wLc2 vs vs1 wi wg wt wi1 wg1 wt1 we ρ Φ Ψ = (wi ρ (fun ds ρ1 => lcGo2k vs vs1 wg wt wi1 wg1 wt1 we (fun ys ρ2 => Φ (.val (.lst true ys)) ρ2) ds (wipeD ρ1 vs) []) Ψ) := propext Iff.rfl
theorem wListRg1.ap {wa : WE} {ρ : DEnv} {Φ : T → DEnv → Prop} {Ψ : PsiE} : wListRg1 wa ρ Φ Ψ = (wa ρ (fun t ρ1 => wdk (deref ρ1 t) fun d => asIk d fun n => rgOk2 0 n ∧ Φ (.val (.lst true (rangeD 0 (n - 0).toNat))) ρ1) Ψ) := propext Iff.rfl
theorem wTupRg1.ap {wa : WE} {ρ : DEnv} {Φ : T → DEnv → Prop} {Ψ : PsiE} : wTupRg1 wa ρ Φ Ψ = (wa ρ (fun t ρ1 => wdk (deref ρ1 t) fun d => asIk d fun n => rgOk2 0 n ∧ Φ (.val (.tup (rangeD 0 (n - 0).toNat))) ρ1) Ψ) := propext Iff.rfl
theorem wListRg2.ap {q : Bool} {wa wb : WE} {ρ : DEnv} {Φ : T → DEnv → Prop} {Ψ : PsiE} : wListRg2 q wa wb ρ Φ Ψ = (wa ρ (fun t ρ1 => (q || t.stable) = true ∧ wb ρ1 (fun u ρ2 => wdk (deref ρ2 t) fun d => wdk (deref ρ2 u) fun e => asIk d fun i => asIk e fun j => rgOk2 i j ∧ Φ (.val (.lst true (rangeD i (j - i).toNat))) ρ2) Ψ) Ψ) := propext Iff.rfl
theorem wJoin.ap {q : Bool} {wo wa : WE} {ρ : DEnv} {Φ : T → DEnv → Prop} {Ψ : PsiE} : wJoin q wo wa ρ Φ Ψ = (wo ρ (fun t ρ1 => (q || t.stable) = true ∧ wdk (deref ρ1 t) fun x => (match x with
  | .str a => wa ρ1 (fun u ρ2 => wdk (deref ρ2 u) fun y => wdk (seqD y) fun ds => wdk (asStrs ds) fun ys => (ys.map (·.length)).sum + ys.length * a.length ≤ 16777216 ∧ Φ (.val (.str (Txt.join a ys))) ρ2) Ψ
  | _ => False)) Ψ) := propext Iff.rfl

theorem lk0 {x : Option D} {ρ : DEnv} : lk (x :: ρ) 0 = x := by cases x <;> rfl
theorem lkS {x : Option D} {ρ : DEnv} {n : Nat} : lk (x :: ρ) (n + 1) = lk ρ n := by simp [lk]
theorem wd_some {α : Type} {a : α} {k : α → Prop} : wd (some a) k = k a := Eq.trans rfl rfl
theorem asI_int {i : Int} {k : Int → Prop} : asI (.int i) k = k i := Eq.trans rfl rfl
theorem asB_bl {i : Bool} {k : Bool → Prop} : asB (.bl i) k = k i := Eq.trans rfl rfl
theorem asLO_lst {ds : List D} {k : List D → Prop} : asLO (some (.lst true ds)) k = k ds := Eq.trans rfl rfl
theorem deref_val {ρ : DEnv} {d : D} : deref ρ (.val d) = some d := Eq.trans rfl rfl
theorem deref_slot {ρ : DEnv} {i : Nat} : deref ρ (.slot i) = lk ρ i := Eq.trans rfl rfl
theorem deref_sub {ρ : DEnv} {i : Nat} {p : List Nat} : deref ρ (.sub i p) = (lk ρ i).bind fun d => walkD d p := Eq.trans rfl rfl
theorem moveT_val {ρ : DEnv} {d : D} : moveT (.val d) ρ = some (d, ρ) := Eq.trans rfl rfl
theorem moveT_slot {ρ : DEnv} {i : Nat} : moveT (.slot i) ρ = (lk ρ i).map fun d => (d, ρ.set i none) := Eq.trans rfl rfl
theorem elemT_val {ρ : DEnv} {d : D} : elemT (.val d) ρ = some (d, ρ) := Eq.trans rfl rfl
theorem elemT_slot {ρ : DEnv} {i : Nat} : elemT (.slot i) ρ = (lk ρ i).map fun d => (d.frz, ρ.set i (some d.frz)) := Eq.trans rfl rfl
theorem frzT_val {ρ : DEnv} {d : D} : frzT (.val d) ρ = some (d.frz, ρ) := Eq.trans rfl rfl
theorem frzT_slot {ρ : DEnv} {i : Nat} : frzT (.slot i) ρ = (lk ρ i).map fun d => (d.frz, ρ.set i (some d.frz)) := Eq.trans rfl rfl
theorem frzTs_nil {ρ : DEnv} : frzTs [] ρ = some ([], ρ) := Eq.trans rfl rfl
theorem frzTs_cons {ρ : DEnv} {t : T} {ts : List T} : frzTs (t :: ts) ρ = (frzT t ρ).bind fun q => (frzTs ts q.2).map fun r => (q.1 :: r.1, r.2) := by
  show (match frzT t ρ with | some (d, ρ1) => (match frzTs ts ρ1 with | some (ds, ρ2) => some (d :: ds, ρ2) | none => none) | none => none) = _
  cases frzT t ρ with
  | none => rfl
  | some q => 
    show (match frzTs ts q.2 with | some (ds, ρ2) => some (q.1 :: ds, ρ2) | none => none) = _
    cases e : frzTs ts q.2 <;> simp [e]
theorem takeTs_nil {ρ : DEnv} : takeTs [] [] ρ = some ([], [], ρ) := Eq.trans rfl rfl
theorem takeTs_cons {ρ : DEnv} {b : Bool} {io : List Bool} {t : T} {ts : List T} : takeTs (b :: io) (t :: ts) ρ = (takeT1 b t ρ).bind fun q => (takeTs io ts q.2.2).map fun r => (q.1 :: r.1, q.2.1 :: r.2.1, r.2.2) := by
  show (match takeT1 b t ρ with | some (d, o, ρ1) => (match takeTs io ts ρ1 with | some (ds, os, ρ2) => some (d :: ds, o :: os, ρ2) | none => none) | none => none) = _
  cases takeT1 b t ρ with
  | none => rfl
  | some q =>
    show (match takeTs io ts q.2.2 with | some (ds, os, ρ2) => some (q.1 :: ds, q.2.1 :: os, ρ2) | none => none) = _
    cases e : takeTs io ts q.2.2 <;> simp [e]
theorem takeT1_tv {ρ : DEnv} {d : D} : takeT1 true (.val d) ρ = some (d, none, ρ) := Eq.trans rfl rfl
theorem takeT1_ts {ρ : DEnv} {i : Nat} : takeT1 true (.slot i) ρ = (lk ρ i).map fun d => (d, some i, ρ.set i none) := Eq.trans rfl rfl
theorem takeT1_f {ρ : DEnv} {t : T} : takeT1 false t ρ = (frzT t ρ).map fun q => (q.1, none, q.2) := Eq.trans rfl rfl
theorem putBack_s {ρ : DEnv} {i : Nat} {wb : List (Option Nat)} {d : D} {ds : List D} : putBack (some i :: wb) (d :: ds) ρ = putBack wb ds (ρ.set i (some d)) := Eq.trans rfl rfl
theorem putBack_n {ρ : DEnv} {wb : List (Option Nat)} {d : D} {ds : List D} : putBack (none :: wb) (d :: ds) ρ = putBack wb ds ρ := Eq.trans rfl rfl
theorem putBack_nil {ρ : DEnv} : putBack [] [] ρ = ρ := by cases ρ <;> rfl
theorem outArgs_nil {ρ : DEnv} : outArgs [] [] ρ = some [] := by cases ρ <;> rfl
theorem outArgs_t {ρ : DEnv} {io : List Bool} {d0 d : D} {ds : List D} : outArgs (true :: io) (d0 :: ds) (some d :: ρ) = (outArgs io ds ρ).map fun l => d :: l := Eq.trans rfl rfl
theorem outArgs_f {ρ : DEnv} {io : List Bool} {d0 : D} {x : Option D} {ds : List D} : outArgs (false :: io) (d0 :: ds) (x :: ρ) = (outArgs io ds ρ).map fun l => d0 :: l := by cases x <;> rfl
theorem own_lst {o : Bool} {ds : List D} : D.isOwn (.lst o ds) = o := Eq.trans rfl rfl
theorem own_tup {ds : List D} : D.isOwn (.tup ds) = false := Eq.trans rfl rfl
theorem own_int {i : Int} : D.isOwn (.int i) = false := Eq.trans rfl rfl
theorem own_bl {i : Bool} : D.isOwn (.bl i) = false := Eq.trans rfl rfl
theorem own_str {i : Str} : D.isOwn (.str i) = false := Eq.trans rfl rfl
theorem own_non : D.isOwn .non = false := Eq.trans rfl rfl
theorem own_ro {ds : List D} : D.isOwn (.ro ds) = false := Eq.trans rfl rfl
theorem frz_tup {ds : List D} : D.frz (.tup ds) = .tup ds := Eq.trans rfl rfl
theorem frz_int {i : Int} : D.frz (.int i) = .int i := Eq.trans rfl rfl
theorem frz_bl {i : Bool} : D.frz (.bl i) = .bl i := Eq.trans rfl rfl
theorem frz_str {i : Str} : D.frz (.str i) = .str i := Eq.trans rfl rfl
theorem frz_non : D.frz .non = .non := Eq.trans rfl rfl
theorem frz_ro {ds : List D} : D.frz (.ro ds) = .ro ds := Eq.trans rfl rfl
theorem frz_lstF {ds : List D} : D.frz (.lst false ds) = .lst false ds := Eq.trans rfl rfl
theorem frz_lstT {ds : List D} : D.frz (.lst true ds) = .lst false (D.frzs ds) := Eq.trans rfl rfl
theorem frzs_nil : D.frzs [] = [] := Eq.trans rfl rfl
theorem frzs_cons {d : D} {ds : List D} : D.frzs (d :: ds) = d.frz :: D.frzs ds := Eq.trans rfl rfl
theorem frz_pure {d : D} (h : d.isOwn = false) : d.frz = d := by
  cases d with
  | lst o ds => cases o <;> first | rfl | cases h
  | dK o ks ds => cases o <;> first | rfl | cases h
  | dT o ks ds => cases o <;> first | rfl | cases h
  | _ => rfl
theorem frzs_pure : ∀ {ds : List D}, pureL ds = true → D.frzs ds = ds
  | [], _ => rfl
  | d :: ds, h => by
    have h' : (!d.isOwn) = true ∧ pureL ds = true := Bool.and_eq_true_iff.mp h
    rw [frzs_cons, frz_pure (by simpa using h'.1), frzs_pure h'.2]
theorem pureL_map {α : Type} {f : α → D} (h : ∀ a, (f a).isOwn = false) (l : List α) : pureL (l.map f) = true := by
  unfold pureL
  rw [List.all_eq_true]
  intro d hd
  obtain ⟨a, _, rfl⟩ := List.mem_map.mp hd
  rw [h a]; rfl
theorem pureL_nil : pureL [] = true := Eq.trans rfl rfl
theorem pureL_cons {d : D} {ds : List D} : pureL (d :: ds) = (!d.isOwn && pureL ds) := Eq.trans rfl rfl
theorem pureL_app {a c : List D} : pureL (a ++ c) = (pureL a && pureL c) := by unfold pureL; rw [List.all_append]
theorem valsT_nil : valsT [] = some [] := Eq.trans rfl rfl
theorem valsT_val {d : D} {ts : List T} : valsT (.val d :: ts) = (valsT ts).map fun ds => d :: ds := Eq.trans rfl rfl
theorem derefs_nil {ρ : DEnv} : derefs ρ [] = some [] := Eq.trans rfl rfl
theorem derefs_cons {ρ : DEnv} {t : T} {ts : List T} : derefs ρ (t :: ts) = (deref ρ t).bind fun d => (derefs ρ ts).map fun ds => d :: ds := by
  show (match deref ρ t, derefs ρ ts with | some d, some ds => some (d :: ds) | _, _ => none) = _
  cases deref ρ t <;> cases derefs ρ ts <;> rfl
theorem stable_val {d : D} : T.stable (.val d) = true := Eq.trans rfl rfl
theorem stable_slot {i : Nat} : T.stable (.slot i) = true := Eq.trans rfl rfl
theorem stable_sub {i : Nat} {p : List Nat} : T.stable (.sub i p) = false := Eq.trans rfl rfl
theorem placeT_slot {i : Nat} : placeT (.slot i) = some (i, []) := Eq.trans rfl rfl
theorem placeT_sub {i : Nat} {p : List Nat} : placeT (.sub i p) = some (i, p) := Eq.trans rfl rfl
theorem itemsD_tup {ds : List D} : itemsD (.tup ds) = some ds := Eq.trans rfl rfl
theorem itemsD_lst {o : Bool} {ds : List D} : itemsD (.lst o ds) = some ds := Eq.trans rfl rfl
theorem itemsD_ro {ds : List D} : itemsD (.ro ds) = some ds := Eq.trans rfl rfl
theorem itemsD_str {z : Str} : itemsD (.str z) = some (signsD z) := Eq.trans rfl rfl
theorem seqD_tup {ds : List D} : seqD (.tup ds) = some ds := Eq.trans rfl rfl
theorem seqD_lst {o : Bool} {ds : List D} : seqD (.lst o ds) = some ds := Eq.trans rfl rfl
theorem seqD_ro {ds : List D} : seqD (.ro ds) = some ds := Eq.trans rfl rfl
theorem listOf_lst {o : Bool} {ds : List D} : listOf (.lst o ds) = some ds := Eq.trans rfl rfl
theorem listOf_ro {ds : List D} : listOf (.ro ds) = some ds := Eq.trans rfl rfl
theorem walk_nil {d : D} : walkD d [] = some d := walkD_nil d
theorem walk_lst {o : Bool} {ds : List D} {k : Nat} {p : List Nat} : walkD (.lst o ds) (k :: p) = (ds[k]?).bind fun d => walkD d p := by
  show (match ds[k]? with | some d => walkD d p | none => none) = _
  cases ds[k]? <;> rfl
theorem setP_nil2 {d0 d : D} : setP d0 [] d = some d := setP_nil d0 d
theorem setP_lst {o : Bool} {ds : List D} {k : Nat} {p : List Nat} {d : D} : setP (.lst o ds) (k :: p) d = (ds[k]?).bind fun x => (setP x p d).map fun y => .lst o (ds.set k y) := by
  show (match ds[k]? with | some x => (setP x p d).map fun y => D.lst o (ds.set k y) | none => none) = _
  cases ds[k]? <;> rfl
theorem item_tup {ds : List D} {i : Int} {t : T} {k : T → Prop} : itemD (.tup ds) i t k = wdk (ixN ds.length i) fun j => wdk ds[j]? fun d => k (atT t j d) := Eq.trans rfl rfl
theorem item_lst {o : Bool} {ds : List D} {i : Int} {t : T} {k : T → Prop} : itemD (.lst o ds) i t k = wdk (ixN ds.length i) fun j => wdk ds[j]? fun d => k (atT t j d) := Eq.trans rfl rfl
theorem item_ro {ds : List D} {i : Int} {t : T} {k : T → Prop} : itemD (.ro ds) i t k = wdk (ixN ds.length i) fun j => wdk ds[j]? fun d => k (atT t j d) := Eq.trans rfl rfl
theorem itemD_st {z : Str} {i : Int} {t : T} {k : T → Prop} : itemD (.str z) i t k = (z.length ≤ sizeLine ∧ wdk (atI z.cps.toList i) fun s => k (.val (.str ⟨#[s]⟩))) := Eq.trans rfl rfl
theorem atT_val {d : D} {j : Nat} {x : D} : atT (.val d) j x = .val x := by unfold atT subT; split <;> rfl
theorem atT_own {t : T} {j : Nat} {x : D} (h : x.isOwn = true) : atT t j x = subT t j x := by unfold atT; rw [if_pos h]
theorem atT_no {t : T} {j : Nat} {x : D} (h : x.isOwn = false) : atT t j x = .val x := by unfold atT; rw [if_neg (by simp [h])]
theorem subT_slot {i j : Nat} {x : D} : subT (.slot i) j x = .sub i [j] := Eq.trans rfl rfl
theorem subT_sub {i j : Nat} {p : List Nat} {x : D} : subT (.sub i p) j x = .sub i (p ++ [j]) := Eq.trans rfl rfl
theorem atT_int {t : T} {j : Nat} {i : Int} : atT t j (.int i) = .val (.int i) := atT_no rfl
theorem atT_tup {t : T} {j : Nat} {ds : List D} : atT t j (.tup ds) = .val (.tup ds) := atT_no rfl
theorem atT_str {t : T} {j : Nat} {x : Str} : atT t j (.str x) = .val (.str x) := atT_no rfl
theorem atT_lstT {t : T} {j : Nat} {ds : List D} : atT t j (.lst true ds) = subT t j (.lst true ds) := atT_own rfl
theorem atT_lstF {t : T} {j : Nat} {ds : List D} : atT t j (.lst false ds) = .val (.lst false ds) := atT_no rfl
theorem popD_ap {x : Option D} {t : T} {ρ : DEnv} {k : Nat} {Φ : D → DEnv → Prop} : popD x t ρ k Φ = asLOk x fun ds => wdk ds[k]? fun d => wdk (placeT t) fun l => wdk (setPlace ρ l.1 l.2 (.lst true (ds.eraseIdx k))) fun ρ' => Φ d ρ' := Eq.trans rfl rfl
theorem setPlace_ap {ρ : DEnv} {i : Nat} {p : List Nat} {d : D} : setPlace ρ i p d = (lk ρ i).bind fun d0 => (setP d0 p d).map fun d1 => ρ.set i (some d1) := Eq.trans rfl rfl
theorem ixN_nat {n j : Nat} (h : j < n) : ixN n (j : Int) = some j := by
  unfold ixN
  rw [if_pos (by omega), if_pos (by omega)]
  rfl
theorem ixN_0 {n : Nat} (h : 0 < n) : ixN n 0 = some 0 := ixN_nat (j := 0) h
theorem ixN_neg1 {n : Nat} (h : 0 < n) : ixN n (-1) = some (n - 1) := by
  unfold ixN
  rw [if_neg (by omega), if_pos (by omega)]
  congr 1
  omega
theorem wipeD_nil {ρ : DEnv} : wipeD ρ [] = ρ := Eq.trans rfl rfl
theorem wipeD_cons {ρ : DEnv} {v : Nat} {vs : List Nat} : wipeD ρ (v :: vs) = (wipeD ρ vs).set v none := Eq.trans rfl rfl
theorem storeD_nil {ρ : DEnv} : storeD [] [] ρ = some ρ := Eq.trans rfl rfl
theorem storeD_cons {ρ : DEnv} {i : Nat} {is : List Nat} {d : D} {ds : List D} : storeD (i :: is) (d :: ds) ρ = if i < ρ.length then storeD is ds (ρ.set i (some d)) else none := Eq.trans rfl rfl
theorem and_T {p : Prop} : (True ∧ p) = p := true_and p
theorem lcGo_nil {vs : List Nat} {wg : WG} {wt : WT} {we : WE} {k : List D → DEnv → Prop} {ρ : DEnv} {acc : List D} : lcGo vs wg wt we k [] ρ acc = k acc ρ := Eq.trans rfl rfl
theorem lcGo_cons {vs : List Nat} {wg : WG} {wt : WT} {we : WE} {k : List D → DEnv → Prop} {d : D} {ds : List D} {ρ : DEnv} {acc : List D} : lcGo vs wg wt we k (d :: ds) ρ acc = wg d ρ fun ρ1 => wt ρ1 (fun b ρ2 => if b = true then we ρ2 (fun t ρ3 => acc.length < sizeLine ∧ wd (elemT t ρ3) fun q => lcGo vs wg wt we k ds (wipeD q.2 vs) (acc ++ [q.1])) noPsi else lcGo vs wg wt we k ds (wipeD ρ2 vs) acc) noPsi := Eq.trans rfl rfl
theorem forGo_nil {wg : WG} {wb : WS} {De : DEnds} {Ψ : PsiE} {ρ : DEnv} : forGo wg wb De Ψ [] ρ = De.nx ρ := Eq.trans rfl rfl
theorem forGo_cons {wg : WG} {wb : WS} {De : DEnds} {Ψ : PsiE} {d : D} {ds : List D} {ρ : DEnv} : forGo wg wb De Ψ (d :: ds) ρ = wg d ρ fun ρ1 => wb { De with nx := forGo wg wb De Ψ ds, ct := forGo wg wb De Ψ ds, bk := De.nx } Ψ ρ1 := Eq.trans rfl rfl
end DL

set_option maxHeartbeats 200000
/-! DLO: operators at constructors, for simp -/
namespace DL
open PySem PySem.Spec PyProof.Rows L2
section
variable {k : D → Prop} {i j : Int} {a c : Str} {xs ys : List D} {o p : Bool} {x y : D} {u v : Bool}
theorem opAdd_i : opAdd (.int i) (.int j) k = k (.int (i + j)) := Eq.trans rfl rfl
theorem opAdd_s : opAdd (.str a) (.str c) k = (a.length + c.length ≤ sizeLine ∧ k (.str (a ++ c))) := Eq.trans rfl rfl
theorem opAdd_t : opAdd (.tup xs) (.tup ys) k = (xs.length + ys.length ≤ sizeLine ∧ k (.tup (xs ++ ys))) := Eq.trans rfl rfl
theorem opAdd_l : opAdd (.lst o xs) (.lst p ys) k = (pureL xs = true ∧ pureL ys = true ∧ xs.length + ys.length ≤ sizeLine ∧ k (.lst true (xs ++ ys))) := Eq.trans rfl rfl
theorem opSub_i : opSub (.int i) (.int j) k = k (.int (i - j)) := Eq.trans rfl rfl
theorem opMod_i : opMod (.int i) (.int j) k = (0 < j ∧ k (.int (i % j))) := Eq.trans rfl rfl
theorem opDiv_i : opDiv (.int i) (.int j) k = ((0 < j ∧ j.natAbs.log2 < 9000) ∧ k (.int (i / j))) := Eq.trans rfl rfl
theorem opMul_i : opMul (.int i) (.int j) k = (i.natAbs.log2 + j.natAbs.log2 < 1000000 ∧ k (.int (i * j))) := Eq.trans rfl rfl
theorem opMul_l : opMul (.lst o xs) (.int j) k = (pureL xs = true ∧ -(2 ^ 63) ≤ j ∧ j < 2 ^ 63 ∧ xs.length * j.toNat ≤ sizeLine ∧ k (.lst true (List.replicate j.toNat xs).flatten)) := Eq.trans rfl rfl
theorem opMul_t : opMul (.tup xs) (.int j) k = (-(2 ^ 63) ≤ j ∧ j ≤ 1000 ∧ xs.length ≤ 1000 ∧ k (.tup (List.replicate j.toNat xs).flatten)) := Eq.trans rfl rfl
theorem opPow_i : opPow (.int i) (.int j) k = ((0 ≤ j ∧ j ≤ 1000000 ∧ i.natAbs < 2 ^ 64) ∧ k (.int (i ^ j.toNat))) := Eq.trans rfl rfl
theorem opNeg_i : opNeg (.int i) k = k (.int (-i)) := Eq.trans rfl rfl
theorem opLt_i : opLt (.int i) (.int j) k = k (.bl (decide (i < j))) := Eq.trans rfl rfl
theorem opLe_i : opLe (.int i) (.int j) k = k (.bl (decide (i ≤ j))) := Eq.trans rfl rfl
theorem opGt_i : opGt (.int i) (.int j) k = k (.bl (decide (j < i))) := Eq.trans rfl rfl
theorem opGe_i : opGe (.int i) (.int j) k = k (.bl (decide (j ≤ i))) := Eq.trans rfl rfl
theorem opIs_n : opIs x .non k = k (.bl (D.isNon x)) := Eq.trans rfl rfl
theorem opIs_b : opIs x (.bl u) k = k (.bl (D.isBl u x)) := Eq.trans rfl rfl
theorem opIsNot_n : opIsNot x .non k = k (.bl (!D.isNon x)) := Eq.trans rfl rfl
theorem opIsNot_b : opIsNot x (.bl u) k = k (.bl (!D.isBl u x)) := Eq.trans rfl rfl
theorem opEq_ap : opEq x y k = ((scalD x y || (D.ok 64 x && D.ok 64 y)) = true ∧ k (.bl (D.eqv x y))) := Eq.trans rfl rfl
theorem opNe_ap : opNe x y k = ((scalD x y || (D.ok 64 x && D.ok 64 y)) = true ∧ k (.bl (!D.eqv x y))) := Eq.trans rfl rfl
theorem opIn_l : opIn x (.lst o xs) k = (((flatD x && xs.all flatD) || (D.ok 64 x && D.ok 64 (.lst o xs))) = true ∧ k (.bl (inD x xs))) := Eq.trans rfl rfl
theorem opIn_t : opIn x (.tup xs) k = ((flatD x && xs.all flatD) = true ∧ k (.bl (inD x xs))) := Eq.trans rfl rfl
theorem opIn_s : opIn (.str a) (.str c) k = k (.bl (!(Builtin.Str.occurrences c a 0 c.length 1).isEmpty)) := Eq.trans rfl rfl
theorem opNotIn_l : opNotIn x (.lst o xs) k = (((flatD x && xs.all flatD) || (D.ok 64 x && D.ok 64 (.lst o xs))) = true ∧ k (.bl (!inD x xs))) := Eq.trans rfl rfl
theorem opNotIn_t : opNotIn x (.tup xs) k = ((flatD x && xs.all flatD) = true ∧ k (.bl (!inD x xs))) := Eq.trans rfl rfl
theorem opNotIn_s : opNotIn (.str a) (.str c) k = k (.bl (!(!(Builtin.Str.occurrences c a 0 c.length 1).isEmpty))) := Eq.trans rfl rfl
theorem opLen_t : opLen [.tup xs] k = k (.int xs.length) := Eq.trans rfl rfl
theorem opLen_l : opLen [.lst o xs] k = k (.int xs.length) := Eq.trans rfl rfl
theorem opLen_r : opLen [.ro xs] k = k (.int xs.length) := Eq.trans rfl rfl
theorem opLen_s : opLen [.str a] k = (a.length ≤ sizeLine ∧ k (.int a.length)) := Eq.trans rfl rfl
theorem opTuple_t : opTuple [.tup xs] k = k (.tup xs) := Eq.trans rfl rfl
theorem opTuple_l : opTuple [.lst o xs] k = (pureL xs = true ∧ k (.tup xs)) := Eq.trans rfl rfl
theorem opTuple_r : opTuple [.ro xs] k = k (.tup xs) := Eq.trans rfl rfl
theorem opList_t : opList [.tup xs] k = k (.lst true xs) := Eq.trans rfl rfl
theorem opList_l : opList [.lst o xs] k = (pureL xs = true ∧ k (.lst true xs)) := Eq.trans rfl rfl
theorem opList_r : opList [.ro xs] k = k (.lst true xs) := Eq.trans rfl rfl
theorem opSorted_l : opSorted [.lst o xs] k = wdk (asInts xs) fun ns => k (.lst true ((sortI ns).map D.int)) := Eq.trans rfl rfl
theorem opAbs_i : opAbs [.int i] k = k (.int (if i < 0 then -i else i)) := Eq.trans rfl rfl
theorem opMax2_i : opMax2 [.int i, .int j] k = k (.int (if j > i then j else i)) := Eq.trans rfl rfl
theorem opMin2_i : opMin2 [.int i, .int j] k = k (.int (if j < i then j else i)) := Eq.trans rfl rfl
theorem opInt_i : opInt [.int i] k = k (.int i) := Eq.trans rfl rfl
theorem opInt_b : opInt [.bl u] k = k (.int (if u then 1 else 0)) := Eq.trans rfl rfl
theorem opInt_s : opInt [.str a] k = (a.length ≤ 640 ∧ wdk (PySem.intText? a) fun n => k (.int n)) := Eq.trans rfl rfl
theorem opStr_i : opStr [.int i] k = (i.natAbs.log2 < 1920 ∧ k (.str (toString i))) := Eq.trans rfl rfl
theorem opAll_l : opAll [.lst o xs] k = wdk (asBls xs) fun bs => k (.bl (bs.all id)) := Eq.trans rfl rfl
theorem opAny_l : opAny [.lst o xs] k = wdk (asBls xs) fun bs => k (.bl (bs.any id)) := Eq.trans rfl rfl
theorem opRev_l : opRev (.lst o xs) k = (pureL xs = true ∧ k (.lst true xs.reverse)) := Eq.trans rfl rfl
theorem opIsi_ap {T : String} : opIsi T x k = k (.bl (D.isi T x)) := Eq.trans rfl rfl
theorem sliceD_t {lo hi : Option Int} : sliceD (.tup xs) lo hi k = k (.tup (cutD xs lo hi)) := Eq.trans rfl rfl
theorem sliceD_l {lo hi : Option Int} : sliceD (.lst o xs) lo hi k = (pureL xs = true ∧ k (.lst true (cutD xs lo hi))) := Eq.trans rfl rfl
theorem sliceD_r {lo hi : Option Int} : sliceD (.ro xs) lo hi k = k (.lst true (cutD xs lo hi)) := Eq.trans rfl rfl
theorem outOk_ap {io : List Bool} {ds : List D} {ρ : DEnv} {q : List D → Prop} : outOk io ds ρ q = wdk (outArgs io ds ρ) q := Eq.trans rfl rfl
theorem eqv_int : D.eqv (.int i) (.int j) = (i == j) := by unfold D.eqv; rfl
theorem eqv_nil {ys : List D} : D.eqv (.lst o ys) (.lst p []) = ys.isEmpty := by
  cases ys <;> simp [D.eqv, D.eqvs]
theorem ok_ints : ∀ (n : Nat) (l : List Int), D.oks n (l.map .int) = true
  | _, [] => by simp [D.oks]
  | n, i :: l => by
    have := ok_ints n l
    cases n <;> simp [D.oks, D.ok, this]
theorem ok_int {n : Nat} : D.ok n (.int i) = true := by cases n <;> simp [D.ok]
theorem ok_tup {n : Nat} : D.ok (n + 1) (.tup xs) = D.oks n xs := by simp [D.ok]
theorem ok_lst {n : Nat} : D.ok (n + 1) (.lst o xs) = D.oks n xs := by simp [D.ok]
theorem oks_nil {n : Nat} : D.oks n [] = true := by simp [D.oks]
theorem oks_cons {n : Nat} : D.oks n (x :: xs) = (D.ok n x && D.oks n xs) := by simp [D.oks]
theorem scal_int : scalD (.int i) (.int j) = true := Eq.trans rfl rfl
end
theorem ixl_1_0 : ixN 1 0 = some 0 := by decide
theorem ixl_1_m : ixN 1 (-1) = some 0 := by decide
theorem ixl_2_0 : ixN 2 0 = some 0 := by decide
theorem ixl_2_1 : ixN 2 1 = some 1 := by decide
theorem ixl_2_m : ixN 2 (-1) = some 1 := by decide
theorem ixl_3_0 : ixN 3 0 = some 0 := by decide
theorem ixl_3_1 : ixN 3 1 = some 1 := by decide
theorem ixl_3_2 : ixN 3 2 = some 2 := by decide
theorem ixl_3_m : ixN 3 (-1) = some 2 := by decide
theorem ixl_4_0 : ixN 4 0 = some 0 := by decide
theorem ixl_4_1 : ixN 4 1 = some 1 := by decide
theorem ixl_4_2 : ixN 4 2 = some 2 := by decide
theorem ixl_4_3 : ixN 4 3 = some 3 := by decide
theorem ixl_4_m : ixN 4 (-1) = some 3 := by decide
end DL

set_option maxHeartbeats 200000
/-! DLP: numbers, rows, pairs as data; loops over such -/
namespace DL
open PySem PySem.Spec PyProof.Rows L2
def natsD (ns : List Nat) : List D := ns.map fun n => .int (n : Nat)
def rowT (r : List Nat) : D := .tup (natsD r)
def rowsD (t : List (List Nat)) : List D := t.map rowT
def tabD (t : List (List Nat)) : D := .tup (rowsD t)
def pairD (p : Nat × Nat) : D := .tup [.int (p.1 : Nat), .int (p.2 : Nat)]
def pairsD (l : List (Nat × Nat)) : List D := l.map pairD
theorem natsD_nil : natsD [] = [] := Eq.trans rfl rfl
theorem natsD_cons (x : Nat) (l : List Nat) : natsD (x :: l) = .int (x : Nat) :: natsD l := Eq.trans rfl rfl
theorem natsD_ok (n : Nat) (ns : List Nat) : D.oks n (natsD ns) = true := by
  have e : natsD ns = (ns.map Int.ofNat).map D.int := by simp [natsD]
  rw [e]; exact ok_ints _ _
theorem natsD_app (l m : List Nat) : natsD (l ++ m) = natsD l ++ natsD m := by simp [natsD]
theorem natsD_snoc (l : List Nat) (x : Nat) : natsD (l ++ [x]) = natsD l ++ [.int (x : Nat)] := by simp [natsD]
theorem natsD_len (l : List Nat) : (natsD l).length = l.length := by simp [natsD]
theorem natsD_pure (l : List Nat) : pureL (natsD l) = true := pureL_map (fun _ => rfl) l
theorem natsD_frz (l : List Nat) : D.frzs (natsD l) = natsD l := frzs_pure (natsD_pure l)
theorem natsD_emp (l : List Nat) : (natsD l).isEmpty = l.isEmpty := by cases l <;> rfl
theorem natsD_at (l : List Nat) (i : Nat) : (natsD l)[i]? = (l[i]?).map fun n => .int (n : Nat) := by simp [natsD]
theorem natsD_get (l : List Nat) (y : D) : (natsD l ++ [y])[l.length]? = some y := by
  rw [← natsD_len l]; simp
theorem natsD_erase (l : List Nat) (y : D) : (natsD l ++ [y]).eraseIdx l.length = natsD l := by
  rw [← natsD_len l, List.eraseIdx_append_of_length_le (Nat.le_refl _)]; simp
theorem natsD_ok1 (n : Nat) (l : List Nat) (x : Nat) : D.oks n (natsD l ++ [.int (x : Nat)]) = true := by
  rw [← natsD_snoc]; exact natsD_ok _ _
theorem emp_snoc {α : Type} (l : List α) (x : α) : (l ++ [x]).isEmpty = false := by cases l <;> rfl
theorem ix_snoc {n : Nat} : ixN (n + 1) (-1) = some n := ixN_neg1 (Nat.succ_pos n)
theorem natsD_flat (l : List Nat) : (natsD l).all flatD = true := by
  rw [List.all_eq_true]
  intro d hd
  obtain ⟨a, _, rfl⟩ := List.mem_map.mp hd
  rfl
theorem flat_int (i : Int) : flatD (.int i) = true := Eq.trans rfl rfl
theorem beq_nat (a c : Nat) : ((a : Int) == (c : Int)) = (a == c) := by
  rw [Bool.eq_iff_iff, beq_iff_eq, beq_iff_eq]; omega
theorem natsD_in (k : Nat) (l : List Nat) : inD (.int (k : Nat)) (natsD l) = l.contains k := by
  unfold inD natsD
  rw [List.any_map]
  induction l with
  | nil => rfl
  | cons x l ih =>
    rw [List.any_cons, ih, List.contains_cons]
    congr 1
    show D.eqv (.int (x : Nat)) (.int (k : Nat)) = _
    rw [eqv_int, beq_nat]
    rw [Bool.eq_iff_iff, beq_iff_eq, beq_iff_eq]
    exact ⟨Eq.symm, Eq.symm⟩
theorem rowT_ap (r : List Nat) : rowT r = .tup (natsD r) := Eq.trans rfl rfl
theorem rowsD_len (t : List (List Nat)) : (rowsD t).length = t.length := by simp [rowsD]
theorem rowsD_at (t : List (List Nat)) (i : Nat) : (rowsD t)[i]? = (t[i]?).map rowT := by simp [rowsD]
theorem rowsD_pure (t : List (List Nat)) : pureL (rowsD t) = true := pureL_map (fun _ => rfl) t
theorem rowsD_frz (t : List (List Nat)) : D.frzs (rowsD t) = rowsD t := frzs_pure (rowsD_pure t)
theorem pairsD_len (l : List (Nat × Nat)) : (pairsD l).length = l.length := by simp [pairsD]
theorem pairsD_pure (l : List (Nat × Nat)) : pureL (pairsD l) = true := pureL_map (fun _ => rfl) l
theorem pairsD_frz (l : List (Nat × Nat)) : D.frzs (pairsD l) = pairsD l := frzs_pure (pairsD_pure l)
theorem pairsD_nil : pairsD [] = [] := Eq.trans rfl rfl
theorem pairsD_at (t : List (Nat × Nat)) (i : Nat) : (pairsD t)[i]? = (t[i]?).map pairD := by simp [pairsD]
theorem pairsD_app (l m : List (Nat × Nat)) : pairsD (l ++ m) = pairsD l ++ pairsD m := by simp [pairsD]
theorem pairsD_snoc (l : List (Nat × Nat)) (x : Nat × Nat) : pairsD (l ++ [x]) = pairsD l ++ [pairD x] := by simp [pairsD]
theorem pairD_ap (p : Nat × Nat) : pairD p = .tup [.int (p.1 : Nat), .int (p.2 : Nat)] := Eq.trans rfl rfl
theorem pairsD_ok (n : Nat) (l : List (Nat × Nat)) : D.oks (n + 1) (pairsD l) = true := by
  induction l with
  | nil => simp [pairsD, D.oks]
  | cons p l ih =>
    have : pairsD (p :: l) = pairD p :: pairsD l := rfl
    rw [this, oks_cons, ih, pairD_ap, ok_tup, oks_cons, oks_cons, oks_nil, ok_int, ok_int]
    rfl
theorem eqv_pair (p q : Nat × Nat) : D.eqv (pairD p) (pairD q) = (p == q) := by
  obtain ⟨a, b⟩ := p
  obtain ⟨c, d⟩ := q
  have : D.eqv (pairD (a, b)) (pairD (c, d)) = (D.eqv (.int (a : Nat)) (.int (c : Nat)) && (D.eqv (.int (b : Nat)) (.int (d : Nat)) && true)) := by
    simp [pairD, D.eqv, D.eqvs]
  rw [this, eqv_int, eqv_int, beq_nat, beq_nat, Bool.and_true]
  rfl
theorem pairsD_in (p : Nat × Nat) (l : List (Nat × Nat)) : inD (pairD p) (pairsD l) = l.contains p := by
  unfold inD pairsD
  rw [List.any_map]
  induction l with
  | nil => rfl
  | cons x l ih =>
    rw [List.any_cons, ih, List.contains_cons]
    congr 1
    show D.eqv (pairD x) (pairD p) = _
    rw [eqv_pair]
    rw [Bool.eq_iff_iff, beq_iff_eq, beq_iff_eq]
    exact ⟨Eq.symm, Eq.symm⟩
theorem natsD_eqv (a c : List Nat) : D.eqvs (natsD a) (natsD c) = decide (a = c) := by
  induction a generalizing c with
  | nil => cases c <;> simp [natsD, D.eqvs]
  | cons x a ih =>
    cases c with
    | nil => simp [natsD, D.eqvs]
    | cons y c =>
      rw [natsD_cons, natsD_cons]
      have : D.eqvs (D.int (x : Nat) :: natsD a) (D.int (y : Nat) :: natsD c) = (D.eqv (.int (x : Nat)) (.int (y : Nat)) && D.eqvs (natsD a) (natsD c)) := by simp [D.eqvs]
      rw [this, ih, eqv_int, beq_nat]
      by_cases h1 : x = y <;> by_cases h2 : a = c <;> simp [h1, h2]
theorem eqv_tups (xs ys : List D) : D.eqv (.tup xs) (.tup ys) = D.eqvs xs ys := by simp [D.eqv]
theorem rangeD_nat (n : Nat) : rangeD 0 n = natsD (List.range n) := by simp [rangeD, natsD]
theorem rangeD_from (a n : Nat) : rangeD (a : Nat) n = natsD (List.range' a n) := by
  rw [List.range'_eq_map_range]
  simp [rangeD, natsD]
theorem enumRows (t : List (List Nat)) : enumD (rowsD t) = (List.range t.length).map fun i => D.tup [.int (i : Nat), rowT (t.getD i [])] := by
  unfold enumD
  rw [rowsD_len]
  apply List.map_congr_left
  intro i hi
  have hi : i < t.length := List.mem_range.mp hi
  simp [rowsD, hi]
theorem sz1 : 1 ≤ sizeLine := by decide
theorem sz2 : 2 ≤ sizeLine := by decide
theorem sz3 : 3 ≤ sizeLine := by decide
theorem sz4 : 4 ≤ sizeLine := by decide
theorem sz5 : 5 ≤ sizeLine := by decide
theorem sz6 : 6 ≤ sizeLine := by decide
theorem sz7 : 7 ≤ sizeLine := by decide
theorem sz8 : 8 ≤ sizeLine := by decide
theorem sz9 : 9 ≤ sizeLine := by decide
theorem sz10 : 10 ≤ sizeLine := by decide
theorem sz11 : 11 ≤ sizeLine := by decide
theorem sz12 : 12 ≤ sizeLine := by decide
theorem map_pairs (a : Nat) (us : List Nat) : us.map (fun y => pairD (a, y)) = pairsD (us.map fun y => (a, y)) := by rw [pairsD, List.map_map]; rfl
theorem pairD_snoc (a b : Nat) (l : List (Nat × Nat)) : pairsD l ++ [D.tup [.int (a : Nat), .int (b : Nat)]] = pairsD (l ++ [(a, b)]) := (pairsD_snoc l (a, b)).symm
theorem while_runk {wt : WT} {wb : WS} {De : DEnds} {Ψ : PsiE} (I : Nat → DEnv → Prop) (hs : ∀ n (k : DEnv → Prop), (∀ j ρ, j < n → I j ρ → k ρ) → ∀ ρ, I n ρ → wt ρ (fun b ρ1 => ifk b (wb { De with nx := k, ct := k, bk := De.nx } Ψ ρ1) (De.nx ρ1)) Ψ) {n : Nat} {ρ : DEnv} (h : I n ρ) : whilek wt wb De Ψ ρ := while_run I hs h
/-! ### loops -/
theorem for_ty {α : Type} (g : α → D) {wg : WG} {wb : WS} {De : DEnds} {Ψ : PsiE} (I : List α → DEnv → Prop) (hs : ∀ a l (k : DEnv → Prop), (∀ ρ, I l ρ → k ρ) → ∀ ρ, I (a :: l) ρ → wg (g a) ρ fun ρ1 => wb { De with nx := k, ct := k, bk := De.nx } Ψ ρ1) (hd : ∀ ρ, I [] ρ → De.nx ρ) : ∀ (l : List α) (ρ : DEnv), I l ρ → forGok wg wb De Ψ (l.map g) ρ
  | [], ρ, h => hd ρ h
  | a :: l, ρ, h => hs a l (fun ρ => forGok wg wb De Ψ (l.map g) ρ) (for_ty g I hs hd l) ρ h
theorem lc_ty {α : Type} (g : α → D) {vs : List Nat} {wg : WG} {wt : WT} {we : WE} {k : List D → DEnv → Prop} (I : List α → DEnv → List D → Prop)
    (hs : ∀ a l (kk : DEnv → List D → Prop), (∀ ρ acc, I l ρ acc → kk ρ acc) → ∀ ρ acc, I (a :: l) ρ acc → wg (g a) ρ fun ρ1 => wt ρ1 (fun b ρ2 => if b = true then we ρ2 (fun t ρ3 => acc.length < sizeLine ∧ wd (elemT t ρ3) fun q => kk (wipeD q.2 vs) (acc ++ [q.1])) noPsi else kk (wipeD ρ2 vs) acc) noPsi)
    (hd : ∀ ρ acc, I [] ρ acc → k acc ρ) : ∀ (l : List α) (ρ : DEnv) (acc : List D), I l ρ acc → lcGok vs wg wt we k (l.map g) ρ acc
  | [], ρ, acc, h => hd ρ acc h
  | a :: l, ρ, acc, h => hs a l (fun ρ acc => lcGok vs wg wt we k (l.map g) ρ acc) (lc_ty g I hs hd l) ρ acc h
theorem lc2_ty {α : Type} (g : α → D) {vs vs1 : List Nat} {wg wg1 : WG} {wt wt1 : WT} {wi1 : WI} {we : WE} {k : List D → DEnv → Prop} (I : List α → DEnv → List D → Prop)
    (hs : ∀ a l (kk : DEnv → List D → Prop), (∀ ρ acc, I l ρ acc → kk ρ acc) → ∀ ρ acc, I (a :: l) ρ acc → wg (g a) ρ fun ρ1 => wt ρ1 (fun b ρ2 => if b = true then wi1 ρ2 (fun ds1 ρ3 => lcGok vs1 wg1 wt1 we (fun acc' ρ' => kk (wipeD ρ' vs) acc') ds1 (wipeD ρ3 vs1) acc) noPsi else kk (wipeD ρ2 vs) acc) noPsi)
    (hd : ∀ ρ acc, I [] ρ acc → k acc ρ) : ∀ (l : List α) (ρ : DEnv) (acc : List D), I l ρ acc → lcGo2k vs vs1 wg wt wi1 wg1 wt1 we k (l.map g) ρ acc
  | [], ρ, acc, h => hd ρ acc h
  | a :: l, ρ, acc, h => hs a l (fun ρ acc => lcGo2k vs vs1 wg wt wi1 wg1 wt1 we k (l.map g) ρ acc) (lc2_ty g I hs hd l) ρ acc h
theorem lc_fn {α : Type} (g : α → D) (p : α → Bool) (f : α → D) {vs : List Nat} {wg : WG} {wt : WT} {we : WE} {k : List D → DEnv → Prop} {l : List α} {ρ : DEnv}
    (hs : ∀ a, a ∈ l → ∀ acc (kk : DEnv → List D → Prop), acc.length < sizeLine → kk ρ (if p a = true then acc ++ [f a] else acc) → wg (g a) ρ fun ρ1 => wt ρ1 (fun b ρ2 => if b = true then we ρ2 (fun t ρ3 => acc.length < sizeLine ∧ wd (elemT t ρ3) fun q => kk (wipeD q.2 vs) (acc ++ [q.1])) noPsi else kk (wipeD ρ2 vs) acc) noPsi)
    (hl : l.length ≤ sizeLine) (hd : k ((l.filter p).map f) ρ) : lcGok vs wg wt we k (l.map g) ρ [] := by
  have main : ∀ (m : List α) (acc : List D), (∀ a, a ∈ m → a ∈ l) → acc.length + m.length ≤ sizeLine → k (acc ++ (m.filter p).map f) ρ → lcGo vs wg wt we k (m.map g) ρ acc := by
    intro m
    induction m with
    | nil => intro acc _ _ h; rw [List.map_nil, lcGo_nil]; simpa using h
    | cons a m ih =>
      intro acc hm hl h
      have hl' : acc.length + (m.length + 1) ≤ sizeLine := hl
      refine hs a (hm a List.mem_cons_self) acc _ (by omega) (ih _ (fun x hx => hm x (List.mem_cons_of_mem _ hx)) ?_ ?_)
      · split
        · rw [List.length_append]
          show acc.length + 1 + m.length ≤ sizeLine
          omega
        · omega
      · by_cases hp : p a = true
        · rw [if_pos hp]
          rw [List.filter_cons_of_pos hp] at h
          simpa using h
        · rw [if_neg hp]
          rw [List.filter_cons_of_neg hp] at h
          exact h
  exact main l [] (fun _ h => h) (by simpa using hl) (by simpa using hd)
theorem lc_map {α : Type} (g : α → D) (f : α → D) {vs : List Nat} {wg : WG} {wt : WT} {we : WE} {k : List D → DEnv → Prop} {l : List α} {ρ : DEnv}
    (hs : ∀ a, a ∈ l → ∀ acc (kk : DEnv → List D → Prop), acc.length < sizeLine → kk ρ (acc ++ [f a]) → wg (g a) ρ fun ρ1 => wt ρ1 (fun b ρ2 => if b = true then we ρ2 (fun t ρ3 => acc.length < sizeLine ∧ wd (elemT t ρ3) fun q => kk (wipeD q.2 vs) (acc ++ [q.1])) noPsi else kk (wipeD ρ2 vs) acc) noPsi)
    (hl : l.length ≤ sizeLine) (hd : k (l.map f) ρ) : lcGok vs wg wt we k (l.map g) ρ [] := by
  refine lc_fn g (fun _ => true) f (fun a ha acc kk hacc h => hs a ha acc kk hacc h) hl ?_
  have e : l.filter (fun _ => true) = l := by simp
  rw [e]; exact hd
theorem nodup1 {α : Type} (a : α) : [a].Nodup = True := by simp
/-! ### graphs, markings, ways -/
def row (t : List (List Nat)) (x : Nat) : List Nat := t.getD x []
structure Graph (n : Nat) (t : List (List Nat)) : Prop where
  len : t.length = n
  lt : ∀ x y, y ∈ row t x → y < n
  sym : ∀ x y, y ∈ row t x → x ∈ row t y
  nd : ∀ x, (row t x).Nodup
theorem nodup_le : ∀ (n : Nat) (l : List Nat), l.Nodup → (∀ x ∈ l, x < n) → l.length ≤ n
  | 0, l, _, h => by
    cases l with
    | nil => simp
    | cons x l => exact absurd (h x List.mem_cons_self) (Nat.not_lt_zero _)
  | n + 1, l, hn, h => by
    by_cases hm : n ∈ l
    · have := nodup_le n (l.erase n) (hn.erase n) fun x hx => by
        obtain ⟨h1, h2⟩ := (hn.mem_erase_iff).mp hx
        have := h x h2
        omega
      rw [List.length_erase_of_mem hm] at this
      omega
    · have := nodup_le n l hn fun x hx => by
        have h1 := h x hx
        have h2 : x ≠ n := fun e => hm (e ▸ hx)
        omega
      omega
theorem Graph.few {n : Nat} {t : List (List Nat)} (G : Graph n t) (x : Nat) : (row t x).length ≤ n := nodup_le n _ (G.nd x) (G.lt x)
theorem row_at {t : List (List Nat)} {x : Nat} (h : x < t.length) : t[x]? = some (row t x) := by
  unfold row; simp [h]
theorem row_of {t : List (List Nat)} {r : List Nat} (h : r ∈ t) : ∃ x, x < t.length ∧ r = row t x := by
  obtain ⟨x, hx, e⟩ := List.getElem_of_mem h
  exact ⟨x, hx, by unfold row; simp [hx, e]⟩
theorem row_lt {n : Nat} {t : List (List Nat)} (G : Graph n t) {x y : Nat} (h : y ∈ row t x) : x < n := G.lt y x (G.sym x y h)
def mk (m : List Nat) (p : Nat) : Nat := m.getD p 0
theorem mk_at {m : List Nat} {p : Nat} (h : p < m.length) : m[p]? = some (mk m p) := by
  unfold mk; simp [h]
theorem mk_set {m : List Nat} {p q k : Nat} (h : p < m.length) : mk (m.set p k) q = if q = p then k else mk m q := by
  unfold mk
  by_cases e : q = p
  · subst e; simp [h]
  · rw [if_neg e]
    simp [List.getElem?_set_ne (fun z => e z.symm)]
def Good (r w : List (List Nat)) (m : List Nat) (p k : Nat) : Prop := p < w.length ∧ k < r.length ∧ k ≠ mk m p ∧ ∀ o, o ∈ row w p → mk m o ∈ row r k
structure Mkg (r w : List (List Nat)) (m : List Nat) : Prop where
  len : m.length = w.length
  lt : ∀ p, p < m.length → mk m p < r.length
  ok : ∀ a b, b ∈ row w a → b < a → mk m b ∈ row r (mk m a)
def Way (r w : List (List Nat)) : List Nat → List (Nat × Nat) → Prop
  | _, [] => True
  | m, q :: ps => Good r w m q.1 q.2 ∧ Way r w (m.set q.1 q.2) ps
def endOf : List Nat → List (Nat × Nat) → List Nat
  | m, [] => m
  | m, q :: ps => endOf (m.set q.1 q.2) ps
def mkD (m : List Nat) : D := .tup (natsD m)
theorem perm_nats {ys : List D} {l : List Nat} (h : ys.Perm (natsD l)) : ∃ m, ys = natsD m ∧ m.Perm l := by
  let f : D → Nat := fun d => match d with
    | .int i => i.toNat
    | _ => 0
  refine ⟨ys.map f, ?_, ?_⟩
  · have : ∀ y ∈ ys, D.int ((f y : Nat) : Int) = y := by
      intro y hy
      obtain ⟨n, _, rfl⟩ := List.mem_map.mp (h.mem_iff.mp hy)
      rfl
    unfold natsD
    rw [List.map_map]
    conv => lhs; rw [← List.map_id ys]
    exact List.map_congr_left fun y hy => (this y hy).symm
  · have := h.map f
    have e : (natsD l).map f = l := by
      unfold natsD
      rw [List.map_map]
      conv => rhs; rw [← List.map_id l]
      exact List.map_congr_left fun y _ => rfl
    rw [e] at this
    exact this
theorem asInts_nats (l : List Nat) : asInts (natsD l) = some (l.map Int.ofNat) := by
  have e : natsD l = (l.map Int.ofNat).map D.int := by simp [natsD]
  rw [e]; exact asInts_map _
def sortN (r : List Nat) : List Nat := (sortI (r.map Int.ofNat)).map Int.toNat
theorem sortN_perm (r : List Nat) : (sortN r).Perm r := by
  have := (sortI_perm (r.map Int.ofNat)).map Int.toNat
  rw [List.map_map] at this
  have e : r.map (Int.toNat ∘ Int.ofNat) = r := by
    conv => rhs; rw [← List.map_id r]
    exact List.map_congr_left fun y _ => rfl
  rw [e] at this
  exact this
theorem sortN_D (r : List Nat) : (sortI (r.map Int.ofNat)).map D.int = natsD (sortN r) := by
  unfold natsD sortN
  rw [List.map_map]
  refine List.map_congr_left fun i hi => ?_
  obtain ⟨n, _, rfl⟩ := List.mem_map.mp ((sortI_perm _).mem_iff.mp hi)
  rfl
theorem row_map {t : List (List Nat)} {f : List Nat → List Nat} (hf : f [] = []) (x : Nat) : row (t.map f) x = f (row t x) := by
  unfold row
  by_cases h : x < t.length
  · simp [h]
  · simp [h, hf]
theorem Graph.sort {n : Nat} {t : List (List Nat)} (G : Graph n t) : Graph n (t.map sortN) := by
  have e := fun x => row_map (t := t) (f := sortN) rfl x
  refine ⟨by simp [G.len], fun x y h => ?_, fun x y h => ?_, fun x => ?_⟩
  · rw [e] at h; exact G.lt x y ((sortN_perm _).mem_iff.mp h)
  · rw [e] at h ⊢
    exact (sortN_perm _).mem_iff.mpr (G.sym x y ((sortN_perm _).mem_iff.mp h))
  · rw [e]; exact (sortN_perm _).nodup_iff.mpr (G.nd x)
def addE (t : List (List Nat)) (a b : Nat) : List (List Nat) := if b ∈ row t a then t else t.set a (row t a ++ [b])
theorem addE_len (t : List (List Nat)) (a b : Nat) : (addE t a b).length = t.length := by unfold addE; split <;> simp
theorem row_addE {t : List (List Nat)} {a b : Nat} (h : a < t.length) (c : Nat) : row (addE t a b) c = if c = a ∧ b ∉ row t a then row t a ++ [b] else row t c := by
  unfold addE
  by_cases hb : b ∈ row t a
  · rw [if_pos hb, if_neg (fun z => z.2 hb)]
  · rw [if_neg hb]
    by_cases hc : c = a
    · subst hc
      rw [if_pos ⟨rfl, hb⟩]
      show (t.set c (row t c ++ [b])).getD c [] = _
      simp [h]
    · rw [if_neg fun z => hc z.1]
      show (t.set a (row t a ++ [b])).getD c [] = t.getD c []
      simp [List.getElem?_set_ne (fun z => hc z.symm)]
theorem mem_addE {t : List (List Nat)} {a b c z : Nat} (h : a < t.length) : z ∈ row (addE t a b) c ↔ z ∈ row t c ∨ (c = a ∧ z = b) := by
  rw [row_addE h]
  by_cases hc : c = a
  · subst hc
    by_cases hb : b ∈ row t c
    · rw [if_neg (fun z => z.2 hb)]
      constructor
      · exact .inl
      · rintro (h | ⟨_, rfl⟩)
        · exact h
        · exact hb
    · rw [if_pos ⟨rfl, hb⟩]
      simp
  · rw [if_neg fun z => hc z.1]
    simp [hc]
theorem nd_addE {t : List (List Nat)} {a b : Nat} (h : a < t.length) (hn : ∀ x, (row t x).Nodup) (c : Nat) : (row (addE t a b) c).Nodup := by
  rw [row_addE h]
  split
  · rename_i z
    exact List.nodup_append.mpr ⟨hn a, by simp, fun x hx y hy e => z.2 (by rw [← List.mem_singleton.mp hy, ← e]; exact hx)⟩
  · exact hn c
theorem Graph.add {n : Nat} {t : List (List Nat)} (G : Graph n t) {x y : Nat} (hx : x < n) (hy : y < n) : Graph n (addE (addE t x y) y x) := by
  have h1 : x < t.length := by rw [G.len]; exact hx
  have h2 : y < (addE t x y).length := by rw [addE_len, G.len]; exact hy
  refine ⟨by rw [addE_len, addE_len, G.len], fun c z h => ?_, fun c z h => ?_, fun c => nd_addE h2 (fun c => nd_addE h1 G.nd c) c⟩
  · rcases (mem_addE h2).mp h with h | ⟨_, rfl⟩
    · rcases (mem_addE h1).mp h with h | ⟨_, rfl⟩
      · exact G.lt c z h
      · exact hy
    · exact hx
  · refine (mem_addE h2).mpr ?_
    rcases (mem_addE h2).mp h with h | ⟨rfl, rfl⟩
    · rcases (mem_addE h1).mp h with h | ⟨rfl, rfl⟩
      · exact .inl ((mem_addE h1).mpr (.inl (G.sym c z h)))
      · exact .inr ⟨rfl, rfl⟩
    · exact .inl ((mem_addE h1).mpr (.inr ⟨rfl, rfl⟩))
theorem row_rep (n x : Nat) : row (List.replicate n []) x = [] := by
  unfold row
  by_cases h : x < n
  · simp [h]
  · simp [h]
theorem Graph.zero (n : Nat) : Graph n (List.replicate n []) :=
  ⟨by simp, (fun x y h => by rw [row_rep] at h; cases h), (fun x y h => by rw [row_rep] at h; cases h), (fun x => by rw [row_rep]; exact List.nodup_nil)⟩
def ownRows (t : List (List Nat)) : List D := t.map fun r => .lst true (natsD r)
theorem ownRows_len (t : List (List Nat)) : (ownRows t).length = t.length := by simp [ownRows]
theorem ownRows_at (t : List (List Nat)) (i : Nat) : (ownRows t)[i]? = (t[i]?).map fun r => .lst true (natsD r) := by simp [ownRows]
theorem ownRows_set (t : List (List Nat)) (i : Nat) (r : List Nat) : (ownRows t).set i (.lst true (natsD r)) = ownRows (t.set i r) := by simp [ownRows]
theorem ownRows_frz (t : List (List Nat)) : D.frzs (ownRows t) = t.map fun r => .lst false (natsD r) := by
  induction t with
  | nil => rfl
  | cons r t ih =>
    show D.frz (.lst true (natsD r)) :: D.frzs (ownRows t) = _
    rw [ih, frz_lstT, natsD_frz]; rfl
theorem rangeD_nat0 (n : Nat) : rangeD 0 ((n : Int) - 0).toNat = natsD (List.range n) := by
  have e : ((n : Int) - 0).toNat = n := by omega
  rw [e, rangeD_nat]
theorem cut_pre (l : List D) (p : Nat) : DL.cutD l none (some (p : Int)) = l.take p := by
  unfold DL.cutD
  rw [HT.sIx_none, HT.sIx_nat]
  simp [List.take_eq_take_iff]
theorem cut_suf (l : List D) (p : Nat) : DL.cutD l (some (p : Int)) none = l.drop p := by
  unfold DL.cutD
  rw [HT.sIx_none, HT.sIx_nat]
  by_cases h : p ≤ l.length
  · rw [Nat.min_eq_left h]
    apply List.take_of_length_le
    rw [List.length_drop]
    exact Nat.le_refl _
  · rw [Nat.min_eq_right (by omega), List.drop_eq_nil_of_le (Nat.le_refl _), List.drop_eq_nil_of_le (by omega)]
    simp
theorem set_cut (m : List Nat) (p k : Nat) (h : p < m.length) : (natsD m).take p ++ [.int (k : Nat)] ++ (natsD m).drop (p + 1) = natsD (m.set p k) := by
  have e : m.set p k = m.take p ++ k :: m.drop (p + 1) := by rw [List.set_eq_take_append_cons_drop, if_pos h]
  rw [e, natsD_app, natsD_cons]
  unfold natsD
  rw [List.map_take, List.map_drop, List.append_assoc]
  rfl
theorem snoc_get {α : Type} (l : List α) (x : α) : (l ++ [x])[l.length]? = some x := by simp
/-! ### deals -/
structure DealS where
  ns : List Nat
  b : Nat
  hl : ns.length ≤ 100
  hb : b < 2 ^ 40
def dealD (s : DealS) : D := .lst true [.lst true (natsD s.ns), .int (s.b : Nat)]
theorem deal_own (s : DealS) : (dealD s).isOwn = true := Eq.trans rfl rfl
theorem log_small {n : Nat} (h : n < 2 ^ 64) : n.log2 < 1000 := by
  by_cases z : n = 0
  · subst z; decide
  · have := (Nat.log2_lt z).mpr h
    omega
theorem natAbs_log {n : Nat} (h : n < 2 ^ 64) : (n : Int).natAbs.log2 < 1000 := by
  have e : (n : Int).natAbs = n := by omega
  rw [e]; exact log_small h
theorem size100 {n : Nat} (h : n ≤ 1000000) : n ≤ sizeLine := Nat.le_trans h (by decide)
end DL

set_option maxHeartbeats 200000
/-! DLQ: xs.remove(k), constants of the text -/
namespace DL
open PySem PySem.Spec PyProof.Rows L2
section
variable {c : SC} {m m2 : Bool} {W : WX} {apos pos : Pos}
theorem Reps.ints_inv {K : PySem.W.Frag} {F H : Hp} : ∀ {ns : List Int} {vs : List V} {A : Fp}, Reps K F H (ns.map D.int) vs A → vs = ns.map V.int ∧ A = []
  | [], _, _, r => by cases r; exact ⟨rfl, rfl⟩
  | n :: ns, _, _, r => by
    cases r with
    | cons r1 r2 e =>
      obtain ⟨e1, e2⟩ := Reps.ints_inv r2
      obtain ⟨e3, e4⟩ := r1.int_inv
      subst e1 e2 e3 e4
      exact ⟨rfl, e⟩
def wRemove (q : Bool) (wx we : WE) : WE := fun ρ Φ Ψ => wx ρ (fun t ρ1 => (q || t.stable) = true ∧ asLO (deref ρ1 t) fun _ => we ρ1 (fun u ρ2 => wd (deref ρ2 u) fun y => asI y fun k => asLO (deref ρ2 t) fun ds => wd (asInts ds) fun ns => k ∈ ns ∧ wd (placeT t) fun l => wd (setPlace ρ2 l.1 l.2 (.lst true ((ns.erase k).map D.int))) fun ρ4 => Φ (.val .non) ρ4) Ψ) Ψ
theorem de_remove {o e : Expr} {wx we : WE} (hx : DE c m o wx) (ha : DE c m2 e we)
    (hbase : ∀ env, attributeBase o "remove" env (eval o env) = eval o env := by intro _; rfl)
    (hfew : ∀ env, ((backTo pos (starEach [e] env)).all (fun x => !x.1) && (backToKw pos (keywordEach [] env)).all (fun x => x.1.isSome)
      && decide (([e] : List Expr).length + ([] : List Keyword).length + (if ([] : List Keyword).isEmpty then 0 else 1) < 30)) = true := by intro _; rfl)
    (hline : (apos.endLine == pos.line) = true := by rfl) (hs : ∀ env, starEach [e] env = (false, eval e env) :: starEach [] env := by intro _; rfl) (hplain : ∀ env, (backTo pos (starEach [] env)).any (·.1) = false := by intro _; rfl) :
    DE c false (.Call (.Attribute o "remove" apos) [e] [] pos) (wRemove m2 wx we) := by
  obtain ⟨tx, x1, x2⟩ := hx
  obtain ⟨ta, a1, a2⟩ := ha
  refine ⟨fun W => tRemX c.K W (tx W) (ta W), fun X W fit tk => ?_, fun W ρ Φ Ψ hw σ F H A rel Q q ex => ?_⟩
  · have z := pe_remX (X := X) (cpos := pos) (apos := apos) fit.calm tk (x1 X W fit tk) (a1 X W fit tk) (hbase X.env) (hfew X.env) hline (hs X.env) (hplain X.env)
    rw [fit.K] at z
    exact z
  refine x2 W ρ _ Ψ hw σ F H A rel _ (fun t vx B ρ1 F1 H1 A1 hk ra af => ?_) ex
  obtain ⟨st, hk⟩ := hk
  obtain ⟨_, e0, hk⟩ := asLO_elim hk
  refine ⟨lst_here af.rel ra e0, ?_⟩
  refine a2 W ρ1 _ Ψ hk σ F1 H1 A1 af.rel _ (fun u v B2 ρ2 F2 H2 A2 hk rb af2 => ?_) (ex.aft af)
  obtain ⟨y, ey, hk⟩ := wd_elim hk
  obtain ⟨k, ek, hk⟩ := asI_elim hk
  subst ek
  obtain ⟨ds, e2, hk3⟩ := asLO_elim hk
  clear hk
  obtain ⟨ns, e3, hn, hk⟩ := wd_elim hk3
  clear hk3
  have e4 := asInts_eq e3
  subst e4
  obtain ⟨⟨i, p⟩, e5, hk⟩ := wd_elim hk
  obtain ⟨ρ4, e6, hk⟩ := wd_elim hk
  have ra2 := af2.repT ra af.ap (by simpa using st)
  have rt : RepT c.K F2 H2 σ t vx [] := ra2.place e5
  obtain ⟨B', ry, _, _⟩ := deref_rep af2.rel rb ey
  obtain ⟨rfl, _⟩ := ry.int_inv
  have sq : Aft c.K false σ ρ A F H ρ2 A2 F2 H2 [] := by
    have z := (af.weak (m2 := false) fun e => by cases e).less (List.nil_sublist B)
    have z2 := z.seq0 (af2.less (List.nil_sublist B2))
    simpa using z2
  obtain ⟨a, xs, C, rfl, hH, rs, nC, dj, go⟩ := mut_aft sq rt e5 e2
  obtain ⟨rfl, rfl⟩ := rs.ints_inv
  obtain ⟨ρ', A', e7, af5, _⟩ := go ((ns.erase k).map V.int) ((ns.erase k).map D.int) [] .non .non [] (reps_ints _) .non List.nodup_nil List.nodup_nil (fun b m => (List.not_mem_nil m).elim) (fun b m => (List.not_mem_nil m).elim)
  rw [e6] at e7
  cases e7
  exact ⟨a, ns, k, rfl, rfl, hH, fun _ => q _ _ [] ρ4 F2 _ A' hk (.val .non) af5, fun h => absurd hn h⟩
theorem wRemove.ap {q : Bool} {wx we : WE} {ρ : DEnv} {Φ : T → DEnv → Prop} {Ψ : PsiE} : wRemove q wx we ρ Φ Ψ = wx ρ (fun t ρ1 => (q || t.stable) = true ∧ asLOk (deref ρ1 t) fun _ => we ρ1 (fun u ρ2 => wdk (deref ρ2 u) fun y => asIk y fun k => asLOk (deref ρ2 t) fun ds => wdk (asInts ds) fun ns => k ∈ ns ∧ wdk (placeT t) fun l => wdk (setPlace ρ2 l.1 l.2 (.lst true ((ns.erase k).map D.int))) fun ρ4 => Φ (.val .non) ρ4) Ψ) Ψ := propext Iff.rfl
theorem de_constI {x : Str} {i : Int} {t : Tok} {p : Pos} (hm : c.mg x = some (.int i t)) (hg : GlC c.sc x := by rfl) (hd : (x == ("__debug__" : Str)) = false := by decide) : DE c true (.Name x p) (wC (.int i)) := de_glob (v := .int i) hg hm ⟨t, rfl⟩ (fun _ _ => .int i) hd
theorem de_constS {x : Str} {i : Str} {t : Tok} {p : Pos} (hm : c.mg x = some (.str i t)) (hg : GlC c.sc x := by rfl) (hd : (x == ("__debug__" : Str)) = false := by decide) : DE c true (.Name x p) (wC (.str i)) := de_glob (v := .str i) hg hm ⟨t, rfl⟩ (fun _ _ => .str i) hd
end
end DL

set_option maxHeartbeats 200000
/-! DLR: a list of numbers lent: frozen while an expression is reckoned, owned again behind it -/
namespace DL
open PySem PySem.Spec PyProof.Rows L2
mutual
/-- nothing frozen but tuples, no dict -/
def cleanD : D → Bool
  | .non => true
  | .bl _ => true
  | .int _ => true
  | .str _ => true
  | .tup ds => cleanL ds
  | .lst o ds => o && cleanL ds
  | _ => false
def cleanL : List D → Bool
  | [] => true
  | d :: ds => cleanD d && cleanL ds
end
/-- the heap less one place -/
def rmF (F : Hp) (a : Addr) : Hp := fun b => if b = a then none else F b
theorem rmF_same {F : Hp} {a : Addr} : rmF F a a = none := by unfold rmF; rw [if_pos rfl]
theorem rmF_ne {F : Hp} {a b : Addr} (h : b ≠ a) : rmF F a b = F b := by unfold rmF; rw [if_neg h]
theorem rmF_none {F : Hp} {a b : Addr} (h : F b = none) : rmF F a b = none := by
  unfold rmF
  split
  · rfl
  · exact h
theorem rmF_le {F : Hp} {a : Addr} : Le (rmF F a) F := fun b o h => by
  by_cases e : b = a
  · subst e; rw [rmF_same] at h; cases h
  · rwa [rmF_ne e] at h
section
variable {K : PySem.W.Frag} {F H F' H' : Hp} {a : Addr} {xs0 : List V} {σ : Sl} {A A' : Fp}
theorem sqT_rm {b : Addr} {xs : List V} (ha : F a = some (.lst xs0)) (h : SqT K F b xs) : SqT K (rmF F a) b xs := by
  rcases h with (h | ⟨o, h⟩) | h
  · refine .inl (.inl ?_)
    rw [rmF_ne]
    · exact h
    · intro e
      subst e
      rw [ha] at h; cases h
  · refine .inl (.inr ⟨o, ?_⟩)
    rw [rmF_ne]
    · exact h
    · intro e
      subst e
      rw [ha] at h; cases h
  · exact .inr h
mutual
theorem Rep.clean (ha : F a = some (.lst xs0)) : ∀ {d : D} {v : V} {A : Fp}, Rep K F H d v A → cleanD d = true → Rep K (rmF F a) H d v A
  | _, _, _, .non, _ => .non
  | _, _, _, .bl b, _ => .bl b
  | _, _, _, .int i, _ => .int i
  | _, _, _, .str x, _ => .str x
  | _, _, _, .tup h r, c => .tup (by rw [rmF_ne (by intro e; subst e; rw [ha] at h; cases h)]; exact h) (Reps.clean ha r (by unfold cleanD at c; exact c))
  | _, _, _, .lstO h f r e, c => .lstO h (rmF_none f) (Reps.clean ha r (by unfold cleanD at c; simpa using c)) e
  | _, _, _, .lstF h r, c => by unfold cleanD at c; cases c
  | _, _, _, .ro h r, c => by unfold cleanD at c; cases c
  | _, _, _, .dKF h q r, c => by unfold cleanD at c; cases c
  | _, _, _, .dKO h f q r e, c => by unfold cleanD at c; cases c
  | _, _, _, .dTF h q r, c => by unfold cleanD at c; cases c
  | _, _, _, .dTO h f q r e, c => by unfold cleanD at c; cases c
theorem Reps.clean (ha : F a = some (.lst xs0)) : ∀ {ds : List D} {vs : List V} {A : Fp}, Reps K F H ds vs A → cleanL ds = true → Reps K (rmF F a) H ds vs A
  | _, _, _, .nil, _ => .nil
  | _, _, _, .cons r1 r2 e, c => by
    unfold cleanL at c
    have c := Bool.and_eq_true_iff.mp c
    exact .cons (Rep.clean ha r1 c.1) (Reps.clean ha r2 c.2) e
end
/-- what is owned in the slots is clean -/
def oclean : Option D → Bool
  | some d => !d.isOwn || cleanD d
  | none => true
def ownClean (ρ : DEnv) : Bool := ρ.all oclean
theorem env_rm {ρ : DEnv} : ∀ {σ : Sl} {A A' : Fp}, EnvR K F H ρ σ A → EnvR K F' H' ρ σ A' → ownClean ρ = true → Le F (rmF F' a) → F' a = some (.lst xs0) → EnvR K (rmF F' a) H' ρ σ A' := by
  induction ρ with
  | nil => intro σ A A' e1 e2 _ _ _; cases e2; exact .nil
  | cons o ρ ih =>
    intro σ A A' e1 e2 hc l ha
    have hcc := Bool.and_eq_true_iff.mp (show (oclean o && ownClean ρ) = true from hc)
    have hc2 : ownClean ρ = true := hcc.2
    have hc1 : oclean o = true := hcc.1
    cases e2 with
    | no e2 =>
      cases e1 with
      | no e1 => exact .no (ih e1 e2 hc2 l ha)
    | yes r2 e2 eq =>
      cases e1 with
      | yes r1 e1 eq1 =>
        rename_i d v σ' A0 B0 A1 B1
        refine .yes ?_ (ih e1 e2 hc2 l ha) eq
        cases ho : d.isOwn with
        | true =>
          have hc3 : (!d.isOwn || cleanD d) = true := hc1
          rw [ho, Bool.not_true, Bool.false_or] at hc3
          exact r2.clean ha hc3
        | false =>
          have e0 := r2.own_nil ho
          have e3 := r1.own_nil ho
          subst e0 e3
          exact r1.pure l
end
section
variable {c : SC} {m : Bool}
def valT : T → Option D
  | .val d => some d
  | _ => none
def wLend (i : Nat) (wa : WE) : WE := fun ρ Φ _ => asLO (lk ρ i) fun ds => wd (asInts ds) fun _ => ownClean ρ = true ∧ wa (ρ.set i (some (.lst false ds))) (fun t ρ' => ρ' = ρ.set i (some (.lst false ds)) ∧ wd (valT t) fun d => cleanD d = true ∧ Φ (.val d) ρ) noPsi
theorem ownClean_set {ρ : DEnv} {i : Nat} (h : ownClean ρ = true) : ownClean (ρ.set i none) = true := by
  unfold ownClean at h ⊢
  rw [List.all_eq_true] at h ⊢
  intro o ho
  rcases List.mem_or_eq_of_mem_set ho with z | z
  · exact h o z
  · subst z; rfl
theorem de_lend {e : Expr} {wa : WE} (i : Nat) (ha : DE c m e wa) : DE c false e (wLend i wa) := by
  obtain ⟨t, t1, t2⟩ := ha
  refine ⟨t, t1, fun W ρ Φ Ψ hw σ F H A rel Q q ex => ?_⟩
  obtain ⟨ds, e1, hw1⟩ := asLO_elim hw
  clear hw
  obtain ⟨ns, e2, hcl, hw⟩ := wd_elim hw1
  clear hw1
  have e3 := asInts_eq e2
  subst e3
  have eρ : ρ[i]? = some (some (.lst true (ns.map D.int))) := lk_some.mp e1
  obtain ⟨v, P, B, S, hσ, hA, rv, _, en⟩ := rel.env.focus eρ
  obtain ⟨a, xs, B', rfl, hHa, hFa, rs, rfl⟩ : ∃ a xs B', v = .ref a ∧ H a = some (.lst xs) ∧ F a = none ∧ Reps c.K F H (ns.map D.int) xs B' ∧ B = a :: B' := by
    cases rv with
    | lstO h f r e => exact ⟨_, _, _, rfl, h, f, r, e⟩
  obtain ⟨exs, eB⟩ := rs.ints_inv
  subst eB
  have hfz : D.frzs (ns.map D.int) = ns.map D.int := by
    clear rs exs en hA rv hw e2 e1 eρ
    induction ns with
    | nil => rfl
    | cons n ns ih => show D.int n :: D.frzs (ns.map D.int) = _; rw [ih]; rfl
  have hfr : frzT (.slot i) ρ = some (.lst false (ns.map D.int), ρ.set i (some (.lst false (ns.map D.int)))) := by
    show (lk ρ i).map (fun d => (d.frz, ρ.set i (some d.frz))) = _
    rw [e1]
    show some ((D.lst true (ns.map D.int)).frz, _) = _
    have : (D.lst true (ns.map D.int)).frz = D.lst false (ns.map D.int) := by
      show D.lst false (if true then D.frzs (ns.map D.int) else ns.map D.int) = _
      rw [if_pos rfl, hfz]
    rw [this]
  obtain ⟨F1, A1, af1, r1⟩ := (Aft.refl (m := true) rel).frz1 (RepT.slot hσ) hfr
  refine t2 W _ _ noPsi hw σ F1 H A1 af1.rel Q (fun t v B ρ' F' H' A' hk r af => ?_) excOk_no
  obtain ⟨eρ', hk2⟩ := hk
  subst eρ'
  obtain ⟨d, et, hcd, hk3⟩ := wd_elim hk2
  clear hk2
  have et : t = .val d := by
    cases t with
    | val d' => cases et; rfl
    | slot j => cases et
    | sub j p => cases et
  subst et
  cases r with
  | val r =>
  have sq := af1.seq0 af
  -- where the list stands now
  have hF1a : F1 a = some (.lst xs) := by
    cases r1 with
    | lstF h r =>
      have := af1.rel.le _ _ h
      rw [hHa] at this
      cases this
      exact h
  have hF'a : F' a = some (.lst xs) := af.ext.frz _ _ hF1a
  have hH'a : H' a = some (.lst xs) := af.rel.le _ _ hF'a
  have hset : (ρ.set i (some (.lst false (ns.map D.int))))[i]? = some (some (.lst false (ns.map D.int))) := by
    have hl : i < ρ.length := by
      rw [List.getElem?_eq_some_iff] at eρ
      exact eρ.1
    rw [List.getElem?_set_self hl]
  obtain ⟨v2, P2, B2, S2, hσ2, hA2, rv2, _, en2⟩ := af.rel.env.focus hset
  have eB2 : B2 = [] := rv2.own_nil rfl
  subst eB2
  rw [List.set_set] at en2
  rw [List.nil_append] at hA2
  rw [← hA2] at en2
  have lF : Le F (rmF F' a) := fun b o h => by
    have hne : b ≠ a := fun e => by
      subst e; rw [hFa] at h; cases h
    rw [rmF_ne hne]
    exact af.ext.frz _ _ (af1.ext.frz _ _ h)
  have en3 := env_rm en en2 (ownClean_set hcl) lF hF'a
  have ril : Rep c.K (rmF F' a) H' (.lst true (ns.map D.int)) (.ref a) [a] := by
    refine .lstO hH'a rmF_same (A := []) ?_ rfl
    rw [exs]
    exact reps_ints ns
  obtain ⟨A3, en4, pm⟩ := en3.putAt (i := i) (by
    have hl : i < ρ.length := by
      rw [List.getElem?_eq_some_iff] at eρ
      exact eρ.1
    rw [List.getElem?_set_self hl]) hσ ril
  have eset : (ρ.set i none).set i (some (.lst true (ns.map D.int))) = ρ := by
    rw [List.set_set]
    obtain ⟨hi, e⟩ := List.getElem?_eq_some_iff.mp eρ
    rw [← e]
    exact List.set_getElem_self hi
  rw [eset] at en4
  have aA' : a ∉ A' := fun z => by
    have := (af.rel.env.foot a z).2
    rw [hF'a] at this; cases this
  have aB : a ∉ B := fun z => by
    have := (r.foot a z).2
    rw [hF'a] at this; cases this
  have inA : a ∈ A := by rw [hA]; simp
  have ext := Ext.loud sq
  have aft : Aft c.K false σ ρ A F H ρ A3 (rmF F' a) H' B := by
    refine ⟨⟨fun b o h => af.rel.le _ _ (rmF_le _ _ h), en4, ?_⟩, ?_, (fun e => by cases e), af.nd, fun b hb z => ?_⟩
    · exact pm.nodup_iff.mpr (List.nodup_cons.mpr ⟨aA', af.rel.nd⟩)
    · refine ⟨lF, ext.keep, fun b z => ?_, fun b o h => ext.newf b o (rmF_le _ _ h)⟩
      rcases List.mem_append.mp z with z | z
      · have z : b ∈ A3 := z
        rcases List.mem_cons.mp (pm.mem_iff.mp z) with rfl | z
        · exact .inl inA
        · exact ext.own b (List.mem_append_left _ z)
      · exact ext.own b (List.mem_append_right _ z)
    · rcases List.mem_cons.mp (pm.mem_iff.mp z) with rfl | z
      · exact aB hb
      · exact af.ap b hb z
  exact q _ v B ρ (rmF F' a) H' A3 hk3 (.val (r.clean hF'a hcd)) aft
theorem wLend.ap {i : Nat} {wa : WE} {ρ : DEnv} {Φ : T → DEnv → Prop} {Ψ : PsiE} : wLend i wa ρ Φ Ψ = asLOk (lk ρ i) fun ds => wdk (asInts ds) fun _ => ownClean ρ = true ∧ wa (ρ.set i (some (.lst false ds))) (fun t ρ' => ρ' = ρ.set i (some (.lst false ds)) ∧ wdk (valT t) fun d => cleanD d = true ∧ Φ (.val d) ρ) noPsi := propext Iff.rfl
theorem valT_val {d : D} : valT (.val d) = some d := Eq.trans rfl rfl
theorem ownClean_nil : ownClean [] = true := Eq.trans rfl rfl
theorem ownClean_cons {o : Option D} {ρ : DEnv} : ownClean (o :: ρ) = (oclean o && ownClean ρ) := Eq.trans rfl rfl
theorem oclean_none : oclean none = true := Eq.trans rfl rfl
theorem oclean_some {d : D} : oclean (some d) = (!d.isOwn || cleanD d) := Eq.trans rfl rfl
theorem clean_int {i : Int} : cleanD (.int i) = true := Eq.trans (by simp only [cleanD]) rfl
theorem clean_bl {i : Bool} : cleanD (.bl i) = true := Eq.trans (by simp only [cleanD]) rfl
theorem clean_non : cleanD .non = true := Eq.trans (by simp only [cleanD]) rfl
theorem clean_str {i : Str} : cleanD (.str i) = true := Eq.trans (by simp only [cleanD]) rfl
theorem clean_tup {ds : List D} : cleanD (.tup ds) = cleanL ds := Eq.trans (by simp only [cleanD]) rfl
theorem clean_lst {o : Bool} {ds : List D} : cleanD (.lst o ds) = (o && cleanL ds) := Eq.trans (by simp only [cleanD]) rfl
theorem clean_nil : cleanL [] = true := Eq.trans (by simp only [cleanL]) rfl
theorem clean_cons {d : D} {ds : List D} : cleanL (d :: ds) = (cleanD d && cleanL ds) := Eq.trans (by simp only [cleanL]) rfl
theorem clean_map {α : Type} {f : α → D} (h : ∀ a, cleanD (f a) = true) : ∀ l : List α, cleanL (l.map f) = true
  | [] => clean_nil
  | a :: l => by rw [List.map_cons, clean_cons, h, clean_map h l]; rfl
theorem clean_nats (l : List Nat) : cleanL (natsD l) = true := clean_map (fun _ => clean_int) l
theorem clean_pairs (l : List (Nat × Nat)) : cleanL (pairsD l) = true := clean_map (fun p => by rw [pairD_ap, clean_tup, clean_cons, clean_cons, clean_nil, clean_int, clean_int]; rfl) l
theorem clean_app (a b : List D) : cleanL (a ++ b) = (cleanL a && cleanL b) := by
  induction a with
  | nil => rw [clean_nil]; rfl
  | cons d a ih => rw [List.cons_append, clean_cons, clean_cons, ih, Bool.and_assoc]
end
end DL

set_option maxHeartbeats 200000
/-! DLT: xs.index(k) of numbers -/
namespace DL
open PySem PySem.Spec PyProof.Rows L2
def ixOf : List Int → Int → Nat
  | [], _ => 0
  | a :: r, k => if a = k then 0 else ixOf r k + 1
theorem ixOf_at : ∀ {ns : List Int} {k : Int}, k ∈ ns → ns[ixOf ns k]? = some k
  | [], k, h => absurd h List.not_mem_nil
  | a :: r, k, h => by
    unfold ixOf
    by_cases e : a = k
    · rw [if_pos e, e]; rfl
    · rw [if_neg e]
      have hr : k ∈ r := (List.mem_cons.mp h).resolve_left fun z => e z.symm
      exact ixOf_at hr
theorem ixOf_no : ∀ {ns : List Int} {k : Int} {m : Nat}, m < ixOf ns k → ns[m]? ≠ some k
  | [], k, m, h => by simp
  | a :: r, k, m, h => by
    unfold ixOf at h
    by_cases e : a = k
    · rw [if_pos e] at h; exact absurd h (Nat.not_lt_zero _)
    · rw [if_neg e] at h
      cases m with
      | zero => intro z; exact e (Option.some.inj z)
      | succ m => exact ixOf_no (ns := r) (k := k) (m := m) (by omega)
section
variable {c : SC} {m m2 : Bool} {W : WX} {apos pos : Pos}
def wIndex (q : Bool) (wx : WE) (wa : WA) : WE := fun ρ Φ Ψ => wx ρ (fun t ρ1 => (q || t.stable) = true ∧ wd (deref ρ1 t) fun x0 => wd (listOf x0) fun _ => wa ρ1 (fun us ρ2 => wd (derefs ρ2 us) fun ys => match ys with
  | [.int k] => wd (deref ρ2 t) fun x => wd (listOf x) fun ds => wd (asInts ds) fun ns => k ∈ ns ∧ Φ (.val (.int (ixOf ns k))) ρ2
  | _ => False) Ψ) Ψ
theorem eqV_int (i j : Int) : eqV (.int i) (.int j) = (i == j) := by
  unfold eqV; rfl
theorem lst_here2 {K : PySem.W.Frag} {F H : Hp} {ρ : DEnv} {σ : Sl} {A B : Fp} {t : T} {v : V} {d : D} {ds : List D} (rel : SRel K F H ρ σ A) (r : RepT K F H σ t v B) (e : deref ρ t = some d) (h : listOf d = some ds) : ∃ a xs A', v = .ref a ∧ SqL K H a xs ∧ Reps K F H ds xs A' := by
  obtain ⟨_, rx, _, _⟩ := deref_rep rel r e
  obtain ⟨a, xs, A', e, h, r, _⟩ := rx.listOf rel.le h
  exact ⟨a, xs, A', e, h, r⟩
theorem flat_ints (ns : List Int) : (ns.map V.int).all flatV = true := by
  rw [List.all_eq_true]
  intro x hx
  obtain ⟨n, _, rfl⟩ := List.mem_map.mp hx
  rfl
theorem de_index {o e : Expr} {wx : WE} {wa : WA} (hx : DE c m o wx) (ha : DA c m2 [e] wa)
    (hbase : ∀ env, attributeBase o "index" env (eval o env) = eval o env := by intro _; rfl)
    (hfew : ∀ env, ((backTo pos (starEach [e] env)).all (fun x => !x.1) && (backToKw pos (keywordEach [] env)).all (fun x => x.1.isSome)
      && decide ([e].length + ([] : List Keyword).length + (if ([] : List Keyword).isEmpty then 0 else 1) < 30)) = true := by intro _; rfl)
    (hline : (apos.endLine == pos.line) = true := by rfl) (hs : ∀ env, starEach [e] env = (false, eval e env) :: starEach [] env := by intro _; rfl) (hplain : ∀ env, (backTo pos (starEach [] env)).any (·.1) = false := by intro _; rfl) :
    DE c false (.Call (.Attribute o "index" apos) [e] [] pos) (wIndex m2 wx wa) := by
  obtain ⟨tx, x1, x2⟩ := hx
  obtain ⟨ta, a1, a2⟩ := ha
  refine ⟨fun W => tBM c.K "list" (rIndex c.K) (tx W) (ta W), fun X W fit tk => ?_, fun W ρ Φ Ψ hw σ F H A rel Q q ex => ?_⟩
  · have z := pe_bm (X := X) (cpos := pos) (apos := apos) PySem.F.plainAttrs_list PySem.F.slot_list_index PySem.F.type_list_index mt_index (x1 X W fit tk) (a1 X W fit tk) (hbase X.env) (hfew X.env) hline (hs X.env) (hplain X.env)
    rw [fit.K] at z
    exact z
  refine x2 W ρ _ Ψ hw σ F H A rel _ (fun t vx B ρ1 F1 H1 A1 hk ra af => ?_) ex
  obtain ⟨st, hk⟩ := hk
  obtain ⟨x0, e0, hk⟩ := wd_elim hk
  obtain ⟨ds0, e00, hk⟩ := wd_elim hk
  obtain ⟨a0, xs0, _, ev0, hs0, _⟩ := lst_here2 af.rel ra e0 e00
  refine ⟨by subst ev0; exact Or.inl ⟨rfl, xs0, hs0⟩, ?_⟩
  refine a2 W ρ1 _ Ψ hk σ F1 H1 A1 af.rel _ (fun us vs B2 ρ2 F2 H2 A2 hk rb af2 => ?_) (ex.aft af)
  obtain ⟨ys, e1, hk2⟩ := wd_elim hk
  clear hk
  split at hk2
  · rename_i k
    obtain ⟨x, e2, hk3⟩ := wd_elim hk2
    obtain ⟨ds, e3, hk4⟩ := wd_elim hk3
    obtain ⟨ns, e4, hn, hk5⟩ := wd_elim hk4
    clear hk2 hk3 hk4
    have e5 := asInts_eq e4
    subst e5
    have ra2 := af2.repT ra af.ap (by simpa using st)
    obtain ⟨a, xs, A', rfl, hsq, rs⟩ := lst_here2 af2.rel ra2 e2 e3
    obtain ⟨rfl, rfl⟩ := rs.ints
    have ry := derefs_rep af2.rel rb e1
    cases ry with
    | cons r1 r2 =>
      cases r2
      obtain ⟨rfl, _⟩ := r1.int_inv
      have z1 : (ns.map V.int)[ixOf ns k]? = some (.int k) := by rw [List.getElem?_map, ixOf_at hn]; rfl
      refine ⟨a, ns.map V.int, .int k, ixOf ns k, .int k, rfl, rfl, hsq, rfl, flat_ints ns, z1, by rw [eqV_int]; exact beq_self_eq_true k, fun m z' hm hz' => ?_, ?_⟩
      · rw [List.getElem?_map] at hz'
        cases e : ns[m]? with
        | none => rw [e] at hz'; cases hz'
        | some i =>
          rw [e] at hz'
          cases hz'
          rw [eqV_int]
          apply beq_eq_false_iff_ne.mpr
          intro z
          subst z
          exact ixOf_no hm e
      · have sq := (af.less (List.nil_sublist B)).seq af2 fun _ m => (List.not_mem_nil m).elim
        have sq2 := (sq.weak (m2 := false) fun e => by cases e).less (List.nil_sublist _)
        exact q _ _ [] ρ2 F2 H2 A2 hk5 (.val (.int _)) sq2
  · exact hk2.elim
theorem wIndex.ap {q : Bool} {wx : WE} {wa : WA} {ρ : DEnv} {Φ : T → DEnv → Prop} {Ψ : PsiE} : wIndex q wx wa ρ Φ Ψ = wx ρ (fun t ρ1 => (q || t.stable) = true ∧ wdk (deref ρ1 t) fun x0 => wdk (listOf x0) fun _ => wa ρ1 (fun us ρ2 => wdk (derefs ρ2 us) fun ys => match ys with
  | [.int k] => wdk (deref ρ2 t) fun x => wdk (listOf x) fun ds => wdk (asInts ds) fun ns => k ∈ ns ∧ Φ (.val (.int (ixOf ns k))) ρ2
  | _ => False) Ψ) Ψ := propext Iff.rfl
def ixN2 (l : List Nat) (k : Nat) : Nat := ixOf (l.map Int.ofNat) (k : Int)
theorem ixN2_ap (l : List Nat) (k : Nat) : ixOf (l.map Int.ofNat) (k : Int) = ixN2 l k := rfl
theorem ixN2_at {l : List Nat} {k : Nat} (h : k ∈ l) : l[ixN2 l k]? = some k := by
  have h2 : (k : Int) ∈ l.map Int.ofNat := List.mem_map.mpr ⟨k, h, rfl⟩
  have := ixOf_at h2
  rw [List.getElem?_map] at this
  show l[ixOf (l.map Int.ofNat) k]? = some k
  cases e : l[ixOf (l.map Int.ofNat) (k : Int)]? with
  | none => rw [e] at this; cases this
  | some j =>
    rw [e] at this
    have : (j : Int) = (k : Int) := Option.some.inj this
    congr 1; omega
end
end DL

set_option maxHeartbeats 0
/-! DLU: t[::-1] of a tuple -/
namespace DL
open PySem PySem.Spec PyProof.Rows L2 HT
section
variable {prog : Program} {w : World} {A : Around} {s : Shared} {E : Value → Shared → Prop}
theorem sliceApplied_rev {sl : Addr} {vl vu vs : Value} {n : Nat} {Q : Int × Int × Nat → Shared → Prop} (hs : s.heap.IsSliceOf sl vl vu vs) (pl : IsPart vl none) (pu : IsPart vu none) (ps : IsPart vs (some (-1)))
    (h : Q ((n : Int) - 1, -1, n) s) : wpAny (model prog w) A (Builtin.Slice.sliceApplied (.ref sl) (pure (n : Int))) Q E s := by
  obtain ⟨os, hos, hcs, hds⟩ := id hs
  unfold Builtin.Slice.sliceApplied Builtin.Slice.sliceFields
  refine wpAny_bind (wpAny_bind (wpAny_field hos hds (x := vl) rfl (wpAny_bind (wpAny_field hos hds (x := vu) rfl (wpAny_bind (wpAny_field hos hds (x := vs) rfl (wpAny_pure ?_)))))))
  refine wpAny_bind (slicePart_ ps ?_)
  show wpAny _ _ (if ((-1 : Int) == 0) = true then _ else _) _ _ s
  rw [if_neg (by decide)]
  refine wpAny_bind (slicePart_ pl (wpAny_bind (slicePart_ pu (wpAny_bind (wpAny_pure ?_)))))
  show wpAny _ _ (match Builtin.Slice.sliceAdjust none none (-1) (n : Int) with | (lo, hi) => pure (lo, (-1 : Int), Builtin.Slice.slicePlaces lo hi (-1))) _ _ s
  have e1 : Builtin.Slice.sliceAdjust none none (-1) (n : Int) = ((n : Int) - 1, -1) := by
    unfold Builtin.Slice.sliceAdjust
    rfl
  rw [e1]
  have e2 : Builtin.Slice.slicePlaces ((n : Int) - 1) (-1) (-1) = n := by
    unfold Builtin.Slice.slicePlaces
    have h1 : ¬ ((-1 : Int) > 0) := by omega
    simp only [h1, if_false]
    have e : -(-1 : Int) = 1 := by omega
    rw [e, Int.ediv_one]
    split <;> omega
  show wpAny _ _ (pure ((n : Int) - 1, (-1 : Int), Builtin.Slice.slicePlaces ((n : Int) - 1) (-1) (-1))) _ _ s
  rw [e2]
  exact wpAny_pure h
theorem fm_some {α β : Type} (f : α → Option β) (g : α → β) : ∀ (l : List α), (∀ a ∈ l, f a = some (g a)) → l.filterMap f = l.map g
  | [], _ => rfl
  | a :: l, h => by
    rw [List.filterMap_cons, h a List.mem_cons_self, List.map_cons, fm_some f g l fun x hx => h x (List.mem_cons_of_mem _ hx)]
theorem pick_rev (xs : Array Value) : ((List.range xs.size).filterMap fun (m : Nat) => xs[(((xs.size : Nat) : Int) - 1 + (m : Int) * -1).toNat]?).toArray = xs.toList.reverse.toArray := by
  congr 1
  rw [fm_some _ (fun m => (xs.toList.reverse)[m]?.getD .none) _ (fun m hm => ?_)]
  · apply List.ext_getElem
    · simp
    · intro i h1 h2
      simp at h1
      simp [h1]
  · have hm := List.mem_range.mp hm
    have e1 : (((xs.size : Nat) : Int) - 1 + (m : Int) * -1).toNat = xs.size - 1 - m := by omega
    have e2 : xs.size - 1 - m < xs.size := by omega
    rw [e1]
    have h1 : xs[xs.size - 1 - m]? = some xs[xs.size - 1 - m] := by simp [e2]
    have h2 : xs.toList.reverse[m]? = some xs[xs.size - 1 - m] := by
      rw [List.getElem?_reverse (by simpa using hm)]
      simp [e2]
    rw [h1, h2]
    rfl
theorem getItem_tuple_rev {t sl : Addr} {items : Array Value} {vl vu vs : Value} {Q : Value → Shared → Prop} (ht : IsTup s.heap t items) (hs : s.heap.IsSliceOf sl vl vu vs) (pl : IsPart vl none) (pu : IsPart vu none) (ps : IsPart vs (some (-1)))
    (h : Q (.ref s.heap.objs.size) { s with heap := s.heap.push { cls := .type "tuple", data := .seq items.toList.reverse.toArray } })
    (hsz : items.size ≤ sizeLine) : wpAny (model prog w) A (getItem (.ref t) (.ref sl)) Q E s := by
  have htake : sizeOk (.seq items.toList.reverse.toArray) := by
    show items.toList.reverse.toArray.size ≤ sizeLine
    simpa using hsz
  obtain ⟨os, hos, hcs, hds⟩ := id hs
  have hTs : s.TypeIs (.ref sl) "slice" := ⟨os, hos, hcs⟩
  unfold getItem
  try with_reducible refine wpAny_holding ?_
  first | refine wpAny_bind (wpAny_pure ?_) | skip
  refine wpAny_bind (wpAny_sequenceKey ht.typeIs (by decide) ?_)
  refine wpAny_bind (wpAny_callSpecial?_slot (name := Str.ofString "__getitem__") ht.typeIs PyProof.Rows.slot_tuple_getitem
    (wpAny_call_entry PyProof.Rows.slot_tuple_getitem ht.typeIs entry_tuple_getitem ?_ (args_tuple_getitem _ _)))
  show wpAny _ _ (Builtin.Tuple.tupleItemsOf (.ref t) >>= _) _ _ s
  refine wpAny_bind (tupleItemsOf_ ht ?_)
  refine wpAny_bind (wpAny_typeOf hTs ?_)
  rw [if_pos (by decide)]
  refine wpAny_bind (sliceApplied_rev (n := items.size) hs pl pu ps ?_)
  have hno : ¬ ((((items.size : Nat) : Int) - 1 == 0 && (-1 : Int) == 1 && items.size == items.size) = true) := by
    intro q
    rw [Bool.and_eq_true, Bool.and_eq_true] at q
    have : ((-1 : Int) == 1) = true := q.1.2
    exact absurd this (by decide)
  show wpAny _ _ (if (((items.size : Nat) : Int) - 1 == 0 && (-1 : Int) == 1 && items.size == items.size) = true then _ else _) _ _ s
  rw [if_neg hno, pick_rev]
  first
    | exact wpAny_bind (m := Builtin.Tuple.tupleExact _) (wpAny_newObj_type (wpAny_pure ⟨_, rfl, wpAny_pure h⟩) htake)
    | exact wpAny_bind (m := Builtin.Tuple.tupleExact _) (wpAny_newObj_type (wpAny_bind (wpAny_pure (wpAny_pure ⟨_, rfl, wpAny_pure h⟩))) htake)
    | exact wpAny_bind (wpAny_bind (m := Builtin.Tuple.tupleExact _) (wpAny_newObj_type (wpAny_pure (wpAny_pure ⟨_, rfl, wpAny_pure h⟩)) htake))
    | exact wpAny_bind (wpAny_bind (m := Builtin.Tuple.tupleExact _) (wpAny_newObj_type (wpAny_pure ⟨_, rfl, wpAny_pure h⟩) htake))
end
def tRevT (K : PySem.W.Frag) (te : TE) : TE := fun σ H Q => te σ H fun x H1 => ∃ a xs, x = .ref a ∧ SqT K H1 a xs ∧ ∀ p, H1 p = none → Q (.ref p) (upd H1 p (.tup xs.reverse))
theorem pe_revT {X : Cx} {e : Expr} {te : TE} {k : Nat} {p1 p2 p3 pos : Pos} (he : PE X e te) : PE X (.Subscript e (.Slice none none (some (.UnaryOp .USub (.Constant (.int 1) k p1) p2)) p3) pos) (tRevT X.K te) := by
  refine ⟨fun pins s σ H Q I h => ?_⟩
  refine Subscript_ (thn (he.run pins s σ H _ I h) fun v s1 ⟨x, H1, I1, r1, q1⟩ => ?_)
  obtain ⟨a, xs, ex, hx, q⟩ := q1
  subst ex
  cases r1
  have hst : PO X (some (.UnaryOp .USub (.Constant (.int 1) k p1) p2)) (tPart (tUn (rU fun i => .int (-i)) (tC (.int 1)))) := po_some (pe_un un_neg pe_int)
  refine wpAny_Slice (thn (po_none.run pins s1 σ H1 (fun o H2 => o = none ∧ H2 = H1) I1 ⟨rfl, rfl⟩) fun vl s2 ⟨l, H2, I2, pl, el, e2⟩ => ?_)
  subst el e2
  refine thn (po_none.run pins s2 σ H2 (fun o H3 => o = none ∧ H3 = H2) I2 ⟨rfl, rfl⟩) fun vu s3 ⟨u, H3, I3, pu, eu, e3⟩ => ?_
  subst eu e3
  refine thn (hst.run pins s3 σ H3 (fun o H4 => o = some (-1) ∧ H4 = H3) I3 ⟨1, rfl, -1, rfl, rfl, rfl⟩) fun vs s4 ⟨o, H4, I4, ps, eo, e4⟩ => ?_
  subst eo e4
  have I5 : Inv X pins σ H4 { s4 with heap := s4.heap.push { cls := .type "slice", data := .fields #[vl, vu, vs] } } := I4.kept (t' := s4.toks) fun b ob q => Heap.get?_push_of_some _ q
  obtain ⟨its, r, ht, hz⟩ := I5.tuple hx
  have hlen := r.length
  show wpAny (model X.prog X.w) X.A (subscriptTail e (.Slice none none (some (.UnaryOp .USub (.Constant (.int 1) k p1) p2)) p3) (.ref a) (.ref s4.heap.objs.size)) (EP X pins σ Q) X.xe { s4 with heap := s4.heap.push { cls := .type "slice", data := .fields #[vl, vu, vs] } }
  refine tail_any (ops := [.ref a, .ref s4.heap.objs.size]) ht.typeIs (PyProof.Rows.slot_tuple_getitem.lookup) ?_ (by with_unfolding_all rfl)
  refine getItem_tuple_rev ht (Heap.IsSliceOf.new _ vl vu vs) pl pu ps ?_ (by rw [List.size_toArray]; omega)
  refine ⟨.ref _, _, I5.laid (t' := s4.toks) (o := .tup xs.reverse) (fun b ob q => Heap.get?_push_of_some _ q) (Nat.le_refl _) ?_, rfl, q _ (I5.hok.fresh (Nat.le_refl _))⟩
  exact ⟨by rw [List.length_reverse]; exact hz, _, r.reverse, IsTup.new _ _⟩
section
variable {c : SC} {m : Bool}
def opRevT : Op1 := fun x k => match x with
  | .tup ds => k (.tup ds.reverse)
  | _ => False
def rRevT (K : PySem.W.Frag) : V → Hp → VK → Prop := fun x H Q => ∃ a xs, x = .ref a ∧ SqT K H a xs ∧ ∀ p, H p = none → Q (.ref p) (upd H p (.tup xs.reverse))
theorem os_revT {K : PySem.W.Frag} : OpS1 K (rRevT K) opRevT := by
  intro x k h F H vx Bx l rx Q q
  unfold opRevT at h
  split at h
  · obtain ⟨_, a, xs, rfl, h1, r1⟩ := rx.tup_inv
    refine ⟨a, xs, rfl, l.sqT h1, fun p hp => ?_⟩
    obtain ⟨r, e, l2⟩ := new_tup l hp r1.rev0
    exact q _ _ [] _ _ h r List.nodup_nil e l2
  · exact h.elim
theorem de_revT {a : Expr} {wa : WE} {k : Nat} {p1 p2 p3 pos : Pos} (ha : DE c m a wa) : DE c m (.Subscript a (.Slice none none (some (.UnaryOp .USub (.Constant (.int 1) k p1) p2)) p3) pos) (w1 opRevT wa) := by
  obtain ⟨ta, ha1, ha2⟩ := ha
  refine ⟨fun W => tUn (rRevT c.K) (ta W), fun X W fit tk => ?_, fun W => snd_1 (ha2 W) os_revT⟩
  have z := pe_revT (X := X) (k := k) (p1 := p1) (p2 := p2) (p3 := p3) (pos := pos) (ha1 X W fit tk)
  rw [fit.K] at z
  exact z
theorem opRevT_t {xs : List D} {k : D → Prop} : opRevT (.tup xs) k = k (.tup xs.reverse) := Eq.trans rfl rfl
end
end DL

set_option maxHeartbeats 200000
/-! DLV: text times number; one sign in a text -/
namespace DL
open PySem PySem.Spec PyProof.Rows L2
def repS (z : Str) (n : Nat) : Str := ⟨(List.replicate n z.cps).foldl (· ++ ·) #[]⟩
theorem foldl_size : ∀ (n : Nat) (a b : Array Nat), ((List.replicate n a).foldl (· ++ ·) b).size = b.size + n * a.size
  | 0, a, b => by simp
  | n + 1, a, b => by
    rw [List.replicate_succ, List.foldl_cons, foldl_size n a (b ++ a), Array.size_append, Nat.succ_mul]
    omega
theorem repS_len (z : Str) (n : Nat) : (repS z n).length = n * z.length := by
  show ((List.replicate n z.cps).foldl (· ++ ·) #[]).size = n * z.cps.size
  rw [foldl_size]; simp
def rRepS : R2 := fun x y H Q => ∃ z n, x = .str z ∧ y = .int n ∧ 2 ≤ n ∧ n ≤ 1000 ∧ 0 < z.length ∧ z.length ≤ 1000 ∧ Q (.str (repS z n.toNat)) H
theorem op_repS {X : Cx} : OpR X (binaryOp .Mult) rRepS := by
  intro pins s σ H x y v u Q I rx ry h
  obtain ⟨z, n, rfl, rfl, h1, h2, h3, h4, q⟩ := h
  obtain ⟨t, rfl⟩ := rx
  obtain ⟨t', rfl⟩ := ry
  have hl : (repS z n.toNat).length ≤ 1000000 := by
    rw [repS_len]
    exact Nat.mul_le_mul (show n.toNat ≤ 1000 by omega) h4
  have hsz : z.length * n.toNat ≤ 1000000 := Nat.mul_le_mul h4 (show n.toNat ≤ 1000 by omega)
  refine PySem.P.mul_str (by rw [decide_eq_false (by omega), decide_eq_false (by omega)]; rfl) (fun _ _ => ?_) (fun _ _ => ?_) ?_
  · have e1 : (z.length : Int) * n ≤ 1000 * 1000 := Int.mul_le_mul (by omega) (by omega) (by omega) (by omega)
    have e2 : (z.length : Int) ≤ (2 ^ 63 - 1) / n := Int.le_ediv_of_mul_le (by omega) (by omega)
    omega
  · unfold PySem.Builtin.Str.tooLong
    exact decide_eq_false (by have : sizeLine ≥ 1000000 := by decide
                              omega)
  · rw [if_neg (by omega), if_neg]
    · exact ⟨Nat.le_trans hl (by decide), ⟨.str (repS z n.toNat), H, I.tok _, ⟨_, rfl⟩, q⟩⟩
    · have e1 : (n == 1) = false := by apply beq_eq_false_iff_ne.mpr; omega
      have e2 : (z.length == 0) = false := by apply beq_eq_false_iff_ne.mpr; omega
      rw [e1, e2]; exact Bool.false_ne_true
section
variable {c : SC} {m m2 : Bool} {a b : Expr} {wa wb : WE} {pos : Pos}
def opMulS : Op2 := fun x y k => match x, y with
  | .str z, .int n => 2 ≤ n ∧ n ≤ 1000 ∧ 0 < z.length ∧ z.length ≤ 1000 ∧ k (.str (repS z n.toNat))
  | _, _ => False
theorem os_mulS {K : PySem.W.Frag} : OpS2 K rRepS opMulS := by
  intro x y k h F H vx vy Bx By l rx ry Q q
  unfold opMulS at h
  split at h
  · obtain ⟨rfl, _⟩ := rx.str_inv
    obtain ⟨rfl, _⟩ := ry.int_inv
    obtain ⟨h1, h2, h3, h4, hk⟩ := h
    exact ⟨_, _, rfl, rfl, h1, h2, h3, h4, q _ _ [] F H hk (.str _) List.nodup_nil Ext.nop l⟩
  · exact h.elim
theorem de_mulS (ha : DE c m a wa) (hb : DE c m2 b wb) : DE c (m && m2) (.BinOp a .Mult b pos) (w2 m2 opMulS wa wb) := de_bin (r := fun _ => rRepS) (fun X fit => op_repS) os_mulS ha hb
theorem opMulS_s {z : Str} {n : Int} {k : D → Prop} : opMulS (.str z) (.int n) k = (2 ≤ n ∧ n ≤ 1000 ∧ 0 < z.length ∧ z.length ≤ 1000 ∧ k (.str (repS z n.toNat))) := Eq.trans rfl rfl
theorem in_sign (z : Str) (c : Nat) : (!(Builtin.Str.occurrences z ⟨#[c]⟩ 0 z.length 1).isEmpty) = decide (c ∈ z.cps.toList) := PySem.StrLaws.found_one z c
end
end DL

set_option maxHeartbeats 200000
/-! DLW: several names at once, all values written ones -/
namespace DL
open PySem PySem.Spec PyProof.Rows L2
theorem sw_const {ts vs : List Expr} {k k2 : Nat} {p p2 : Pos} (h : vs.all (foldedForSure 8) = true) (env : Env) : swappedStores [.Tuple ts k p] (.Tuple vs k2 p2) env = pure none := by
  unfold swappedStores
  simp only [h, if_true]
  repeat (first | rfl | split)
end DL

set_option maxHeartbeats 1000000
/-! DLY: enumerate(zip(xs, ys)) of two tuples -/
namespace DL
open PySem PySem.Spec PyProof.Rows L2

/-- a zip whatever it knows of the pair that it gave out -/
abbrev ZipF (h : Heap) (z TI TO : Addr) (own : Value) (f : Bool) : Prop :=
  h.get? z = some { cls := .type "zip", dict := none, data := .fields #[own, .bool f, .bool false, .ref TI, .ref TO], slots := #[] }
def OwnOk (v : Value) : Prop := v = .none ∨ ∃ T : Addr, v = rawInt (T : Nat)
def ZipX (h : Heap) (z TI TO : Addr) : Prop := ∃ own f, OwnOk own ∧ ZipF h z TI TO own f

section
variable {prog : Program} {w : World} {A : Around} {E : Value → Shared → Prop} {s : Shared}
theorem alive_any {a : Addr} {Q : Option Obj → Shared → Prop} (h : Q (s.heap.get? a) s) : wpAny (model prog w) A (loadIfAlive a) Q E s := fun _ _ _ => h
theorem zipX_isFree {z TI TO : Addr} {own : Value} {f : Bool} {Q : Bool → Shared → Prop} (ho : OwnOk own) (hz : ZipF s.heap z TI TO own f)
    (h : ∀ b f' h', ZipF h' z TI TO own f' → Heap.SameBut z s.heap h' → Q b { s with heap := h' }) : wpAny (model prog w) A (Builtin.SmallTypes.ownedTupleIsFree (.ref z)) Q E s := by
  unfold Builtin.SmallTypes.ownedTupleIsFree
  refine wpAny_bind (wpAny_field hz rfl (x := own) rfl ?_)
  rcases ho with rfl | ⟨T, rfl⟩
  · exact wpAny_pure (h true f s.heap hz (Heap.SameBut.refl _ _))
  · show wpAny _ _ (loadIfAlive ((T : Int).toNat) >>= _) _ _ _
    rw [Int.toNat_natCast]
    refine wpAny_bind (alive_any ?_)
    cases s.heap.get? T with
    | none => exact wpAny_pure (h true f s.heap hz (Heap.SameBut.refl _ _))
    | some o =>
      simp only [Option.isNone_some, Bool.false_eq_true, if_false]
      refine wpAny_bind (wpAny_field hz rfl (x := .bool f) rfl ?_)
      cases f with
      | true =>
        rw [if_neg (show ¬ ((Value.bool true != Value.bool true) = true) from Bool.false_ne_true)]
        exact wpAny_pure (h false true s.heap hz (Heap.SameBut.refl _ _))
      | false =>
        rw [if_pos (show (Value.bool false != Value.bool true) = true from rfl)]
        exact wpAny_bind (wpAny_setField_rec hz (by simp) fun h₁ hz₁ hs₁ => wpAny_pure (h false true h₁ hz₁ hs₁))

theorem zipX_item {z TI TO i1 i2 l1 l2 : Addr} {k1 k2 : Nat} {xs ys : Array Value} {x y a b : Value} {Q : Value → Shared → Prop} (D : ZipApart z TI TO i1 i2 l1 l2)
    (hz : ZipX s.heap z TI TO) (hTI : IsPair s.heap TI (.ref i1) (.ref i2)) (hTO : IsPair s.heap TO a b)
    (h1 : s.heap.IsTupleIter i1 l1 k1) (h2 : s.heap.IsTupleIter i2 l2 k2) (hl1 : s.heap.IsTuple l1 xs) (hl2 : s.heap.IsTuple l2 ys) (hx : xs[k1]? = some x) (hy : ys[k2]? = some y)
    (hQ : ∀ h', ZipX h' z TI TO → (∃ a b, IsPair h' TO a b) → h'.IsTupleIter i1 l1 (k1 + 1) → h'.IsTupleIter i2 l2 (k2 + 1) → IsPair h' s.heap.objs.size x y → h'.objs.size = s.heap.objs.size + 1 →
      (∀ c o, c ≠ z → c ≠ TO → c ≠ i1 → c ≠ i2 → s.heap.get? c = some o → h'.get? c = some o) → Q (.ref s.heap.objs.size) { s with heap := h' }) :
    wpAny (model prog w) A (Builtin.«zip.__next__» ⟨[.ref z], []⟩) (fun fin s' => ∃ v, fin = .done (.ret v) ∧ Q v s') E s := by
  obtain ⟨own, f, ho, hz⟩ := hz
  show wpAny _ _ (field (.ref z) 2 >>= _) _ _ _
  refine wpAny_bind (wpAny_field hz rfl (x := .bool false) rfl ?_)
  show wpAny _ _ (field (.ref z) 3 >>= _) _ _ _
  refine wpAny_bind (wpAny_field hz rfl (x := .ref TI) rfl ?_)
  refine wpAny_bind (wpAny_seqItems hTI rfl ?_)
  show wpAny _ _ (Builtin.SmallTypes.ownedTupleIsFree (.ref z) >>= _) _ _ _
  refine wpAny_bind (zipX_isFree ho hz fun fr f0 h₀ hz₀ hs₀ => ?_)
  cases fr with
  | true =>
    simp only [if_true]
    refine wpAny_bind (wpAny_rule ?_)
    refine wpAny_bind (wpAny_field hz₀ rfl (x := .ref TO) rfl ?_)
    refine wpAny_bind (wpAny_setField_rec hz₀ (by simp) fun h₁ hz₁ hs₁ => ?_)
    replace hz₁ : ZipF h₁ z TI TO .ellipsis f0 := hz₁
    have k₁ : ∀ c o, c ≠ z → s.heap.get? c = some o → h₁.get? c = some o := fun c o n e => hs₁.extBut _ _ n (hs₀.extBut _ _ n e)
    refine wpAny_bind ?_
    simp only [List.zipIdx_cons, List.zipIdx_nil, List.forIn_cons, List.forIn_nil]
    refine wpAny_bind (wpAny_bind (wpAny_onRaise ?_))
    show wpAny _ _ (Builtin.SmallTypes.nextOf (.ref i1) >>= _) _ _ _
    refine wpAny_bind (RZ.nextOf_tuple_item (s := { s with heap := h₁ }) (h1.at fun o e => k₁ _ o D.i1z e) (let ⟨o, e, r⟩ := hl1; ⟨o, k₁ _ o D.l1z e, r⟩) hx fun h₂ h1₂ hs₂ => wpAny_pure ?_)
    have k₂ : ∀ c o, c ≠ z → c ≠ i1 → s.heap.get? c = some o → h₂.get? c = some o := fun c o n n1 e => hs₂.extBut _ _ n1 (k₁ c o n e)
    have hTO₂ : IsPair h₂ TO a b := k₂ _ _ D.TOz D.TOi1 hTO
    refine wpAny_bind (wpAny_seqItems hTO₂ rfl ?_)
    refine wpAny_bind (wpAny_updateSeq_pair hTO₂ fun h₃ hTO₃ hs₃ => ?_)
    replace hTO₃ : IsPair h₃ TO x b := hTO₃
    have k₃ : ∀ c o, c ≠ z → c ≠ i1 → c ≠ TO → s.heap.get? c = some o → h₃.get? c = some o := fun c o n n1 n2 e => hs₃.extBut _ _ n2 (k₂ c o n n1 e)
    refine wpAny_bind (wpAny_letGo (wpAny_pure ?_))
    refine wpAny_bind (wpAny_bind (wpAny_onRaise ?_))
    show wpAny _ _ (Builtin.SmallTypes.nextOf (.ref i2) >>= _) _ _ _
    refine wpAny_bind (RZ.nextOf_tuple_item (s := { s with heap := h₃ }) (h2.at fun o e => k₃ _ o D.i2z D.i12.symm D.TOi2.symm e) (let ⟨o, e, r⟩ := hl2; ⟨o, k₃ _ o D.l2z D.l2i1 D.l2TO e, r⟩) hy fun h₄ h2₄ hs₄ => wpAny_pure ?_)
    have k₄ : ∀ c o, c ≠ z → c ≠ i1 → c ≠ TO → c ≠ i2 → s.heap.get? c = some o → h₄.get? c = some o := fun c o n n1 n2 n3 e => hs₄.extBut _ _ n3 (k₃ c o n n1 n2 e)
    have hTO₄ : IsPair h₄ TO x b := hs₄.extBut _ _ D.TOi2 hTO₃
    refine wpAny_bind (wpAny_seqItems hTO₄ rfl ?_)
    refine wpAny_bind (wpAny_updateSeq_pair hTO₄ fun h₅ hTO₅ hs₅ => ?_)
    replace hTO₅ : IsPair h₅ TO x y := hTO₅
    refine wpAny_bind (wpAny_letGo (wpAny_pure (wpAny_pure ?_)))
    refine wpAny_bind (wpAny_seqItems hTO₅ rfl ?_)
    refine wpAny_bind (wpAny_newTuple ?_)
    have hsz : h₅.objs.size = s.heap.objs.size := by rw [hs₅.1, hs₄.1, hs₃.1, hs₂.1, hs₁.1, hs₀.1]
    have hz₅ : ZipF h₅ z TI TO .ellipsis f0 := hs₅.extBut _ _ D.TOz.symm (hs₄.extBut _ _ D.i2z.symm (hs₃.extBut _ _ D.TOz.symm (hs₂.extBut _ _ D.i1z.symm hz₁)))
    have h1₅ : h₅.IsTupleIter i1 l1 (k1 + 1) := h1₂.at fun o e => hs₅.extBut _ _ D.TOi1.symm (hs₄.extBut _ _ D.i12 (hs₃.extBut _ _ D.TOi1.symm e))
    have h2₅ : h₅.IsTupleIter i2 l2 (k2 + 1) := h2₄.at fun o e => hs₅.extBut _ _ D.TOi2.symm e
    have hzlt : z < h₅.objs.size := Heap.lt_size hz₅
    show wpAny _ _ (Builtin.SmallTypes.ownedTupleHandOut (.ref z) (.ref h₅.objs.size) >>= _) _ _ _
    refine wpAny_bind ?_
    unfold Builtin.SmallTypes.ownedTupleHandOut
    have hz₆ : ZipF (h₅.push { cls := .type "tuple", data := .seq #[x, y] }) z TI TO .ellipsis f0 := Heap.get?_push_of_some _ hz₅
    refine wpAny_bind (wpAny_setField_rec hz₆ (by simp) fun h₇ hz₇ hs₇ => ?_)
    replace hz₇ : ZipF h₇ z TI TO (rawInt h₅.objs.size) f0 := hz₇
    refine wpAny_setField_rec hz₇ (by simp) fun h₈ hz₈ hs₈ => ?_
    replace hz₈ : ZipF h₈ z TI TO (rawInt h₅.objs.size) false := hz₈
    have up : ∀ c o, c ≠ z → h₅.get? c = some o → h₈.get? c = some o := fun c o c1 e => hs₈.extBut _ _ c1 (hs₇.extBut _ _ c1 (Heap.get?_push_of_some _ e))
    have hT₈ : IsPair h₈ h₅.objs.size x y := hs₈.extBut _ _ (Nat.ne_of_gt hzlt) (hs₇.extBut _ _ (Nat.ne_of_gt hzlt) (Heap.get?_push_size _ rfl))
    have hz8 : h₈.objs.size = h₅.objs.size + 1 := by rw [hs₈.1, hs₇.1, Heap.size_push]
    rw [hsz] at hz₈ hT₈ hz8
    refine wpAny_pure ⟨_, rfl, ?_⟩
    show Q (.ref h₅.objs.size) _
    rw [hsz]
    exact hQ h₈ ⟨_, _, .inr ⟨_, rfl⟩, hz₈⟩ ⟨x, y, up _ _ D.TOz hTO₅⟩ (h1₅.at fun o e => up _ o D.i1z e) (h2₅.at fun o e => up _ o D.i2z e) hT₈ hz8
      fun c o c1 c2 c3 c4 e => up c o c1 (hs₅.extBut _ _ c2 (k₄ c o c1 c3 c2 c4 e))
  | false =>
    simp only [Bool.false_eq_true, if_false]
    refine wpAny_bind ?_
    rw [← Array.forIn_toList]
    simp only [List.forIn_cons, List.forIn_nil]
    refine wpAny_bind (wpAny_bind (wpAny_holding ?_))
    show wpAny _ _ (Builtin.SmallTypes.nextOf (.ref i1) >>= _) _ _ _
    refine wpAny_bind (RZ.nextOf_tuple_item (s := { s with heap := h₀ }) (h1.at fun o e => hs₀.extBut _ _ D.i1z e) (let ⟨o, e, r⟩ := hl1; ⟨o, hs₀.extBut _ _ D.l1z e, r⟩) hx fun h₂ h1₂ hs₂ => wpAny_pure ?_)
    refine wpAny_pure ?_
    refine wpAny_bind (wpAny_bind (wpAny_holding ?_))
    show wpAny _ _ (Builtin.SmallTypes.nextOf (.ref i2) >>= _) _ _ _
    refine wpAny_bind (RZ.nextOf_tuple_item (s := { s with heap := h₂ }) (h2.at fun o e => hs₂.extBut _ _ D.i12.symm (hs₀.extBut _ _ D.i2z e)) (let ⟨o, e, r⟩ := hl2; ⟨o, hs₂.extBut _ _ D.l2i1 (hs₀.extBut _ _ D.l2z e), r⟩) hy fun h₃ h2₃ hs₃ => wpAny_pure ?_)
    refine wpAny_pure (wpAny_pure ?_)
    show wpAny _ _ (newTuple [x, y] >>= _) _ _ _
    refine wpAny_bind (wpAny_newTuple ?_)
    have hsz : h₃.objs.size = s.heap.objs.size := by rw [hs₃.1, hs₂.1, hs₀.1]
    have hz₃ : ZipF h₃ z TI TO own f0 := hs₃.extBut _ _ D.i2z.symm (hs₂.extBut _ _ D.i1z.symm hz₀)
    have hk : ∀ c o, c ≠ z → c ≠ i1 → c ≠ i2 → s.heap.get? c = some o → h₃.get? c = some o := fun c o c1 c2 c3 e => hs₃.extBut _ _ c3 (hs₂.extBut _ _ c2 (hs₀.extBut _ _ c1 e))
    have h1₃ : h₃.IsTupleIter i1 l1 (k1 + 1) := h1₂.at fun o e => hs₃.extBut _ _ D.i12 e
    refine wpAny_pure ⟨_, rfl, ?_⟩
    show Q (.ref h₃.objs.size) _
    have hp : IsPair (h₃.push { cls := .type "tuple", data := .seq #[x, y] }) h₃.objs.size x y := Heap.get?_push_size _ rfl
    have hz4 : (h₃.push { cls := .type "tuple", data := .seq #[x, y] }).objs.size = h₃.objs.size + 1 := Heap.size_push ..
    rw [hsz] at hp hz4 ⊢
    exact hQ _ ⟨_, _, ho, Heap.get?_push_of_some _ hz₃⟩ ⟨a, b, Heap.get?_push_of_some _ (hk _ _ D.TOz D.TOi1 D.TOi2 hTO)⟩ (h1₃.at fun o e => Heap.get?_push_of_some _ e) (h2₃.at fun o e => Heap.get?_push_of_some _ e) hp hz4 fun c o c1 _ c2 c3 e => Heap.get?_push_of_some _ (hk c o c1 c2 c3 e)

theorem zipX_end {z TI TO i1 i2 l1 l2 : Addr} {k1 k2 : Nat} {xs ys : Array Value} {a b : Value} {Q : Fin → Shared → Prop} (hh : A.handled = none) (D : ZipApart z TI TO i1 i2 l1 l2)
    (hz : ZipX s.heap z TI TO) (hTI : IsPair s.heap TI (.ref i1) (.ref i2)) (hTO : IsPair s.heap TO a b)
    (h1 : s.heap.IsTupleIter i1 l1 k1) (h2 : s.heap.IsTupleIter i2 l2 k2) (hl1 : s.heap.IsTuple l1 xs) (hl2 : s.heap.IsTuple l2 ys) (hend : xs[k1]? = none ∨ ys[k2]? = none)
    (hE : ∀ h' e, (∀ c o, c ≠ z → c ≠ TO → c ≠ i1 → c ≠ i2 → s.heap.get? c = some o → h'.get? c = some o) → (∃ o, h'.get? e = some o ∧ o.cls = .type "StopIteration") → E (.ref e) { s with heap := h' }) :
    wpAny (model prog w) A (Builtin.«zip.__next__» ⟨[.ref z], []⟩) Q E s := by
  obtain ⟨own, f, ho, hz⟩ := hz
  show wpAny _ _ (field (.ref z) 2 >>= _) _ _ _
  refine wpAny_bind (wpAny_field hz rfl (x := .bool false) rfl ?_)
  show wpAny _ _ (field (.ref z) 3 >>= _) _ _ _
  refine wpAny_bind (wpAny_field hz rfl (x := .ref TI) rfl ?_)
  refine wpAny_bind (wpAny_seqItems hTI rfl ?_)
  show wpAny _ _ (Builtin.SmallTypes.ownedTupleIsFree (.ref z) >>= _) _ _ _
  refine wpAny_bind (zipX_isFree ho hz fun fr f0 h₀ hz₀ hs₀ => ?_)
  cases fr with
  | true =>
    simp only [if_true]
    refine wpAny_bind (wpAny_rule ?_)
    refine wpAny_bind (wpAny_field hz₀ rfl (x := .ref TO) rfl ?_)
    refine wpAny_bind (wpAny_setField_rec hz₀ (by simp) fun h₁ hz₁ hs₁ => ?_)
    replace hz₁ : ZipF h₁ z TI TO .ellipsis f0 := hz₁
    have k₁ : ∀ c o, c ≠ z → s.heap.get? c = some o → h₁.get? c = some o := fun c o n e => hs₁.extBut _ _ n (hs₀.extBut _ _ n e)
    refine wpAny_bind ?_
    simp only [List.zipIdx_cons, List.zipIdx_nil, List.forIn_cons, List.forIn_nil]
    refine wpAny_bind (wpAny_bind (wpAny_onRaise ?_))
    show wpAny _ _ (Builtin.SmallTypes.nextOf (.ref i1) >>= _) _ _ _
    cases hx : xs[k1]? with
    | none =>
      refine wpAny_bind (RZ.nextOf_tuple_end (s := { s with heap := h₁ }) hh (h1.at fun o e => k₁ _ o D.i1z e) (let ⟨o, e, r⟩ := hl1; ⟨o, k₁ _ o D.l1z e, r⟩) hx fun h₂ e hs₂ he => ?_)
      obtain ⟨oe, hoe, hce⟩ := he
      have hz₂ : ZipF h₂ z TI TO .ellipsis f0 := hs₂ _ _ D.i1z.symm hz₁
      have hez : e ≠ z := fun x => by subst x; rw [hz₂] at hoe; cases hoe; simp at hce
      refine wpAny_setField_rec hz₂ (by simp) fun h₃ _ hs₃ => hE h₃ e (fun c o c1 _ c3 _ x => hs₃.extBut _ _ c1 (hs₂ _ _ c3 (k₁ _ _ c1 x))) ⟨oe, hs₃.extBut _ _ hez hoe, hce⟩
    | some x =>
      have hy : ys[k2]? = none := by rcases hend with h | h; rw [hx] at h; cases h; exact h
      refine wpAny_bind (RZ.nextOf_tuple_item (s := { s with heap := h₁ }) (h1.at fun o e => k₁ _ o D.i1z e) (let ⟨o, e, r⟩ := hl1; ⟨o, k₁ _ o D.l1z e, r⟩) hx fun h₂ h1₂ hs₂ => wpAny_pure ?_)
      have k₂ : ∀ c o, c ≠ z → c ≠ i1 → s.heap.get? c = some o → h₂.get? c = some o := fun c o n n1 e => hs₂.extBut _ _ n1 (k₁ c o n e)
      have hTO₂ : IsPair h₂ TO a b := k₂ _ _ D.TOz D.TOi1 hTO
      refine wpAny_bind (wpAny_seqItems hTO₂ rfl ?_)
      refine wpAny_bind (wpAny_updateSeq_pair hTO₂ fun h₃ hTO₃ hs₃ => ?_)
      have k₃ : ∀ c o, c ≠ z → c ≠ i1 → c ≠ TO → s.heap.get? c = some o → h₃.get? c = some o := fun c o n n1 n2 e => hs₃.extBut _ _ n2 (k₂ c o n n1 e)
      refine wpAny_bind (wpAny_letGo (wpAny_pure ?_))
      refine wpAny_bind (wpAny_bind (wpAny_onRaise ?_))
      show wpAny _ _ (Builtin.SmallTypes.nextOf (.ref i2) >>= _) _ _ _
      refine wpAny_bind (RZ.nextOf_tuple_end (s := { s with heap := h₃ }) hh (h2.at fun o e => k₃ _ o D.i2z D.i12.symm D.TOi2.symm e) (let ⟨o, e, r⟩ := hl2; ⟨o, k₃ _ o D.l2z D.l2i1 D.l2TO e, r⟩) hy fun h₄ e hs₄ he => ?_)
      obtain ⟨oe, hoe, hce⟩ := he
      have hz₄ : ZipF h₄ z TI TO .ellipsis f0 := hs₄ _ _ D.i2z.symm (hs₃.extBut _ _ D.TOz.symm (hs₂.extBut _ _ D.i1z.symm hz₁))
      have hez : e ≠ z := fun x => by subst x; rw [hz₄] at hoe; cases hoe; simp at hce
      refine wpAny_setField_rec hz₄ (by simp) fun h₅ _ hs₅ => hE h₅ e (fun c o c1 c2 c3 c4 x => hs₅.extBut _ _ c1 (hs₄ _ _ c4 (k₃ c o c1 c3 c2 x))) ⟨oe, hs₅.extBut _ _ hez hoe, hce⟩
  | false =>
    simp only [Bool.false_eq_true, if_false]
    refine wpAny_bind ?_
    rw [← Array.forIn_toList]
    simp only [List.forIn_cons, List.forIn_nil]
    refine wpAny_bind (wpAny_bind (wpAny_holding ?_))
    show wpAny _ _ (Builtin.SmallTypes.nextOf (.ref i1) >>= _) _ _ _
    cases hx : xs[k1]? with
    | none =>
      refine wpAny_bind (RZ.nextOf_tuple_end (s := { s with heap := h₀ }) hh (h1.at fun o e => hs₀.extBut _ _ D.i1z e) (let ⟨o, e, r⟩ := hl1; ⟨o, hs₀.extBut _ _ D.l1z e, r⟩) hx fun h₂ e hs₂ he => ?_)
      exact hE h₂ e (fun c o c1 _ c3 _ x => hs₂ _ _ c3 (hs₀.extBut _ _ c1 x)) he
    | some x =>
      have hy : ys[k2]? = none := by rcases hend with h | h; rw [hx] at h; cases h; exact h
      refine wpAny_bind (RZ.nextOf_tuple_item (s := { s with heap := h₀ }) (h1.at fun o e => hs₀.extBut _ _ D.i1z e) (let ⟨o, e, r⟩ := hl1; ⟨o, hs₀.extBut _ _ D.l1z e, r⟩) hx fun h₂ h1₂ hs₂ => wpAny_pure ?_)
      refine wpAny_pure ?_
      refine wpAny_bind (wpAny_bind (wpAny_holding ?_))
      show wpAny _ _ (Builtin.SmallTypes.nextOf (.ref i2) >>= _) _ _ _
      refine wpAny_bind (RZ.nextOf_tuple_end (s := { s with heap := h₂ }) hh (h2.at fun o e => hs₂.extBut _ _ D.i12.symm (hs₀.extBut _ _ D.i2z e)) (let ⟨o, e, r⟩ := hl2; ⟨o, hs₂.extBut _ _ D.l2i1 (hs₀.extBut _ _ D.l2z e), r⟩) hy fun h₃ e hs₃ he => ?_)
      exact hE h₃ e (fun c o c1 _ c3 c4 x => hs₃ _ _ c4 (hs₂.extBut _ _ c3 (hs₀.extBut _ _ c1 x))) he
end
end DL

set_option maxHeartbeats 1000000
namespace DL
open PySem PySem.Spec PyProof.Rows L2
section
variable {prog : Program} {w : World} {A : Around} {E : Value → Shared → Prop} {s : Shared}
theorem ZipX.typeIs {z TI TO : Addr} (h : ZipX s.heap z TI TO) : s.TypeIs (.ref z) "zip" := by
  obtain ⟨own, f, _, hz⟩ := h
  exact ⟨_, hz, rfl⟩
theorem nextOf_zipX_item {z TI TO i1 i2 l1 l2 : Addr} {k1 k2 : Nat} {xs ys : Array Value} {x y a b : Value} {Q : Value → Shared → Prop} (D : ZipApart z TI TO i1 i2 l1 l2)
    (hz : ZipX s.heap z TI TO) (hTI : IsPair s.heap TI (.ref i1) (.ref i2)) (hTO : IsPair s.heap TO a b)
    (h1 : s.heap.IsTupleIter i1 l1 k1) (h2 : s.heap.IsTupleIter i2 l2 k2) (hl1 : s.heap.IsTuple l1 xs) (hl2 : s.heap.IsTuple l2 ys) (hx : xs[k1]? = some x) (hy : ys[k2]? = some y)
    (hQ : ∀ h', ZipX h' z TI TO → (∃ a b, IsPair h' TO a b) → h'.IsTupleIter i1 l1 (k1 + 1) → h'.IsTupleIter i2 l2 (k2 + 1) → IsPair h' s.heap.objs.size x y → h'.objs.size = s.heap.objs.size + 1 →
      (∀ c o, c ≠ z → c ≠ TO → c ≠ i1 → c ≠ i2 → s.heap.get? c = some o → h'.get? c = some o) → Q (.ref s.heap.objs.size) { s with heap := h' }) :
    wpAny (model prog w) A (Builtin.SmallTypes.nextOf (.ref z)) Q E s := by
  unfold Builtin.SmallTypes.nextOf
  exact wpAny_bind (wpAny_callSpecial?_slot (name := Str.ofString "__next__") hz.typeIs F.slot_zip_next
    (wpAny_call_entry F.slot_zip_next hz.typeIs F.entry_zip_next (zipX_item D hz hTI hTO h1 h2 hl1 hl2 hx hy fun h' a1 a2 a3 a4 a5 a6 a7 => wpAny_pure (hQ h' a1 a2 a3 a4 a5 a6 a7)) (F.args_zip_next_1 _)))
theorem nextOf_zipX_end {z TI TO i1 i2 l1 l2 : Addr} {k1 k2 : Nat} {xs ys : Array Value} {a b : Value} {Q : Value → Shared → Prop} (hh : A.handled = none) (D : ZipApart z TI TO i1 i2 l1 l2)
    (hz : ZipX s.heap z TI TO) (hTI : IsPair s.heap TI (.ref i1) (.ref i2)) (hTO : IsPair s.heap TO a b)
    (h1 : s.heap.IsTupleIter i1 l1 k1) (h2 : s.heap.IsTupleIter i2 l2 k2) (hl1 : s.heap.IsTuple l1 xs) (hl2 : s.heap.IsTuple l2 ys) (hend : xs[k1]? = none ∨ ys[k2]? = none)
    (hE : ∀ h' e, (∀ c o, c ≠ z → c ≠ TO → c ≠ i1 → c ≠ i2 → s.heap.get? c = some o → h'.get? c = some o) → (∃ o, h'.get? e = some o ∧ o.cls = .type "StopIteration") → E (.ref e) { s with heap := h' }) :
    wpAny (model prog w) A (Builtin.SmallTypes.nextOf (.ref z)) Q E s := by
  unfold Builtin.SmallTypes.nextOf
  exact wpAny_bind (wpAny_callSpecial?_slot (name := Str.ofString "__next__") hz.typeIs F.slot_zip_next
    (wpAny_call_entry F.slot_zip_next hz.typeIs F.entry_zip_next (zipX_end hh D hz hTI hTO h1 h2 hl1 hl2 hend hE) (F.args_zip_next_1 _)))

theorem enumZ_item {e z TI TO i1 i2 l1 l2 : Addr} {k : Nat} {xs ys : Array Value} {x y a b old : Value} {Q : Option Value → Shared → Prop} (D : ZipApart z TI TO i1 i2 l1 l2) (ez : e ≠ z) (eTO : e ≠ TO) (ei1 : e ≠ i1) (ei2 : e ≠ i2)
    (he : IsEnum s.heap e z (k : Nat) old)
    (hz : ZipX s.heap z TI TO) (hTI : IsPair s.heap TI (.ref i1) (.ref i2)) (hTO : IsPair s.heap TO a b)
    (h1 : s.heap.IsTupleIter i1 l1 k) (h2 : s.heap.IsTupleIter i2 l2 k) (hl1 : s.heap.IsTuple l1 xs) (hl2 : s.heap.IsTuple l2 ys) (hx : xs[k]? = some x) (hy : ys[k]? = some y)
    (hQ : ∀ h', IsEnumOut h' e z ((k : Int) + 1) (.ref s.heap.objs.size) (s.heap.objs.size + 1) → ZipX h' z TI TO → (∃ a b, IsPair h' TO a b) → h'.IsTupleIter i1 l1 (k + 1) → h'.IsTupleIter i2 l2 (k + 1) → IsPair h' s.heap.objs.size x y →
      h'.get? (s.heap.objs.size + 1) = some { cls := .type "tuple", data := .seq #[.int k s.toks, .ref s.heap.objs.size] } → h'.objs.size = s.heap.objs.size + 2 →
      (∀ c o, c ≠ e → c ≠ z → c ≠ TO → c ≠ i1 → c ≠ i2 → s.heap.get? c = some o → h'.get? c = some o) → Q (some (.ref (s.heap.objs.size + 1))) { s with heap := h', toks := s.toks + 1 }) :
    wpAny (model prog w) A (pyNext (.ref e)) Q E s := by
  have hTy : s.TypeIs (.ref e) "enumerate" := ⟨_, he, rfl⟩
  unfold pyNext
  refine wpAny_bind (wpAny_attempt (wpAny_callSpecial?_slot (name := Str.ofString "__next__") hTy F.slot_enumerate_next
    (wpAny_call_entry F.slot_enumerate_next hTy F.entry_enumerate_next ?_ (F.args_enumerate_next_1 _))))
  obtain ⟨hp, g, d, tk, os⟩ := s
  show wpAny _ _ (field (.ref e) 2 >>= _) _ _ _
  refine wpAny_bind (wpAny_field he rfl (x := .ref z) rfl ?_)
  refine wpAny_bind (nextOf_zipX_item D hz hTI hTO h1 h2 hl1 hl2 hx hy fun h₁ hz₁ hTO₁ h1₁ h2₁ hT₁ hsz₁ hk₁ => ?_)
  replace hT₁ : IsPair h₁ hp.objs.size x y := hT₁
  replace hsz₁ : h₁.objs.size = hp.objs.size + 1 := hsz₁
  have he₁ : IsEnum h₁ e z (k : Nat) old := hk₁ _ _ ez eTO ei1 ei2 he
  show wpAny _ _ (field (.ref e) 3 >>= _) _ _ ⟨h₁, g, d, tk, os⟩
  refine wpAny_bind (wpAny_field he₁ rfl (x := rawInt k) rfl ?_)
  show wpAny _ _ (field (.ref e) 4 >>= _) _ _ ⟨h₁, g, d, tk, os⟩
  refine wpAny_bind (wpAny_field he₁ rfl (x := .none) rfl ?_)
  show wpAny _ _ (mkInt k >>= _) _ _ ⟨h₁, g, d, tk, os⟩
  refine wpAny_bind (wpAny_mkInt ?_)
  show wpAny _ _ (setField (.ref e) 3 (rawInt ((k : Int) + 1)) >>= _) _ _ ⟨h₁, g, d, tk + 1, os⟩
  refine wpAny_bind (wpAny_setField_rec he₁ (by simp) fun h₂ he₂ hs₂ => ?_)
  replace hs₂ : Heap.SameBut e h₁ h₂ := hs₂
  replace he₂ : IsEnum h₂ e z ((k : Int) + 1) old := he₂
  show wpAny _ _ (setField (.ref e) 4 .none >>= _) _ _ ⟨h₂, g, d, tk + 1, os⟩
  refine wpAny_bind (wpAny_setField_rec he₂ (by simp) fun h₃ he₃ hs₃ => ?_)
  replace hs₃ : Heap.SameBut e h₂ h₃ := hs₃
  replace he₃ : IsEnum h₃ e z ((k : Int) + 1) old := he₃
  show wpAny _ _ (newTuple [.int k tk, .ref hp.objs.size] >>= _) _ _ ⟨h₃, g, d, tk + 1, os⟩
  refine wpAny_bind (wpAny_newTuple ?_)
  have he₄ : IsEnum (h₃.push { cls := .type "tuple", data := .seq #[.int k tk, .ref hp.objs.size] }) e z ((k : Int) + 1) old := Heap.get?_push_of_some _ he₃
  generalize hh₄ : h₃.push { cls := .type "tuple", data := .seq #[.int k tk, .ref hp.objs.size] } = h₄ at he₄
  have hsz : h₃.objs.size = hp.objs.size + 1 := by rw [hs₃.1, hs₂.1, hsz₁]
  have hel : e < hp.objs.size := Heap.lt_size he
  have ht₄ : h₄.get? (hp.objs.size + 1) = some { cls := .type "tuple", data := .seq #[.int k tk, .ref hp.objs.size] } := by rw [← hh₄, ← hsz]; exact Heap.get?_push_size _ rfl
  have hz₄ : h₄.objs.size = hp.objs.size + 2 := by rw [← hh₄, Heap.size_push, hsz]
  have up : ∀ b o, b ≠ e → h₁.get? b = some o → h₄.get? b = some o := fun b o hbe hb => by
    rw [← hh₄]; exact Heap.get?_push_of_some _ (hs₃.extBut b o hbe (hs₂.extBut b o hbe hb))
  show wpAny _ _ (Builtin.SmallTypes.ownedTupleIsFree (.ref e) >>= _) _ _ ⟨h₄, g, d, tk + 1, os⟩
  rw [hsz]
  clear hh₄ he₃ hs₃ he₂ hs₂ hsz h₃ h₂
  refine wpAny_bind ?_
  unfold Builtin.SmallTypes.ownedTupleIsFree
  refine wpAny_bind (wpAny_field he₄ rfl (x := .none) rfl (wpAny_pure ?_))
  simp only [if_true]
  refine wpAny_bind (wpAny_rule ?_)
  refine wpAny_bind (wpAny_field he₄ rfl (x := old) rfl ?_)
  refine wpAny_bind (wpAny_setField_rec he₄ (by simp) fun h₅ he₅ hs₅ => ?_)
  replace hs₅ : Heap.SameBut e h₄ h₅ := hs₅
  replace he₅ : IsEnum h₅ e z ((k : Int) + 1) (.ref hp.objs.size) := he₅
  show wpAny _ _ (Builtin.SmallTypes.ownedTupleHandOut (.ref e) (.ref (hp.objs.size + 1)) >>= _) _ _ ⟨h₅, g, d, tk + 1, os⟩
  refine wpAny_bind ?_
  unfold Builtin.SmallTypes.ownedTupleHandOut
  refine wpAny_bind (wpAny_setField_rec he₅ (by simp) fun h₆ he₆ hs₆ => ?_)
  replace hs₆ : Heap.SameBut e h₅ h₆ := hs₆
  replace he₆ : IsEnumOut h₆ e z ((k : Int) + 1) (.ref hp.objs.size) (hp.objs.size + 1) := he₆
  refine wpAny_setField_rec he₆ (by simp) fun h₇ he₇ hs₇ => ?_
  replace hs₇ : Heap.SameBut e h₆ h₇ := hs₇
  replace he₇ : IsEnumOut h₇ e z ((k : Int) + 1) (.ref hp.objs.size) (hp.objs.size + 1) := he₇
  have up2 : ∀ b o, b ≠ e → h₄.get? b = some o → h₇.get? b = some o := fun b o hb y => hs₇.extBut b o hb (hs₆.extBut b o hb (hs₅.extBut b o hb y))
  refine wpAny_bind (wpAny_letGo (wpAny_pure ⟨_, rfl, wpAny_pure (hQ h₇ he₇ ?_ ?_ ?_ ?_ ?_ ?_ ?_ ?_)⟩))
  · obtain ⟨own, f, ho, q⟩ := hz₁
    exact ⟨own, f, ho, up2 _ _ ez.symm (up _ _ ez.symm q)⟩
  · obtain ⟨a', b', q⟩ := hTO₁
    exact ⟨a', b', up2 _ _ eTO.symm (up _ _ eTO.symm q)⟩
  · exact h1₁.at fun o q => up2 _ _ ei1.symm (up _ _ ei1.symm q)
  · exact h2₁.at fun o q => up2 _ _ ei2.symm (up _ _ ei2.symm q)
  · exact up2 _ _ (Nat.ne_of_gt hel) (up _ _ (Nat.ne_of_gt hel) hT₁)
  · exact up2 _ _ (Nat.ne_of_gt (Nat.lt_succ_of_lt hel)) ht₄
  · rw [hs₇.1, hs₆.1, hs₅.1, hz₄]
  · exact fun c o c0 c1 c2 c3 c4 q => up2 _ _ c0 (up _ _ c0 (hk₁ c o c1 c2 c3 c4 q))
theorem enumZ_end {e z TI TO i1 i2 l1 l2 : Addr} {k : Nat} {i : Int} {xs ys : Array Value} {a b old : Value} {Q : Option Value → Shared → Prop} (hh : A.handled = none) (D : ZipApart z TI TO i1 i2 l1 l2)
    (he : IsEnum s.heap e z i old)
    (hz : ZipX s.heap z TI TO) (hTI : IsPair s.heap TI (.ref i1) (.ref i2)) (hTO : IsPair s.heap TO a b)
    (h1 : s.heap.IsTupleIter i1 l1 k) (h2 : s.heap.IsTupleIter i2 l2 k) (hl1 : s.heap.IsTuple l1 xs) (hl2 : s.heap.IsTuple l2 ys) (hend : xs[k]? = none ∨ ys[k]? = none)
    (hQ : ∀ h', (∀ c o, c ≠ z → c ≠ TO → c ≠ i1 → c ≠ i2 → s.heap.get? c = some o → h'.get? c = some o) → Q none { s with heap := h' }) :
    wpAny (model prog w) A (pyNext (.ref e)) Q E s := by
  have hTy : s.TypeIs (.ref e) "enumerate" := ⟨_, he, rfl⟩
  unfold pyNext
  refine wpAny_bind (wpAny_attempt (wpAny_callSpecial?_slot (name := Str.ofString "__next__") hTy F.slot_enumerate_next
    (wpAny_call_entry F.slot_enumerate_next hTy F.entry_enumerate_next ?_ (F.args_enumerate_next_1 _))))
  show wpAny _ _ (field (.ref e) 2 >>= _) _ _ _
  refine wpAny_bind (wpAny_field he rfl (x := .ref z) rfl ?_)
  refine wpAny_bind (nextOf_zipX_end (show A.in1.handled = none from hh) D hz hTI hTO h1 h2 hl1 hl2 hend fun h' x he' hx' => ?_)
  obtain ⟨o, ho, hc⟩ := hx'
  refine wpAny_bind (wpAny_isInstance (T := "StopIteration") (b := true) ⟨o, ho, hc⟩ isSubtype_stop ?_)
  exact wpAny_pure (hQ _ he')

theorem meets_enumZ (z TI TO : Addr) :
    Meets (Builtin.«enumerate.__new__» ⟨[.type "enumerate", .ref z], []⟩) (fun _ R s => IsZip s.heap z TI TO .none ∧
      R (.ok (.ret (.ref s.heap.objs.size))) { s with heap := s.heap.push { cls := .type "enumerate", data := .fields #[.none, .bool false, .ref z, rawInt 0, .none, .none] } }) :=
  .of_wp fun prog w A R s h => by
    obtain ⟨hp, g, d, tk, os⟩ := s
    obtain ⟨hl, h⟩ := h
    have hsub := sub_enumerate
    have q1 : ∀ {A' : Around} {E : Value → Shared → Prop} {Q : Value → Shared → Prop}, Q (.ref z) ⟨hp, g, d, tk, os⟩ → wpAny (model prog w) A' (pyIter (.ref z)) Q E ⟨hp, g, d, tk, os⟩ :=
      fun q => wpAny_pyIter_zip hl q
    wp_walk using q1
    refine wpAny_stack_any fun st => wpAny_pure ?_
    split
    · rename_i c _ _ _ _ _
      cases (c == Value.type "enumerate")
      · wp_walk using q1
        exact ⟨_, rfl, h⟩
      · wp_walk using q1
        exact ⟨_, rfl, h⟩
    · wp_walk using q1
      exact ⟨_, rfl, h⟩
theorem call_enumZ {z TI TO : Addr} {Q : Value → Shared → Prop} (hz : IsZip s.heap z TI TO .none)
    (h : ∀ h', IsEnum h' s.heap.objs.size z 0 .none → h'.objs.size = s.heap.objs.size + 1 → (∀ b o, s.heap.get? b = some o → h'.get? b = some o) → Q (.ref s.heap.objs.size) { s with heap := h' }) :
    wpAny (model prog w) A (call (.type "enumerate") [.ref z]) Q E s := by
  refine callType_new F.called_enumerate (by decide) (F.typeCall_enumerate_1 _) (F.newCall_enumerate_1 _) (fun obj => F.args_object_init_2 obj _) F.entry_enumerate_new (meets_enumZ z TI TO) ⟨hz, ?_⟩
  have he : IsEnum (s.heap.push { cls := .type "enumerate", data := .fields #[.none, .bool false, .ref z, rawInt 0, .none, .none] }) s.heap.objs.size z 0 .none := Heap.get?_push_size _ rfl
  exact ⟨⟨_, he, rfl⟩, h _ he (Heap.size_push ..) fun b o x => Heap.get?_push_of_some _ x⟩
end
end DL

set_option maxHeartbeats 1000000
namespace DL
open PySem PySem.Spec PyProof.Rows L2
section
variable {X : Cx} {pins : List (Addr × Obj)} {σ : L2.St} {H : Hp} {s : Shared} {h' : Heap}
/-- records of ours have turned and two new objects are laid -/
theorem turnedNew2 {t' : Nat} {ch : List Addr} {T U : Addr} {ob oc : HO} (I : Inv X pins σ H s) (k : ∀ b o, b ∉ ch → s.heap.get? b = some o → h'.get? b = some o) (hf : ∀ b ∈ ch, FpOk X pins H b) (hT : s.heap.objs.size ≤ T) (hU : s.heap.objs.size ≤ U) (hne : T ≠ U)
    (new : ObjOk X.prog X.w (upd (upd H T ob) U oc) h' T ob) (new2 : ObjOk X.prog X.w (upd (upd H T ob) U oc) h' U oc) : Inv X pins σ (upd (upd H T ob) U oc) { s with heap := h', toks := t' } := by
  have hn : H T = none := I.hok.fresh hT
  have hn2 : H U = none := I.hok.fresh hU
  have nit : ∀ b u, H b = some u → b ∉ ch := fun b u e z => by
    have q := (hf b z).1
    rw [q] at e; cases e
  have old : ∀ {b u}, H b = some u → upd (upd H T ob) U oc b = some u := fun {b u} e => by rw [upd_ne (ne_of_none e hn2), upd_ne (ne_of_none e hn)]; exact e
  refine I.step (g' := s.gens) (d' := s.drawn) (ch := ch) (fun b hb => ⟨(hf b hb).2.2.2.1, (hf b hb).2.1, (hf b hb).2.2.2.2.1, (hf b hb).2.2.2.2.2⟩) (fun b o _ _ hc e _ => k b o hc e) (fun b o _ _ hc e _ => ⟨o.slots, k b o hc e⟩)
    (fun b o _ e n => ?_) (fun b o hc e => ⟨o, k b o hc e⟩) (fun b xs e => old e) (fun b o u e => old e) (fun b ps e => ⟨#[], ?_⟩) (fun m hm => ?_) (fun b u e => ?_) I.bare
  · rw [upd_ne (Nat.ne_of_lt (Nat.lt_of_lt_of_le (Heap.lt_size e) hU)), upd_ne (Nat.ne_of_lt (Nat.lt_of_lt_of_le (Heap.lt_size e) hT))]; exact n
  · rw [old e]; simp
  · obtain ⟨o, es, ep, ho, r⟩ := hm
    exact ⟨o, es, ep, k _ o (fun z => (hf _ z).2.1 rfl) ho, r⟩
  · by_cases hb : b = U
    · subst hb
      rw [upd_same] at e
      cases e
      exact new2
    · rw [upd_ne hb] at e
      by_cases hb2 : b = T
      · subst hb2
        rw [upd_same] at e
        cases e
        exact new
      · rw [upd_ne hb2] at e
        refine (I.hok b u e).stay (fun c v hc q => k c v ?_ q) (fun c q => old q) fun c xs q => old q
        rcases hc with z | z
        · rw [z]; exact nit b u e
        · exact nit c _ z
end
/-- the tuples at a and b as they stand at each turn, the items in new pairs, numbered -/
def IteZ (K : PySem.W.Frag) (a b : Addr) : It :=
  ⟨fun i H => ∃ (xs ys : List V) (x y : V), SqT K H a xs ∧ SqT K H b ys ∧ xs[i]? = some x ∧ ys[i]? = some y,
    fun i H v H' => ∃ T U x y, v = .ref U ∧ H T = none ∧ H U = none ∧ T ≠ U ∧ H' = upd (upd H T (.tup [x, y])) U (.tup [.int (i : Nat), .ref T]) ∧ (∀ xs, SqT K H a xs → xs[i]? = some x) ∧ ∀ ys, SqT K H b ys → ys[i]? = some y,
    fun i H => ∃ xs ys : List V, SqT K H a xs ∧ SqT K H b ys ∧ (xs.length ≤ i ∨ ys.length ≤ i)⟩
theorem turn_enumZ {P : Program} {w : World} {K : PySem.W.Frag} {elts : List Expr} {kk : Nat} {tpos : Pos} {a b e z TI TO i1 i2 : Addr} (D : ZipApart z TI TO i1 i2 a b) (ez : e ≠ z) (eTI : e ≠ TI) (eTO : e ≠ TO) (ei1 : e ≠ i1) (ei2 : e ≠ i2) :
    Turn P w K (.Tuple elts kk tpos) (IteZ K a b) [e, z, TI, TO, i1, i2] e (fun i h => (∃ old, IsEnum h e z ((i : Nat) : Int) old) ∧ ZipX h z TI TO ∧ IsPair h TI (.ref i1) (.ref i2) ∧ (∃ x y, IsPair h TO x y) ∧ h.IsTupleIter i1 a i ∧ h.IsTupleIter i2 b i) where
  mem := by simp
  obj := fun i h st c hc => by
    obtain ⟨⟨old, he⟩, ⟨own, f, _, hz⟩, hTI, ⟨x, y, hTO⟩, ⟨o1, e1, _, d1⟩, ⟨o2, e2, _, d2⟩⟩ := st
    have e' : c = e ∨ c = z ∨ c = TI ∨ c = TO ∨ c = i1 ∨ c = i2 := by simpa using hc
    rcases e' with q | q | q | q | q | q
    · rw [q]; exact ⟨_, he, fun v q => nomatch q⟩
    · rw [q]; exact ⟨_, hz, fun v q => nomatch q⟩
    · rw [q]; exact ⟨_, hTI, fun v q => nomatch q⟩
    · rw [q]; exact ⟨_, hTO, fun v q => nomatch q⟩
    · rw [q]; exact ⟨o1, e1, fun v q => by rw [d1] at q; cases q⟩
    · rw [q]; exact ⟨o2, e2, fun v q => by rw [d2] at q; cases q⟩
  keep := fun i h h' st k => by
    obtain ⟨⟨old, he⟩, ⟨own, f, ho, hz⟩, hTI, ⟨x, y, hTO⟩, h1, h2⟩ := st
    exact ⟨⟨old, k e (by simp) _ he⟩, ⟨own, f, ho, k z (by simp) _ hz⟩, k TI (by simp) _ hTI, ⟨x, y, k TO (by simp) _ hTO⟩, h1.at fun o q => k i1 (by simp) o q, h2.at fun o q => k i2 (by simp) o q⟩
  item := by
    intro X hP hw hK hc i pins s σ H E I hf st hg
    subst hP hw hK
    obtain ⟨⟨old, he⟩, hz, hTI, ⟨x0, y0, hTO⟩, h1, h2⟩ := st
    obtain ⟨xs, ys, x, y, hqx, hqy, hx, hy⟩ := hg
    obtain ⟨its, rv, p, _⟩ := I.tuple hqx
    obtain ⟨its2, rv2, p2, _⟩ := I.tuple hqy
    obtain ⟨u, hu, ru⟩ := rv.get hx
    obtain ⟨u2, hu2, ru2⟩ := rv2.get hy
    have hel : e < s.heap.objs.size := Heap.lt_size he
    have lts : ∀ c ∈ [e, z, TI, TO, i1, i2], c < s.heap.objs.size := fun c hcm => by
      have e' : c = e ∨ c = z ∨ c = TI ∨ c = TO ∨ c = i1 ∨ c = i2 := by simpa using hcm
      rcases e' with q | q | q | q | q | q
      · rw [q]; exact hel
      · rw [q]; obtain ⟨_, _, _, q⟩ := hz; exact Heap.lt_size q
      · rw [q]; exact Heap.lt_size hTI
      · rw [q]; exact Heap.lt_size hTO
      · rw [q]; obtain ⟨_, e1, _⟩ := h1; exact Heap.lt_size e1
      · rw [q]; obtain ⟨_, e2, _⟩ := h2; exact Heap.lt_size e2
    refine enumZ_item D ez eTO ei1 ei2 he hz hTI hTO h1 h2 p p2 (x := u) (y := u2) (by simpa using hu) (by simpa using hu2) fun h' ho z' TO' h1' h2' hT hU hsz hk => ?_
    refine ⟨_, rfl, wpAny_letOwnedTupleGo_enum (s := { s with heap := h', toks := s.toks + 1 }) ho fun h'' he' sb => ?_⟩
    have hT2 : IsPair h'' s.heap.objs.size u u2 := (sb.2 _ (Nat.ne_of_gt hel)).trans hT
    have hU2 : h''.get? (s.heap.objs.size + 1) = some { cls := .type "tuple", data := .seq #[.int i s.toks, .ref s.heap.objs.size] } := (sb.2 _ (Nat.ne_of_gt (Nat.lt_succ_of_lt hel))).trans hU
    have hnn : s.heap.objs.size ≠ s.heap.objs.size + 1 := Nat.ne_of_lt (Nat.lt_succ_self _)
    have new : ObjOk X.prog X.w (upd (upd H s.heap.objs.size (.tup [x, y])) (s.heap.objs.size + 1) (.tup [.int (i : Nat), .ref s.heap.objs.size])) h'' s.heap.objs.size (.tup [x, y]) :=
      ⟨by show 2 ≤ sizeLine; decide, [u, u2], .cons ru (.cons ru2 .nil), ⟨_, hT2, rfl, _, rfl⟩⟩
    have new2 : ObjOk X.prog X.w (upd (upd H s.heap.objs.size (.tup [x, y])) (s.heap.objs.size + 1) (.tup [.int (i : Nat), .ref s.heap.objs.size])) h'' (s.heap.objs.size + 1) (.tup [.int (i : Nat), .ref s.heap.objs.size]) :=
      ⟨by show 2 ≤ sizeLine; decide, [.int i s.toks, .ref s.heap.objs.size], .cons ⟨_, rfl⟩ (.cons rfl .nil), ⟨_, hU2, rfl, _, rfl⟩⟩
    have I1 := turnedNew2 (h' := h'') (t' := s.toks + 1) (ch := [e, z, TI, TO, i1, i2]) I (fun c o hb q => (sb.2 c (fun q' => hb (by simp [q']))).trans (hk c o (fun q' => hb (by simp [q'])) (fun q' => hb (by simp [q'])) (fun q' => hb (by simp [q'])) (fun q' => hb (by simp [q'])) (fun q' => hb (by simp [q'])) q)) hf (Nat.le_refl _) (Nat.le_succ _) hnn new new2
    refine ⟨.ref (s.heap.objs.size + 1), _, I1, rfl, ⟨_, _, x, y, rfl, I.hok.fresh (Nat.le_refl _), I.hok.fresh (Nat.le_succ _), hnn, rfl, fun l hl => by rw [I.tuple_inj hl hqx]; exact hx, fun l hl => by rw [I.tuple_inj hl hqy]; exact hy⟩, ⟨⟨.ref s.heap.objs.size, ?_⟩, ?_, ?_, ?_, ?_, ?_⟩, fun c hcm => ?_⟩
    · have e1 : ((i + 1 : Nat) : Int) = (i : Int) + 1 := by omega
      rw [e1]; exact he'
    · obtain ⟨own, f, ho, q⟩ := z'
      exact ⟨own, f, ho, (sb.2 _ ez.symm).trans q⟩
    · exact (sb.2 _ eTI.symm).trans (hk _ _ eTI.symm D.TIz D.TITO D.TIi1 D.TIi2 hTI)
    · obtain ⟨a', b', q⟩ := TO'
      exact ⟨a', b', (sb.2 _ eTO.symm).trans q⟩
    · exact h1'.at fun o q => (sb.2 _ ei1.symm).trans q
    · exact h2'.at fun o q => (sb.2 _ ei2.symm).trans q
    · have hlt := lts c hcm
      rw [upd_ne (Nat.ne_of_lt (Nat.lt_succ_of_lt hlt)), upd_ne (Nat.ne_of_lt hlt)]
      exact (hf c hcm).1
  done := by
    intro X hP hw hK hc i pins s σ H E I hf st hg
    subst hP hw hK
    obtain ⟨⟨old, he⟩, hz, hTI, ⟨x0, y0, hTO⟩, h1, h2⟩ := st
    obtain ⟨xs, ys, hqx, hqy, hend⟩ := hg
    obtain ⟨its, rv, p, _⟩ := I.tuple hqx
    obtain ⟨its2, rv2, p2, _⟩ := I.tuple hqy
    have l1 := rv.length
    have l2 := rv2.length
    have hen : its.toArray[i]? = none ∨ its2.toArray[i]? = none := by
      rcases hend with q | q
      · exact .inl (by simp; omega)
      · exact .inr (by simp; omega)
    exact enumZ_end (I.ok.hd hc) D he hz hTI hTO h1 h2 p p2 hen fun h' hk => ⟨rfl, I.turnedL (t' := s.toks) (ch := [e, z, TI, TO, i1, i2]) (fun c o hb q =>
      hk c o (fun q' => hb (by simp [q'])) (fun q' => hb (by simp [q'])) (fun q' => hb (by simp [q'])) (fun q' => hb (by simp [q'])) q) hf⟩
  self := fun A i s Q E st h => let ⟨⟨_, he⟩, _⟩ := st; wpAny_pyIter_enum he h

def iEnumZ (K : PySem.W.Frag) (ta : TA) : TI := fun σ H R => ta σ H fun vs H1 => ∃ a b xs ys, vs = [.ref a, .ref b] ∧ SqT K H1 a xs ∧ SqT K H1 b ys ∧ R (IteZ K a b) H1
theorem pi_enumZ {X : Cx} {e e2 : Expr} {ta : TA} {p pos p2 pos2 tpos : Pos} {elts : List Expr} {kk : Nat} (hg : Gl X "enumerate") (hm : X.mg "enumerate" = none) (hg2 : Gl X "zip") (hm2 : X.mg "zip" = none) (ha : PA X [e, e2] ta)
    (hs : starEach [e, e2] X.env = (false, eval e X.env) :: starEach [e2] X.env := by rfl) (hpl : (backTo pos2 (starEach [e2] X.env)).any (·.1) = false := by rfl) :
    PI X (.Tuple elts kk tpos) (.Call (.Name "enumerate" p) [.Call (.Name "zip" p2) [e, e2] [] pos2] [] pos) (iEnumZ X.K ta) := by
  refine ⟨fun pins s σ H R I h => ?_⟩
  refine Call_ (ld_blt I hg hm boot_enumerate (PyProof.Rows.callWith_type1 (args_cons ?_) rfl rfl))
  refine Call_ (ld_blt I hg2 hm2 PyProof.Rows.boot_zip (PyProof.Rows.callWith_type1 (thn (ha.run pos2 pins s σ H _ I h) fun us s1 ⟨vs, H1, I1, r1, q1⟩ => ?_) hs hpl))
  obtain ⟨a, b, xs, ys, ex, hqx, hqy, q⟩ := q1
  subst ex
  cases r1 with
  | cons r rr =>
    cases rr with
    | cons r' rr =>
      cases rr
      cases r
      cases r'
      obtain ⟨its, rv, p1, _⟩ := I1.tuple hqx
      obtain ⟨its2, rv2, p2', _⟩ := I1.tuple hqy
      obtain ⟨o1, ho1, _⟩ := id p1
      obtain ⟨o2, ho2, _⟩ := id p2'
      refine RZ.call_zipT (show s1.heap.IsTuple a its.toArray from p1) (show s1.heap.IsTuple b its2.toArray from p2') fun h' hz hTI hTO h1 h2 hsz hk => args_nil ?_
      refine call_enumZ (s := { s1 with heap := h' }) hz fun h'' he hsz2 hk2 => ?_
      replace he : IsEnum h'' h'.objs.size (s1.heap.objs.size + 4) 0 .none := he
      show wpAny _ _ (pyIter (.ref h'.objs.size)) _ _ _
      rw [hsz] at he ⊢
      refine wpAny_pyIter_enum he ?_
      have I2 : Inv X pins σ H1 { s1 with heap := h'' } := I1.kept (t' := s1.toks) fun c o e => hk2 _ _ (hk _ _ e)
      have nn : ∀ {i j : Nat}, i ≠ j → s1.heap.objs.size + i ≠ s1.heap.objs.size + j := fun h q => h (Nat.add_left_cancel q)
      refine ⟨s1.heap.objs.size + 5, [s1.heap.objs.size + 5, s1.heap.objs.size + 4, s1.heap.objs.size + 2, s1.heap.objs.size + 3, s1.heap.objs.size, s1.heap.objs.size + 1], _, _, H1, rfl, I2, turn_enumZ (PySem.W.ktu_apart s1.heap.objs.size a b (Heap.lt_size ho1) (Heap.lt_size ho2)) (nn (by decide)) (nn (by decide)) (nn (by decide)) (nn (i := 5) (j := 0) (by decide)) (nn (by decide)),
        ⟨⟨.none, he⟩, ⟨.none, false, .inl rfl, hk2 _ _ hz⟩, hk2 _ _ hTI, ⟨_, _, hk2 _ _ hTO⟩, h1.at fun o e => hk2 _ _ e, h2.at fun o e => hk2 _ _ e⟩, fun c hcm => ?_, q⟩
      have e' : c = s1.heap.objs.size + 5 ∨ c = s1.heap.objs.size + 4 ∨ c = s1.heap.objs.size + 2 ∨ c = s1.heap.objs.size + 3 ∨ c = s1.heap.objs.size ∨ c = s1.heap.objs.size + 1 := by simpa using hcm
      have hle : s1.heap.objs.size ≤ c := by
        rcases e' with z | z | z | z | z | z
        · rw [z]; exact Nat.le_add_right _ _
        · rw [z]; exact Nat.le_add_right _ _
        · rw [z]; exact Nat.le_add_right _ _
        · rw [z]; exact Nat.le_add_right _ _
        · rw [z]; exact Nat.le_refl _
        · rw [z]; exact Nat.le_add_right _ _
      exact I1.fpOk hle (I1.hok.fresh hle)

def YPairZ (fx fy : Nat → Option V) : Nat → Hp → V → Hp → Prop := fun i H v H' => ∃ T U x y, v = .ref U ∧ H T = none ∧ H U = none ∧ T ≠ U ∧ H' = upd (upd H T (.tup [x, y])) U (.tup [.int (i : Nat), .ref T]) ∧ fx i = some x ∧ fy i = some y
theorem walk_IteZ {K : PySem.W.Frag} {a b : Addr} {xs ys : List V} : Walk (IteZ K a b) (min xs.length ys.length) (fun H => SqT K H a xs ∧ SqT K H b ys) (YPairZ (fun i => xs[i]?) (fun i => ys[i]?)) := by
  refine ⟨fun i _ hi q => ?_, fun _ q => ⟨xs, ys, q.1, q.2, by omega⟩, fun i H v H' _ q y => ?_⟩
  · have h1 : i < xs.length := by omega
    have h2 : i < ys.length := by omega
    exact ⟨xs, ys, xs[i], ys[i], q.1, q.2, by simp [h1], by simp [h2]⟩
  · obtain ⟨T, U, x, z, h1, h2, h3, h4, h5, h6, h7⟩ := y
    exact ⟨T, U, x, z, h1, h2, h3, h4, h5, h6 xs q.1, h7 ys q.2⟩
theorem walk_enumZ {K : PySem.W.Frag} {F H0 : Hp} {a b : Addr} {xs ys : List V} {ds es : List D} (r : Reps K F H0 ds xs []) (s : Reps K F H0 es ys []) (h1 : SqT K F a xs) (h2 : SqT K F b ys) : WalkD K F (IteZ K a b) (enumD (zipD ds es)) := by
  refine ⟨fun H => SqT K H a xs ∧ SqT K H b ys, YPairZ (fun i => xs[i]?) (fun i => ys[i]?), by rw [show (enumD (zipD ds es)).length = min xs.length ys.length by simp [enumD, zipD, r.length, s.length]]; exact walk_IteZ (K := K) (a := a) (b := b) (xs := xs) (ys := ys), fun H l => ⟨l.sqT h1, l.sqT h2⟩, fun F1 H i v H' d l1 l2 e y => ?_⟩
  obtain ⟨T, U, x, z, rfl, hT, hU, hne, rfl, q1, q2⟩ := y
  obtain ⟨p, hp, rfl⟩ := enumD_at e
  unfold zipD at hp
  rw [List.getElem?_zipWith] at hp
  cases c1 : ds[i]? with
  | none => rw [c1] at hp; cases hp
  | some d1 =>
    cases c2 : es[i]? with
    | none => rw [c1, c2] at hp; cases hp
    | some d2 =>
      rw [c1, c2] at hp
      have e1 := (Option.some.inj hp).symm
      subst e1
      obtain ⟨B, r1, s1⟩ := r.getV c1 q1
      obtain ⟨C, r2, s2⟩ := s.getV c2 q2
      have e0 : B = [] := List.sublist_nil.mp s1
      have e0' : C = [] := List.sublist_nil.mp s2
      subst e0 e0'
      obtain ⟨ra, ea, la⟩ := new_tup (ds := [d1, d2]) (xs := [x, z]) (K := K) l2 hT (.cons (r1.pure l1) (.cons (r2.pure l1) .nil rfl) rfl)
      have hU2 : upd H T (.tup [x, z]) U = none := by rw [upd_ne hne.symm]; exact hU
      obtain ⟨rb, eb, lb⟩ := new_tup (ds := [.int (i : Nat), .tup [d1, d2]]) (xs := [.int (i : Nat), .ref T]) (K := K) la hU2 (.cons (.int _) (.cons ra .nil rfl) rfl)
      exact ⟨_, rb, ea.trans (B1 := []) eb (fun _ h => h) (fun _ h => h), lb⟩
def zipTOk : D → D → Option (List D × List D)
  | .tup xs, .tup ys => some (xs, ys)
  | _, _ => none
theorem zipTOk_tup {a b : List D} : zipTOk (.tup a) (.tup b) = some (a, b) := Eq.trans rfl rfl
section
variable {c : SC} {m m2 : Bool} {W : WX} {tg : Expr} {pos p pos2 p2 : Pos}
def wEnumZ (wa : WA) : WI := fun ρ Φ Ψ => wa ρ (fun ts ρ1 => wd (frzTs ts ρ1) fun q => match q.1 with
  | [d, e] => wd (zipTOk d e) fun z => Φ (enumD (zipD z.1 z.2)) q.2
  | _ => False) Ψ
theorem wEnumZ.ap {wa : WA} {ρ : DEnv} {Φ : List D → DEnv → Prop} {Ψ : PsiE} : wEnumZ wa ρ Φ Ψ = (wa ρ (fun ts ρ1 => wdk (frzTs ts ρ1) fun q => match q.1 with
  | [d, e] => wd (zipTOk d e) fun z => Φ (enumD (zipD z.1 z.2)) q.2
  | _ => False) Ψ) := Eq.trans rfl rfl
theorem di_enumZ {a b : Expr} {es : List Expr} {k : Nat} {tp : Pos} {wa : WA} (hg : GlC c.sc "enumerate") (hm : c.mg "enumerate" = none) (hg2 : GlC c.sc "zip") (hm2 : c.mg "zip" = none) (ha : DA c m [a, b] wa)
    (hs : ∀ env, starEach [a, b] env = (false, eval a env) :: starEach [b] env := by intro _; rfl) (hpl : ∀ env, (backTo pos2 (starEach [b] env)).any (·.1) = false := by intro _; rfl) :
    DI c (.Tuple es k tp) (.Call (.Name "enumerate" p) [.Call (.Name "zip" p2) [a, b] [] pos2] [] pos) (wEnumZ wa) := by
  obtain ⟨ta, ha1, ha2⟩ := ha
  refine ⟨fun W => iEnumZ c.K (ta W), fun X W fit tk => ?_, fun W ρ Φ Ψ hw σ F H A rel R q ex => ?_⟩
  · have z := pi_enumZ (elts := es) (kk := k) (tpos := tp) (p := p) (pos := pos) (p2 := p2) (pos2 := pos2) (gl_of fit hg) (by rw [fit.mg]; exact hm) (gl_of fit hg2) (by rw [fit.mg]; exact hm2) (ha1 X W fit tk) (hs X.env) (hpl X.env)
    rw [fit.K] at z
    exact z
  refine ha2 W ρ _ Ψ hw σ F H A rel _ (fun ts vs B ρ1 F1 H1 A1 hk ra af => ?_) ex
  obtain ⟨⟨xs, ρ2⟩, e, hk⟩ := wd_elim hk
  obtain ⟨F2, A2, af2, rds⟩ := af.frzs ra e
  have l := af2.rel.le
  match xs, hk, rds with
  | [d, e], hk, rds =>
    obtain ⟨⟨us, ws⟩, e2, hk⟩ := wd_elim hk
    obtain ⟨v, w, rfl, rd, re⟩ := rds.two0
    have hk : Φ (enumD (zipD us ws)) ρ2 := hk
    cases d <;> cases e <;> try (cases e2; done)
    cases e2
    obtain ⟨_, a, xs, rfl, h1, r1⟩ := rd.tup_inv
    obtain ⟨_, b, ys, rfl, h2, r2⟩ := re.tup_inv
    exact ⟨a, b, xs, ys, rfl, l.sqT h1, l.sqT h2, q _ ρ2 F2 H1 A2 _ hk af2 (walk_enumZ r1 r2 h1 h2)⟩
  | [], hk, _ => exact hk.elim
  | [_], hk, _ => exact hk.elim
  | _ :: _ :: _ :: _, hk, _ => exact hk.elim
theorem i_enumz {es : List Expr} {l : List Str} {a b : Expr} {wl : WA} {k : Nat} {tp : Pos} (hl : Free c.mg l) (ha : DA c m [a, b] wl) (hin : ("enumerate" : Str) ∈ l := by decide) (hin2 : ("zip" : Str) ∈ l := by decide) (hg : GlC c.sc "enumerate" := by rfl) (hg2 : GlC c.sc "zip" := by rfl) (hs : ∀ env, starEach [a, b] env = (false, eval a env) :: starEach [b] env := by intro _; rfl) (hpl : ∀ env, (backTo pos2 (starEach [b] env)).any (·.1) = false := by intro _; rfl) :
    DI c (.Tuple es k tp) (.Call (.Name "enumerate" p) [.Call (.Name "zip" p2) [a, b] [] pos2] [] pos) (wEnumZ wl) := di_enumZ hg (hl _ hin) hg2 (hl _ hin2) ha hs hpl
end
end DL

set_option maxHeartbeats 1000000
/-! DM1: dicts with keys ints, texts, or tuples of these, the values pure -/
namespace DL
open PySem PySem.Spec PyProof.Rows L2

def keyD : D → Option Key
  | .int i => some (.inl i)
  | .str x => some (.inr x)
  | _ => none
def keysD : List D → Option (List Key)
  | [] => some []
  | d :: ds => (keyD d).bind fun k => (keysD ds).map fun ks => k :: ks
def keyT : D → Option (List Key)
  | .tup ds => keysD ds
  | _ => none
def keysN (l : List Nat) : List Key := l.map fun (n : Nat) => (Sum.inl ((n : Nat) : Int) : Key)
theorem keysD_nats (l : List Nat) : keysD (natsD l) = some (keysN l) := by
  induction l with
  | nil => rfl
  | cons n l ih =>
    show (keyD (.int (n : Nat))).bind (fun k => (keysD (natsD l)).map fun ks => k :: ks) = _
    rw [ih]; rfl
theorem keysN_inj : ∀ {a b : List Nat}, keysN a = keysN b → a = b
  | [], [], _ => rfl
  | [], _ :: _, h => by cases h
  | _ :: _, [], h => by cases h
  | x :: a, y :: b, h => by
    obtain ⟨h1, h2⟩ := List.cons_eq_cons.mp h
    have e : (x : Int) = (y : Int) := Sum.inl.inj h1
    have e2 : x = y := by omega
    rw [e2, keysN_inj h2]
section
variable {K : PySem.W.Frag} {F H : Hp}
theorem keyD_rep {d : D} {v : V} {A : Fp} {k : Key} (r : Rep K F H d v A) (h : keyD d = some k) : v = kV k := by
  cases r <;> first
    | (cases h; done)
    | (cases h; rfl)
theorem keysD_rep : ∀ {ds : List D} {vs : List V} {A : Fp} {ks : List Key}, Reps K F H ds vs A → keysD ds = some ks → vs = ks.map kV
  | [], _, _, _, .nil, h => by cases h; rfl
  | d :: ds, _, _, ks, .cons r rs _, h => by
    have h : (keyD d).bind (fun k => (keysD ds).map fun ks => k :: ks) = some ks := h
    cases e1 : keyD d with
    | none => rw [e1] at h; cases h
    | some k =>
      rw [e1] at h
      cases e2 : keysD ds with
      | none => rw [e2] at h; cases h
      | some ks' =>
        rw [e2] at h
        cases h
        rw [keyD_rep r e1, keysD_rep rs e2]; rfl
theorem keyT_rep {d : D} {v : V} {A : Fp} {k : List Key} (r : Rep K F H d v A) (h : keyT d = some k) : ∃ b, v = .ref b ∧ F b = some (.tup (k.map kV)) := by
  cases r <;> try (cases h; done)
  rename_i a xs ds h1 r
  exact ⟨a, rfl, by rw [h1, keysD_rep r h]⟩
/-! has -/
def hasK {κ : Type} [DecidableEq κ] (ks : List κ) (k : κ) : Bool := ks.any fun j => decide (j = k)
def dhas : D → D → Option Bool
  | .dT _ ks _, x => (keyT x).map fun k => hasK ks k
  | .dK _ ks _, x => (keyD x).map fun k => hasK ks k
  | _, _ => none
def opInD : Op2 := fun x y k => wd (dhas y x) fun b => k (.bl b)
def opNotInD : Op2 := fun x y k => wd (dhas y x) fun b => k (.bl (!b))
def rInDict : R2 := fun x y H Q => ∃ a o, y = .ref a ∧ DGet H a x o ∧ Q (.bl o.isSome) H
def rNotInDict : R2 := fun x y H Q => ∃ a o, y = .ref a ∧ DGet H a x o ∧ Q (.bl (!o.isSome)) H
theorem or_inD {X : Cx} (hu : X.A.units + 65 < cLine) : OpR X (compareOp .In) rInDict := by
  intro pins s σ H x y v u Q I rx ry h
  obtain ⟨a, o, rfl, g, q⟩ := h
  obtain rfl : u = Value.ref a := ry
  exact d_in (by omega) I g rx fun s3 I3 => ⟨.bl o.isSome, H, I3, rfl, q⟩
theorem or_notinD {X : Cx} (hu : X.A.units + 65 < cLine) : OpR X (compareOp .NotIn) rNotInDict := by
  intro pins s σ H x y v u Q I rx ry h
  obtain ⟨a, o, rfl, g, q⟩ := h
  obtain rfl : u = Value.ref a := ry
  exact d_notIn (by omega) I g rx fun s3 I3 => ⟨.bl (!o.isSome), H, I3, rfl, q⟩
theorem has_val {κ : Type} [DecidableEq κ] (kvs : List (κ × V)) (k : κ) : (valV kvs k).isSome = hasK (kvs.map (·.1)) k := by
  rw [← valV_any]
  unfold hasK
  rw [List.any_map]
  rfl
theorem dget_has {x y : D} {vx vy : V} {Bx By : Fp} {b : Bool} (l : Le F H) (rx : Rep K F H x vx Bx) (ry : Rep K F H y vy By) (h : dhas y x = some b) : ∃ a o, vy = .ref a ∧ DGet H a vx o ∧ o.isSome = b := by
  cases ry <;> try (cases h; done)
  · rename_i a kvs ks ds h1 ek r
    obtain ⟨k, e1, e2⟩ := Option.map_eq_some_iff.mp (show (keyD x).map (fun k => hasK ks k) = some b from h)
    refine ⟨a, valV kvs k, rfl, by rw [keyD_rep rx e1]; exact .k (l _ _ h1), by rw [has_val, ek]; exact e2⟩
  · rename_i a kvs ks ds A h1 f ek r e0
    obtain ⟨k, e1, e2⟩ := Option.map_eq_some_iff.mp (show (keyD x).map (fun k => hasK ks k) = some b from h)
    refine ⟨a, valV kvs k, rfl, by rw [keyD_rep rx e1]; exact .k h1, by rw [has_val, ek]; exact e2⟩
  · rename_i a kvs ks ds h1 ek r
    obtain ⟨k, e1, e2⟩ := Option.map_eq_some_iff.mp (show (keyT x).map (fun k => hasK ks k) = some b from h)
    obtain ⟨q, rfl, h2⟩ := keyT_rep rx e1
    exact ⟨a, valV kvs k, rfl, .t (l _ _ h1) (l _ _ h2), by rw [has_val, ek]; exact e2⟩
  · rename_i a kvs ks ds A h1 f ek r e0
    obtain ⟨k, e1, e2⟩ := Option.map_eq_some_iff.mp (show (keyT x).map (fun k => hasK ks k) = some b from h)
    obtain ⟨q, rfl, h2⟩ := keyT_rep rx e1
    exact ⟨a, valV kvs k, rfl, .t h1 (l _ _ h2), by rw [has_val, ek]; exact e2⟩
theorem os_inD : OpS2 K rInDict opInD := by
  intro x y k h F H vx vy Bx By l rx ry Q q
  obtain ⟨b, e, hk⟩ := wd_elim h
  obtain ⟨a, o, rfl, g, rfl⟩ := dget_has l rx ry e
  exact ⟨a, o, rfl, g, q _ _ [] F H hk (.bl _) List.nodup_nil Ext.nop l⟩
theorem os_notinD : OpS2 K rNotInDict opNotInD := by
  intro x y k h F H vx vy Bx By l rx ry Q q
  obtain ⟨b, e, hk⟩ := wd_elim h
  obtain ⟨a, o, rfl, g, rfl⟩ := dget_has l rx ry e
  exact ⟨a, o, rfl, g, q _ _ [] F H hk (.bl _) List.nodup_nil Ext.nop l⟩
/-! len -/
def opLenD : OpN := fun xs k => match xs with
  | [.dT _ ks _] => k (.int (ks.length : Nat))
  | [.dK _ ks _] => k (.int (ks.length : Nat))
  | _ => False
def rLenD : List V → Hp → VK → Prop := fun xs H Q => rLenT xs H Q ∨ ∃ a kvs, xs = [V.ref a] ∧ H a = some (.dK kvs) ∧ Q (.int kvs.length) H
theorem call_lenTD {X : Cx} : CallR X (.builtin "len") rLenD := by
  intro pins s σ H xs us Q I r h
  rcases h with h | h
  · exact call_len_dT pins s σ H xs us Q I r h
  · exact call_lenD pins s σ H xs us Q I r h
theorem os_lenD : OpSN K rLenD opLenD := by
  intro xs k h F H vs l r Q q
  unfold opLenD at h
  split at h
  · obtain ⟨v, B, rfl, rr⟩ := r.one
    have z := fun i hk => q (.int i) (.int i) [] F H hk (.int _) List.nodup_nil Ext.nop l
    cases rr with
    | dTF h1 ek _ =>
      refine .inl ⟨_, _, rfl, l _ _ h1, z _ ?_⟩
      rw [← ek, List.length_map] at h
      exact h
    | dTO h1 _ ek _ _ =>
      refine .inl ⟨_, _, rfl, h1, z _ ?_⟩
      rw [← ek, List.length_map] at h
      exact h
  · obtain ⟨v, B, rfl, rr⟩ := r.one
    have z := fun i hk => q (.int i) (.int i) [] F H hk (.int _) List.nodup_nil Ext.nop l
    cases rr with
    | dKF h1 ek _ =>
      refine .inr ⟨_, _, rfl, l _ _ h1, z _ ?_⟩
      rw [← ek, List.length_map] at h
      exact h
    | dKO h1 _ ek _ _ =>
      refine .inr ⟨_, _, rfl, h1, z _ ?_⟩
      rw [← ek, List.length_map] at h
      exact h
  · exact h.elim
end
/-! {k: v}, the key a tuple -/
def tDispT (tk tv : TE) : TE := fun σ H Q => ∀ p, H p = none → tk σ (upd H p (.dT [])) fun x H1 => tv σ H1 fun y H2 => H2 p = some (.dT []) ∧ ∃ (b : Addr) (k : List Key), x = .ref b ∧ H2 b = some (.tup (k.map kV)) ∧ Q (.ref p) (upd H2 p (.dT [(k, y)]))
theorem pe_dispT {X : Cx} {pos : Pos} {e f : Expr} {tk tv : TE} (hu : X.A.units + 65 < cLine) (hk : PE X e tk) (hv : PE X f tv) : PE X (.Dict [some e] [f] pos) (tDispT tk tv) := by
  refine ⟨fun pins s σ H Q I q => ?_⟩
  have hn := I.hok.fresh (Nat.le_refl s.heap.objs.size)
  have I1 := I.laid (a := s.heap.objs.size) (o := .dT []) (h' := s.heap.push { cls := .type "dict", data := .dict #[] }) (t' := s.toks) (fun _ _ q => Heap.get?_push_of_some _ q) (Nat.le_refl _) (dt_empty s.heap I.big)
  have hsh := zip_pairTrees [some e] [f] X.env pos rfl rfl
  rw [arm_eval_Dict, hsh, dictDisplay_pairs _ (by intro h; cases h) (by simp [pairTrees])]
  refine wpAny_bind (wpAny_standAt (wpAny_bind (wpAny_subDictH (knd := tupleKind (mixKind X.prog X.w)) (Q := fun d s' => wpAny (model X.prog X.w) X.A (pure (Value.ref d)) (EP X pins σ Q) X.xe s') ?_ (by simp [pairTrees]) ?_)))
  · show X.A.units < cLine
    omega
  · refine pairTrees_cons_walk (thn (hk.run pins _ σ _ _ I1 (q _ hn)) fun u s1 ⟨x, H1, I2, rx, q1⟩ => thn (hv.run pins s1 σ H1 _ I2 q1) fun w2 s2 ⟨y, H2, I3, ry, e1, b, k, ex, eb, q2⟩ => pairTrees_nil_walk ?_)
    subst ex
    obtain rfl : u = Value.ref b := rx
    obtain ⟨z, hd, xs, rel, dd⟩ := dt_of I3.hok e1
    cases rel
    refine ⟨[(k, b, w2)], ⟨rfl, rfl, key_of I3.hok eb, trivial⟩, dd, fun h' tk dd' hs => wpAny_pure ⟨.ref s.heap.objs.size, _, ?_, rfl, q2⟩⟩
    obtain ⟨q, es, ep, hq, h2, h3, h4, _, h5⟩ := dd'
    refine d_write I3 (by rw [e1]; exact True.intro) hs ⟨q, hq⟩ ⟨by rw [sizeLine_eq]; exact Nat.succ_le_of_lt (by decide), hd, [(k, b, w2)], .cons ⟨rfl, ?_, ry⟩ .nil, q, es, ep, hq, h2, h3, h4, h5⟩
    rw [upd_ne (ne_of eb e1 (fun z => nomatch z))]
    exact eb
end DL

set_option maxHeartbeats 1000000
/-! DM2: dicts: judgements -/
namespace DL
open PySem PySem.Spec PyProof.Rows L2
section
variable {c : SC} {m m2 : Bool} {W : WX} {pos : Pos} {a b e : Expr} {es : List Expr} {wa wb : WE} {wl : WA} {l : List Str} {p : Pos}
theorem de_inD (ha : DE c m a wa) (hb : DE c m2 b wb) (hm : behindInMarks .In b = false := by rfl) : DE c (m && m2) (.Compare a [.In] [b] pos) (w2 m2 opInD wa wb) := de_cmp (r := fun _ => rInDict) (fun X fit => or_inD fit.u65) os_inD ha hb hm
theorem dt_inD (ha : DE c m a wa) (hb : DE c m2 b wb) (hm : behindInMarks .In b = false := by rfl) : DT c (m && m2) (.Compare a [.In] [b] pos) (wTest (w2 m2 opInD wa wb)) := dt_cmp (r := fun _ => rInDict) (fun X fit => or_inD fit.u65) os_inD ha hb hm
theorem de_notinD (ha : DE c m a wa) (hb : DE c m2 b wb) (hm : behindInMarks .NotIn b = false := by rfl) : DE c (m && m2) (.Compare a [.NotIn] [b] pos) (w2 m2 opNotInD wa wb) := de_cmp (r := fun _ => rNotInDict) (fun X fit => or_notinD fit.u65) os_notinD ha hb hm
theorem dt_notinD (ha : DE c m a wa) (hb : DE c m2 b wb) (hm : behindInMarks .NotIn b = false := by rfl) : DT c (m && m2) (.Compare a [.NotIn] [b] pos) (wTest (w2 m2 opNotInD wa wb)) := dt_cmp (r := fun _ => rNotInDict) (fun X fit => or_notinD fit.u65) os_notinD ha hb hm
theorem b_lenD (hl : Free c.mg l) (ha : DA c m (e :: es) wl) (hin : ("len" : Str) ∈ l := by decide) (hg : GlC c.sc "len" := by rfl) (he : ∀ env, starEach (e :: es) env = (false, eval e env) :: starEach es env := by intro _; rfl) (hpl : ∀ env, (backTo pos (starEach es env)).any (·.1) = false := by intro _; rfl) : DE c m (.Call (.Name "len" p) (e :: es) [] pos) (wN opLenD wl) :=
  de_callB (r := fun _ => rLenD) (fun X fit => call_lenTD) os_lenD hg (hl _ hin) (by decide +kernel) ha (by decide) (by decide) he hpl
/-! {} -/
def wNewK : WE := fun ρ Φ _ => Φ (.val (.dK true [] [])) ρ
def wNewT : WE := fun ρ Φ _ => Φ (.val (.dT true [] [])) ρ
theorem de_newK : DE c false (.Dict [] [] pos) wNewK := by
  refine ⟨fun _ => tDNewK, fun X W fit tk => pe_dnewK, fun W ρ Φ Ψ hw σ F H A rel Q q ex => fun p hp => ?_⟩
  have x : Ext [] F H [p] F (upd H p (.dK [])) := Ext.new hp
  have l2 : Le F (upd H p (.dK [])) := rel.le.new hp
  have hF : F p = none := by
    cases e : F p with
    | none => rfl
    | some o => rw [rel.le _ _ e] at hp; cases hp
  exact q _ _ [p] ρ F _ A hw (.val (.dKO upd_same hF rfl .nil rfl)) (((Aft.refl (m := false) rel).pure x l2 (by simp)))
theorem de_newT : DE c false (.Dict [] [] pos) wNewT := by
  refine ⟨fun _ => tDNewT, fun X W fit tk => pe_dnewT, fun W ρ Φ Ψ hw σ F H A rel Q q ex => fun p hp => ?_⟩
  have x : Ext [] F H [p] F (upd H p (.dT [])) := Ext.new hp
  have l2 : Le F (upd H p (.dT [])) := rel.le.new hp
  have hF : F p = none := by
    cases e : F p with
    | none => rfl
    | some o => rw [rel.le _ _ e] at hp; cases hp
  exact q _ _ [p] ρ F _ A hw (.val (.dTO upd_same hF rfl .nil rfl)) (((Aft.refl (m := false) rel).pure x l2 (by simp)))
/-! {k: v} -/
def wDispT (wk wv : WE) : WE := fun ρ Φ _ => wk ρ (fun tk ρ1 => tk.stable = true ∧ wv ρ1 (fun tv ρ2 => wd (deref ρ2 tk) fun x => wd (keyT x) fun k => wd (valT tv) fun d => pureL [x, d] = true ∧ Φ (.val (.dT true [k] [d])) ρ2) noPsi) noPsi
theorem fresh_stays {K : PySem.W.Frag} {σ : Sl} {ρ ρ1 : DEnv} {A A1 B : Fp} {F H F1 H1 : Hp} {p0 : Addr} {o : HO} (x : Aft K m σ ρ A F (upd H p0 o) ρ1 A1 F1 H1 B) (hp : H p0 = none) (nA : p0 ∉ A) (hF : F p0 = none) : H1 p0 = some o ∧ F1 p0 = none ∧ p0 ∉ A1 ++ B := by
  obtain ⟨k1, k2, k3⟩ := (Ext.loud x).stays (B := [p0]) (fun a h => by rw [List.mem_singleton.mp h]; exact ⟨⟨_, upd_same⟩, hF⟩) (fun a h => by rw [List.mem_singleton.mp h]; exact nA)
  exact ⟨k1 p0 _ (by simp) upd_same, k2 p0 (by simp), k3 p0 (by simp)⟩
theorem de_dispT {f : Expr} (ha : DE c m e wa) (hb : DE c m2 f wb) : DE c false (.Dict [some e] [f] pos) (wDispT wa wb) := by
  obtain ⟨ta, a1, a2⟩ := ha
  obtain ⟨tb, b1, b2⟩ := hb
  refine ⟨fun W => tDispT (ta W) (tb W), fun X W fit tk => pe_dispT fit.u65 (a1 X W fit tk) (b1 X W fit tk), fun W ρ Φ Ψ hw σ F H A rel Q q ex => fun p hp => ?_⟩
  have hF : F p = none := by
    cases e : F p with
    | none => rfl
    | some o => rw [rel.le _ _ e] at hp; cases hp
  have nA : p ∉ A := fun z => by
    obtain ⟨⟨o, e⟩, _⟩ := rel.env.foot p z
    rw [hp] at e; cases e
  have x0 : Ext [] F H [p] F (upd H p (.dT [])) := Ext.new hp
  have rel0 : SRel c.K F (upd H p (.dT [])) ρ σ A := rel.keeps x0 (rel.le.new hp)
  refine a2 W ρ _ noPsi hw σ F _ A rel0 _ (fun t vx B ρ1 F1 H1 A1 hk ra af => ?_) excOk_no
  obtain ⟨st, hk⟩ := hk
  refine b2 W ρ1 _ noPsi hk σ F1 H1 A1 af.rel _ (fun t2 vy B2 ρ2 F2 H2 A2 hk rb af2 => ?_) excOk_no
  obtain ⟨x, e1, hk⟩ := wd_elim hk
  obtain ⟨k, e2, hk⟩ := wd_elim hk
  obtain ⟨d, e3, hpure, hk3⟩ := wd_elim hk
  have hpp := hpure
  unfold pureL at hpp
  simp only [List.all_cons, List.all_nil, Bool.and_true, Bool.and_eq_true, Bool.not_eq_true'] at hpp
  have ra2 := af2.repT ra af.ap (.inr st)
  obtain ⟨B', rx, _⟩ := deref_rep af2.rel ra2 e1
  obtain ⟨b, rfl, hb⟩ := keyT_rep rx e2
  have et : t2 = .val d := by
    cases t2 with
    | val d' => cases e3; rfl
    | slot j => cases e3
    | sub j p => cases e3
  subst et
  cases rb with
  | val rb =>
  have eB2 := rb.own_nil hpp.2
  subst eB2
  have sq := (af.weak (m2 := false) fun e => by cases e).seq (af2.weak (m2 := false) fun e => by cases e) ra.foot
  have sq0 := sq.less (List.nil_sublist _)
  obtain ⟨h1, h2, h3⟩ := fresh_stays sq0 hp nA hF
  rw [List.append_nil] at h3
  refine ⟨h1, b, k, rfl, af2.rel.le _ _ hb, ?_⟩
  have hl : Le F2 (upd H2 p (.dT [(k, vy)])) := fun a o h => by
    rw [upd_ne (fun z => by rw [z, h2] at h; cases h)]
    exact af2.rel.le a o h
  have r3 : Rep c.K F2 (upd H2 p (.dT [(k, vy)])) (.dT true [k] [d]) (.ref p) [p] := .dTO upd_same h2 rfl (.cons (rb.pure (Le.refl _)) .nil (by simp : ([] : Fp) = [] ++ [])) rfl
  refine q _ _ [p] ρ2 F2 _ A2 hk3 (.val r3) ⟨⟨hl, af2.rel.env.mono (Le.refl _) (fun a o m h => by rw [upd_ne (fun z => h3 (by rw [← z]; exact m))]; exact h) (fun a m => (af2.rel.env.foot a m).2), af2.rel.nd⟩, ?_, (fun e => by cases e), by simp, fun a m z => h3 (by rw [← List.mem_singleton.mp m]; exact z)⟩
  have ext := Ext.loud sq0
  rw [List.append_nil] at ext
  have e0 : Ext A F H (A2 ++ [p]) F2 (upd H2 p (.dT [(k, vy)])) := by
    refine ⟨ext.frz, fun a o h hm => ?_, fun a m => ?_, fun a o h => ?_⟩
    · have ne : a ≠ p := fun z => by rw [z, hp] at h; cases h
      rw [upd_ne ne]
      exact ext.keep a o (by rw [upd_ne ne]; exact h) hm
    · rcases List.mem_append.mp m with m | m
      · rcases ext.own a m with z | z
        · exact .inl z
        · refine .inr ?_
          by_cases ne : a = p
          · rw [ne]; exact hp
          · rw [upd_ne ne] at z; exact z
      · rw [List.mem_singleton.mp m]; exact .inr hp
    · rcases ext.newf a o h with z | z | z
      · exact .inl z
      · exact .inr (.inl z)
      · refine .inr (.inr ?_)
        by_cases ne : a = p
        · rw [ne]; exact hp
        · rw [upd_ne ne] at z; exact z
  exact e0
/-! d[k] = v -/
def putKs {κ : Type} [DecidableEq κ] (ks : List κ) (k : κ) : List κ := if hasK ks k = true then ks else ks ++ [k]
def putDs {κ : Type} [DecidableEq κ] (ks : List κ) (ds : List D) (k : κ) (d : D) : List D := if hasK ks k = true then (ks.zip ds).map fun p => if p.1 = k then d else p.2 else ds ++ [d]
def dput (dd x d : D) (k : D → Prop) : Prop := match dd with
  | .dT true ks ds => pureL (d :: ds) = true ∧ ks.length < sizeLine ∧ wd (keyT x) fun kk => k (.dT true (putKs ks kk) (putDs ks ds kk d))
  | .dK true ks ds => pureL (d :: ds) = true ∧ ks.length < sizeLine ∧ wd (keyD x) fun kk => k (.dK true (putKs ks kk) (putDs ks ds kk d))
  | _ => False
theorem put_keys {κ : Type} [DecidableEq κ] (kvs : List (κ × V)) (k : κ) (v : V) : (putK kvs k v).map (·.1) = putKs (kvs.map (·.1)) k := by
  have e : (kvs.any fun kv => decide (kv.1 = k)) = hasK (kvs.map (·.1)) k := by
    unfold hasK
    rw [List.any_map]; rfl
  unfold putK putKs
  rw [e]
  cases hasK (kvs.map (·.1)) k with
  | true =>
    simp only [if_true]
    rw [List.map_map]
    refine List.map_congr_left fun p _ => ?_
    show (if p.1 = k then (p.1, v) else p).1 = p.1
    split <;> rfl
  | false => simp
theorem put_reps {K : PySem.W.Frag} {F H : Hp} {κ : Type} [DecidableEq κ] {d : D} {v : V} (rd : Rep K F H d v []) (k : κ) (kvs : List (κ × V)) (ds : List D) (r : Reps K F H ds (kvs.map (·.2)) []) : Reps K F H (putDs (kvs.map (·.1)) ds k d) ((putK kvs k v).map (·.2)) [] := by
  have e : (kvs.any fun kv => decide (kv.1 = k)) = hasK (kvs.map (·.1)) k := by
    unfold hasK
    rw [List.any_map]; rfl
  unfold putK putDs
  rw [e]
  cases hasK (kvs.map (·.1)) k with
  | true =>
    simp only [if_true]
    clear e
    induction kvs generalizing ds with
    | nil => cases r; exact .nil
    | cons p kvs ih =>
      cases r with
      | @cons d0 ds0 _ _ A B _ r1 r2 e0 =>
        obtain ⟨e1, e2⟩ := List.append_eq_nil_iff.mp e0.symm
        subst e1 e2
        have z := ih ds0 r2
        simp only [List.map_cons, List.zip_cons_cons]
        refine .cons (A := []) (B := []) ?_ z rfl
        by_cases c : p.1 = k
        · rw [if_pos c, if_pos c]; exact rd
        · rw [if_neg c, if_neg c]; exact r1
  | false =>
    simp only [Bool.false_eq_true, if_false]
    rw [List.map_append]
    exact r.append (.cons rd .nil (by simp))
def wDPut (we wx wi : WE) : WS := fun Dd Ψ ρ => we ρ (fun u ρ1 => wd (elemT u ρ1) fun y => wx y.2 (fun t ρ2 => wi ρ2 (fun s ρ3 => wd (deref ρ3 s) fun z => wd (placeT t) fun l => l.2 = [] ∧ wd (lk ρ3 l.1) fun dd => dput dd z y.1 fun d2 => Dd.nx (ρ3.set l.1 (some d2))) Ψ) Ψ) Ψ
theorem ds_dput {o i f : Expr} {we wx wi : WE} {p1 : Pos} (he : DE c m f we) (hx : DE c true o wx) (hi : DE c true i wi) (hs : ∀ env, swapsWith f (some (.Subscript o i p1)) pos.line env = pure false := by intro _; rfl) : DS c [] (.Assign [.Subscript o i p1] f pos) (wDPut we wx wi) := by
  obtain ⟨te, e1, e2⟩ := he
  obtain ⟨tx, x1, x2⟩ := hx
  obtain ⟨ti, i1, i2⟩ := hi
  refine ⟨fun W => sDPut (tx W) (ti W) (te W), fun X W fit tk => ps_dput (by have := fit.fit.u65; omega) (x1 X W fit.fit tk) (i1 X W fit.fit tk) (e1 X W fit.fit tk) (hs X.env), fun W Dd Ψ ρ hw σ F H A rel Dq q ex => ?_⟩
  refine e2 W ρ _ Ψ hw σ F H A rel _ (fun u v B ρ1 F1 H1 A1 hk ra af => ?_) ex.expr
  obtain ⟨⟨d, ρ2⟩, g1, hk⟩ := wd_elim hk
  obtain ⟨F2, A2, B2, af2, r2⟩ := elem_ok af ra g1
  have ex2 := ex.expr.aft af2
  refine x2 W ρ2 _ Ψ hk σ F2 H1 A2 af2.rel _ (fun t vx B3 ρ3 F3 H3 A3 hk rx af3 => ?_) ex2
  refine i2 W ρ3 _ Ψ hk σ F3 H3 A3 af3.rel _ (fun s vi B4 ρ4 F4 H4 A4 hk rs af4 => ?_) (ex2.aft af3)
  obtain ⟨z, g2, hk⟩ := wd_elim hk
  obtain ⟨⟨a1, p⟩, g5, e0, hk⟩ := wd_elim hk
  obtain ⟨dd, g6, hk⟩ := wd_elim hk
  have e0 : p = [] := e0
  subst e0
  obtain ⟨_, rn, _, _⟩ := deref_rep af4.rel rs g2
  have rx4 := af4.repT rx af3.ap (.inl rfl)
  have rt : RepT c.K F4 H4 σ t vx [] := rx4.place g5
  have s3 := af2.seq (af3.less (List.nil_sublist B3)) r2.foot
  have s4 := s3.seq (af4.less (List.nil_sublist B4)) (by simpa using ((af3.rep r2 af2.ap).foot))
  have sq : Aft c.K false σ ρ A F H ρ4 A4 F4 H4 B2 := by simpa using s4
  have r4 : Rep c.K F4 H4 d v B2 := af4.rep (af3.rep r2 af2.ap) fun a z => by
    have q := s3.ap a (List.mem_append_left _ z)
    exact q
  have hσ : σ[a1]? = some (some vx) := by
    cases rt with
    | val _ => cases g5
    | slot h => cases g5; exact h
    | @sub _ _ v0 _ h q => cases g5; cases q; exact h
  obtain ⟨v1, Q1, B0, Q2, k1, k2, k3, _, k5⟩ := af4.rel.env.focus (lk_some.mp g6)
  rw [hσ] at k1; cases k1
  have ndA := af4.rel.nd
  rw [k2] at ndA
  have n1 := List.nodup_append.mp ndA
  have n2 := List.nodup_append.mp n1.2.1
  have ext := Ext.loud sq
  have fin : ∀ (a : Addr) (o' : HO) (d2 : D), vx = .ref a → B0 = [a] → F4 a = none → Rep c.K F4 (upd H4 a o') d2 (.ref a) [a] → Dd.nx (ρ4.set a1 (some d2)) → Dq.nx σ (upd H4 a o') := by
    intro a o' d2 ev eB hF4 r5 hnx
    subst ev eB
    have aA : a ∈ A4 := by rw [k2]; simp
    have oth : ∀ b, b ∈ Q1 ++ Q2 → b ≠ a := fun b m z => by
      subst z
      rcases List.mem_append.mp m with m | m
      · exact n1.2.2 b m b (by simp) rfl
      · exact n2.2.2 b (by simp) b m rfl
    have hle : Le F4 (upd H4 a o') := fun b o h => by
      rw [upd_ne (fun z => by rw [z, hF4] at h; cases h)]
      exact af4.rel.le b o h
    have env1 : EnvR c.K F4 (upd H4 a o') (ρ4.set a1 none) σ (Q1 ++ Q2) := k5.mono (Le.refl _) (fun b o m h => by rw [upd_ne (oth b m)]; exact h) fun b m => (k5.foot b m).2
    obtain ⟨N, g7, pm⟩ := env1.putAt (set_at (lk_some.mp g6) none) hσ r5
    rw [List.set_set] at g7
    have nd : N.Nodup := pm.nodup_iff.mpr (List.nodup_append.mpr ⟨by simp, ndA.sublist (List.Sublist.append_left (List.sublist_append_right [a] Q2) Q1), fun x hx y hy e => by
      rw [List.mem_singleton.mp hx] at e
      exact oth y hy e.symm⟩)
    have inA : ∀ b, b ∈ N → b ∈ A4 := fun b m => by
      rw [k2]
      rcases List.mem_append.mp (pm.mem_iff.mp m) with z | z
      · rw [List.mem_singleton.mp z]; simp
      · rcases List.mem_append.mp z with z | z
        · exact List.mem_append_left _ z
        · exact List.mem_append_right _ (List.mem_append_right _ z)
    refine q.nx _ σ F4 _ N hnx ⟨hle, g7, nd⟩ ⟨ext.frz, fun b o h hm => ?_, fun b m => ext.own b (List.mem_append_left _ (inA b m)), ext.newf⟩ Ag.refl
    have ne : b ≠ a := fun z => by
      subst z
      rcases ext.own b (List.mem_append_left _ aA) with y | y
      · exact hm y
      · rw [h] at y; cases y
    rw [upd_ne ne]
    exact ext.keep b o h hm
  unfold dput at hk
  split at hk
  · rename_i ks ds
    obtain ⟨hp, hz, hk⟩ := hk
    obtain ⟨kk, g3, hk⟩ := wd_elim hk
    have hpp := Bool.and_eq_true_iff.mp (show (!d.isOwn && pureL ds) = true from hp)
    have eB2 := r4.own_nil (by simpa using hpp.1)
    subst eB2
    cases k3 with
    | @dTO a kvs _ _ A' _ h0 f0 ek r0 e00 =>
      have eA := r0.pure_nil hpp.2
      subst eA
      obtain ⟨b, rfl, hb⟩ := keyT_rep rn g3
      have hl : kvs.length < sizeLine := by rw [← ek, List.length_map] at hz; exact hz
      refine ⟨a, _, rfl, .t h0 (af4.rel.le _ _ hb) hl, fin a _ _ rfl e00 f0 ?_ hk⟩
      have r6 := (put_reps r4 kk kvs ds r0).mono (F' := F4) (H' := upd H4 a (.dT (putK kvs kk v))) (Le.refl _) (fun _ _ m => (List.not_mem_nil m).elim) (fun _ m => (List.not_mem_nil m).elim)
      exact .dTO upd_same f0 (by rw [put_keys, ek]) (by rw [ek] at r6; exact r6) rfl
  · rename_i ks ds
    obtain ⟨hp, hz, hk⟩ := hk
    obtain ⟨kk, g3, hk⟩ := wd_elim hk
    have hpp := Bool.and_eq_true_iff.mp (show (!d.isOwn && pureL ds) = true from hp)
    have eB2 := r4.own_nil (by simpa using hpp.1)
    subst eB2
    cases k3 with
    | @dKO a kvs _ _ A' _ h0 f0 ek r0 e00 =>
      have eA := r0.pure_nil hpp.2
      subst eA
      have ev := keyD_rep rn g3
      subst ev
      have hl : kvs.length < sizeLine := by rw [← ek, List.length_map] at hz; exact hz
      refine ⟨a, _, rfl, .k h0 hl, fin a _ _ rfl e00 f0 ?_ hk⟩
      have r6 := (put_reps r4 kk kvs ds r0).mono (F' := F4) (H' := upd H4 a (.dK (putK kvs kk v))) (Le.refl _) (fun _ _ m => (List.not_mem_nil m).elim) (fun _ m => (List.not_mem_nil m).elim)
      exact .dKO upd_same f0 (by rw [put_keys, ek]) (by rw [ek] at r6; exact r6) rfl
  · exact hk.elim
end
end DL

set_option maxHeartbeats 200000
/-! DM3: dicts: rewriting -/
namespace DL
open PySem PySem.Spec PyProof.Rows L2
theorem keyT_nats {l : List Nat} : keyT (.tup (natsD l)) = some (keysN l) := keysD_nats l
theorem keyD_int {i : Int} : keyD (.int i) = some (.inl i) := Eq.trans rfl rfl
theorem keyD_str {i : Str} : keyD (.str i) = some (.inr i) := Eq.trans rfl rfl
theorem opNotInD_T {o : Bool} {ks : List (List Key)} {ds : List D} {l : List Nat} {k : D → Prop} : opNotInD (.tup (natsD l)) (.dT o ks ds) k = k (.bl (!hasK ks (keysN l))) := by
  show wd ((keyT (.tup (natsD l))).map fun k => hasK ks k) _ = _
  rw [keyT_nats]; rfl
theorem opInD_T {o : Bool} {ks : List (List Key)} {ds : List D} {l : List Nat} {k : D → Prop} : opInD (.tup (natsD l)) (.dT o ks ds) k = k (.bl (hasK ks (keysN l))) := by
  show wd ((keyT (.tup (natsD l))).map fun k => hasK ks k) _ = _
  rw [keyT_nats]; rfl
theorem opNotInD_K {o : Bool} {ks : List Key} {ds : List D} {i : Int} {k : D → Prop} : opNotInD (.int i) (.dK o ks ds) k = k (.bl (!hasK ks (.inl i))) := Eq.trans rfl rfl
theorem opInD_K {o : Bool} {ks : List Key} {ds : List D} {i : Int} {k : D → Prop} : opInD (.int i) (.dK o ks ds) k = k (.bl (hasK ks (.inl i))) := Eq.trans rfl rfl
theorem opLenD_T {o : Bool} {ks : List (List Key)} {ds : List D} {k : D → Prop} : opLenD [.dT o ks ds] k = k (.int (ks.length : Nat)) := Eq.trans rfl rfl
theorem opLenD_K {o : Bool} {ks : List Key} {ds : List D} {k : D → Prop} : opLenD [.dK o ks ds] k = k (.int (ks.length : Nat)) := Eq.trans rfl rfl
theorem dput_T {ks : List (List Key)} {ds : List D} {l : List Nat} {d : D} {k : D → Prop} : dput (.dT true ks ds) (.tup (natsD l)) d k = (pureL (d :: ds) = true ∧ ks.length < sizeLine ∧ k (.dT true (putKs ks (keysN l)) (putDs ks ds (keysN l) d))) := by
  show (pureL (d :: ds) = true ∧ ks.length < sizeLine ∧ wd (keyT (.tup (natsD l))) _) = _
  rw [keyT_nats]; rfl
theorem dput_K {ks : List Key} {ds : List D} {i : Int} {d : D} {k : D → Prop} : dput (.dK true ks ds) (.int i) d k = (pureL (d :: ds) = true ∧ ks.length < sizeLine ∧ k (.dK true (putKs ks (.inl i)) (putDs ks ds (.inl i) d))) := Eq.trans rfl rfl
theorem wDPut.ap {we wx wi : WE} {Dd : DEnds} {Ψ : PsiE} {ρ : DEnv} : wDPut we wx wi Dd Ψ ρ = (we ρ (fun u ρ1 => wdk (elemT u ρ1) fun y => wx y.2 (fun t ρ2 => wi ρ2 (fun s ρ3 => wdk (deref ρ3 s) fun z => wdk (placeT t) fun l => l.2 = [] ∧ wdk (lk ρ3 l.1) fun dd => dput dd z y.1 fun d2 => Dd.nx (ρ3.set l.1 (some d2))) Ψ) Ψ) Ψ) := propext Iff.rfl
theorem wDispT.ap {wk wv : WE} {ρ : DEnv} {Φ : T → DEnv → Prop} {Ψ : PsiE} : wDispT wk wv ρ Φ Ψ = (wk ρ (fun tk ρ1 => tk.stable = true ∧ wv ρ1 (fun tv ρ2 => wdk (deref ρ2 tk) fun x => wdk (keyT x) fun k => wdk (valT tv) fun d => pureL [x, d] = true ∧ Φ (.val (.dT true [k] [d])) ρ2) noPsi) noPsi) := propext Iff.rfl
theorem wNewK.ap {ρ : DEnv} {Φ : T → DEnv → Prop} {Ψ : PsiE} : wNewK ρ Φ Ψ = Φ (.val (.dK true [] [])) ρ := propext Iff.rfl
theorem wNewT.ap {ρ : DEnv} {Φ : T → DEnv → Prop} {Ψ : PsiE} : wNewT ρ Φ Ψ = Φ (.val (.dT true [] [])) ρ := propext Iff.rfl
theorem own_dT {o : Bool} {ks : List (List Key)} {ds : List D} : (D.dT o ks ds).isOwn = o := Eq.trans rfl rfl
theorem own_dK {o : Bool} {ks : List Key} {ds : List D} : (D.dK o ks ds).isOwn = o := Eq.trans rfl rfl
end DL

set_option maxHeartbeats 1000000
/-! DM4: name += e, name -= e: ints, owned lists -/
namespace DL
open PySem PySem.Spec PyProof.Rows L2
section
variable {c : SC} {m : Bool} {pos : Pos}
def asIO (o : Option D) (k : Int → Prop) : Prop := match o with
  | some (.int i) => k i
  | _ => False
theorem asIO_elim {o : Option D} {k : Int → Prop} (h : asIO o k) : ∃ i, o = some (.int i) ∧ k i := by
  unfold asIO at h
  split at h
  · exact ⟨_, rfl, h⟩
  · exact h.elim
def wAugI (f : Int → Int → Int) (i : Nat) (we : WE) : WS := fun Dd Ψ ρ => asIO (lk ρ i) fun a => we ρ (fun t ρ1 => wd (deref ρ1 t) fun d => asI d fun n => i < ρ1.length ∧ Dd.nx (ρ1.set i (some (.int (f a n))))) Ψ
theorem snd_augI {f : Int → Int → Int} {i : Nat} {W : WX} {te : TE} {we : WE} (ha : SndE c m W te we) : SndS c [i] W (tAug i te (ipI f)) (wAugI f i we) := by
  intro Dd Ψ ρ hw σ F H A rel Dq q ex
  obtain ⟨a, e1, hw⟩ := asIO_elim hw
  obtain ⟨v, B0, hσ, r0, _⟩ := rel.slot (lk_some.mp e1)
  obtain ⟨rfl, _⟩ := r0.int_inv
  refine ⟨.int a, hσ, ?_⟩
  refine ha ρ _ Ψ hw σ F H A rel _ (fun t v B ρ1 F1 H1 A1 hk ra af => ?_) ex.expr
  obtain ⟨d, e2, hk⟩ := wd_elim hk
  obtain ⟨n, rfl, hl, hk⟩ := asI_elim hk
  obtain ⟨_, rn, _, _⟩ := deref_rep af.rel ra e2
  obtain ⟨rfl, _⟩ := rn.int_inv
  refine ⟨a, n, rfl, rfl, ?_⟩
  obtain ⟨A3, rel3, s3⟩ := af.rel.store hl (Rep.int (f a n)) List.nodup_nil (fun _ m => (List.not_mem_nil m).elim)
  exact q.nx _ _ F1 H1 A3 hk rel3 ((Ext.loud af).le fun a m => (s3 a m).elim (List.mem_append_left _) (fun z => (List.not_mem_nil z).elim)) Ag.set
theorem ds_augA (i : Nat) {x : Str} {e : Expr} {we : WE} {pos' : Pos} (hNd : c.N.Nodup) (ha : DE c m e we) (hi : c.N[i]? = some x := by rfl) (hx : LocC c x := by first | exact Or.inl rfl | exact Or.inr rfl) (hf : HfC c x := by first | exact Or.inl rfl | exact Or.inr rfl) : DS c [i] (.AugAssign (.Name x pos') .Add e pos) (wAugI (fun a b => a + b) i we) := by
  obtain ⟨t, h1, h2⟩ := ha
  exact ⟨fun W => tAug i (t W) (ipI fun a b => a + b), fun X W fit tk => ps_aug (by rw [fit.fit.N]; exact hNd) (by rw [fit.fit.N]; exact hi) (by unfold L2.Loc; rw [fit.fit.sc]; exact hx) (h1 X W fit.fit tk) ip_add (by rw [fit.fit.fn, fit.fit.sc]; exact hf), fun W => snd_augI (h2 W)⟩
theorem ds_augS (i : Nat) {x : Str} {e : Expr} {we : WE} {pos' : Pos} (hNd : c.N.Nodup) (ha : DE c m e we) (hi : c.N[i]? = some x := by rfl) (hx : LocC c x := by first | exact Or.inl rfl | exact Or.inr rfl) (hf : HfC c x := by first | exact Or.inl rfl | exact Or.inr rfl) : DS c [i] (.AugAssign (.Name x pos') .Sub e pos) (wAugI (fun a b => a - b) i we) := by
  obtain ⟨t, h1, h2⟩ := ha
  exact ⟨fun W => tAug i (t W) (ipI fun a b => a - b), fun X W fit tk => ps_aug (by rw [fit.fit.N]; exact hNd) (by rw [fit.fit.N]; exact hi) (by unfold L2.Loc; rw [fit.fit.sc]; exact hx) (h1 X W fit.fit tk) ip_sub (by rw [fit.fit.fn, fit.fit.sc]; exact hf), fun W => snd_augI (h2 W)⟩
def lstOf2 : D → Option (List D)
  | .lst _ es => some es
  | _ => none
def wAugL (i : Nat) (we : WE) : WS := fun Dd Ψ ρ => asLO (lk ρ i) fun _ => we ρ (fun u ρ1 => wd (elemT u ρ1) fun y => asLO (lk y.2 i) fun ds => wd (lstOf2 y.1) fun es => pureL es = true ∧ ds.length + es.length ≤ sizeLine ∧ Dd.nx (y.2.set i (some (.lst true (ds ++ es))))) Ψ
theorem snd_augL {i : Nat} {W : WX} {te : TE} {we : WE} (ha : SndE c m W te we) : SndS c [i] W (tAug i te rExt2) (wAugL i we) := by
  intro Dd Ψ ρ hw σ F H A rel Dq q ex
  obtain ⟨ds0, e1, hw⟩ := asLO_elim hw
  obtain ⟨v, B0, hσ, _, _⟩ := rel.slot (lk_some.mp e1)
  refine ⟨v, hσ, ?_⟩
  refine ha ρ _ Ψ hw σ F H A rel _ (fun u w B ρ1 F1 H1 A1 hk ra af => ?_) ex.expr
  obtain ⟨⟨d, ρ2⟩, g1, hk⟩ := wd_elim hk
  obtain ⟨F2, A2, B2, af2, r2⟩ := elem_ok af ra g1
  obtain ⟨ds, e2, hk⟩ := asLO_elim hk
  obtain ⟨es, e3, hp, hz, hk⟩ := wd_elim hk
  cases d <;> try (cases e3; done)
  rename_i o es'
  cases e3
  obtain ⟨b, zs, B', rfl, hB, rs, _⟩ := r2.lst_inv af2.rel.le
  have eB := rs.pure_nil hp
  subst eB
  obtain ⟨a, xs, C, rfl, hH, rs2, nC, dj, go⟩ := mut_aft af2 (RepT.slot hσ : RepT c.K F2 H1 σ (.slot i) v []) rfl e2
  have l1 := rs2.length
  have l2 := rs.length
  obtain ⟨ρ', A', g7, af5, _⟩ := go (xs ++ zs) (ds ++ es) C .non .non [] (by have := rs2.append rs; rw [List.append_nil] at this; exact this) .non nC List.nodup_nil (fun b m => .inl m) (fun b m => (List.not_mem_nil m).elim)
  have eset : setPlace ρ2 i [] (.lst true (ds ++ es)) = some (ρ2.set i (some (.lst true (ds ++ es)))) := by
    unfold setPlace
    rw [show lk ρ2 i = some (.lst true ds) from e2]
    rfl
  rw [eset] at g7
  cases g7
  refine ⟨a, b, xs, zs, rfl, rfl, hH, hB, by omega, ?_⟩
  have eσ : σ.set i (some (V.ref a)) = σ := by
    obtain ⟨hi, e⟩ := List.getElem?_eq_some_iff.mp hσ
    rw [← e]
    exact List.set_getElem_self hi
  show Dq.nx (σ.set i (some (V.ref a))) _
  rw [eσ]
  exact q.nx _ σ F2 _ A' hk af5.rel (Ext.loud af5).drop Ag.refl
theorem ds_augL (i : Nat) {x : Str} {e : Expr} {we : WE} {pos' : Pos} (hNd : c.N.Nodup) (ha : DE c m e we) (hi : c.N[i]? = some x := by rfl) (hx : LocC c x := by first | exact Or.inl rfl | exact Or.inr rfl) (hf : HfC c x := by first | exact Or.inl rfl | exact Or.inr rfl) : DS c [i] (.AugAssign (.Name x pos') .Add e pos) (wAugL i we) := by
  obtain ⟨t, h1, h2⟩ := ha
  exact ⟨fun W => tAug i (t W) rExt2, fun X W fit tk => ps_aug (by rw [fit.fit.N]; exact hNd) (by rw [fit.fit.N]; exact hi) (by unfold L2.Loc; rw [fit.fit.sc]; exact hx) (h1 X W fit.fit tk) (fun pins s σ H x y v u Q I r1 r2 h => iop_ext pins s σ H x y v u Q I r1 r2 h) (by rw [fit.fit.fn, fit.fit.sc]; exact hf), fun W => snd_augL (h2 W)⟩
end
end DL

set_option maxHeartbeats 1000000
/-! DM5: a, b[i] = e, f: several targets, names and places, the things moved -/
namespace DL
open PySem PySem.Spec PyProof.Rows L2
abbrev WGo := D → DEnv → (DEnv → Prop) → Prop
abbrev WGos := List D → DEnv → (DEnv → Prop) → Prop
def DGo (c : SC) (sl : List Nat) (tg : Expr) (w : WGo) : Prop := ∃ g : WX → TG, (∀ X W, Fits c X → Takes X W → PG X tg (g W)) ∧ ∀ W d ρ k, w d ρ k → ∀ σ F H A v B, SRel c.K F H ρ σ A → Rep c.K F H d v B → B.Nodup → (∀ a, a ∈ B → a ∉ A) →
  ∀ Q : Sl → Hp → Prop, (∀ ρ' σ' F' H' A', k ρ' → SRel c.K F' H' ρ' σ' A' → Ext (A ++ B) F H A' F' H' → Ag sl σ σ' → Q σ' H') → g W v σ H Q
def DGos (c : SC) (sl : List Nat) (es : List Expr) (w : WGos) : Prop := ∃ g : WX → TGs, (∀ X W, Fits c X → Takes X W → PGs X es (g W)) ∧ ∀ W ds ρ k, w ds ρ k → ∀ σ F H A vs B, SRel c.K F H ρ σ A → Reps c.K F H ds vs B → B.Nodup → (∀ a, a ∈ B → a ∉ A) →
  ∀ Q : Sl → Hp → Prop, (∀ ρ' σ' F' H' A', k ρ' → SRel c.K F' H' ρ' σ' A' → Ext (A ++ B) F H A' F' H' → Ag sl σ σ' → Q σ' H') → g W vs σ H Q
section
variable {c : SC} {m : Bool} {pos : Pos}
def wgoName (i : Nat) : WGo := fun d ρ k => i < ρ.length ∧ k (ρ.set i (some d))
theorem dgo_name {i : Nat} {x : Str} {p : Pos} (hNd : c.N.Nodup) (hi : c.N[i]? = some x := by rfl) (hx : LocC c x := by first | exact Or.inl rfl | exact Or.inr rfl) (hf : HfC c x := by first | exact Or.inl rfl | exact Or.inr rfl) : DGo c [i] (.Name x p) (wgoName i) := by
  refine ⟨fun _ => gName i, fun X W fit tk => pg_name (by rw [fit.N]; exact hNd) (by rw [fit.N]; exact hi) (by unfold L2.Loc; rw [fit.sc]; exact hx) (by rw [fit.fn, fit.sc]; exact hf), fun W d ρ k hw σ F H A v B rel r nd ap Q q => ?_⟩
  obtain ⟨hl, hk⟩ := hw
  obtain ⟨A', rel', sub⟩ := rel.store hl r nd ap
  exact q _ _ F H A' hk rel' (Ext.refl fun a m => .inl (List.mem_append.mpr (sub a m))) Ag.set
def wgoIx (wx wi : WE) : WGo := fun d ρ k => wx ρ (fun t ρ1 => wi ρ1 (fun s ρ2 => wd (deref ρ2 s) fun z => asI z fun n => asLO (deref ρ2 t) fun ds => wd (ixN ds.length n) fun j => wd (placeT t) fun l => wd (setPlace ρ2 l.1 l.2 (.lst true (ds.set j d))) fun ρ4 => k ρ4) noPsi) noPsi
theorem dgo_ix {o i : Expr} {wx wi : WE} {p1 : Pos} (hx : DE c true o wx) (hi : DE c true i wi)
    (ha : ∀ env v, assign (.Subscript o i p1) env v = (do
      let ov ← holding [v] (eval o env)
      let iv ← holding [v, ov] (eval i env)
      standAt p1
      holding [v, ov, iv] (setItem ov iv v)
      release [v, ov, iv] []) := by intro _ _; rfl) : DGo c [] (.Subscript o i p1) (wgoIx wx wi) := by
  obtain ⟨tx, x1, x2⟩ := hx
  obtain ⟨ti, i1, i2⟩ := hi
  refine ⟨fun W => gSub (tx W) (ti W) rSetL, fun X W fit tk => pg_sub (x1 X W fit tk) (i1 X W fit tk) set_list (ha X.env), fun W d ρ k hw σ F H A v B rel r nd ap Q q => ?_⟩
  refine x2 W ρ _ noPsi hw σ F H A rel _ (fun t vx B3 ρ3 F3 H3 A3 hk rx af3 => ?_) excOk_no
  refine i2 W ρ3 _ noPsi hk σ F3 H3 A3 af3.rel _ (fun s vi B4 ρ4 F4 H4 A4 hk rs af4 => ?_) excOk_no
  obtain ⟨z, g2, hk⟩ := wd_elim hk
  obtain ⟨n, rfl, hk⟩ := asI_elim hk
  obtain ⟨ds, g3, hk⟩ := asLO_elim hk
  obtain ⟨j, g4, hk⟩ := wd_elim hk
  obtain ⟨⟨a1, p⟩, g5, hk⟩ := wd_elim hk
  obtain ⟨ρ5, g6, hk⟩ := wd_elim hk
  obtain ⟨_, rn, _, _⟩ := deref_rep af4.rel rs g2
  obtain ⟨rfl, _⟩ := rn.int_inv
  have rx4 := af4.repT rx af3.ap (.inl rfl)
  have rt : RepT c.K F4 H4 σ t vx [] := rx4.place g5
  obtain ⟨_, eA3⟩ := af3.qt rfl
  obtain ⟨_, eA4⟩ := af4.qt rfl
  have eA : A4 = A := by rw [eA4, eA3]
  have r3 : Rep c.K F3 H3 d v B := af3.rep r ap
  have r4 : Rep c.K F4 H4 d v B := af4.rep r3 (by rw [eA3]; exact ap)
  obtain ⟨a, xs, C, rfl, hH, hF, hA, rs2, nC, sC, nCa, go⟩ := mut_place af4.rel rt g5 g3
  have hj : j < ds.length := (ixN_seq g4).2.1
  obtain ⟨C', k1, k2, k3⟩ := rs2.setAt hj r4
  have naB : a ∉ B := fun z => ap a z (by rw [← eA]; exact hA)
  obtain ⟨ρ', A', g7, rel5, sub⟩ := go (xs.set j v) (ds.set j d) C' (k1.mono (Le.refl _) (fun b o m h => by
      rw [upd_ne (fun e => by
        subst e
        rcases k2 b m with z | z
        · exact nCa z
        · exact naB z)]; exact h) fun b m => (k1.foot b m).2) (k3 nC nd fun b m z => ap b z (by rw [← eA]; exact sC b m)) (fun b m => (k2 b m).imp_right fun z => by rw [eA]; exact ap b z) (fun z => (k2 a z).elim nCa naB)
  rw [g6] at g7
  cases g7
  have s4 := (af3.less (List.nil_sublist B3)).seq (af4.less (List.nil_sublist B4)) (fun _ m => (List.not_mem_nil m).elim)
  have ext := s4.ext
  refine ⟨a, xs, n, j, rfl, rfl, hH, by rw [← rs2.length]; exact g4, q ρ5 σ F4 _ A' hk rel5 ⟨ext.frz, fun b o h hm => ?_, fun b m => ?_, fun b o h => ?_⟩ Ag.refl⟩
  · rw [upd_ne (fun e => hm (by rw [e]; exact List.mem_append_left _ (by rw [← eA]; exact hA)))]
    exact ext.keep b o h (fun z => by cases z)
  · rcases sub b m with z | z
    · rcases k2 b z with y | y
      · exact .inl (List.mem_append_left _ (by rw [← eA]; exact sC b y))
      · exact .inl (List.mem_append_right _ y)
    · exact .inl (List.mem_append_left _ (by rw [← eA]; exact z.1))
  · rcases ext.newf b o h with z | z | z
    · exact .inl z
    · cases z
    · exact .inr (.inr z)
def wgosNil : WGos := fun ds ρ k => ds = [] ∧ k ρ
def wgosCons (w : WGo) (u : WGos) : WGos := fun ds ρ k => match ds with
  | d :: r => w d ρ fun ρ1 => u r ρ1 k
  | [] => False
theorem dgos_nil : DGos c [] [] wgosNil := by
  refine ⟨fun _ => gNil, fun X W fit tk => pgs_nil, fun W ds ρ k hw σ F H A vs B rel r nd ap Q q => ?_⟩
  obtain ⟨rfl, hk⟩ := hw
  cases r
  exact ⟨rfl, q ρ σ F H A hk rel (Ext.refl fun a m => .inl (List.mem_append_left _ m)) Ag.refl⟩
theorem dgos_cons {tg : Expr} {es : List Expr} {s1 s2 : List Nat} {w : WGo} {u : WGos} (hg : DGo c s1 tg w) (hs : DGos c s2 es u)
    (ha : ∀ env, (assignEach (tg :: es) env).map (·.2) = assign tg env :: (assignEach es env).map (·.2) := by intro _; rfl) : DGos c (s1 ++ s2) (tg :: es) (wgosCons w u) := by
  obtain ⟨g, g1, g2⟩ := hg
  obtain ⟨h, h1, h2⟩ := hs
  refine ⟨fun W => gCons (g W) (h W), fun X W fit tk => pgs_cons (g1 X W fit tk) (h1 X W fit tk) (ha X.env), fun W ds ρ k hw σ F H A vs B rel r nd ap Q q => ?_⟩
  cases ds with
  | nil => exact hw.elim
  | cons d ds =>
    cases r with
    | @cons _ _ v vs A0 B0 _ r1 r2 e =>
      subst e
      have n1 := List.nodup_append.mp nd
      refine ⟨v, vs, rfl, ?_⟩
      refine g2 W d ρ _ hw σ F H A v A0 rel r1 n1.1 (fun a m => ap a (List.mem_append_left _ m)) _ fun ρ1 σ1 F1 H1 A1 hk rel1 x ag1 => ?_
      have dj : ∀ a, a ∈ B0 → a ∉ A ++ A0 := fun a m z => by
        rcases List.mem_append.mp z with z | z
        · exact ap a (List.mem_append_right _ m) z
        · exact n1.2.2 a z a m rfl
      obtain ⟨k1, k2, k3⟩ := x.stays (B := B0) (r2.foot) dj
      have r3 : Reps c.K F1 H1 ds vs B0 := r2.mono x.frz (fun a o m h => k1 a o m h) k2
      refine h2 W ds ρ1 k hk σ1 F1 H1 A1 vs B0 rel1 r3 n1.2.1 k3 Q fun ρ' σ' F' H' A' hk' rel' y ag2 => ?_
      have into : ∀ a, a ∈ A ++ A0 → a ∈ A ++ (A0 ++ B0) := fun a m => by
        rcases List.mem_append.mp m with m | m
        · exact List.mem_append_left _ m
        · exact List.mem_append_right _ (List.mem_append_left _ m)
      have fresh : ∀ a, H1 a = none → a ∈ A ++ (A0 ++ B0) ∨ H a = none := fun a h => by
        cases e : H a with
        | none => exact .inr rfl
        | some o =>
          by_cases m : a ∈ A ++ A0
          · exact .inl (into a m)
          · have := x.keep a o e m
            rw [h] at this; cases this
      have own1 : ∀ a, a ∈ A1 ++ B0 → a ∈ A ++ (A0 ++ B0) ∨ H a = none := fun a m => by
        rcases List.mem_append.mp m with m | m
        · exact (x.own a m).imp_left (into a)
        · exact .inl (List.mem_append_right _ (List.mem_append_right _ m))
      refine q ρ' σ' F' H' A' hk' rel' ⟨x.frz.trans y.frz, fun a o h hm => ?_, fun a m => ?_, fun a o h => ?_⟩ (ag1.trans ag2)
      · refine y.keep a o (x.keep a o h fun m => hm (into a m)) fun m => ?_
        rcases own1 a m with z | z
        · exact hm z
        · rw [h] at z; cases z
      · rcases y.own a m with z | z
        · exact own1 a z
        · exact fresh a z
      · rcases y.newf a o h with z | z | z
        · rcases x.newf a o z with z | z | z
          · exact .inl z
          · exact .inr (.inl (into a z))
          · exact .inr (.inr z)
        · exact .inr (own1 a z)
        · exact .inr (fresh a z)
def wParG (n : Nat) (u : WGos) (wa : WA) : WS := fun D Ψ ρ => wa ρ (fun ts ρ1 => ts.length = n ∧ wd (takeTs (ts.map fun _ => true) ts ρ1) fun q => u q.1 q.2.2 fun ρ2 => D.nx ρ2) Ψ
theorem ds_parG {n : Nat} {sl : List Nat} {es as : List Expr} {u : WGos} {wa : WA} {pt pt2 pos : Pos} {kt k2} (hg : DGos c sl es u) (ha : DA c m as wa) (hz : n ≤ sizeLine := by decide)
    (hw : ∀ env, env.scope = c.sc → swappedStores [.Tuple es kt pt] (.Tuple as k2 pt2) env = pure none := by intro env h; rfl)
    (hl : ∀ env, (assignEach es env).length = n := by intro _; rfl) (hst : ∀ env, (assignEach es env).findIdx? (·.1) = none := by intro _; rfl)
    (hs : ∀ env, swapsWithSole [.Tuple es kt pt] (.Tuple as k2 pt2) pos.line env = pure false := by intro _; rfl) (h1 : ∀ env, (assignEach [.Tuple es kt pt] env).map (·.2) = [assign (.Tuple es kt pt) env] := by intro _; rfl) : DS c sl (.Assign [.Tuple es kt pt] (.Tuple as k2 pt2) pos) (wParG n u wa) := by
  obtain ⟨g, g1, g2⟩ := hg
  obtain ⟨ta, a1, a2⟩ := ha
  refine ⟨fun W => tAsg (tTup (ta W)) (gTup c.K n (g W)), fun X W fit tk => ?_, fun W Dd Ψ ρ hw σ F H A rel Dq q ex => ?_⟩
  · have z := pg_tup (k := kt) (pos := pt) fit.fit.calm (g1 X W fit.fit tk) (hl X.env) (hst X.env)
    rw [fit.fit.K] at z
    exact ps_asg (pe_tup (a1 X W fit.fit tk)) z (hs X.env) (hw X.env fit.fit.sc) (h1 X.env)
  refine a2 W ρ _ Ψ hw σ F H A rel _ (fun ts vs B ρ1 F1 H1 A1 hk ra af => ?_) ex.expr
  obtain ⟨hn, hk⟩ := hk
  obtain ⟨⟨ds, os, ρ2⟩, e, hk⟩ := wd_elim hk
  obtain ⟨F2, A2, C, rel2, rds, ndC, apC, ext2, sub2, _⟩ := takeTs_ok _ ts ra af.rel af.nd af.ap e
  have hlen : vs.length = n := by rw [← hn]; exact ra.length.symm
  refine ⟨by rw [hlen]; exact hz, fun p hp => ?_⟩
  have e1 := (Ext.loud af).seq0 ext2
  have rel3 : SRel c.K F2 (upd H1 p (.tup vs)) ρ2 σ A2 := rel2.keeps (Ext.new hp) (rel2.le.new hp)
  have foot := rds.foot
  have npC : p ∉ C := fun m => by
    obtain ⟨⟨o, h⟩, _⟩ := foot p m
    rw [hp] at h; cases h
  have rds3 : Reps c.K F2 (upd H1 p (.tup vs)) ds vs C := rds.mono (Le.refl _) (fun a o m h => by rw [upd_ne (fun z => npC (by rw [← z]; exact m))]; exact h) fun a m => (foot a m).2
  refine ⟨p, vs, rfl, .inl (.inl upd_same), hlen, ?_⟩
  refine g2 W ds ρ2 _ hk σ F2 _ A2 vs C rel3 rds3 ndC apC _ fun ρ' σ' F' H' A' hk' rel' y ag => ?_
  refine q.nx ρ' σ' F' H' A' hk' rel' ⟨e1.frz.trans y.frz, fun a o h hm => ?_, fun a mm => ?_, fun a o h => ?_⟩ ag
  · have z := e1.keep a o h hm
    refine y.keep a o (by rw [upd_ne (ne_of_none z hp)]; exact z) fun m => ?_
    rcases e1.own a m with w | w
    · exact hm w
    · rw [h] at w; cases w
  · rcases y.own a mm with z | z
    · exact e1.own a z
    · cases e : H a with
      | none => exact .inr rfl
      | some o =>
        by_cases m : a ∈ A
        · exact .inl m
        · have w := e1.keep a o e m
          rw [upd_ne (ne_of_none w hp)] at z
          rw [w] at z; cases z
  · rcases y.newf a o h with z | z | z
    · exact e1.newf a o z
    · exact .inr (e1.own a z)
    · cases e : H a with
      | none => exact .inr (.inr rfl)
      | some o' =>
        by_cases m : a ∈ A
        · exact .inr (.inl m)
        · have w := e1.keep a o' e m
          rw [upd_ne (ne_of_none w hp)] at z
          rw [w] at z; cases z
end
end DL

set_option maxHeartbeats 1000000
/-! DM6: d[k], d.get(k, e) -/
namespace DL
open PySem PySem.Spec PyProof.Rows L2
def dfind {κ : Type} [DecidableEq κ] (ks : List κ) (ds : List D) (k : κ) : Option D := ((ks.zip ds).find? fun p => decide (p.1 = k)).map (·.2)
def dval : D → D → Option D
  | .dT _ ks ds, x => (keyT x).bind fun k => dfind ks ds k
  | .dK _ ks ds, x => (keyD x).bind fun k => dfind ks ds k
  | _, _ => none
theorem dfind_rep {K : PySem.W.Frag} {F H : Hp} {κ : Type} [DecidableEq κ] (k : κ) (kvs : List (κ × V)) : ∀ (ds : List D) (A : Fp), Reps K F H ds (kvs.map (·.2)) A → (∀ d, dfind (kvs.map (·.1)) ds k = some d → ∃ v B, valV kvs k = some v ∧ Rep K F H d v B) ∧ (dfind (kvs.map (·.1)) ds k = none → valV kvs k = none) := by
  induction kvs with
  | nil =>
    intro ds A r
    cases r
    exact ⟨fun d h => (by cases h), fun _ => rfl⟩
  | cons p kvs ih =>
    intro ds A r
    cases r with
    | @cons d0 ds0 _ _ A0 B0 _ r1 r2 e =>
      obtain ⟨i1, i2⟩ := ih ds0 B0 r2
      by_cases c : p.1 = k
      · have e1 : dfind (((p :: kvs)).map (·.1)) (d0 :: ds0) k = some d0 := by
          unfold dfind
          simp [c]
        rw [e1]
        refine ⟨fun d h => ?_, fun h => by cases h⟩
        cases h
        exact ⟨p.2, A0, valV_pos c, r1⟩
      · have e1 : dfind (((p :: kvs)).map (·.1)) (d0 :: ds0) k = dfind (kvs.map (·.1)) ds0 k := by
          unfold dfind
          simp [c]
        rw [e1, valV_neg c]
        exact ⟨i1, i2⟩
/-- what a dict holds at a key, if the key is one -/
def dkey : D → D → Option (Option D)
  | .dT _ ks ds, x => (keyT x).map fun k => dfind ks ds k
  | .dK _ ks ds, x => (keyD x).map fun k => dfind ks ds k
  | _, _ => none
theorem dkey_rep {K : PySem.W.Frag} {F H : Hp} {x y : D} {vx vy : V} {Bx By : Fp} {od : Option D} (l : Le F H) (rx : Rep K F H x vx Bx) (ry : Rep K F H y vy By) (h : dkey y x = some od) : ∃ a o, vy = .ref a ∧ DGet H a vx o ∧ IsD H a ∧ (∀ d, od = some d → ∃ v B, o = some v ∧ Rep K F H d v B) ∧ (od = none → o = none) := by
  cases ry <;> try (cases h; done)
  · rename_i a kvs ks ds h1 ek r
    subst ek
    obtain ⟨k, e1, e2⟩ := Option.map_eq_some_iff.mp (show (keyD x).map (fun k => dfind (kvs.map (·.1)) ds k) = some od from h)
    subst e2
    obtain ⟨q1, q2⟩ := dfind_rep k kvs ds [] r
    exact ⟨a, valV kvs k, rfl, by rw [keyD_rep rx e1]; exact .k (l _ _ h1), .inl ⟨kvs, .inl (l _ _ h1)⟩, q1, q2⟩
  · rename_i a kvs ks ds A h1 f ek r e0
    subst ek
    obtain ⟨k, e1, e2⟩ := Option.map_eq_some_iff.mp (show (keyD x).map (fun k => dfind (kvs.map (·.1)) ds k) = some od from h)
    subst e2
    obtain ⟨q1, q2⟩ := dfind_rep k kvs ds A r
    exact ⟨a, valV kvs k, rfl, by rw [keyD_rep rx e1]; exact .k h1, .inl ⟨kvs, .inl h1⟩, q1, q2⟩
  · rename_i a kvs ks ds h1 ek r
    subst ek
    obtain ⟨k, e1, e2⟩ := Option.map_eq_some_iff.mp (show (keyT x).map (fun k => dfind (kvs.map (·.1)) ds k) = some od from h)
    subst e2
    obtain ⟨q1, q2⟩ := dfind_rep k kvs ds [] r
    obtain ⟨q, rfl, h2⟩ := keyT_rep rx e1
    exact ⟨a, valV kvs k, rfl, .t (l _ _ h1) (l _ _ h2), .inr ⟨kvs, .inl (l _ _ h1)⟩, q1, q2⟩
  · rename_i a kvs ks ds A h1 f ek r e0
    subst ek
    obtain ⟨k, e1, e2⟩ := Option.map_eq_some_iff.mp (show (keyT x).map (fun k => dfind (kvs.map (·.1)) ds k) = some od from h)
    subst e2
    obtain ⟨q1, q2⟩ := dfind_rep k kvs ds A r
    obtain ⟨q, rfl, h2⟩ := keyT_rep rx e1
    exact ⟨a, valV kvs k, rfl, .t h1 (l _ _ h2), .inr ⟨kvs, .inl h1⟩, q1, q2⟩
section
variable {c : SC} {m m2 : Bool} {pos apos cpos : Pos}
def asSome (o : Option (Option D)) (k : D → Prop) : Prop := match o with
  | some (some d) => k d
  | _ => False
theorem asSome_elim {o : Option (Option D)} {k : D → Prop} (h : asSome o k) : ∃ d, o = some (some d) ∧ k d := by
  unfold asSome at h
  split at h
  · exact ⟨_, rfl, h⟩
  · exact h.elim
def wDGet (q : Bool) (wx wi : WE) : WE := fun ρ Φ Ψ => wx ρ (fun t ρ1 => (q || t.stable) = true ∧ wi ρ1 (fun s ρ2 => wd (deref ρ2 t) fun dd => wd (deref ρ2 s) fun z => asSome (dkey dd z) fun d => pureL [d] = true ∧ Φ (.val d) ρ2) Ψ) Ψ
theorem de_dget {o i : Expr} {wx wi : WE} (hx : DE c m o wx) (hi : DE c m2 i wi) (hs : NoSl i := by exact fun _ _ => rfl) : DE c (m && m2) (.Subscript o i pos) (wDGet m2 wx wi) := by
  obtain ⟨tx, x1, x2⟩ := hx
  obtain ⟨ti, i1, i2⟩ := hi
  refine ⟨fun W => tDGet (tx W) (ti W), fun X W fit tk => pe_dget (by have := fit.u65; omega) (x1 X W fit tk) (i1 X W fit tk) hs, fun W ρ Φ Ψ hw σ F H A rel Q q ex => ?_⟩
  refine x2 W ρ _ Ψ hw σ F H A rel _ (fun t vx B ρ1 F1 H1 A1 hk ra af => ?_) ex
  obtain ⟨st, hk⟩ := hk
  refine i2 W ρ1 _ Ψ hk σ F1 H1 A1 af.rel _ (fun s vi B2 ρ2 F2 H2 A2 hk rb af2 => ?_) (ex.aft af)
  obtain ⟨dd, e1, hk⟩ := wd_elim hk
  obtain ⟨z, e2, hk⟩ := wd_elim hk
  obtain ⟨d, e3, hp, hk3⟩ := asSome_elim hk
  have ra2 := af2.repT ra af.ap (by simpa using st)
  obtain ⟨_, rdd, _, _⟩ := deref_rep af2.rel ra2 e1
  obtain ⟨_, rz, _, _⟩ := deref_rep af2.rel rb e2
  obtain ⟨a, ov, rfl, g, _, q1, _⟩ := dkey_rep af2.rel.le rz rdd e3
  obtain ⟨v, B', rfl, rd⟩ := q1 d rfl
  have hpp : d.isOwn = false := by
    unfold pureL at hp
    simpa using hp
  have eB := rd.own_nil hpp
  subst eB
  exact ⟨a, v, rfl, g, q _ v [] ρ2 F2 H2 A2 hk3 (.val rd) ((af.seq af2 ra.foot).less (List.nil_sublist _))⟩
def isDic : Option D → Prop
  | some (.dT _ _ _) => True
  | some (.dK _ _ _) => True
  | _ => False
theorem isDic_rep {K : PySem.W.Frag} {F H : Hp} {σ : Sl} {ρ : DEnv} {A B : Fp} {t : T} {v : V} (rel : SRel K F H ρ σ A) (r : RepT K F H σ t v B) (h : isDic (deref ρ t)) : ∃ a, v = .ref a ∧ IsD H a := by
  cases e : deref ρ t with
  | none => rw [e] at h; exact h.elim
  | some d =>
    rw [e] at h
    obtain ⟨_, rd, _⟩ := deref_rep rel r e
    cases rd with
    | dKF h1 _ _ => exact ⟨_, rfl, .inl ⟨_, .inl (rel.le _ _ h1)⟩⟩
    | dKO h1 _ _ _ _ => exact ⟨_, rfl, .inl ⟨_, .inl h1⟩⟩
    | dTF h1 _ _ => exact ⟨_, rfl, .inr ⟨_, .inl (rel.le _ _ h1)⟩⟩
    | dTO h1 _ _ _ _ => exact ⟨_, rfl, .inr ⟨_, .inl h1⟩⟩
    | _ => exact h.elim
def getT (o : Option (Option D)) (u : T) (k : T → Prop) : Prop := match o with
  | some (some d) => pureL [d] = true ∧ k (.val d)
  | some none => k u
  | none => False
def wDGetOr (wx wi wz : WE) : WE := fun ρ Φ Ψ => wx ρ (fun t ρ1 => isDic (deref ρ1 t) ∧ wi ρ1 (fun s ρ2 => wz ρ2 (fun u ρ3 => wd (deref ρ3 t) fun dd => wd (deref ρ3 s) fun z => getT (dkey dd z) u fun r => Φ r ρ3) Ψ) Ψ) Ψ
theorem de_dgetOr {o i f : Expr} {wx wi wz : WE} (hx : DE c true o wx) (hi : DE c true i wi) (hz : DE c true f wz)
    (hb : ∀ env, attributeBase o "get" env (eval o env) = eval o env := by intro _; rfl)
    (hf : ∀ env, ((backTo cpos (starEach [i, f] env)).all (fun x => !x.1) && (backToKw cpos (keywordEach [] env)).all (fun x => x.1.isSome)
      && decide (([i, f] : List Expr).length + ([] : List Keyword).length + (if ([] : List Keyword).isEmpty then 0 else 1) < 30)) = true := by intro _; rfl)
    (hl : (apos.endLine == cpos.line) = true := by rfl) (ht : ∀ env, backTo cpos (starEach [i, f] env) = [(false, eval i env), (false, eval f env)] := by intro _; rfl) :
    DE c true (.Call (.Attribute o "get" apos) [i, f] [] cpos) (wDGetOr wx wi wz) := by
  obtain ⟨tx, x1, x2⟩ := hx
  obtain ⟨ti, i1, i2⟩ := hi
  obtain ⟨tz, z1, z2⟩ := hz
  refine ⟨fun W => tDGet2 (tx W) (ti W) (tz W), fun X W fit tk => pe_dget2 (by have := fit.u65; omega) (x1 X W fit tk) (i1 X W fit tk) (z1 X W fit tk) ⟨hb X.env, hf X.env, hl, ht X.env⟩, fun W ρ Φ Ψ hw σ F H A rel Q q ex => ?_⟩
  refine x2 W ρ _ Ψ hw σ F H A rel _ (fun t vx B ρ1 F1 H1 A1 hk ra af => ?_) ex
  obtain ⟨hd, hk⟩ := hk
  obtain ⟨a0, e0, isd⟩ := isDic_rep af.rel ra hd
  refine ⟨a0, e0, isd, ?_⟩
  refine i2 W ρ1 _ Ψ hk σ F1 H1 A1 af.rel _ (fun s vi B2 ρ2 F2 H2 A2 hk rb af2 => ?_) (ex.aft af)
  have s1 := af.seq af2 ra.foot
  have ra2 := af2.repT ra af.ap (.inl rfl)
  refine z2 W ρ2 _ Ψ hk σ F2 H2 A2 af2.rel _ (fun u vu B3 ρ3 F3 H3 A3 hk rc af3 => ?_) ((ex.aft af).aft af2)
  obtain ⟨dd, e1, hk⟩ := wd_elim hk
  obtain ⟨z, e2, hk⟩ := wd_elim hk
  have ra3 := af3.repT ra2 (fun a z => s1.ap a (List.mem_append_left _ z)) (.inl rfl)
  have rb3 := af3.repT rb (fun a z => s1.ap a (List.mem_append_right _ z)) (.inl rfl)
  obtain ⟨_, rdd, _, _⟩ := deref_rep af3.rel ra3 e1
  obtain ⟨_, rz, _, _⟩ := deref_rep af3.rel rb3 e2
  have sq := s1.seq af3 (by
    intro a m
    rcases List.mem_append.mp m with m | m
    · exact ra2.foot a m
    · exact rb.foot a m)
  unfold getT at hk
  split at hk
  · rename_i d e3
    obtain ⟨hp, hk⟩ := hk
    obtain ⟨a, ov, ea, g, _, q1, _⟩ := dkey_rep af3.rel.le rz rdd e3
    obtain ⟨v, B', rfl, rd⟩ := q1 d rfl
    have hpp : d.isOwn = false := by
      unfold pureL at hp
      simpa using hp
    have eB := rd.own_nil hpp
    subst eB
    have eaa : a0 = a := by rw [e0] at ea; exact V.ref.inj ea
    subst eaa
    exact ⟨some v, g, q _ v [] ρ3 F3 H3 A3 hk (.val rd) (sq.less (List.nil_sublist _))⟩
  · rename_i e3
    obtain ⟨a, ov, ea, g, _, _, q2⟩ := dkey_rep af3.rel.le rz rdd e3
    rw [q2 rfl] at g
    have eaa : a0 = a := by rw [e0] at ea; exact V.ref.inj ea
    subst eaa
    exact ⟨none, g, q u vu B3 ρ3 F3 H3 A3 hk rc (sq.less (List.sublist_append_right _ _))⟩
  · exact hk.elim
end
end DL

set_option maxHeartbeats 200000
/-! DM7: rewriting for DM4, DM5, DM6 -/
namespace DL
open PySem PySem.Spec PyProof.Rows L2
theorem asIO_i {i : Int} {k : Int → Prop} : asIO (some (.int i)) k = k i := Eq.trans rfl rfl
theorem wAugI.ap {f : Int → Int → Int} {i : Nat} {we : WE} {Dd : DEnds} {Ψ : PsiE} {ρ : DEnv} : wAugI f i we Dd Ψ ρ = asIO (lk ρ i) fun a => we ρ (fun t ρ1 => wdk (deref ρ1 t) fun d => asIk d fun n => i < ρ1.length ∧ Dd.nx (ρ1.set i (some (.int (f a n))))) Ψ := propext Iff.rfl
theorem lstOf2_l {o : Bool} {es : List D} : lstOf2 (.lst o es) = some es := Eq.trans rfl rfl
theorem wAugL.ap {i : Nat} {we : WE} {Dd : DEnds} {Ψ : PsiE} {ρ : DEnv} : wAugL i we Dd Ψ ρ = asLOk (lk ρ i) fun _ => we ρ (fun u ρ1 => wdk (elemT u ρ1) fun y => asLOk (lk y.2 i) fun ds => wdk (lstOf2 y.1) fun es => pureL es = true ∧ ds.length + es.length ≤ sizeLine ∧ Dd.nx (y.2.set i (some (.lst true (ds ++ es))))) Ψ := propext Iff.rfl
theorem wgoName.ap {i : Nat} {d : D} {ρ : DEnv} {k : DEnv → Prop} : wgoName i d ρ k = (i < ρ.length ∧ k (ρ.set i (some d))) := Eq.trans rfl rfl
theorem wgoIx.ap {wx wi : WE} {d : D} {ρ : DEnv} {k : DEnv → Prop} : wgoIx wx wi d ρ k = wx ρ (fun t ρ1 => wi ρ1 (fun s ρ2 => wdk (deref ρ2 s) fun z => asIk z fun n => asLOk (deref ρ2 t) fun ds => wdk (ixN ds.length n) fun j => wdk (placeT t) fun l => wdk (setPlace ρ2 l.1 l.2 (.lst true (ds.set j d))) fun ρ4 => k ρ4) noPsi) noPsi := propext Iff.rfl
theorem wgosNil.ap {ρ : DEnv} {k : DEnv → Prop} : wgosNil [] ρ k = k ρ := propext ⟨fun h => h.2, fun h => ⟨rfl, h⟩⟩
theorem wgosCons.ap {w : WGo} {u : WGos} {d : D} {ds : List D} {ρ : DEnv} {k : DEnv → Prop} : wgosCons w u (d :: ds) ρ k = w d ρ fun ρ1 => u ds ρ1 k := Eq.trans rfl rfl
theorem wParG.ap {n : Nat} {u : WGos} {wa : WA} {D0 : DEnds} {Ψ : PsiE} {ρ : DEnv} : wParG n u wa D0 Ψ ρ = wa ρ (fun ts ρ1 => ts.length = n ∧ wdk (takeTs (ts.map fun _ => true) ts ρ1) fun q => u q.1 q.2.2 fun ρ2 => D0.nx ρ2) Ψ := propext Iff.rfl
theorem asSome_s {d : D} {k : D → Prop} : asSome (some (some d)) k = k d := Eq.trans rfl rfl
theorem getT_s {d : D} {u : T} {k : T → Prop} : getT (some (some d)) u k = (pureL [d] = true ∧ k (.val d)) := Eq.trans rfl rfl
theorem getT_n {u : T} {k : T → Prop} : getT (some none) u k = k u := Eq.trans rfl rfl
theorem dkey_K {o : Bool} {ks : List Key} {ds : List D} {i : Int} : dkey (.dK o ks ds) (.int i) = some (dfind ks ds (.inl i)) := Eq.trans rfl rfl
theorem dkey_T {o : Bool} {ks : List (List Key)} {ds : List D} {l : List Nat} : dkey (.dT o ks ds) (.tup (natsD l)) = some (dfind ks ds (keysN l)) := by
  show (keyT (.tup (natsD l))).map _ = _
  rw [keyT_nats]; rfl
theorem isDic_T {o : Bool} {ks : List (List Key)} {ds : List D} : isDic (some (.dT o ks ds)) = True := Eq.trans rfl rfl
theorem isDic_K {o : Bool} {ks : List Key} {ds : List D} : isDic (some (.dK o ks ds)) = True := Eq.trans rfl rfl
theorem wDGet.ap {q : Bool} {wx wi : WE} {ρ : DEnv} {Φ : T → DEnv → Prop} {Ψ : PsiE} : wDGet q wx wi ρ Φ Ψ = wx ρ (fun t ρ1 => (q || t.stable) = true ∧ wi ρ1 (fun s ρ2 => wdk (deref ρ2 t) fun dd => wdk (deref ρ2 s) fun z => asSome (dkey dd z) fun d => pureL [d] = true ∧ Φ (.val d) ρ2) Ψ) Ψ := propext Iff.rfl
theorem wDGetOr.ap {wx wi wz : WE} {ρ : DEnv} {Φ : T → DEnv → Prop} {Ψ : PsiE} : wDGetOr wx wi wz ρ Φ Ψ = wx ρ (fun t ρ1 => isDic (deref ρ1 t) ∧ wi ρ1 (fun s ρ2 => wz ρ2 (fun u ρ3 => wdk (deref ρ3 t) fun dd => wdk (deref ρ3 s) fun z => getT (dkey dd z) u fun r => Φ r ρ3) Ψ) Ψ) Ψ := propext Iff.rfl
end DL

set_option maxHeartbeats 1000000
/-! DN0: an own exception class (over own classes over ValueError): `def __init__(self, at): super().__init__(text); self.at = at`, raw -/
namespace PySem
namespace ExN
open PySem.W PySem.Calls PyProof.Rows PySem.HandSPX
def iA (a0 a1 : Pos) : Arguments := { posonlyargs := [], args := [{ arg := "self", annotation := none, pos := a0 }, { arg := "at", annotation := none, pos := a1 }], vararg := none, kwonlyargs := [], kw_defaults := [], kwarg := none, defaults := [] }
def iB (text : Str) (p0 p1 p2 p3 p4 p5 q1 q2 q3 q4 : Pos) : List Stmt :=
  [.Expr (.Call (.Attribute (.Call (.Name "super" p0) [] [] p1) "__init__" p2) [.Constant (.str text) 0 p3] [] p4) p5, .Assign [.Attribute (.Name "self" q1) "at" q2] (.Name "at" q3) q4]
def iS : Scope := { kind := .function, names := [(PySem.Str.ofString "self", .local), (PySem.Str.ofString "at", .local), (PySem.Str.ofString "__class__", .free), (PySem.Str.ofString "super", .globalImplicit)], isGenerator := false, isCoroutine := false, more := [] }
/-- what the written part says of such a class at C, of its __init__ at fI -/
structure Txt (P : Program) (K : Frag) (mg : Str → Option Value) (C fI cc cda : Addr) (qual text : Str) (fd : FuncData) : Prop where
  cls : ∃ nm q N bs bm sn sub ab col dd k0 k1 k2 k3 k5, K.lookup C = some (excClassObj nm q C N bs bm true sn sub ab col dd k0 k1 k2 k3 k5 "ValueError.__new__") ∧ refsVE bm = true
  sa : findIn K (.ref C) "__setattr__" = some (some (.builtin "object.__setattr__"))
  noN : findIn K (.ref C) "at" = some none
  sup : ks_superIn K C C "__init__" = some (some (.builtin "ValueError.__init__"))
  opq : nsIn K cStatics "thirdparty.any" = some none
  subV : subIn K (.ref C) (.type "ValueError") = some true
  subC : mroIn K C (.ref C) = some true
  gs : mg "super" = none
  cell : ∃ cl cld csl, K.lookup cc = some ⟨cl, cld, .cell (some (.ref C)), csl⟩
  code : ∃ ccl cdd vs ccs file tf, K.lookup cda = some ⟨ccl, cdd, .fields vs, ccs⟩ ∧ vs[2]? = some (.str file tf) ∧ ((P.main.file : Str) == file) = true
  codeR : codeIn K (.ref cda) qual = true
  top : (P.main.scope.names.lookup ("super" : Str)).isSome = false
  fn : ∃ (oc : Value) (od : Option Addr) (doc pm : Value) (an : Option Addr) (ct : Value) (osl : Array (Option Value)) (a0 a1 p0 p1 p2 p3 p4 p5 q1 q2 q3 q4 : Pos),
    fd = ksFn "__init__" qual (iA a0 a1) (iB text p0 p1 p2 p3 p4 p5 q1 q2 q3 q4) iS .none .none doc pm an (.ref cda) ct cc ∧ K.lookup fI = some ⟨oc, od, .func fd, osl⟩ ∧ (p2.endLine == p4.line) = true
/-- what __init__ leaves of a fresh exception at x -/
structure InitEnd (h h' : Heap) (x C dx t1 : Addr) (v : Value) : Prop where
  keep : ∀ b o, b ≠ x → h.get? b = some o → h'.get? b = some o
  obj : h'.get? x = some { cls := .ref C, dict := some dx, data := .fields #[.ref t1, .none, .none, .none, .bool false, .none] }
  dbig : h.objs.size ≤ dx
  dne : dx ≠ x
  ns : h'.Ns1 dx (fun y => if y = "at" then some v else none)
section
variable {prog : Program} {w : World} {A : Around} {E : Value → Shared → Prop} {R : Result → Shared → Prop} {s : Shared} {K : Frag} {mg mb : Str → Option Value} {C fI cc cda : Addr} {qual text : Str} {fd : FuncData}
/-- the bound method-wrapper called: the exception's args are laid anew -/
theorem mw_call {h : Heap} {g : Array GenState} {d : Drawn} {t : Nat} {os : OsState} {nm q : Str} {N : Addr} {bs bm : List Value} {hdct : Bool} {sn : List Str} {sub : List Value} {ab : Bool} {col : Option Bool} {dd : Option Addr} {k0 k1 k2 k3 k5 : Option Value} {u e t0 : Addr} {rest : List Value} {Q : Value → Shared → Prop}
    (hC : h.get? C = some (excClassObj nm q C N bs bm hdct sn sub ab col dd k0 k1 k2 k3 k5 "ValueError.__new__")) (he : h.get? e = some (excO C t0)) (hu : h.get? u = some (kxs_mw "ValueError.__init__" e)) (hrest : rest.length ≤ sizeLine)
    (hq : ∀ h' t1, (∀ b o, b ≠ e → h.get? b = some o → h'.get? b = some o) → h'.get? e = some (excO C t1) → Q .none ⟨h', g, d, t, os⟩) :
    wpAny (model prog w) A (call (.ref u) rest) Q E ⟨h, g, d, t, os⟩ := by
  refine wpAny_call (codeAny_of_tree ?_)
  show wpAny _ A.in1 (callAny (.ref u) ⟨rest, []⟩) _ _ _
  simp only [callAny]
  refine wpAny_bind (wpAny_load hu ?_)
  simp only [kxs_mw, show (Value.type "method-wrapper" == Value.type "method" || Value.type "method-wrapper" == Value.type "builtin_function_or_method" || Value.type "method-wrapper" == Value.type "method-wrapper") = true by decide, if_true]
  refine KFB.if_so (by decide) ?_
  refine wpAny_bind (check_bound_init F.excBase_ValueError.toExcCallFacts hC he rfl ?_)
  refine wpAny_bind (wpAny_pure (wpAny_pure ?_))
  refine ⟨plainId_quiet F.excBase_ValueError.init.plain _, codeAny_builtin F.excBase_ValueError.initEntry ?_⟩
  exact exc_init_tree (cls := .ref C) (t0 := t0) (dv := none) (c2 := .none) (c3 := .none) (b4 := .bool false) he hrest fun h' k e' _ => hq h' _ k e'

theorem own_init (T : Txt prog K mg C fI cc cda qual text fd) {x t0 : Addr} {v : Value} {args : Args} (X : K.In s.heap) (hg : s.heap.Ns mainGlobals mg) (hbt : s.heap.Ns builtinsNs mb) (hmb : mb "super" = some (.type "super")) (hlim : s.heap.NoLimit)
    (hx : s.heap.get? x = some (excO C t0)) (hxC : x ≠ C) (hnx : K.lookup x = none) (hroom : A.depth < recursionLimit) (hb : BindsTo s fd args [("self", .ref x), ("at", v)])
    (hq : ∀ h' tk dx t1, InitEnd s.heap h' x C dx t1 v → R (.ok (.ret .none)) { s with heap := h', toks := tk }) :
    codeAny (model prog w) A (.call (.ref fI) args) R s := by
  obtain ⟨oc, od, doc, pm, an, ct, osl, a0, a1, p0, p1, p2, p3, p4, p5, q1, q2, q3, q4, rfl, ho, hml⟩ := T.fn
  obtain ⟨nm, q, N, bs, bm, sn, sub, ab, col, dd, k0, k1, k2, k3, k5, hC, hbm⟩ := T.cls
  have hcl : clsIn K C = some { name := nm, bases := bs, mro := .ref C :: bm, ns := N, qualname := q, hasDict := true, slotNames := sn, subclasses := sub, abstract := ab, collection := col, hasDel := false } := by unfold clsIn; rw [hC] <;> rfl
  obtain ⟨ccl, cdd, vs, ccs, file, tf, hcode, hvs, hfile⟩ := T.code
  obtain ⟨cl, cld, csl, hcell⟩ := T.cell
  obtain ⟨hp, g, d, tk, os⟩ := s
  refine ks_codeAny_call_defAt (fd := ksFn "__init__" qual (iA a0 a1) (iB text p0 p1 p2 p3 p4 p5 q1 q2 q3 q4) iS .none .none doc pm an (.ref cda) ct cc) (body := iB text p0 p1 p2 p3 p4 p5 q1 q2 q3 q4) (binds := [("self", .ref x), ("at", v)])
    hroom (X _ _ ho) rfl hlim (codeRec_of X T.codeR) rfl hb (show ∀ y ∈ iS.names, y.2 ≠ .cell by decide) (fun y hy => ?_) (fun h₁ hn k => ?_) rfl rfl rfl
  · rcases List.mem_cons.mp hy with rfl | hy
    · rfl
    · rcases List.mem_cons.mp hy with rfl | hy
      · rfl
      · cases hy
  have X₁ : K.In h₁ := X.keeps k
  have hx₁ := k _ _ hx
  have hCo := X₁ _ _ hC
  have lt := hn.lt
  have hxL : hp.objs.size ≠ x := Nat.ne_of_gt (Heap.lt_size hx)
  have ms : (fun y : Str => List.lookup y [(("self" : Str), Value.ref x), (("at" : Str), v)].reverse) ("self" : Str) = some (.ref x) := by first | rfl | with_unfolding_all rfl | kernel_rfl
  have ma : (fun y : Str => List.lookup y [(("self" : Str), Value.ref x), (("at" : Str), v)].reverse) ("at" : Str) = some v := by first | rfl | with_unfolding_all rfl | kernel_rfl
  show _root_.PySem.wpAt (model prog w) (A.deeper (ksEnv qual iS hp.objs.size fI (.ref cda) cc)) (.func (iB text p0 p1 p2 p3 p4 p5 q1 q2 q3 q4) (ksEnv qual iS hp.objs.size fI (.ref cda) cc)) (execs (iB text p0 p1 p2 p3 p4 p5 q1 q2 q3 q4) (ksEnv qual iS hp.objs.size fI (.ref cda) cc)) _ _ _
  refine ks_wpAt_execs_cons (ks_wpAt_Expr_any ?_)
  refine ks_wpAt_MethodCall (pl := do return (← importBound (.Call (.Name "super" p0) [] [] p1) (ksEnv qual iS hp.objs.size fI (.ref cda) cc)).getD true) ?_ (by
    rw [arm_eval_Call]
    unfold methodCall methodCallPos
    rw [hml]
    rfl)
  refine ks_wpAt_super_base (env := ksEnv qual iS hp.objs.size fI (.ref cda) cc) rfl rfl (by decide) rfl (X₁ _ _ ho) rfl rfl rfl (X₁ _ _ hcode) rfl hvs hfile T.top ?_
  refine ks_loadName_global rfl rfl (loadGlobal_builtin (env := ksEnv qual iS hp.objs.size fI (.ref cda) cc) (hg.keeps k) T.gs (hbt.keeps k) hmb ⟨rfl, ?_⟩)
  refine wpAny_loadName_free rfl rfl rfl ⟨_, X₁ _ _ hcell, rfl⟩ ?_
  refine wpAny_loadName_local rfl rfl hn ms ?_
  refine ks_wpAny_isType_cls hCo rfl ⟨rfl, ?_⟩
  refine ks_wpAny_call_super hCo rfl hx₁ rfl (fun c e => by cases e) (looks_mroIn X₁ T.subC) (fun h₂ eso k2 => ?_)
  have X₂ : K.In h₂ := X₁.keeps k2
  have hx₂ := k2 _ _ hx₁
  have sup := T.sup
  unfold ks_superIn at sup
  rw [hcl] at sup
  have hI : ∀ M, Looks M h₂ (isInstance (.ref x) (.type "ValueError")) true := fun M => (InstAt.type (ox := excO C t0) (od := none) ⟨hx₂, rfl, rfl, trivial⟩).andThen (looks_subIn X₂ T.subV)
  refine kxs_getMethod kxs_ValueError eso (looks_opaque X₂ T.opq) (l₀ := .ref C :: bm) (fun A Q E s k q => wpAny_bind ((looks_clsIn X₂ hcl) A _ E s k (wpAny_pure q))) rfl X₂ sup (hI _) hxC (by decide) ?_
  have k3' : ∀ b o, h₂.get? b = some o → (h₂.push (kxs_mw "ValueError.__init__" x)).get? b = some o := fun b o e => Heap.get?_push_of_some _ e
  have hu : (h₂.push (kxs_mw "ValueError.__init__" x)).get? h₂.objs.size = some (kxs_mw "ValueError.__init__" x) := Heap.get?_push_at rfl rfl
  refine kxs_callWith (i := "ValueError.__init__") (x := x) rfl ?_
  have hst : starEach [Expr.Constant (Const.str text) 0 p3] (ksEnv qual iS hp.objs.size fI (.ref cda) cc) = [(false, eval (Expr.Constant (Const.str text) 0 p3) (ksEnv qual iS hp.objs.size fI (.ref cda) cc))] := rfl
  rw [hst]
  refine evalArgs_plain (Calls.spliced_cons ?_)
  refine Calls.Constant_str (k := 0) (pos := p3) ?_
  refine Calls.spliced_nil ⟨hu, ?_⟩
  refine mw_call (k3' _ _ (X₂ _ _ hC)) (k3' _ _ hx₂) hu (by rw [sizeLine_eq]; exact (by decide : 1 ≤ 16777216)) fun h₃ t1 k3 hx₃ => ?_
  have kx : ∀ b o, b ≠ x → h₁.get? b = some o → h₃.get? b = some o := fun b o hb e => k3 b o hb (k3' _ _ (k2 _ _ e))
  have X₃ : K.In h₃ := fun a o e => kx a o (fun z => by rw [z, hnx] at e; cases e) (X₁ a o e)
  have hn₃ : h₃.Ns hp.objs.size (fun y => List.lookup y [(("self" : Str), Value.ref x), (("at" : Str), v)].reverse) := by
    obtain ⟨oL, es, ep, hL, r⟩ := hn
    exact ⟨oL, es, ep, kx _ _ hxL hL, r⟩
  refine ks_wpAt_execs_cons (ks_wpAt_Assign_Attr ?_)
  refine wpAt_of_wpAny (wpAny_Name (wpAny_loadName_local rfl rfl hn₃ ma ?_))
  refine wpAny_Name (wpAny_loadName_local rfl rfl hn₃ ms ?_)
  refine set_plain X₃ (ox := excO C t1) (od := none) ⟨hx₃, rfl, rfl, trivial⟩ T.sa ?_
  refine exc_osa X₃ hx₃ hcl (show refsVE (.ref C :: bm) = true from hbm) rfl T.noN (fun h₄ tk₄ dx k₄ dn dne hx₄ hn₄ => ?_)
  have sz : hp.objs.size ≤ h₃.objs.size := by
    have z : hp.objs.size < h₃.objs.size := hn₃.lt
    exact Nat.le_of_lt z
  refine wpAt_of_wpAny (wpAny_execs_nil ?_)
  exact hq h₄ tk₄ dx t1 ⟨fun b o hb e => k₄ b o hb (kx b o hb (k b o e)), hx₄, Nat.le_trans sz dn, dne, hn₄⟩
end
end ExN
end PySem

set_option maxHeartbeats 1000000
/-! DN1: DN0's __init__ as an FnOk; C(v) made: PMk -/
namespace L2
open PySem PySem.Spec PyProof.Rows
/-- __init__(self, at) of a fresh exception -/
def spExN (C : Addr) : Sp := fun vs H Q _ => ∃ (x : Addr) (v : V), vs = [.ref x, v] ∧ H x = some (exo x C none) ∧ ∀ dx, H dx = none → dx ≠ x → Q .non (upd (upd H dx (exd dx [(("at" : Str), v)])) x (exo x C (some dx)))
theorem fnOk_exn {P : Program} {w : World} {K : PySem.W.Frag} {mg : Str → Option Value} {base : Heap} {CX : CXT} {C fI cc cda : Addr} {qual text : Str} {fd : FuncData} (T : PySem.ExN.Txt P K mg C fI cc cda qual text fd) :
    FnOk P w K mg base CX 1 fI fd ["self", "at"] (spExN C) := by
  refine ⟨fun vs H Q E ⟨x, v, e, _⟩ => by rw [e]; rfl, fun A outer s H args us vs Q E hr e0 hb hv ⟨x, v, ev, ex, q⟩ => ?_⟩
  subst ev
  obtain ⟨u0, us, rfl, r0, hv⟩ : ∃ u0 us', us = u0 :: us' ∧ RelV (.ref x) u0 ∧ Vals [v] us' := by
    cases hv with | cons a b => exact ⟨_, _, rfl, a, b⟩
  obtain ⟨u1, rfl, r1⟩ : ∃ u1, us = [u1] ∧ RelV v u1 := by
    cases hv with | cons a b => cases b; exact ⟨_, rfl, a⟩
  obtain rfl : u0 = Value.ref x := r0
  have kb : ∀ b o, base.get? b = some o → s.heap.get? b = some o := fun b o e => (e0.bs b o e).1
  have KX : K.In s.heap := e0.mod.kin.keeps kb
  obtain ⟨mb, hmb, hbo⟩ := e0.mod.blt
  obtain ⟨t0, ho⟩ := exo_at e0.hok ex
  have xk : K.lookup x = none := by
    cases z : K.lookup x with
    | none => rfl
    | some o =>
      have y := (e0.bs _ _ (e0.mod.kin _ _ z)).2
      rw [ex] at y
      cases y
  have xC : x ≠ C := fun z => by
    obtain ⟨nm, q, N, bs, bm, sn, sub, ab, col, dd, k0, k1, k2, k3, k5, hC, hbm⟩ := T.cls
    rw [← z, xk] at hC
    cases hC
  refine PySem.ExN.own_init T KX (e0.mod.glob.keeps kb) (hmb.keeps kb) ((hbo "super" (by decide)).trans (by first | rfl | kernel_rfl)) (e0.mod.nolimit.keeps kb) ho xC xk hr.depth hb fun h' tk dx t1 ⟨k, hx, dn, dne, hn⟩ => ?_
  have hnd : H dx = none := e0.hok.fresh dn
  have nd : ∀ {b : Addr} {o : Obj}, s.heap.get? b = some o → b ≠ dx := fun {b o} q => Nat.ne_of_lt (Nat.lt_of_lt_of_le (Heap.lt_size q) dn)
  have na : ∀ {b : Addr}, H b = none → b ≠ x := fun {b} n z => by
    rw [z, ex] at n
    cases n
  have Un1 : Un (frs outer) [] H (upd (upd H dx (exd dx [(("at" : Str), v)])) x (exo x C (some dx))) s.heap h' := {
    keep := fun b o q n _ _ => k b o (na n) q
    slot := fun b o q n _ _ => ⟨o.slots, k b o (na n) q⟩
    free := fun b o q n _ => by rw [upd_ne (na n), upd_ne (nd q)]; exact n
    there := fun b o q _ => by
      by_cases hb : b = x
      · exact ⟨_, by rw [hb]; exact hx⟩
      · exact ⟨o, k b o hb q⟩
    tups := fun b xs q => by rw [upd_ne (at_ne ex q exo_tup), upd_ne (ne_of_none q hnd)]; exact q
    frzs := fun b o v q => by rw [upd_ne (at_ne ex q exo_frz), upd_ne (ne_of_none q hnd)]; exact q
    tbls := fun b ps q => ⟨#[], by rw [upd_ne (at_ne ex q exo_tbl), upd_ne (ne_of_none q hnd), q]; simp⟩ }
  refine ⟨.non, _, rfl, e0.bare, Un1, fun b o q => ?_, rfl, q dx hnd dne⟩
  by_cases hb : b = x
  · subst hb
    rw [upd_same] at q
    cases q
    exact exo_ok hx
  · rw [upd_ne hb] at q
    by_cases hd : b = dx
    · subst hd
      rw [upd_same] at q
      cases q
      exact exd_ok hn (relO_put (fs := []) r1 fun g => True.intro)
    · rw [upd_ne hd] at q
      exact (e0.hok b o q).stay (fun c v hc z => k c v (by
          rcases hc with hc | hc
          · rw [hc]
            exact hb
          · exact at_ne ex hc exo_own) z)
        (fun c hc => by rw [upd_ne (at_ne ex hc exo_own), upd_ne (ne_of_none hc hnd)]; exact hc) (fun c xs hc => by rw [upd_ne (at_ne ex hc exo_tup), upd_ne (ne_of_none hc hnd)]; exact hc)
end L2

set_option maxHeartbeats 1000000
/-! DN2: raise C(e), C an own class as in DN0 -/
namespace DL
open PySem PySem.Spec PyProof.Rows L2
/-- the class named x in the text: an own exception that keeps `at` -/
def ExnC (P : Program) (K : PySem.W.Frag) (mg : Str → Option Value) (x : Str) : Prop :=
  ∃ C fI cc cda qual text fd, PySem.ExN.Txt P K mg C fI cc cda qual text fd ∧ mg x = some (.ref C) ∧ PySem.W.findIn K (.ref C) "__init__" = some (some (.ref fI)) ∧ PySem.W.typeIn K (.ref fI) = some (.type "function") ∧
    PySem.W.subIn K (.ref C) (.type "BaseException") = some true ∧ PySem.W.typeIn K (.ref C) = some (.type "type") ∧ PySem.W.keepIn K (.ref C) = true
def one1 (ds : List D) (k : D → Prop) : Prop := match ds with
  | [d] => k d
  | _ => False
theorem one1_elim {ds : List D} {k : D → Prop} (h : one1 ds k) : ∃ d, ds = [d] ∧ k d := by
  unfold one1 at h
  split at h
  · exact ⟨_, rfl, h⟩
  · exact h.elim
def wRaise (x : Str) (wa : WA) : WS := fun _ Ψ ρ => wa ρ (fun ts ρ1 => wd (derefs ρ1 ts) fun ds => one1 ds fun d => d.isOwn = false ∧ Ψ ⟨x, some d⟩ ρ1) Ψ
section
variable {c : SC} {m : Bool} {pos : Pos}
theorem ds_raise {x : Str} {p pos2 : Pos} {e : Expr} {es : List Expr} {wa : WA} (G : ExnC c.P c.K c.mg x) (hk : 2 ≤ c.room) (ha : DA c m (e :: es) wa) (hg : GlC c.sc x := by rfl) (hdb : (x == ("__debug__" : Str)) = false := by decide)
    (he : ∀ env, starEach (e :: es) env = (false, eval e env) :: starEach es env := by intro _; rfl) (hpl : ∀ env, (backTo pos (starEach es env)).any (·.1) = false := by intro _; rfl) :
    DS c [] (.Raise (some (.Call (.Name x p) (e :: es) [] pos)) none pos2) (wRaise x wa) := by
  obtain ⟨ta, a1, a2⟩ := ha
  obtain ⟨C, fI, cc, cda, qual, text, fd, T, hm, iC, tI, exC, tyC, kC⟩ := G
  refine ⟨fun W => fun _ σ H => tMkO C (spExN C) [] (ta W) σ H fun cls d H' => W cls d σ H', fun X W fit tk => ?_, fun W Dd Ψ ρ hw σ F H A rel Dq q ex => ?_⟩
  · have z := fit.fit
    obtain ⟨e1, e2, e3, e4, e5, e6, e7, e8, e9, e10⟩ := z
    have T' : PySem.ExN.Txt X.prog X.K X.mg C fI cc cda qual text fd := by rw [e1, e3, e4]; exact T
    refine ps_raise e8 tk (pmk_oex (CX := fun _ _ _ _ _ _ => False) (k := 1) (fI := fI) (fd := fd) (ps := ["self", "at"]) (ds := []) (dvs := []) (sp := spExN C) ?_ (by rw [e3]; exact iC) (by rw [e3]; exact tI) (fnOk_exn T') (e9.mono hk) ?_ .nil (fun _ _ _ _ _ _ _ h => h.elim) (gl_of fit.fit hg) (by rw [e4]; exact hm) (a1 X W fit.fit tk) hdb (he X.env) (hpl X.env))
    · exact ⟨T'.cls, T'.sa, by rw [e3]; exact exC, by rw [e3]; exact tyC, by rw [e3]; exact kC⟩
    · obtain ⟨oc, od, doc, pm, an, ct, osl, b0, b1, p0, p1, p2, p3, p4, p5, q1, q2, q3, q4, rfl, ho, hml⟩ := T'.fn
      refine Binds.all fun us hu => ?_
      match us, hu with
      | [u, v], _ => with_unfolding_all rfl
  · refine a2 W ρ _ Ψ hw σ F H A rel _ (fun ts vs B ρ1 F1 H1 A1 hk ra af => ?_) ex.expr
    obtain ⟨ds, e1, hk⟩ := wd_elim hk
    obtain ⟨d, rfl, ho, hΨ⟩ := one1_elim hk
    have r := derefs_rep af.rel ra e1
    obtain ⟨v, B1, rfl, r1⟩ : ∃ v B1, vs = [v] ∧ Rep c.K F1 H1 d v B1 := by
      cases r with
      | cons r1 r2 => cases r2; exact ⟨_, _, rfl, r1⟩
    have eB := r1.own_nil ho
    subst eB
    refine ⟨(by decide : 1 ≤ 1000), fun a ha => ⟨a, v, rfl, by rw [upd_same], fun dx hdx hda => ⟨rfl, dx, _, by rw [upd_same], by rw [upd_ne hda, upd_same], ?_, ?_⟩⟩⟩
    · rwa [upd_ne hda] at hdx
    · have hd1 : H1 dx = none := by rwa [upd_ne hda] at hdx
      have eH : upd (del (upd (upd (upd H1 a (exo a C none)) dx (exd dx [(("at" : Str), v)])) a (exo a C (some dx))) a) dx (.xd [(("at" : Str), v)]) = upd H1 dx (.xd [(("at" : Str), v)]) := by
        funext b
        by_cases hb : b = dx
        · rw [hb, upd_same, upd_same]
        · rw [upd_ne hb, upd_ne hb]
          by_cases hb2 : b = a
          · rw [hb2, del_same, ha]
          · rw [del_ne hb2, upd_ne hb2, upd_ne hb, upd_ne hb2]
      rw [eH]
      obtain ⟨y, l⟩ := Ext.newF (o := .xd [(("at" : Str), v)]) af.rel.le hd1
      have af2 := (af.less (List.nil_sublist B)).pure y l List.nodup_nil
      have z := (af2.weak (m2 := false) fun e => by cases e).ext
      exact ex ⟨x, some d⟩ (.ref C) (some dx) ρ1 σ _ _ A1 hΨ ⟨C, hm, rfl, fun q e => by
        cases e
        exact ⟨dx, v, rfl, by rw [upd_same], r1.pure y.frz⟩⟩ af2.rel (z.le fun q m => List.mem_append_left _ m) Ag.refl
end
end DL

set_option maxHeartbeats 1000000
/-! DN3: try: body / except X as n: return (word, n.at) -/
namespace DL
open PySem PySem.Spec PyProof.Rows L2
/-- what the clause wants of the class named x -/
def ExnH (K : PySem.W.Frag) (mg : Str → Option Value) (x : Str) : Prop :=
  ∃ C, mg x = some (.ref C) ∧ XfC K C ∧ PySem.W.findIn K (.ref C) "at" = some none ∧ PySem.W.exmOne K (.ref C) (.ref C) = some true
def hasSlot (ρ : DEnv) (i : Nat) : Bool := decide (i < ρ.length)
/-- slot i: the clause's name -/
def wTryAt (i : Nat) (x word : Str) (wb : WS) : WS := fun De Ψ ρ => wb De (fun e ρ1 => e.cls = x ∧ hasSlot ρ1 i = true ∧ wd e.at_ fun d => De.rt (.tup [.str word, d]) ρ1) ρ
section
variable {c : SC} {m : Bool} {pos : Pos}
def tHand (C : Addr) (i : Nat) (word : Str) : Addr → Value → Option Addr → TS := fun a cls d => tRet (tTup (tCons (tC (.str word)) (tCons (tXf a cls d C "at" (tVar i)) tNil)))
theorem ds_tryAt (i : Nat) {x n word : Str} {ws : List Nat} {body : List Stmt} {wb : WS} {np p1 p2 p3 p4 p5 p6 : Pos} {k1 x1 : Nat} (G : ExnH c.K c.mg x) (hb : DSs c ws body wb) (hN : c.N.Nodup) (hi : c.N[i]? = some n := by rfl)
    (hl : c.sc.names.lookup n = some .local := by rfl) (hg : GlC c.sc x := by rfl) (hdb : (x == ("__debug__" : Str)) = false := by decide) (hd : (n == ("__debug__" : Str)) = false := by decide) (hcd : (n == ("__classdict__" : Str)) = false := by decide) :
    DS c ws (.Try body [.ExceptHandler (some (.Name x np)) (some n) [.Return (some (.Tuple [.Constant (.str word) k1 p1, .Attribute (.Name n p2) "at" p3] x1 p4)) p5] p6] [] [] pos) (wTryAt i x word wb) := by
  obtain ⟨t, t1, t2⟩ := hb
  obtain ⟨C, hm, T, hno, hex⟩ := G
  refine ⟨fun W => fun D σ H => t (wAs c.K (.ref C) i (tHand C i word) W D) D σ H, fun X W fit tk => ?_, fun W Dd Ψ ρ hw σ F H A rel Dq q ex => ?_⟩
  · have z := fit.fit
    obtain ⟨e1, e2, e3, e4, e5, e6, e7, e8, e9, e10⟩ := z
    have hln : X.env.kindOf n = some .local := by
      show X.env.scope.names.lookup n = _
      rw [e7]; exact hl
    rw [← e3]
    refine ps_try_as fit.stk fit.frm (by rw [e6]; exact hN) (by rw [e6]; exact hi) hln ⟨gl_of fit.fit hg, hdb, .inl (by rw [e4]; exact hm)⟩ tk (fun W' pn xe tk' po => t1 (X.tr pn xe) W' ⟨⟨e1, e2, e3, e4, e5, e6, e7, e8, e9, e10⟩, po, fit.stk, fit.frm⟩ tk') (fun a oe cls d pn hz hf => ?_)
    refine pss_one (ps_ret (pe_tup (pa_cons pe_str (pa_cons (pe_xf (by rw [e3]; exact T) (by rw [e3]; exact hno) hz hf (pe_var (by show X.N[i]? = _; rw [e6]; exact hi) (.inl hln) hd hcd)) pa_nil))))
  · refine t2 (wAs c.K (.ref C) i (tHand C i word) W Dq) _ _ _ hw σ F H A rel _ ⟨q.nx, q.bk, q.ct, q.rt⟩ fun e cls d ρ1 σ1 F1 H1 A1 hΨ hr rel1 ext ag => ?_
    obtain ⟨ec, hsl, hk⟩ := hΨ
    obtain ⟨v, ed, hk⟩ := wd_elim hk
    obtain ⟨C', hm', rfl, hat⟩ := hr
    have eC : C' = C := by
      rw [ec, hm] at hm'
      cases hm'
      rfl
    subst eC
    obtain ⟨dd, u, rfl, hF, ru⟩ := hat v ed
    have hlt : i < σ1.length := by
      rw [← rel1.env.length]
      exact of_decide_eq_true hsl
    refine ⟨true, hex, fun _ a ha => ?_, fun z => by cases z⟩
    refine ⟨.ref a, by rw [List.getElem?_set_self hlt], rfl, rfl, dd, _, u, rfl, rel1.le _ _ hF, by simp [List.lookup], by rw [sizeLine_eq]; exact (by decide : 2 ≤ 16777216), fun p hp => ?_⟩
    obtain ⟨y, l⟩ := Ext.newF (o := .tup [.str word, u]) rel1.le hp
    refine q.rt _ _ [] ρ1 σ1 _ _ A1 hk (.tup (by rw [upd_same]) (.cons (.str word) (.cons (ru.pure y.frz) .nil rfl) rfl)) (rel1.keeps y l) List.nodup_nil (fun _ m => (List.not_mem_nil m).elim) ?_ ag
    exact (Ext.trans (B1 := A1) ext y (fun _ m => (List.not_mem_nil m).elim) (fun _ m => m)).le fun _ m => by simpa using m
end
end DL

set_option maxHeartbeats 200000
/-! DN4: rewriting for DN2, DN3 -/
namespace DL
open PySem PySem.Spec PyProof.Rows L2
theorem one1_s {d : D} {k : D → Prop} : one1 [d] k = k d := Eq.trans rfl rfl
theorem hasSlot.ap {ρ : DEnv} {i : Nat} : hasSlot ρ i = decide (i < ρ.length) := Eq.trans rfl rfl
theorem wRaise.ap {x : Str} {wa : WA} {Dd : DEnds} {Ψ : PsiE} {ρ : DEnv} : wRaise x wa Dd Ψ ρ = wa ρ (fun ts ρ1 => wdk (derefs ρ1 ts) fun ds => one1 ds fun d => d.isOwn = false ∧ Ψ ⟨x, some d⟩ ρ1) Ψ := propext Iff.rfl
theorem wTryAt.ap {i : Nat} {x word : Str} {wb : WS} {Dd : DEnds} {Ψ : PsiE} {ρ : DEnv} : wTryAt i x word wb Dd Ψ ρ = wb Dd (fun e ρ1 => e.cls = x ∧ hasSlot ρ1 i = true ∧ wdk e.at_ fun d => Dd.rt (.tup [.str word, d]) ρ1) ρ := propext Iff.rfl
end DL

set_option maxHeartbeats 1000000
/-! DN5: ExnC, ExnH from what the written part tells -/
namespace DL
open PySem PySem.Spec PyProof.Rows L2
theorem exm_self {K : PySem.W.Frag} {S : Addr} (h1 : PySem.W.subIn K (.ref S) (.type "BaseException") = some true) (h2 : PySem.W.isClsIn K S = true) (h3 : PySem.W.typeIn K (.ref S) = some (.type "type")) (h4 : PySem.W.subIn K (.ref S) (.ref S) = some true) :
    PySem.W.exmOne K (.ref S) (.ref S) = some true := by
  have e1 : (PySem.W.subIn K (.ref S) (.type "BaseException") == some true) = true := by rw [h1] <;> rfl
  have e2 : ((PySem.W.clsIn K S).isSome && PySem.W.typeIn K (.ref S) == some (.type "type")) = true := by
    have h2' : (PySem.W.clsIn K S).isSome = true := h2
    rw [h2', h3] <;> rfl
  show (if (PySem.W.subIn K (.ref S) (.type "BaseException") == some true) = true then (if ((PySem.W.clsIn K S).isSome && PySem.W.typeIn K (.ref S) == some (.type "type")) = true then PySem.W.subIn K (.ref S) (.ref S) else none) else none) = some true
  rw [if_pos e1, if_pos e2]
  exact h4
theorem exn_mk {P : Program} {K : PySem.W.Frag} {h : Heap} {mg : Str → Option Value} {x qual text : Str} {C f1 cc cda : Addr} (X : K.In h) (G : h.Ns mainGlobals mg)
    {nm q : Str} {N : Addr} {bs bm : List Value} {sn : List Str} {sub : List Value} {ab : Bool} {col : Option Bool} {dd : Option Addr} {m0 m1 m2 m3 m5 : Option Value} {od1 an1 cdd cld : Option Addr} {sl1 ccs csl : Array (Option Value)} {oc1 dc1 pm1 ct1 ccl cl : Value}
    {Ar : Arguments} {B : List Stmt} {S : Scope} {vs : Array Value} {file : Str} {tf : Tok}
    (aC : PySem.W.nsIn K mainGlobals x = some (some (.ref C)))
    (xL : K.lookup C = some (excClassObj nm q C N bs bm true sn sub ab col dd m0 m1 m2 m3 m5 "ValueError.__new__")) (hbm : PySem.HandSPX.refsVE bm = true)
    (sa : PySem.W.findIn K (.ref C) "__setattr__" = some (some (.builtin "object.__setattr__"))) (ga : PySem.W.findIn K (.ref C) "__getattribute__" = some (some (.builtin "BaseException.__getattribute__"))) (gg : PySem.W.findIn K (.ref C) "__getattr__" = some none) (nb : PySem.W.findIn K (.ref C) "at" = some none)
    (a1 : PySem.W.findIn K (.ref C) "__init__" = some (some (.ref f1))) (t1 : PySem.W.typeIn K (.ref f1) = some (.type "function"))
    (l1 : K.lookup f1 = some ⟨oc1, od1, .func (PySem.W.fnX "__init__" qual Ar B S [("__class__", cc)] .none .none dc1 pm1 an1 (.ref cda) ct1), sl1⟩)
    (eA : ∃ b0 b1, Ar = PySem.ExN.iA b0 b1) (eB : ∃ p0 p1 p2 p3 p4 p5 q1 q2 q3 q4, B = PySem.ExN.iB text p0 p1 p2 p3 p4 p5 q1 q2 q3 q4 ∧ (p2.endLine == p4.line) = true) (eS : S = PySem.ExN.iS)
    (c1 : PySem.W.codeIn K (.ref cda) qual = true) (cd : K.lookup cda = some ⟨ccl, cdd, .fields vs, ccs⟩) (hvs : vs[2]? = some (.str file tf)) (hf : ((P.main.file : Str) == file) = true)
    (lc : K.lookup cc = some ⟨cl, cld, .cell (some (.ref C)), csl⟩)
    (kC : PySem.W.keepIn K (.ref C) = true) (eC : PySem.W.subIn K (.ref C) (.type "BaseException") = some true) (tC : PySem.W.typeIn K (.ref C) = some (.type "type")) (hC : PySem.W.hasDictIn K C = true) (iC : PySem.W.isClsIn K C = true) (sC : PySem.W.subIn K (.ref C) (.ref C) = some true)
    (sp : PySem.W.ks_superIn K C C "__init__" = some (some (.builtin "ValueError.__init__"))) (op : PySem.W.nsIn K cStatics "thirdparty.any" = some none) (sv : PySem.W.subIn K (.ref C) (.type "ValueError") = some true) (mc : PySem.W.mroIn K C (.ref C) = some true)
    (gs : PySem.W.nsIn K mainGlobals "super" = some none) (tp : (P.main.scope.names.lookup ("super" : Str)).isSome = false) : ExnC P K mg x ∧ ExnH K mg x := by
  obtain ⟨b0, b1, rfl⟩ := eA
  obtain ⟨p0, p1, p2, p3, p4, p5, q1, q2, q3, q4, rfl, hml⟩ := eB
  subst eS
  have hm := PySem.W.mg_of X G aC
  have T : PySem.ExN.Txt P K mg C f1 cc cda qual text _ :=
    { cls := ⟨nm, q, N, bs, _, sn, sub, ab, col, dd, m0, m1, m2, m3, m5, xL, hbm⟩, sa := sa, noN := nb, sup := sp, opq := op, subV := sv, subC := mc, gs := PySem.W.mg_none_of X G gs, cell := ⟨cl, cld, csl, lc⟩, code := ⟨ccl, cdd, vs, ccs, file, tf, cd, hvs, hf⟩, codeR := c1, top := tp,
      fn := ⟨oc1, od1, dc1, pm1, an1, ct1, sl1, b0, b1, p0, p1, p2, p3, p4, p5, q1, q2, q3, q4, rfl, l1, hml⟩ }
  exact ⟨⟨C, f1, cc, cda, qual, text, _, T, hm, a1, t1, eC, tC, kC⟩, ⟨C, hm, ⟨ga, gg, eC, hC⟩, nb, exm_self eC iC tC sC⟩⟩
end DL

set_option maxHeartbeats 1000000
/-! DN6: xs < ys of lists of ints -/
namespace DL
open PySem PySem.Spec PyProof.Rows L2
theorem holdInts {h : Heap} : ∀ {ns : List Int} {its : List Value}, L2.Vals (ns.map V.int) its → PySem.W.HoldAll h its ns
  | [], _, r => by
    cases r
    exact .nil
  | n :: ns, _, r => by
    cases r with
    | cons r1 r2 =>
      obtain ⟨t, rfl⟩ := r1
      exact .cons ⟨_, .int _ _⟩ (holdInts r2)
def rLtL (K : PySem.W.Frag) : R2 := fun x y H Q => ∃ a b ns ms, x = .ref a ∧ y = .ref b ∧ SqL K H a (ns.map V.int) ∧ SqL K H b (ms.map V.int) ∧ Q (.bl (PySem.W.listLt ns ms)) H
theorem op_ltL {X : Cx} (hu : X.A.units + 65 < cLine) : OpR X (compareOp .Lt) (rLtL X.K) := by
  intro pins s σ H x y v u Q I rx ry h
  obtain ⟨a, b, ns, ms, rfl, rfl, ha, hb, q⟩ := h
  cases rx
  cases ry
  obtain ⟨its, r1, p1, _⟩ := I.list ha
  obtain ⟨jts, r2, p2, _⟩ := I.list hb
  have g1 : PySem.W.Holds s.heap (.ref a) ns := PySem.W.holds_list (vs := its.toArray) p1.isList (by simpa using holdInts r1)
  have g2 : PySem.W.Holds s.heap (.ref b) ms := PySem.W.holds_list (vs := jts.toArray) p2.isList (by simpa using holdInts r2)
  exact PySem.W.lt_datum g1 g2 (Nat.lt_of_le_of_lt (Nat.add_le_add_left (show PySem.W.Datum.depth (List Int) ≤ 65 by decide) _) hu) ⟨.bl (PySem.W.listLt ns ms), H, I, rfl, q⟩
def opLtL : Op2 := fun x y k => wd (listOf x) fun xs => wd (listOf y) fun ys => wd (asInts xs) fun ns => wd (asInts ys) fun ms => k (.bl (PySem.W.listLt ns ms))
theorem os_ltL {K : PySem.W.Frag} : OpS2 K (rLtL K) opLtL := by
  intro x y k h F H vx vy Bx By l rx ry Q q
  obtain ⟨xs, e1, ha⟩ := wd_elim h
  obtain ⟨ys, e2, hb⟩ := wd_elim ha
  obtain ⟨ns, e3, hc⟩ := wd_elim hb
  obtain ⟨ms, e4, hd⟩ := wd_elim hc
  clear h ha hb hc
  have e3 := asInts_eq e3
  have e4 := asInts_eq e4
  subst e3 e4
  obtain ⟨a, us, A1, rfl, h1, r1, _⟩ := rx.listOf l e1
  obtain ⟨b, vs, A2, rfl, h2, r2, _⟩ := ry.listOf l e2
  obtain ⟨rfl, rfl⟩ := r1.ints
  obtain ⟨rfl, rfl⟩ := r2.ints
  exact ⟨_, _, _, _, rfl, rfl, h1, h2, q _ _ [] F H hd (.bl _) List.nodup_nil Ext.nop l⟩
section
variable {c : SC} {m m2 : Bool} {a b : Expr} {wa wb : WE} {pos : Pos}
theorem de_ltL (ha : DE c m a wa) (hb : DE c m2 b wb) (hm : behindInMarks .Lt b = false := by rfl) : DE c (m && m2) (.Compare a [.Lt] [b] pos) (w2 m2 opLtL wa wb) := de_cmp (r := rLtL) (fun X fit => op_ltL fit.u65) os_ltL ha hb hm
theorem dt_ltL (ha : DE c m a wa) (hb : DE c m2 b wb) (hm : behindInMarks .Lt b = false := by rfl) : DT c (m && m2) (.Compare a [.Lt] [b] pos) (wTest (w2 m2 opLtL wa wb)) := dt_cmp (r := rLtL) (fun X fit => op_ltL fit.u65) os_ltL ha hb hm
end
theorem opLtL_n (o p : Bool) (a b : List Nat) (k : D → Prop) : opLtL (.lst o (natsD a)) (.lst p (natsD b)) k = k (.bl (PySem.W.listLt (a.map Int.ofNat) (b.map Int.ofNat))) := by
  unfold opLtL
  simp only [listOf, wd_some, asInts_nats]
end DL

set_option maxHeartbeats 0
namespace LX
open PySem PySem.Spec PyProof.Rows L2 DL

theorem natsD_snoc_r (l : List Nat) (x : Nat) : natsD l ++ [.int (x : Nat)] = natsD (l ++ [x]) := (natsD_snoc l x).symm
theorem natsD_app_r (l m : List Nat) : natsD l ++ natsD m = natsD (l ++ m) := (natsD_app l m).symm
theorem pairsD_app_r (l m : List (Nat × Nat)) : pairsD l ++ pairsD m = pairsD (l ++ m) := (pairsD_app l m).symm
theorem pairsD_snoc_r (l : List (Nat × Nat)) (x : Nat × Nat) : pairsD l ++ [pairD x] = pairsD (l ++ [x]) := (pairsD_snoc l x).symm
theorem List_map_take_r {α β : Type} {f : α → β} {l : List α} {i : Nat} : (l.map f).take i = (l.take i).map f := List.map_take.symm
theorem List_map_drop_r {α β : Type} {f : α → β} {l : List α} {i : Nat} : (l.map f).drop i = (l.drop i).map f := List.map_drop.symm
theorem natsD_take (l : List Nat) (i : Nat) : (natsD l).take i = natsD (l.take i) := by unfold natsD; rw [List.map_take]
theorem natsD_drop (l : List Nat) (i : Nat) : (natsD l).drop i = natsD (l.drop i) := by unfold natsD; rw [List.map_drop]
theorem natsD_map {α : Type} (l : List α) (f : α → Nat) : l.map (fun x => D.int (f x : Nat)) = natsD (l.map f) := by rw [natsD, List.map_map]; rfl
theorem pairsD_map {α : Type} (l : List α) (f : α → Nat × Nat) : l.map (fun x => pairD (f x)) = pairsD (l.map f) := by rw [pairsD, List.map_map]; rfl
theorem natsD_id (l : List Nat) : l.map (fun x => D.int (x : Nat)) = natsD l := rfl
theorem pairsD_emp (l : List (Nat × Nat)) : (pairsD l).isEmpty = l.isEmpty := by cases l <;> rfl
theorem lc_deal {α : Type} (g f : α → D) {vs : List Nat} {wg : WG} {wt : WT} {we : WE} {k : List D → DEnv → Prop} (R : DealS → DEnv) {l : List α}
    (hs : ∀ a, a ∈ l → ∀ (s : DealS) (acc : List D) (kk : DEnv → List D → Prop), acc.length < sizeLine → (∀ s', kk (R s') (acc ++ [f a])) → (∀ s', kk (R s') acc) → wg (g a) (R s) fun ρ1 => wt ρ1 (fun b ρ2 => if b = true then we ρ2 (fun t ρ3 => acc.length < sizeLine ∧ wd (elemT t ρ3) fun q => kk (wipeD q.2 vs) (acc ++ [q.1])) noPsi else kk (wipeD ρ2 vs) acc) noPsi)
    (hl : l.length ≤ sizeLine) (hd : ∀ (s' : DealS) (l' : List α), l'.Sublist l → k (l'.map f) (R s')) (s : DealS) : lcGok vs wg wt we k (l.map g) (R s) [] := by
  have main : ∀ (m p done : List α) (s : DealS), l = p ++ m → done.Sublist p → lcGo vs wg wt we k (m.map g) (R s) (done.map f) := by
    intro m
    induction m with
    | nil =>
      intro p done s e h
      rw [List.map_nil, lcGo_nil]
      exact hd s done (by rw [e, List.append_nil]; exact h)
    | cons a m ih =>
      intro p done s e h
      have hle := h.length_le
      have hl2 : p.length + (m.length + 1) ≤ sizeLine := by rw [e] at hl; simpa using hl
      refine hs a (by rw [e]; simp) s (done.map f) _ (by rw [List.length_map]; omega) (fun s' => ?_) (fun s' => ?_)
      · have := ih (p ++ [a]) (done ++ [a]) s' (by rw [e]; simp) (h.append (List.Sublist.refl _))
        rwa [List.map_append] at this
      · exact ih (p ++ [a]) done s' (by rw [e]; simp) (h.trans (List.sublist_append_left _ _))
  exact main l [] [] s rfl (List.Sublist.refl _)
theorem lc_dealV {α : Type} (g : α → D) (P : Nat → Prop) {vs : List Nat} {wg : WG} {wt : WT} {we : WE} {k : List D → DEnv → Prop} (R : DealS → DEnv) {l : List α}
    (hs : ∀ a, a ∈ l → ∀ (s : DealS) (acc : List D) (kk : DEnv → List D → Prop), acc.length < sizeLine → (∀ s' v, P v → kk (R s') (acc ++ [.int (v : Nat)])) → wg (g a) (R s) fun ρ1 => wt ρ1 (fun b ρ2 => if b = true then we ρ2 (fun t ρ3 => acc.length < sizeLine ∧ wd (elemT t ρ3) fun q => kk (wipeD q.2 vs) (acc ++ [q.1])) noPsi else kk (wipeD ρ2 vs) acc) noPsi)
    (hl : l.length ≤ sizeLine) (hd : ∀ (s' : DealS) (us : List Nat), us.length = l.length → (∀ v ∈ us, P v) → k (natsD us) (R s')) (s : DealS) : lcGok vs wg wt we k (l.map g) (R s) [] := by
  have main : ∀ (m : List α) (done : List Nat) (s : DealS), (∀ a ∈ m, a ∈ l) → done.length + m.length = l.length → (∀ v ∈ done, P v) → lcGo vs wg wt we k (m.map g) (R s) (natsD done) := by
    intro m
    induction m with
    | nil =>
      intro done s _ e h
      rw [List.map_nil, lcGo_nil]
      exact hd s done (by simpa using e) h
    | cons a m ih =>
      intro done s hm e h
      have e' : done.length + (m.length + 1) = l.length := e
      refine hs a (hm a List.mem_cons_self) s (natsD done) _ (by rw [natsD_len]; omega) (fun s' v hv => ?_)
      rw [natsD_snoc_r]
      exact ih (done ++ [v]) s' (fun x hx => hm x (List.mem_cons_of_mem _ hx)) (by simp; omega) fun x hx => by
        rcases List.mem_append.mp hx with hx | hx
        · exact h x hx
        · rw [List.mem_singleton.mp hx]; exact hv
  exact main l [] s (fun _ h => h) (by simp) (by simp)
theorem sortN_lt {r : List Nat} (h : r.Nodup) : (sortN r).Pairwise (· < ·) := by
  have h1 : (sortN r).Pairwise (· ≤ ·) := by
    unfold sortN
    exact List.Pairwise.map Int.toNat (fun a b hab => Int.toNat_le_toNat hab) (sortI_le _)
  have h2 : (sortN r).Nodup := (sortN_perm r).nodup_iff.mpr h
  exact (h1.and h2).imp fun ⟨a, b⟩ => Nat.lt_of_le_of_ne a b
/-- rows in ascending order, too -/
structure Rul (n : Nat) (t : List (List Nat)) : Prop extends Graph n t where
  srt : ∀ x, (row t x).Pairwise (· < ·)
theorem mem_add2 {t : List (List Nat)} {x y c z : Nat} (hx : x < t.length) (hy : y < t.length) : z ∈ row (addE (addE t x y) y x) c ↔ z ∈ row t c ∨ ((c, z) = (x, y) ∨ (z, c) = (x, y)) := by
  rw [mem_addE (by rw [addE_len]; exact hy), mem_addE hx, Prod.mk.injEq, Prod.mk.injEq, or_assoc]
  constructor
  · rintro (h | ⟨rfl, rfl⟩ | ⟨rfl, rfl⟩)
    · exact .inl h
    · exact .inr (.inl ⟨rfl, rfl⟩)
    · exact .inr (.inr ⟨rfl, rfl⟩)
  · rintro (h | ⟨rfl, rfl⟩ | ⟨rfl, rfl⟩)
    · exact .inl h
    · exact .inr (.inl ⟨rfl, rfl⟩)
    · exact .inr (.inr ⟨rfl, rfl⟩)
theorem mem_sort {t : List (List Nat)} {x z : Nat} : z ∈ row (t.map sortN) x ↔ z ∈ row t x := by
  rw [row_map (f := sortN) rfl]
  exact (sortN_perm _).mem_iff
theorem _root_.DL.Graph.rul {n : Nat} {t : List (List Nat)} (G : Graph n t) : Rul n (t.map sortN) := { G.sort with srt := fun x => by rw [row_map (f := sortN) rfl]; exact sortN_lt (G.nd x) }
def Joi (ps : List (Nat × Nat)) (t : List (List Nat)) : Prop := ∀ c z, z ∈ row t c ↔ (c, z) ∈ ps ∨ (z, c) ∈ ps
theorem Joi.zero (n : Nat) : Joi [] (List.replicate n []) := fun c z => by rw [row_rep]; simp
theorem Joi.add {ps : List (Nat × Nat)} {t : List (List Nat)} {x y : Nat} (J : Joi ps t) (hx : x < t.length) (hy : y < t.length) : Joi (ps ++ [(x, y)]) (addE (addE t x y) y x) := fun c z => by
  rw [mem_add2 hx hy, J c z]
  simp only [List.mem_append, List.mem_singleton]
  constructor
  · rintro ((h | h) | h | h)
    · exact .inl (.inl h)
    · exact .inr (.inl h)
    · exact .inl (.inr h)
    · exact .inr (.inr h)
  · rintro ((h | h) | h | h)
    · exact .inl (.inl h)
    · exact .inr (.inl h)
    · exact .inl (.inr h)
    · exact .inr (.inr h)
theorem Joi.sort {ps : List (Nat × Nat)} {t : List (List Nat)} (J : Joi ps t) : Joi ps (t.map sortN) := fun c z => by rw [mem_sort]; exact J c z
/-- the same under other names -/
def Ren (n : Nat) (t t' : List (List Nat)) : Prop := ∃ m : List Nat, m.Perm (List.range n) ∧ ∀ x y, x < n → y < n → (mk m y ∈ row t' (mk m x) ↔ y ∈ row t x)
def Irr (t : List (List Nat)) : Prop := ∀ x, x ∉ row t x
theorem Ren.irr {n : Nat} {t t' : List (List Nat)} (G : Graph n t') (R : Ren n t t') (h : Irr t) : Irr t' := by
  obtain ⟨m, pm, hm⟩ := R
  intro x hx
  have lx := G.lt x x hx
  have : x ∈ m := pm.mem_iff.mpr (List.mem_range.mpr lx)
  obtain ⟨i, hi, e⟩ := List.getElem_of_mem this
  have hin : i < n := by rw [← List.length_range (n := n), ← pm.length_eq]; exact hi
  have e2 : mk m i = x := by unfold mk; simp [hi, e]
  rw [← e2] at hx
  exact h i ((hm i i hin hin).mp hx)
theorem rep_emp (l : List Nat) (c : D) : (l.map fun _ => c).isEmpty = l.isEmpty := by cases l <;> rfl
theorem filter_emp {l : List Nat} {p : Nat → Bool} : (l.filter p).isEmpty = l.all fun x => !p x := by
  induction l with
  | nil => rfl
  | cons x l ih =>
    rw [List.all_cons, ← ih]
    by_cases h : p x = true
    · rw [List.filter_cons_of_pos h, h]; rfl
    · rw [List.filter_cons_of_neg h]
      have : p x = false := by simpa using h
      rw [this]; rfl
theorem rep_ok (n : Nat) (l : List Nat) : D.oks n (l.map fun _ => D.int 1) = true := by
  induction l with
  | nil => exact oks_nil
  | cons x l ih => rw [List.map_cons, oks_cons, ih, ok_int]; rfl
theorem sc_nil (o : Bool) (xs : List D) : (scalD (.lst o xs) (.lst true []) || D.oks 63 xs) = D.oks 63 xs := rfl
def isIntD (d : D) : Bool := D.isi "int" d && !(D.isi "bool" d)
theorem isInt_int (i : Int) : isIntD (.int i) = true := rfl
theorem dec_lt (a b : Nat) : decide ((a : Int) < (b : Int)) = decide (a < b) := by
  by_cases h : a < b
  · rw [decide_eq_true h, decide_eq_true (by omega)]
  · rw [decide_eq_false h, decide_eq_false (by omega)]
theorem dec_le (a b : Nat) : decide ((a : Int) ≤ (b : Int)) = decide (a ≤ b) := by
  by_cases h : a ≤ b
  · rw [decide_eq_true h, decide_eq_true (by omega)]
  · rw [decide_eq_false h, decide_eq_false (by omega)]
theorem dec_0le (a : Nat) : decide ((0 : Int) ≤ (a : Int)) = true := decide_eq_true (by omega)
theorem bq0 : (((0 : Nat) : Int) == 0) = true := rfl
theorem bq1 : (((1 : Nat) : Int) == 1) = true := rfl
theorem bq2 : (((2 : Nat) : Int) == 2) = true := rfl
theorem bq3 : (((3 : Nat) : Int) == 3) = true := rfl
theorem bq4 : (((4 : Nat) : Int) == 4) = true := rfl
theorem bq5 : (((5 : Nat) : Int) == 5) = true := rfl
theorem bq6 : (((6 : Nat) : Int) == 6) = true := rfl
theorem bq7 : (((7 : Nat) : Int) == 7) = true := rfl
theorem bq8 : (((8 : Nat) : Int) == 8) = true := rfl
theorem bq9 : (((9 : Nat) : Int) == 9) = true := rfl
theorem bq10 : (((10 : Nat) : Int) == 10) = true := rfl
theorem bq11 : (((11 : Nat) : Int) == 11) = true := rfl
theorem bq12 : (((12 : Nat) : Int) == 12) = true := rfl
theorem bq13 : (((13 : Nat) : Int) == 13) = true := rfl
theorem natsD_set (l : List Nat) (i k : Nat) : (natsD l).set i (.int (k : Nat)) = natsD (l.set i k) := by unfold natsD; rw [List.map_set]

end LX

set_option maxHeartbeats 0
namespace LX
open PySem PySem.Spec PyProof.Rows L2 DL
local macro_rules | `(tactic| k_search ⟨$es,*⟩) => `(tactic| simp only [$[$es:term],*, ↓wVar.ap, ↓wC.ap, ↓w1.ap, ↓w2.ap, ↓wTest.ap, ↓wAnd.ap, ↓wOr.ap, ↓wNot.ap, ↓wAndV.ap, ↓wOrV.ap, ↓wNotV.ap, ↓wIf.ap, ↓wNil.ap, ↓wCons.ap, ↓wN.ap, ↓wTup.ap, ↓wTupQ.ap, ↓wLstO.ap, ↓wLst.ap, ↓wIx.ap, ↓wNoPart.ap, ↓wPart.ap, ↓wSlice.ap, ↓wSeq.ap, ↓wRange1.ap, ↓wRange2.ap, ↓wEnum.ap, ↓wZip.ap, ↓wgName.ap, ↓wgsNil.ap, ↓wgsCons.ap, ↓wgTup.ap, ↓wYes.ap, ↓wLc.ap, ↓wNext.ap, ↓wsSeq.ap, ↓wBreak.ap, ↓wCont.ap, ↓wAsg.ap, ↓wAsgF.ap, ↓wRet.ap, ↓wRetN.ap, ↓wDrop.ap, ↓wsIf.ap, ↓wFor.ap, ↓wCall.ap, ↓wAppend.ap, ↓wPop.ap, ↓wPopAt.ap, ↓wSetIx.ap, ↓wTgF.ap, ↓wPar.ap, ↓wChain.ap, ↓wCallP.ap, ↓wBoth.ap, ↓wLc2.ap, ↓wListRg1.ap, ↓wTupRg1.ap, ↓wListRg2.ap, ↓wJoin.ap, ↓opAdd_i, ↓opAdd_s, ↓opAdd_t, ↓opAdd_l, ↓opSub_i, ↓opMod_i, ↓opDiv_i, ↓opMul_i, ↓opMul_l, ↓opMul_t, ↓opPow_i, ↓opNeg_i, ↓opLt_i, ↓opLe_i, ↓opGt_i, ↓opGe_i, ↓opIs_n, ↓opIs_b, ↓opIsNot_n, ↓opIsNot_b, ↓opEq_ap, ↓opNe_ap, ↓opIn_l, ↓opIn_t, ↓opIn_s, ↓opNotIn_l, ↓opNotIn_t, ↓opNotIn_s, ↓opLen_t, ↓opLen_l, ↓opLen_r, ↓opLen_s, ↓opTuple_t, ↓opTuple_l, ↓opTuple_r, ↓opList_t, ↓opList_l, ↓opList_r, ↓opSorted_l, ↓opAbs_i, ↓opMax2_i, ↓opMin2_i, ↓opInt_i, ↓opInt_b, ↓opInt_s, ↓opStr_i, ↓opAll_l, ↓opAny_l, ↓opRev_l, ↓opIsi_ap, ↓sliceD_t, ↓sliceD_l, ↓sliceD_r, ↓outOk_ap, ↓scal_int, ↓ixl_1_0, ↓ixl_1_m, ↓ixl_2_0, ↓ixl_2_1, ↓ixl_2_m, ↓ixl_3_0, ↓ixl_3_1, ↓ixl_3_2, ↓ixl_3_m, ↓ixl_4_0, ↓ixl_4_1, ↓ixl_4_2, ↓ixl_4_3, ↓ixl_4_m, ↓wdk_some, ↓asIk_int, ↓asBk_bl, ↓asLOk_lst, ↓ifk_t, ↓ifk_f, ↓lcGok_nil, ↓forGok_nil, ↓whilek_ap, ↓popD_ap, ↓item_tup, ↓item_lst, ↓item_ro, ↓itemD_st, ↓asI_int, ↓asB_bl, ↓asLO_lst, ↓wd_some, ↓lcGo_nil, ↓forGo_nil, lk0, lkS, wd_some, asI_int, asB_bl, asLO_lst, deref_val, deref_slot, deref_sub, moveT_val, moveT_slot, elemT_val, elemT_slot, frzT_val, frzT_slot, frzTs_nil, frzTs_cons, takeTs_nil, takeTs_cons, takeT1_tv, takeT1_ts, takeT1_f, putBack_s, putBack_n, putBack_nil, outArgs_nil, outArgs_t, outArgs_f, own_lst, own_tup, own_int, own_bl, own_str, own_non, own_ro, frz_tup, frz_int, frz_bl, frz_str, frz_non, frz_ro, frz_lstF, frz_lstT, frzs_nil, frzs_cons, valsT_nil, valsT_val, derefs_nil, derefs_cons, stable_val, stable_slot, stable_sub, placeT_slot, placeT_sub, itemsD_tup, itemsD_lst, itemsD_ro, itemsD_str, seqD_tup, seqD_lst, seqD_ro, listOf_lst, listOf_ro, walk_nil, walk_lst, setP_nil2, setP_lst, item_tup, item_lst, item_ro, itemD_st, atT_val, atT_int, atT_tup, atT_str, atT_lstT, atT_lstF, subT_slot, subT_sub, popD_ap, setPlace_ap, wipeD_nil, wipeD_cons, storeD_nil, storeD_cons, wdk_some, asIk_int, asBk_bl, asLOk_lst, ifk_t, ifk_f, lcGok_nil, forGok_nil, lcGo_nil, forGo_nil, pureL_nil, pureL_cons, opAdd_i, opAdd_s, opAdd_t, opAdd_l, opSub_i, opMod_i, opDiv_i, opMul_i, opMul_l, opMul_t, opPow_i, opNeg_i, opLt_i, opLe_i, opGt_i, opGe_i, opIs_n, opIs_b, opIsNot_n, opIsNot_b, opEq_ap, opNe_ap, opIn_l, opIn_t, opIn_s, opNotIn_l, opNotIn_t, opNotIn_s, opLen_t, opLen_l, opLen_r, opLen_s, opTuple_t, opTuple_l, opTuple_r, opList_t, opList_l, opList_r, opSorted_l, opAbs_i, opMax2_i, opMin2_i, opInt_i, opInt_b, opInt_s, opStr_i, opAll_l, opAny_l, opRev_l, opIsi_ap, sliceD_t, sliceD_l, sliceD_r, outOk_ap, scal_int, ixl_1_0, ixl_1_m, ixl_2_0, ixl_2_1, ixl_2_m, ixl_3_0, ixl_3_1, ixl_3_2, ixl_3_m, ixl_4_0, ixl_4_1, ixl_4_2, ixl_4_3, ixl_4_m, Option.bind_some, Option.map_some, List.set_cons_zero, List.set_cons_succ, List.set_nil, List.length_cons, List.length_nil, List.length_set, List.getElem?_cons_zero, List.getElem?_cons_succ, List.cons_append, List.nil_append, Bool.or_true, Bool.true_or, Bool.false_or, Bool.or_false, Bool.and_true, Bool.true_and, Bool.and_false, Bool.false_and, Bool.not_true, Bool.not_false, if_true, if_false, ite_true, ite_false, Bool.false_eq_true, eq_self, true_and, and_true, false_and, and_false, Nat.reduceAdd, Nat.reduceLT, Nat.zero_add, List.filterMap_cons, List.filterMap_nil, id_eq, List.nodup_nil, List.map_cons, List.map_nil, Nat.reduceSub, List.all_nil, List.all_cons, nodup1, sz1, sz2, sz3, sz4, sz5, sz6, sz7, sz8, sz9, sz10, sz11, sz12, Nat.zero_le, enumRows, ownRows_len, ownRows_at, ownRows_set, ownRows_frz, rangeD_nat0, rangeD_nat, asInts_nats, sortN_D, Int.toNat_natCast, natsD_len, natsD_at, natsD_frz, natsD_pure, natsD_nil, rowsD_len, rowsD_at, rowsD_frz, rowsD_pure, rowT_ap, pairsD_nil, pairsD_len, pairsD_frz, pairsD_pure, pairsD_at, tabD, flat_int, natsD_flat, natsD_in, eqv_int, beq_nat, natsD_ok, deal_own, eqv_tups, natsD_eqv, ok_int, ok_tup, ok_lst, oks_nil, eqv_nil, natsD_emp, bq0, bq1, bq2, bq3, bq4, bq5, bq6, bq7, bq8, bq9, bq10, bq11, bq12, bq13])

/-! _law_any -/
abbrev N_law_any : List Str := ["deal", "bound", "rest"]
abbrev w_law_any : WS := (wsSeq (wWhile (wAnd (wTest (w2 true opNe (wIx true (wVar 0) (wC (.int 0))) (wLstO wNil))) (wTest (w2 true opEq (wIx true (wIx true (wVar 0) (wC (.int 0))) (w1 opNeg (wC (.int 1)))) (wC (.int 0))))) (wDrop (wPop (wIx true (wVar 0) (wC (.int 0))))))
    (wsSeq (wsIf (wTest (w2 true opNe (wIx true (wVar 0) (wC (.int 0))) (wLstO wNil))) (wsSeq (wAsg 2 (wN opInt (wCons true (wPop (wIx true (wVar 0) (wC (.int 0)))) wNil)))
    (wsSeq (wDrop (wAppend true (wIx true (wVar 0) (wC (.int 0))) (wCons true (w2 true opDiv (wVar 2) (wVar 1)) wNil)))
    (wRet (w2 true opMod (wVar 2) (wVar 1))))) wNext)
    (wsSeq (wSetIx (w2 true opMod (wN opInt (wCons true (w2 true opAdd (w2 true opMul (wIx true (wVar 0) (wC (.int 1))) (wC (.int 40693))) (wC (.int 71))) wNil)) (wC (.int 2147483647))) (wVar 0) (wC (.int 1)))
    (wRet (w2 true opMod (wN opInt (wCons true (w2 true opDiv (wIx true (wVar 0) (wC (.int 1))) (wC (.int 64))) wNil)) (wVar 1))))))
abbrev io_law_any : List Bool := [true, false]

def fs_law_any : FS := fun ds Φ _ => ∃ (s : DealS) (bound : Nat), ds = [dealD s, .int bound] ∧ 0 < bound ∧ bound < 2 ^ 62 ∧ ∀ (s' : DealS) (r : Nat), r < bound → Φ (.int r) [dealD s', .int bound]
theorem hl_law_any : ∀ ds Φ Ψ, fs_law_any ds Φ Ψ → ds.length = 2 := by
  rintro ds Φ Ψ ⟨s, b, rfl, _⟩
  rfl
theorem st_law_any (a b : D) : startD N_law_any [a, b] = [some a, some b, none] := rfl
theorem h_law_any : ∀ ds Φ Ψ, fs_law_any ds Φ Ψ → w_law_any ⟨fun ρ => outOk io_law_any ds ρ (Φ .non), fun d ρ => outOk io_law_any ds ρ (Φ d), fun _ => False, fun _ => False⟩ (fun x ρ => outOk io_law_any ds ρ (Ψ x)) (startD N_law_any ds) := by
  rintro ds Φ Ψ ⟨s, bound, rfl, h0, hb, hΦ⟩
  k_search ⟨st_law_any, w_law_any, dealD, io_law_any⟩
  refine while_runk (I := fun n ρ => ∃ s : DealS, s.ns.length = n ∧ ρ = [some (dealD s), some (.int bound), none]) ?_ (n := s.ns.length) ⟨s, rfl, rfl⟩
  rintro n k hk ρ ⟨s, rfl, rfl⟩
  obtain ⟨ns, b, hl, hb2⟩ := s
  -- the number drawn by b alone
  have hB : ∀ ns : List Nat, ∀ hl : ns.length ≤ 100, Φ (D.int ((↑b * 40693 + 71) % 2147483647 / 64 % ↑bound)) [D.lst true [D.lst true (natsD ns), D.int ((↑b * 40693 + 71) % 2147483647)], D.int ↑bound] := by
    intro ns hl
    have e1 : ((b : Int) * 40693 + 71) % 2147483647 = (((b * 40693 + 71) % 2147483647 : Nat) : Int) := by omega
    have e2 : (((b * 40693 + 71) % 2147483647 : Nat) : Int) / 64 % (bound : Int) = (((b * 40693 + 71) % 2147483647 / 64 % bound : Nat) : Int) := by norm_cast
    rw [e1, e2]
    exact hΦ ⟨ns, (b * 40693 + 71) % 2147483647, hl, by omega⟩ _ (Nat.mod_lt _ h0)
  have cb : (b : Int).natAbs.log2 + (Int.natAbs 40693).log2 < 1000000 := by
    have := log_small (n := b) (by omega)
    have e : (b : Int).natAbs = b := by omega
    have e2 : (Int.natAbs 40693).log2 = 15 := by decide
    rw [e, e2]; omega
  have c64 : (0 : Int) < 64 ∧ (Int.natAbs 64).log2 < 9000 := by decide
  have z : 0 ≤ sizeLine := Nat.zero_le _
  rcases List.eq_nil_or_concat ns with e | ⟨l, x, e⟩
  · subst e
    k_search ⟨dealD, List.isEmpty_nil, io_law_any⟩
    exact ⟨cb, by decide, c64, by omega, hB [] hl⟩
  · subst e
    have hbd : (0 : Int) < bound ∧ (bound : Int).natAbs.log2 < 9000 := by
      refine ⟨by omega, ?_⟩
      have e : (bound : Int).natAbs = bound := by omega
      have := log_small (n := bound) (by omega)
      rw [e]; omega
    have hl2 : l.length + 1 ≤ 100 := by simpa using hl
    have sl : l.length < sizeLine := Nat.lt_of_lt_of_le (by omega : l.length < 100) (by decide)
    k_search ⟨dealD, List.concat_eq_append, natsD_snoc, List.length_append, ix_snoc, natsD_get, natsD_erase, natsD_ok1, emp_snoc, Nat.add_sub_cancel, io_law_any⟩
    by_cases hx : x = 0
    · subst hx
      have e0 : (((0 : Nat) : Int) == 0) = true := rfl
      k_search ⟨e0, dealD, List.concat_eq_append, natsD_snoc, List.length_append, ix_snoc, natsD_get, natsD_erase, natsD_ok1, emp_snoc, Nat.add_sub_cancel, io_law_any⟩
      exact hk l.length _ (by simp) ⟨⟨l, b, by omega, hb2⟩, rfl, rfl⟩
    · have e0 : ((x : Int) == 0) = false := by
        apply beq_eq_false_iff_ne.mpr
        omega
      k_search ⟨e0, dealD, List.concat_eq_append, natsD_snoc, List.length_append, ix_snoc, natsD_get, natsD_erase, natsD_ok1, emp_snoc, Nat.add_sub_cancel, io_law_any⟩
      refine ⟨hbd, sl, hbd.1, ?_⟩
      have e1 : ((x : Int) / (bound : Int)) = ((x / bound : Nat) : Int) := by norm_cast
      have e2 : ((x : Int) % (bound : Int)) = ((x % bound : Nat) : Int) := by norm_cast
      rw [e1, e2, ← natsD_snoc]
      exact hΦ ⟨l ++ [x / bound], b, by simpa using hl2, hb2⟩ _ (Nat.mod_lt _ h0)

/-! _law_of -/
abbrev N_law_of : List Str := ["deal", "some"]
abbrev w_law_of : WS := (wRet (wIx false (wVar 1) (wCall [true, false] fs_law_any (wCons true (wVar 0) (wCons true (wN opLen (wCons true (wVar 1) wNil)) wNil)))))
abbrev io_law_of : List Bool := [true, false]

def fs_law_of : FS := fun ds Φ _ => ∃ (s : DealS) (xs : List D) (d : D), ds = [dealD s, d] ∧ (d = .lst false xs ∨ d = .tup xs) ∧ 0 < xs.length ∧ xs.length < 2 ^ 62 ∧ ∀ (s' : DealS) (i : Nat) (x : D), xs[i]? = some x → Φ x [dealD s', d]
theorem hl_law_of : ∀ ds Φ Ψ, fs_law_of ds Φ Ψ → ds.length = 2 := by
  rintro ds Φ Ψ ⟨s, b, d, rfl, _⟩
  rfl
theorem st_law_of (a b : D) : startD N_law_of [a, b] = [some a, some b] := rfl
theorem h_law_of : ∀ ds Φ Ψ, fs_law_of ds Φ Ψ → w_law_of ⟨fun ρ => outOk io_law_of ds ρ (Φ .non), fun d ρ => outOk io_law_of ds ρ (Φ d), fun _ => False, fun _ => False⟩ (fun x ρ => outOk io_law_of ds ρ (Ψ x)) (startD N_law_of ds) := by
  rintro ds Φ Ψ ⟨s, xs, d, rfl, hd, h0, h1, hΦ⟩
  have hx : ∀ r : Nat, r < xs.length → ∃ x, xs[r]? = some x ∧ ixN xs.length (r : Int) = some r := fun r hr => ⟨_, List.getElem?_eq_getElem hr, ixN_nat hr⟩
  rcases hd with rfl | rfl
  · k_search ⟨st_law_of, w_law_of, io_law_of⟩
    refine ⟨s, xs.length, rfl, h0, h1, fun s' r hr => ?_⟩
    obtain ⟨x, e1, e2⟩ := hx r hr
    k_search ⟨e1, e2, io_law_of⟩
    exact hΦ s' r x e1
  · k_search ⟨st_law_of, w_law_of, io_law_of⟩
    refine ⟨s, xs.length, rfl, h0, h1, fun s' r hr => ?_⟩
    obtain ⟨x, e1, e2⟩ := hx r hr
    k_search ⟨e1, e2, io_law_of⟩
    exact hΦ s' r x e1

/-! _law_both -/
abbrev N_law_both : List Str := ["rows", "found", "x", "row", "y"]
abbrev w_law_both : WS := (wsSeq (wAsg 1 (wLstO wNil))
    (wsSeq (wFor (wEnum (wCons true (wVar 0) wNil)) (wgTup 2 (wgsCons (wgName 2) (wgsCons (wgName 3) wgsNil))) (wAsg 1 (w2 false opAdd (wVar 1) (wLc [4] (wSeq (wVar 3)) (wgName 4) wYes (wTupQ (wCons true (wVar 2) (wCons true (wVar 4) wNil)))))))
    (wRet (wVar 1))))
abbrev io_law_both : List Bool := [false]

def bothL (t : List (List Nat)) : List (Nat × Nat) := (List.range t.length).flatMap fun x => (t.getD x []).map fun y => (x, y)
def fs_law_both : FS := fun ds Φ _ => ∃ t : List (List Nat), ds = [tabD t] ∧ t.length ≤ 100 ∧ (∀ r ∈ t, r.length ≤ 100) ∧ Φ (.lst true (pairsD (bothL t))) [tabD t]
theorem hl_law_both : ∀ ds Φ Ψ, fs_law_both ds Φ Ψ → ds.length = 1 := by
  rintro ds Φ Ψ ⟨s, rfl, _⟩
  rfl
theorem st_law_both (a : D) : startD N_law_both [a] = [some a, none, none, none, none] := rfl
theorem flat_len (t : List (List Nat)) (h : ∀ r ∈ t, r.length ≤ 100) (l : List Nat) : (l.flatMap fun x => (t.getD x []).map fun y => (x, y)).length ≤ l.length * 100 := by
  induction l with
  | nil => simp
  | cons x l ih =>
    rw [List.flatMap_cons, List.length_append, List.length_cons, List.length_map]
    have : (t.getD x []).length ≤ 100 := by
      by_cases hx : x < t.length
      · have e : t.getD x [] = t[x] := by simp [hx]
        rw [e]; exact h _ (List.getElem_mem hx)
      · have e : t.getD x [] = [] := by simp [hx]
        rw [e]; simp
    omega
theorem h_law_both : ∀ ds Φ Ψ, fs_law_both ds Φ Ψ → w_law_both ⟨fun ρ => outOk io_law_both ds ρ (Φ .non), fun d ρ => outOk io_law_both ds ρ (Φ d), fun _ => False, fun _ => False⟩ (fun x ρ => outOk io_law_both ds ρ (Ψ x)) (startD N_law_both ds) := by
  rintro ds Φ Ψ ⟨t, rfl, h1, h2, hΦ⟩
  k_search ⟨st_law_both, w_law_both, io_law_both⟩
  refine for_ty _ (I := fun l ρ => ∃ done a b c, List.range t.length = done ++ l ∧ ρ = [some (tabD t), some (.lst true (pairsD (done.flatMap fun x => (t.getD x []).map fun y => (x, y)))), a, b, c]) ?_ ?_ _ _ ⟨[], none, none, none, rfl, rfl⟩
  · rintro x l k hk ρ ⟨done, a, b, c, e, rfl⟩
    k_search ⟨io_law_both⟩
    have hx : x < t.length := List.mem_range.mp (by rw [e]; simp)
    have hr : (t.getD x []).length ≤ 100 := by
      have e : t.getD x [] = t[x] := by simp [hx]
      rw [e]; exact h2 _ (List.getElem_mem hx)
    refine lc_map (fun n : Nat => D.int (n : Nat)) (fun y => pairD (x, y)) ?_ (size100 (by omega)) ?_
    · intro y hy acc kk hacc h
      k_search ⟨io_law_both⟩
      exact ⟨hacc, h⟩
    · k_search ⟨io_law_both⟩
      have e2 : (t.getD x []).map (fun y => pairD (x, y)) = pairsD ((t.getD x []).map fun y => (x, y)) := by rw [pairsD, List.map_map]; rfl
      rw [e2, ← pairsD_app]
      have hd := flat_len t h2 done
      have hm : done.length + 1 ≤ t.length := by
        have := congrArg List.length e
        simp at this; omega
      have e3 : (done.flatMap fun x => (t.getD x []).map fun y => (x, y)) ++ (t.getD x []).map (fun y => (x, y)) = (done ++ [x]).flatMap fun x => (t.getD x []).map fun y => (x, y) := by
        rw [List.flatMap_append]; simp
      rw [e3]
      exact ⟨pairsD_pure _, by simp only [pairsD_len, List.length_map]; exact size100 (by omega), hk _ ⟨done ++ [x], _, _, _, by simpa using e, rfl⟩⟩
  · rintro ρ ⟨done, a, b, c, e, rfl⟩
    k_search ⟨io_law_both⟩
    have : done = List.range t.length := by simpa using e.symm
    rw [this]
    exact hΦ

/-! _law_under -/
abbrev N_law_under : List Str := ["many", "more", "found", "x", "y"]
abbrev w_law_under : WS := (wsSeq (wAsg 2 (wLstO wNil))
    (wsSeq (wFor (wRange1 (wCons true (wVar 0) wNil)) (wgName 3) (wAsg 2 (w2 false opAdd (wVar 2) (wLc [4] (wRange1 (wCons true (w2 true opAdd (wVar 3) (wVar 1)) wNil)) (wgName 4) wYes (wTupQ (wCons true (wVar 3) (wCons true (wVar 4) wNil)))))))
    (wRet (wVar 2))))
abbrev io_law_under : List Bool := [false, false]

def underL (more : Nat) (l : List Nat) : List (Nat × Nat) := l.flatMap fun x => (List.range (x + more)).map fun y => (x, y)
def fs_law_under : FS := fun ds Φ _ => ∃ many more : Nat, ds = [.int many, .int more] ∧ many ≤ 100 ∧ more ≤ 1 ∧ Φ (.lst true (pairsD (underL more (List.range many)))) [.int many, .int more]
theorem hl_law_under : ∀ ds Φ Ψ, fs_law_under ds Φ Ψ → ds.length = 2 := by
  rintro ds Φ Ψ ⟨a, b, rfl, _⟩
  rfl
theorem st_law_under (a b : D) : startD N_law_under [a, b] = [some a, some b, none, none, none] := rfl
theorem under_len (more : Nat) (h : more ≤ 1) : ∀ l : List Nat, (∀ x ∈ l, x < 100) → (underL more l).length ≤ l.length * 100
  | [], _ => by simp [underL]
  | x :: l, hl => by
    have ih := under_len more h l fun y hy => hl y (List.mem_cons_of_mem _ hy)
    have hx := hl x List.mem_cons_self
    unfold underL at ih ⊢
    rw [List.flatMap_cons, List.length_append, List.length_cons, List.length_map, List.length_range]
    omega
theorem under_snoc (more : Nat) (l : List Nat) (x : Nat) : underL more (l ++ [x]) = underL more l ++ (List.range (x + more)).map fun y => (x, y) := by
  unfold underL
  rw [List.flatMap_append]
  simp
theorem cast_add (a b : Nat) : (a : Int) + (b : Int) = ((a + b : Nat) : Int) := by omega
theorem rg_small {n : Nat} (h : n ≤ 1000) : rgOk (n : Int) := by unfold rgOk; omega
theorem h_law_under : ∀ ds Φ Ψ, fs_law_under ds Φ Ψ → w_law_under ⟨fun ρ => outOk io_law_under ds ρ (Φ .non), fun d ρ => outOk io_law_under ds ρ (Φ d), fun _ => False, fun _ => False⟩ (fun x ρ => outOk io_law_under ds ρ (Ψ x)) (startD N_law_under ds) := by
  rintro ds Φ Ψ ⟨many, more, rfl, h1, h2, hΦ⟩
  k_search ⟨st_law_under, w_law_under, Int.toNat_natCast, rangeD_nat, io_law_under⟩
  refine ⟨rg_small (by omega), ?_⟩
  refine for_ty _ (I := fun l ρ => ∃ done a b, List.range many = done ++ l ∧ ρ = [some (.int many), some (.int more), some (.lst true (pairsD (underL more done))), a, b]) ?_ ?_ _ _ ⟨[], none, none, rfl, rfl⟩
  · rintro x l k hk ρ ⟨done, a, b, e, rfl⟩
    have hx : x < many := List.mem_range.mp (by rw [e]; simp)
    k_search ⟨cast_add, Int.toNat_natCast, rangeD_nat, io_law_under⟩
    refine ⟨rg_small (by omega), ?_⟩
    refine lc_map (fun n : Nat => D.int (n : Nat)) (fun y => pairD (x, y)) ?_ (by rw [List.length_range]; exact size100 (by omega)) ?_
    · intro y hy acc kk hacc h
      k_search ⟨io_law_under⟩
      exact ⟨hacc, h⟩
    · k_search ⟨io_law_under⟩
      have e2 : (List.range (x + more)).map (fun y => pairD (x, y)) = pairsD ((List.range (x + more)).map fun y => (x, y)) := by rw [pairsD, List.map_map]; rfl
      have hd : ∀ y ∈ done, y < 100 := fun y hy => by
        have : y < many := List.mem_range.mp (by rw [e]; simp [hy])
        omega
      have hl := under_len more h2 done hd
      have hm : done.length + 1 ≤ many := by
        have := congrArg List.length e
        simp at this; omega
      rw [e2, ← pairsD_app, ← under_snoc]
      exact ⟨pairsD_pure _, by simp only [pairsD_len, List.length_map, List.length_range]; exact size100 (by omega), hk _ ⟨done ++ [x], _, _, by simpa using e, rfl⟩⟩
  · rintro ρ ⟨done, a, b, e, rfl⟩
    k_search ⟨io_law_under⟩
    have : done = List.range many := by simpa using e.symm
    rw [this]
    exact hΦ

/-! _law_mixed -/
abbrev N_law_mixed : List Str := ["deal", "some", "left", "found"]
abbrev w_law_mixed : WS := (wsSeq (wPar [2, 3] (wCons true (wN opList (wCons true (wVar 1) wNil)) (wCons true (wLstO wNil) wNil)))
    (wsSeq (wWhile (wTest (w2 true opNe (wVar 2) (wLstO wNil))) (wDrop (wAppend false (wVar 3) (wCons true (wPopAt false (wVar 2) (wCons true (wCall [true, false] fs_law_any (wCons true (wVar 0) (wCons true (wN opLen (wCons true (wVar 2) wNil)) wNil))) wNil)) wNil))))
    (wRet (wVar 3))))
abbrev io_law_mixed : List Bool := [true, false]

def fs_law_mixed : FS := fun ds Φ _ => ∃ (s : DealS) (xs : List D) (d : D), ds = [dealD s, d] ∧ (d = .lst false xs ∨ d = .tup xs) ∧ pureL xs = true ∧ D.oks 63 xs = true ∧ xs.length ≤ 10000 ∧ ∀ (s' : DealS) (ys : List D), ys.Perm xs → Φ (.lst true ys) [dealD s', d]
theorem hl_law_mixed : ∀ ds Φ Ψ, fs_law_mixed ds Φ Ψ → ds.length = 2 := by
  rintro ds Φ Ψ ⟨s, b, d, rfl, _⟩
  rfl
theorem st_law_mixed (a b : D) : startD N_law_mixed [a, b] = [some a, some b, none, none] := rfl
theorem perm_erase : ∀ {xs : List D} {r : Nat} {x : D}, xs[r]? = some x → xs.Perm (x :: xs.eraseIdx r)
  | [], _, _, h => by simp at h
  | y :: xs, 0, x, h => by
    have e : y = x := by simpa using h
    subst e; exact .refl _
  | y :: xs, r + 1, x, h => by
    have ih := perm_erase (xs := xs) (r := r) (x := x) (by simpa using h)
    exact (ih.cons y).trans (.swap x y _)
theorem oks_all : ∀ {n : Nat} {xs : List D}, D.oks n xs = true ↔ ∀ x ∈ xs, D.ok n x = true
  | _, [] => by simp [oks_nil]
  | n, y :: xs => by rw [oks_cons, Bool.and_eq_true, oks_all (xs := xs)]; simp
theorem pure_all {xs : List D} : pureL xs = true ↔ ∀ x ∈ xs, x.isOwn = false := by
  unfold pureL
  rw [List.all_eq_true]
  constructor
  · intro h x hx; simpa using h x hx
  · intro h x hx; simp [h x hx]
theorem nil_emp {l : List D} : (l.isEmpty = true) = (l = []) := by simp
theorem h_law_mixed : ∀ ds Φ Ψ, fs_law_mixed ds Φ Ψ → w_law_mixed ⟨fun ρ => outOk io_law_mixed ds ρ (Φ .non), fun d ρ => outOk io_law_mixed ds ρ (Φ d), fun _ => False, fun _ => False⟩ (fun x ρ => outOk io_law_mixed ds ρ (Ψ x)) (startD N_law_mixed ds) := by
  rintro ds Φ Ψ ⟨s, xs, d, rfl, hd, hp, hok, h1, hΦ⟩
  have hop : ∀ k, opList [d] k = k (.lst true xs) := by
    intro k
    rcases hd with rfl | rfl
    · rw [opList_l, hp]; simp
    · rw [opList_t]
  have hown : d.isOwn = false := by rcases hd with rfl | rfl <;> rfl
  have hfrz : d.frz = d := frz_pure hown
  k_search ⟨st_law_mixed, w_law_mixed, hown, hop, hfrz, io_law_mixed⟩
  refine while_runk (I := fun n ρ => ∃ (s : DealS) (left done : List D), left.length = n ∧ (left ++ done).Perm xs ∧ ρ = [some (dealD s), some d, some (.lst true left), some (.lst true done)]) ?_ (n := xs.length) ⟨s, xs, [], rfl, by simp, rfl⟩
  rintro n k hk ρ ⟨s, left, done, rfl, pm, rfl⟩
  have hok2 : D.oks 63 left = true := oks_all.mpr fun x hx => oks_all.mp hok x (pm.mem_iff.mp (by simp [hx]))
  have hlen : left.length + done.length = xs.length := by rw [← List.length_append]; exact pm.length_eq
  k_search ⟨hown, hfrz, hok2, io_law_mixed⟩
  cases left with
  | nil =>
    k_search ⟨List.isEmpty_nil, hown, io_law_mixed⟩
    exact hΦ s done (by simpa using pm)
  | cons y left =>
    k_search ⟨List.isEmpty_cons, hown, io_law_mixed⟩
    refine ⟨s, left.length + 1, rfl, by omega, by simp at hlen; omega, fun s' r hr => ?_⟩
    obtain ⟨x, e1⟩ : ∃ x, (y :: left)[r]? = some x := ⟨_, List.getElem?_eq_getElem (by simpa using hr)⟩
    have e2 : ixN (left.length + 1) (r : Int) = some r := ixN_nat hr
    have pe := perm_erase e1
    have hle : ((y :: left).eraseIdx r).length = left.length := by rw [List.length_eraseIdx]; simp [hr]
    simp only [List.length_cons] at hlen
    k_search ⟨e1, e2, hown, io_law_mixed⟩
    refine ⟨⟨by omega, by omega⟩, Nat.lt_of_lt_of_le (by omega : done.length < 10001) (by decide), hk left.length _ (by simp) ⟨s', _, _, hle, ?_, rfl⟩⟩
    refine List.Perm.trans ?_ pm
    refine List.Perm.trans ?_ (List.Perm.append_right done pe.symm)
    rw [← List.append_assoc]
    exact List.perm_append_comm

end LX

set_option maxHeartbeats 0
namespace LX
open PySem PySem.Spec PyProof.Rows L2 DL
local macro_rules | `(tactic| k_search ⟨$es,*⟩) => `(tactic| simp only [$[$es:term],*, ↓wVar.ap, ↓wC.ap, ↓w1.ap, ↓w2.ap, ↓wTest.ap, ↓wAnd.ap, ↓wOr.ap, ↓wNot.ap, ↓wAndV.ap, ↓wOrV.ap, ↓wNotV.ap, ↓wIf.ap, ↓wNil.ap, ↓wCons.ap, ↓wN.ap, ↓wTup.ap, ↓wTupQ.ap, ↓wLstO.ap, ↓wLst.ap, ↓wIx.ap, ↓wNoPart.ap, ↓wPart.ap, ↓wSlice.ap, ↓wSeq.ap, ↓wRange1.ap, ↓wRange2.ap, ↓wEnum.ap, ↓wZip.ap, ↓wgName.ap, ↓wgsNil.ap, ↓wgsCons.ap, ↓wgTup.ap, ↓wYes.ap, ↓wLc.ap, ↓wNext.ap, ↓wsSeq.ap, ↓wBreak.ap, ↓wCont.ap, ↓wAsg.ap, ↓wAsgF.ap, ↓wRet.ap, ↓wRetN.ap, ↓wDrop.ap, ↓wsIf.ap, ↓wFor.ap, ↓wCall.ap, ↓wAppend.ap, ↓wPop.ap, ↓wPopAt.ap, ↓wSetIx.ap, ↓wTgF.ap, ↓wPar.ap, ↓wChain.ap, ↓wCallP.ap, ↓wBoth.ap, ↓wLc2.ap, ↓wListRg1.ap, ↓wTupRg1.ap, ↓wListRg2.ap, ↓wJoin.ap, ↓opAdd_i, ↓opAdd_s, ↓opAdd_t, ↓opAdd_l, ↓opSub_i, ↓opMod_i, ↓opDiv_i, ↓opMul_i, ↓opMul_l, ↓opMul_t, ↓opPow_i, ↓opNeg_i, ↓opLt_i, ↓opLe_i, ↓opGt_i, ↓opGe_i, ↓opIs_n, ↓opIs_b, ↓opIsNot_n, ↓opIsNot_b, ↓opEq_ap, ↓opNe_ap, ↓opIn_l, ↓opIn_t, ↓opIn_s, ↓opNotIn_l, ↓opNotIn_t, ↓opNotIn_s, ↓opLen_t, ↓opLen_l, ↓opLen_r, ↓opLen_s, ↓opTuple_t, ↓opTuple_l, ↓opTuple_r, ↓opList_t, ↓opList_l, ↓opList_r, ↓opSorted_l, ↓opAbs_i, ↓opMax2_i, ↓opMin2_i, ↓opInt_i, ↓opInt_b, ↓opInt_s, ↓opStr_i, ↓opAll_l, ↓opAny_l, ↓opRev_l, ↓opIsi_ap, ↓sliceD_t, ↓sliceD_l, ↓sliceD_r, ↓outOk_ap, ↓scal_int, ↓ixl_1_0, ↓ixl_1_m, ↓ixl_2_0, ↓ixl_2_1, ↓ixl_2_m, ↓ixl_3_0, ↓ixl_3_1, ↓ixl_3_2, ↓ixl_3_m, ↓ixl_4_0, ↓ixl_4_1, ↓ixl_4_2, ↓ixl_4_3, ↓ixl_4_m, ↓wdk_some, ↓asIk_int, ↓asBk_bl, ↓asLOk_lst, ↓ifk_t, ↓ifk_f, ↓lcGok_nil, ↓forGok_nil, ↓whilek_ap, ↓popD_ap, ↓item_tup, ↓item_lst, ↓item_ro, ↓itemD_st, ↓asI_int, ↓asB_bl, ↓asLO_lst, ↓wd_some, ↓lcGo_nil, ↓forGo_nil, lk0, lkS, wd_some, asI_int, asB_bl, asLO_lst, deref_val, deref_slot, deref_sub, moveT_val, moveT_slot, elemT_val, elemT_slot, frzT_val, frzT_slot, frzTs_nil, frzTs_cons, takeTs_nil, takeTs_cons, takeT1_tv, takeT1_ts, takeT1_f, putBack_s, putBack_n, putBack_nil, outArgs_nil, outArgs_t, outArgs_f, own_lst, own_tup, own_int, own_bl, own_str, own_non, own_ro, frz_tup, frz_int, frz_bl, frz_str, frz_non, frz_ro, frz_lstF, frz_lstT, frzs_nil, frzs_cons, valsT_nil, valsT_val, derefs_nil, derefs_cons, stable_val, stable_slot, stable_sub, placeT_slot, placeT_sub, itemsD_tup, itemsD_lst, itemsD_ro, itemsD_str, seqD_tup, seqD_lst, seqD_ro, listOf_lst, listOf_ro, walk_nil, walk_lst, setP_nil2, setP_lst, item_tup, item_lst, item_ro, itemD_st, atT_val, atT_int, atT_tup, atT_str, atT_lstT, atT_lstF, subT_slot, subT_sub, popD_ap, setPlace_ap, wipeD_nil, wipeD_cons, storeD_nil, storeD_cons, wdk_some, asIk_int, asBk_bl, asLOk_lst, ifk_t, ifk_f, lcGok_nil, forGok_nil, lcGo_nil, forGo_nil, pureL_nil, pureL_cons, opAdd_i, opAdd_s, opAdd_t, opAdd_l, opSub_i, opMod_i, opDiv_i, opMul_i, opMul_l, opMul_t, opPow_i, opNeg_i, opLt_i, opLe_i, opGt_i, opGe_i, opIs_n, opIs_b, opIsNot_n, opIsNot_b, opEq_ap, opNe_ap, opIn_l, opIn_t, opIn_s, opNotIn_l, opNotIn_t, opNotIn_s, opLen_t, opLen_l, opLen_r, opLen_s, opTuple_t, opTuple_l, opTuple_r, opList_t, opList_l, opList_r, opSorted_l, opAbs_i, opMax2_i, opMin2_i, opInt_i, opInt_b, opInt_s, opStr_i, opAll_l, opAny_l, opRev_l, opIsi_ap, sliceD_t, sliceD_l, sliceD_r, outOk_ap, scal_int, ixl_1_0, ixl_1_m, ixl_2_0, ixl_2_1, ixl_2_m, ixl_3_0, ixl_3_1, ixl_3_2, ixl_3_m, ixl_4_0, ixl_4_1, ixl_4_2, ixl_4_3, ixl_4_m, Option.bind_some, Option.map_some, List.set_cons_zero, List.set_cons_succ, List.set_nil, List.length_cons, List.length_nil, List.length_set, List.getElem?_cons_zero, List.getElem?_cons_succ, List.cons_append, List.nil_append, Bool.or_true, Bool.true_or, Bool.false_or, Bool.or_false, Bool.and_true, Bool.true_and, Bool.and_false, Bool.false_and, Bool.not_true, Bool.not_false, if_true, if_false, ite_true, ite_false, Bool.false_eq_true, eq_self, true_and, and_true, false_and, and_false, Nat.reduceAdd, Nat.reduceLT, Nat.zero_add, List.filterMap_cons, List.filterMap_nil, id_eq, List.nodup_nil, List.map_cons, List.map_nil, Nat.reduceSub, List.all_nil, List.all_cons, nodup1, sz1, sz2, sz3, sz4, sz5, sz6, sz7, sz8, sz9, sz10, sz11, sz12, Nat.zero_le, enumRows, ownRows_len, ownRows_at, ownRows_set, ownRows_frz, rangeD_nat0, rangeD_nat, asInts_nats, sortN_D, Int.toNat_natCast, natsD_len, natsD_at, natsD_frz, natsD_pure, natsD_nil, rowsD_len, rowsD_at, rowsD_frz, rowsD_pure, rowT_ap, pairsD_nil, pairsD_len, pairsD_frz, pairsD_pure, pairsD_at, tabD, flat_int, natsD_flat, natsD_in, eqv_int, beq_nat, natsD_ok, deal_own, eqv_tups, natsD_eqv, ok_int, ok_tup, ok_lst, oks_nil, eqv_nil, natsD_emp, bq0, bq1, bq2, bq3, bq4, bq5, bq6, bq7, bq8, bq9, bq10, bq11, bq12, bq13])

/-! _law_joined -/
abbrev N_law_joined : List Str := ["many", "pairs", "found", "one", "x", "y", "other", "row"]
abbrev w_law_joined : WS := (wsSeq (wAsg 2 (wLc [3] (wRange1 (wCons true (wVar 0) wNil)) (wgName 3) wYes (wLstO wNil)))
    (wsSeq (wFor (wSeq (wVar 1)) (wgTup 2 (wgsCons (wgName 4) (wgsCons (wgName 5) wgsNil))) (wFor (wSeq (wLstO (wCons true (wTupQ (wCons true (wVar 4) (wCons true (wVar 5) wNil))) (wCons true (wTupQ (wCons true (wVar 5) (wCons true (wVar 4) wNil))) wNil)))) (wgTup 2 (wgsCons (wgName 3) (wgsCons (wgName 6) wgsNil))) (wsIf (wTest (w2 true opNotIn (wVar 6) (wIx true (wVar 2) (wVar 3)))) (wDrop (wAppend true (wIx true (wVar 2) (wVar 3)) (wCons true (wVar 6) wNil))) wNext)))
    (wRet (wN opTuple (wCons true (wLc [7] (wSeq (wVar 2)) (wgName 7) wYes (wN opTuple (wCons true (wN opSorted (wCons true (wVar 7) wNil)) wNil))) wNil)))))
abbrev io_law_joined : List Bool := [false, false]

def fs_law_joined : FS := fun ds Φ _ => ∃ (many : Nat) (ps : List (Nat × Nat)), ds = [.int many, .lst false (pairsD ps)] ∧ many ≤ 100 ∧ (∀ p ∈ ps, p.1 < many ∧ p.2 < many) ∧ ∀ t, Rul many t → Joi ps t → Φ (tabD t) [.int many, .lst false (pairsD ps)]
theorem hl_law_joined : ∀ ds Φ Ψ, fs_law_joined ds Φ Ψ → ds.length = 2 := by
  rintro ds Φ Ψ ⟨a, b, rfl, _⟩
  rfl
theorem st_law_joined (a b : D) : startD N_law_joined [a, b] = [some a, some b, none, none, none, none, none, none] := rfl
theorem nils (n : Nat) : (List.range n).map (fun _ => D.lst true []) = ownRows (List.replicate n []) := by
  unfold ownRows
  rw [List.map_replicate]
  exact List.ext_getElem (by simp) fun i h1 h2 => by simp [natsD]
theorem contains_false {l : List Nat} {x : Nat} (h : x ∉ l) : l.contains x = false := by simpa using h
theorem contains_true {l : List Nat} {x : Nat} (h : x ∈ l) : l.contains x = true := by simpa using h
theorem h_law_joined : ∀ ds Φ Ψ, fs_law_joined ds Φ Ψ → w_law_joined ⟨fun ρ => outOk io_law_joined ds ρ (Φ .non), fun d ρ => outOk io_law_joined ds ρ (Φ d), fun _ => False, fun _ => False⟩ (fun x ρ => outOk io_law_joined ds ρ (Ψ x)) (startD N_law_joined ds) := by
  rintro ds Φ Ψ ⟨many, ps, rfl, h1, h2, hΦ⟩
  k_search ⟨st_law_joined, w_law_joined, io_law_joined⟩
  refine ⟨rg_small (by omega), ?_⟩
  refine lc_map (fun n : Nat => D.int (n : Nat)) (fun _ => D.lst true []) ?_ (by rw [List.length_range]; exact size100 (by omega)) ?_
  · intro y hy acc kk hacc h
    k_search ⟨io_law_joined⟩
    exact ⟨hacc, h⟩
  rw [nils]
  k_search ⟨io_law_joined⟩
  refine for_ty _ (I := fun l ρ => ∃ (t : List (List Nat)) (ds : List (Nat × Nat)) (a b c d : Option D), ps = ds ++ l ∧ Joi ds t ∧ Graph many t ∧ (∀ p ∈ l, p.1 < many ∧ p.2 < many) ∧ ρ = [some (.int many), some (.lst false (pairsD ps)), some (.lst true (ownRows t)), a, b, c, d, none]) ?_ ?_ _ _ ⟨_, [], none, none, none, none, rfl, Joi.zero many, Graph.zero many, h2, rfl⟩
  · rintro ⟨x, y⟩ l k hk ρ ⟨t, ds, a, b, c, d, ed, J, G, hl, rfl⟩
    have hxy := hl (x, y) List.mem_cons_self
    have hx : x < many := hxy.1
    have hy : y < many := hxy.2
    have fin : ∀ a b c d, k [some (.int many), some (.lst false (pairsD ps)), some (.lst true (ownRows (addE (addE t x y) y x))), a, b, c, d, none] := fun a b c d => hk _ ⟨_, ds ++ [(x, y)], a, b, c, d, by rw [ed]; simp, J.add (by rw [G.len]; exact hx) (by rw [G.len]; exact hy), G.add hx hy, fun p hp => hl p (List.mem_cons_of_mem _ hp), rfl⟩
    have small : ∀ z, (row t z).length < sizeLine := fun z => Nat.lt_of_le_of_lt (G.few z) (Nat.lt_of_le_of_lt h1 (by decide))
    have e1 : t[x]? = some (row t x) := row_at (by rw [G.len]; exact hx)
    have i1 : ixN t.length (x : Int) = some x := ixN_nat (by rw [G.len]; exact hx)
    have lx : x < t.length := by rw [G.len]; exact hx
    k_search ⟨pairD_ap, forGok_cons, e1, i1, io_law_joined⟩
    have g1 : y ∈ row t x → addE t x y = t := fun h => by unfold addE; rw [if_pos h]
    have g2 : y ∉ row t x → t.set x (row t x ++ [y]) = addE t x y := fun h => by unfold addE; rw [if_neg h]
    have step2 : ∀ t1 : List (List Nat), t1.length = t.length → (∀ z, (row t1 z).length < sizeLine) → t1[y]? = some (row t1 y) ∧ ixN t1.length (y : Int) = some y := fun t1 h _ => ⟨row_at (by rw [h, G.len]; exact hy), ixN_nat (by rw [h, G.len]; exact hy)⟩
    have small1 : ∀ z, (row (addE t x y) z).length < sizeLine := fun z => by
      rw [row_addE lx]
      split
      · rw [List.length_append]
        exact Nat.lt_of_le_of_lt (Nat.add_le_add_right (Nat.le_trans (G.few x) h1) 1) (by decide)
      · exact small z
    have last : ∀ t1, t1 = addE t x y → (x ∈ row t1 y → addE t1 y x = t1) ∧ (x ∉ row t1 y → t1.set y (row t1 y ++ [x]) = addE t1 y x) := fun t1 _ => ⟨fun h => by unfold addE; rw [if_pos h], fun h => by unfold addE; rw [if_neg h]⟩
    have iy : ixN t.length (y : Int) = some y := ixN_nat (by rw [G.len]; exact hy)
    by_cases hm : y ∈ row t x
    · obtain ⟨e2, i2⟩ := step2 t rfl small
      have gg := g1 hm
      rw [gg] at fin
      k_search ⟨contains_true hm, e2, i2, forGok_cons, io_law_joined⟩
      by_cases hm2 : x ∈ row t y
      · have := (last t gg.symm).1 hm2
        rw [this] at fin
        k_search ⟨contains_true hm2, forGok_cons, e2, i2, iy, io_law_joined⟩
        exact fin _ _ _ _
      · have := (last t gg.symm).2 hm2
        rw [← this] at fin
        k_search ⟨contains_false hm2, forGok_cons, e2, i2, iy, natsD_snoc_r, io_law_joined⟩
        exact ⟨small y, fin _ _ _ _⟩
    · have gg := g2 hm
      obtain ⟨e2, i2⟩ := step2 (addE t x y) (addE_len _ _ _) small1
      k_search ⟨contains_false hm, e1, i1, natsD_snoc_r, gg, e2, i2, iy, forGok_cons, io_law_joined⟩
      refine ⟨small x, ?_⟩
      by_cases hm2 : x ∈ row (addE t x y) y
      · have := (last _ rfl).1 hm2
        rw [this] at fin
        k_search ⟨contains_true hm2, forGok_cons, e2, i2, iy, io_law_joined⟩
        exact fin _ _ _ _
      · have := (last _ rfl).2 hm2
        rw [← this] at fin
        k_search ⟨contains_false hm2, forGok_cons, e2, i2, iy, natsD_snoc_r, io_law_joined⟩
        exact ⟨small1 y, fin _ _ _ _⟩
  · rintro ρ ⟨t, ds, a, b, c, d, ed, J, G, hl, rfl⟩
    k_search ⟨io_law_joined⟩
    refine lc_map (fun r : List Nat => D.lst false (natsD r)) (fun r => rowT (sortN r)) ?_ (size100 (by rw [G.len]; omega)) ?_
    · intro r hr acc kk hacc h
      k_search ⟨io_law_joined⟩
      exact ⟨hacc, h⟩
    · have e3 : t.map (fun r => rowT (sortN r)) = rowsD (t.map sortN) := by rw [rowsD, List.map_map]; rfl
      rw [e3]
      k_search ⟨io_law_joined⟩
      have ed : ps = ds := by simpa using ed
      subst ed
      exact hΦ _ G.rul J.sort

/-! _law_renamed -/
abbrev N_law_renamed : List Str := ["deal", "rows", "names", "pairs", "x", "y"]
abbrev w_law_renamed : WS := (wsSeq (wAsg 2 (wCall [true, false] fs_law_mixed (wCons true (wVar 0) (wCons true (wListRg1 (wN opLen (wCons true (wVar 1) wNil))) wNil))))
    (wsSeq (wAsg 3 (wLc [4, 5] (wSeq (wCall [false] fs_law_both (wCons true (wVar 1) wNil))) (wgTup 2 (wgsCons (wgName 4) (wgsCons (wgName 5) wgsNil))) wYes (wTupQ (wCons true (wIx true (wVar 2) (wVar 4)) (wCons true (wIx true (wVar 2) (wVar 5)) wNil)))))
    (wRet (wCall [false, false] fs_law_joined (wCons true (wN opLen (wCons true (wVar 1) wNil)) (wCons true (wVar 3) wNil))))))
abbrev io_law_renamed : List Bool := [true, false]

def fs_law_renamed : FS := fun ds Φ _ => ∃ (s : DealS) (n : Nat) (t : List (List Nat)), ds = [dealD s, tabD t] ∧ Graph n t ∧ n ≤ 100 ∧ ∀ (s' : DealS) t', Rul n t' → Ren n t t' → Φ (tabD t') [dealD s', tabD t]
theorem hl_law_renamed : ∀ ds Φ Ψ, fs_law_renamed ds Φ Ψ → ds.length = 2 := by
  rintro ds Φ Ψ ⟨s, n, b, rfl, _⟩
  rfl
theorem st_law_renamed (a b : D) : startD N_law_renamed [a, b] = [some a, some b, none, none, none, none] := rfl
theorem both_mem {t : List (List Nat)} {p : Nat × Nat} (h : p ∈ bothL t) : p.2 ∈ row t p.1 := by
  unfold bothL at h
  obtain ⟨x, hx, h⟩ := List.mem_flatMap.mp h
  obtain ⟨y, hy, rfl⟩ := List.mem_map.mp h
  exact hy
theorem mk_lt {m : List Nat} {p n : Nat} (h : p < m.length) (hm : ∀ x ∈ m, x < n) : mk m p < n := by
  unfold mk
  simp [h]
  exact hm _ (List.getElem_mem h)
theorem mem_both {t : List (List Nat)} {p : Nat × Nat} (h : p.2 ∈ row t p.1) (hl : p.1 < t.length) : p ∈ bothL t := by
  unfold bothL
  exact List.mem_flatMap.mpr ⟨p.1, List.mem_range.mpr hl, List.mem_map.mpr ⟨p.2, h, rfl⟩⟩
theorem mk_inj {m : List Nat} (hn : m.Nodup) {a b : Nat} (ha : a < m.length) (hb : b < m.length) (h : mk m a = mk m b) : a = b := by
  unfold mk at h
  simp [ha, hb] at h
  rcases Nat.lt_trichotomy a b with c | c | c
  · exact absurd h (List.pairwise_iff_getElem.mp hn a b ha hb c)
  · exact c
  · exact absurd h.symm (List.pairwise_iff_getElem.mp hn b a hb ha c)
theorem h_law_renamed : ∀ ds Φ Ψ, fs_law_renamed ds Φ Ψ → w_law_renamed ⟨fun ρ => outOk io_law_renamed ds ρ (Φ .non), fun d ρ => outOk io_law_renamed ds ρ (Φ d), fun _ => False, fun _ => False⟩ (fun x ρ => outOk io_law_renamed ds ρ (Ψ x)) (startD N_law_renamed ds) := by
  rintro ds Φ Ψ ⟨s, n, t, rfl, G, h1, hΦ⟩
  have ln := G.len
  k_search ⟨st_law_renamed, w_law_renamed, io_law_renamed⟩
  refine ⟨⟨by omega, by omega, by omega, by omega, by omega⟩, s, natsD (List.range t.length), _, rfl, Or.inl rfl, natsD_pure _, natsD_ok _ _, by rw [natsD_len, List.length_range]; omega, fun s' ys pm => ?_⟩
  obtain ⟨m, em, pn⟩ := perm_nats pm
  subst em
  have lm : m.length = n := by rw [pn.length_eq, List.length_range, ln]
  have hm : ∀ x ∈ m, x < n := fun x hx => by
    have := List.mem_range.mp (pn.mem_iff.mp hx)
    omega
  k_search ⟨io_law_renamed⟩
  refine ⟨t, rfl, by omega, fun r hr => ?_, ?_⟩
  · obtain ⟨x, _, rfl⟩ := row_of hr
    exact Nat.le_trans (G.few x) h1
  k_search ⟨io_law_renamed⟩
  refine lc_map pairD (fun p => pairD (mk m p.1, mk m p.2)) ?_ ?_ ?_
  · rintro ⟨x, y⟩ hp acc kk hacc h
    have hy := both_mem hp
    have lx : x < m.length := by rw [lm]; exact row_lt G hy
    have ly : y < m.length := by rw [lm]; exact G.lt x y hy
    k_search ⟨pairD_ap, ixN_nat lx, ixN_nat ly, mk_at lx, mk_at ly, io_law_renamed⟩
    exact ⟨hacc, h⟩
  · refine Nat.le_trans (flat_len t (fun r hr => ?_) _) (by rw [List.length_range]; exact size100 (by omega))
    obtain ⟨x, _, rfl⟩ := row_of hr
    exact Nat.le_trans (G.few x) h1
  · have e : (bothL t).map (fun p => pairD (mk m p.1, mk m p.2)) = pairsD ((bothL t).map fun p => (mk m p.1, mk m p.2)) := by rw [pairsD, List.map_map]; rfl
    rw [e]
    k_search ⟨io_law_renamed⟩
    refine ⟨n, _, by rw [ln], h1, fun p hp => ?_, fun t' G' J' => ?_⟩
    · obtain ⟨q, hq, rfl⟩ := List.mem_map.mp hp
      have hy := both_mem hq
      exact ⟨mk_lt (by rw [lm]; exact row_lt G hy) hm, mk_lt (by rw [lm]; exact G.lt _ _ hy) hm⟩
    · k_search ⟨io_law_renamed⟩
      have nd : m.Nodup := pn.nodup_iff.mpr List.nodup_range
      refine hΦ s' t' G' ⟨m, by rw [← ln]; exact pn, fun x y hx hy => ?_⟩
      rw [J' (mk m x) (mk m y)]
      constructor
      · rintro (h | h)
        · obtain ⟨q, hq, e⟩ := List.mem_map.mp h
          have hy' := both_mem hq
          have q1 := row_lt G hy'
          have q2 := G.lt _ _ hy'
          obtain ⟨e1, e2⟩ := Prod.mk.inj e
          rw [← mk_inj nd (by omega) (by omega) e1, ← mk_inj nd (by omega) (by omega) e2]
          exact hy'
        · obtain ⟨q, hq, e⟩ := List.mem_map.mp h
          have hy' := both_mem hq
          have q1 := row_lt G hy'
          have q2 := G.lt _ _ hy'
          obtain ⟨e1, e2⟩ := Prod.mk.inj e
          rw [← mk_inj nd (by omega) (by omega) e1, ← mk_inj nd (by omega) (by omega) e2]
          exact G.sym _ _ hy'
      · intro h
        exact .inl (List.mem_map.mpr ⟨(x, y), mem_both h (by omega), rfl⟩)

/-! _law_folding -/
abbrev N_law_folding : List Str := ["deal", "most", "many", "pairs", "x", "elder", "row", "y", "kept"]
abbrev w_law_folding : WS := (wsSeq (wPar [2, 3] (wCons true (w2 false opAdd (wC (.int 1)) (wCall [true, false] fs_law_any (wCons true (wVar 0) (wCons true (wVar 1) wNil)))) (wCons true (wLstO (wCons true (wTupQ (wCons true (wC (.int 0)) (wCons true (wC (.int 0)) wNil))) wNil)) wNil)))
    (wsSeq (wFor (wRange2 (wCons true (wC (.int 1)) (wCons true (wVar 2) wNil))) (wgName 4) (wsSeq (wAsg 5 (wCall [true, false] fs_law_any (wCons true (wVar 0) (wCons true (wVar 4) wNil))))
    (wsSeq (wAsg 6 (wLc [7] (wRange1 (wCons true (wVar 4) wNil)) (wgName 7) (wOr (wTest (w2 true opIn (wTupQ (wCons true (wVar 7) (wCons true (wVar 5) wNil))) (wVar 3))) (wTest (w2 true opIn (wTupQ (wCons true (wVar 5) (wCons true (wVar 7) wNil))) (wVar 3)))) (wVar 7)))
    (wsSeq (wAsg 8 (wLc [7] (wSeq (wVar 6)) (wgName 7) (wTest (w2 true opGt (wCall [true, false] fs_law_any (wCons true (wVar 0) (wCons true (wC (.int 3)) wNil))) (wC (.int 0)))) (wVar 7)))
    (wsSeq (wAsg 3 (w2 false opAdd (wVar 3) (wLc [7] (wSeq (wIf (wTest (w2 true opNe (wVar 8) (wLstO wNil))) (wVar 8) (wSlice (wVar 6) wNoPart (wPart (wC (.int 1)))))) (wgName 7) wYes (wTupQ (wCons true (wVar 4) (wCons true (wVar 7) wNil))))))
    (wsIf (wAnd (wTest (w2 true opIn (wVar 5) (wVar 8))) (wAnd (wTest (w2 true opIn (wTupQ (wCons true (wVar 5) (wCons true (wVar 5) wNil))) (wVar 3))) (wTest (w2 true opEq (wCall [true, false] fs_law_any (wCons true (wVar 0) (wCons true (wC (.int 2)) wNil))) (wC (.int 0)))))) (wDrop (wAppend true (wVar 3) (wCons true (wTupQ (wCons true (wVar 4) (wCons true (wVar 4) wNil))) wNil))) wNext))))))
    (wRet (wCall [true, false] fs_law_renamed (wCons false (wVar 0) (wCons true (wCall [false, false] fs_law_joined (wCons true (wVar 2) (wCons true (wVar 3) wNil))) wNil))))))
abbrev io_law_folding : List Bool := [true, false]

def fs_law_folding : FS := fun ds Φ _ => ∃ (s : DealS) (most : Nat), ds = [dealD s, .int most] ∧ 1 ≤ most ∧ most ≤ 100 ∧ ∀ (s' : DealS) n t, 1 ≤ n → n ≤ most → Rul n t → Φ (tabD t) [dealD s', .int most]
theorem hl_law_folding : ∀ ds Φ Ψ, fs_law_folding ds Φ Ψ → ds.length = 2 := by
  rintro ds Φ Ψ ⟨s, n, rfl, _⟩
  rfl
theorem st_law_folding (a b : D) : startD N_law_folding [a, b] = [some a, some b, none, none, none, none, none, none, none] := rfl
theorem one_add (r : Nat) : (1 : Int) + (r : Int) = ((r + 1 : Nat) : Int) := by omega
theorem rangeD_one (n : Nat) : rangeD 1 ((n + 1 : Nat) - 1 : Int).toNat = natsD (List.range' 1 n) := by
  have e : ((n + 1 : Nat) - 1 : Int).toNat = n := by omega
  rw [e]
  exact rangeD_from 1 n
theorem rg_one : rgOk 1 := by unfold rgOk; omega
theorem cut_one (l : List Nat) : DL.cutD (natsD l) none (some 1) = natsD (l.take 1) := by
  unfold DL.cutD
  rw [show HT.sIx (natsD l).length (natsD l).length (some 1) = min 1 (natsD l).length from HT.sIx_nat _ _ 1, HT.sIx_none]
  cases l with
  | nil => rfl
  | cons x l =>
    have e : min 1 (natsD (x :: l)).length = 1 := by rw [natsD_len, List.length_cons]; omega
    rw [e]; rfl
theorem pair_in (a b : Nat) (l : List (Nat × Nat)) : inD (.tup [.int (a : Nat), .int (b : Nat)]) (pairsD l) = l.contains (a, b) := pairsD_in (a, b) l
theorem gt0 (n : Nat) : decide ((0 : Int) < (n : Int)) = decide (0 < n) := by
  by_cases h : 0 < n
  · rw [decide_eq_true h, decide_eq_true (by omega)]
  · rw [decide_eq_false h, decide_eq_false (by omega)]
theorem nil_beq (l : List Nat) : l.isEmpty = true ↔ l = [] := by simp
theorem h_law_folding : ∀ ds Φ Ψ, fs_law_folding ds Φ Ψ → w_law_folding ⟨fun ρ => outOk io_law_folding ds ρ (Φ .non), fun d ρ => outOk io_law_folding ds ρ (Φ d), fun _ => False, fun _ => False⟩ (fun x ρ => outOk io_law_folding ds ρ (Ψ x)) (startD N_law_folding ds) := by
  rintro ds Φ Ψ ⟨s, most, rfl, h1, h2, hΦ⟩
  k_search ⟨st_law_folding, w_law_folding, io_law_folding⟩
  refine ⟨s, most, rfl, by omega, by omega, fun s1 r hr => ?_⟩
  k_search ⟨one_add, io_law_folding⟩
  refine ⟨rg_one, rg_small (by omega), ?_⟩
  rw [rangeD_one]
  have nosr : ¬ sizeLine < 100000 := by decide
  refine for_ty _ (I := fun l ρ => ∃ (s : DealS) (ps : List (Nat × Nat)) (j : Nat) (a b c d e : Option D), l = List.range' (j + 1) (r - j) ∧ j ≤ r ∧ (∀ p ∈ ps, p.1 < r + 1 ∧ p.2 < r + 1) ∧ ps.length ≤ 1 + 200 * j ∧ ρ = [some (dealD s), some (.int most), some (.int (r + 1 : Nat)), some (.lst true (pairsD ps)), a, b, c, d, e]) ?_ ?_ _ _ ⟨s1, [(0, 0)], 0, none, none, none, none, none, rfl, by omega, by intro p hp; simp at hp; subst hp; simp, by simp, rfl⟩
  · rintro x l k hk ρ ⟨s, ps, j, a, b, c, d, e, el, hj, hps, hlen, rfl⟩
    have hjr : j < r := by
      by_cases h : j < r
      · exact h
      · have : r - j = 0 := by omega
        rw [this] at el; simp at el
    have el2 : r - j = (r - (j + 1)) + 1 := by omega
    rw [el2, List.range'_succ] at el
    obtain ⟨rfl, rfl⟩ := List.cons_eq_cons.mp el
    k_search ⟨io_law_folding⟩
    refine ⟨s, j + 1, rfl, by omega, by omega, fun s2 elder he => ?_⟩
    k_search ⟨io_law_folding⟩
    refine ⟨rg_small (by omega), ?_⟩
    refine lc_fn (fun n : Nat => D.int (n : Nat)) (fun y => ps.contains (y, elder) || ps.contains (elder, y)) (fun y => D.int (y : Nat)) ?_ (by rw [List.length_range]; exact size100 (by omega)) ?_
    · intro y hy acc kk hacc h
      k_search ⟨pair_in, pairsD_ok, oks_cons, io_law_folding⟩
      cases ha : ps.contains (y, elder) <;> cases hb : ps.contains (elder, y) <;> simp only [ha, hb, Bool.or_true, Bool.or_false, Bool.true_or, if_true, if_false, Bool.false_eq_true] at h <;> k_search ⟨ha, hb, pair_in, pairsD_ok, oks_cons, io_law_folding⟩ <;> first | exact ⟨hacc, h⟩ | exact h
    have e1 : ((List.range (j + 1)).filter fun y => ps.contains (y, elder) || ps.contains (elder, y)).map (fun y => D.int (y : Nat)) = natsD ((List.range (j + 1)).filter fun y => ps.contains (y, elder) || ps.contains (elder, y)) := rfl
    rw [e1]
    generalize er : ((List.range (j + 1)).filter fun y => ps.contains (y, elder) || ps.contains (elder, y)) = row
    have hrow : ∀ y ∈ row, y < j + 1 := fun y hy => by
      rw [← er] at hy
      exact List.mem_range.mp (List.mem_filter.mp hy).1
    have hrl : row.length ≤ j + 1 := by
      rw [← er]
      exact Nat.le_trans (List.length_filter_le _ _) (by rw [List.length_range]; exact Nat.le_refl _)
    k_search ⟨io_law_folding⟩
    refine lc_ty (fun n : Nat => D.int (n : Nat)) (I := fun l ρ acc => ∃ (s : DealS) (ks : List Nat), (∀ y ∈ l, y < j + 1) ∧ (∀ y ∈ ks, y < j + 1) ∧ ks.length + l.length ≤ j + 1 ∧ acc = natsD ks ∧ ρ = [some (dealD s), some (.int most), some (.int (r + 1 : Nat)), some (.lst true (pairsD ps)), some (.int (j + 1 : Nat)), some (.int elder), some (.lst false (natsD row)), none, e]) ?_ ?_ _ _ _ ⟨s2, [], hrow, by simp, by simpa using hrl, rfl, rfl⟩
    · rintro y l kk hkk ρ acc ⟨s, ks, hl, hks, hle, rfl, rfl⟩
      k_search ⟨io_law_folding⟩
      refine ⟨s, 3, rfl, by omega, by omega, fun s3 v hv => ?_⟩
      simp only [List.length_cons] at hle
      k_search ⟨gt0, io_law_folding⟩
      by_cases h0 : 0 < v
      · simp only [decide_eq_true h0, if_true]
        refine ⟨Nat.lt_of_le_of_lt (by omega : ks.length ≤ 100) (by decide), ?_⟩
        rw [← natsD_snoc]
        exact hkk _ _ ⟨s3, ks ++ [y], fun z hz => hl z (List.mem_cons_of_mem _ hz), fun z hz => by
          rcases List.mem_append.mp hz with hz | hz
          · exact hks z hz
          · rw [List.mem_singleton.mp hz]; exact hl y List.mem_cons_self, by simp; omega, rfl, rfl⟩
      · simp only [decide_eq_false h0, Bool.false_eq_true, if_false]
        exact hkk _ _ ⟨s3, ks, fun z hz => hl z (List.mem_cons_of_mem _ hz), hks, by omega, rfl, rfl⟩
    · rintro ρ acc ⟨s3, ks, _, hks, hle, rfl, rfl⟩
      k_search ⟨io_law_folding⟩
      -- what the new pairs are made of
      have last : ∀ (us : List Nat) (d e : Option D) (s : DealS) (ps2 : List (Nat × Nat)), (∀ y ∈ us, y < j + 1) → us.length ≤ 100 → (ps2 = ps ++ us.map (fun y => (j + 1, y)) ∨ ps2 = ps ++ us.map (fun y => (j + 1, y)) ++ [(j + 1, j + 1)]) → k [some (dealD s), some (.int most), some (.int (r + 1 : Nat)), some (.lst true (pairsD ps2)), some (.int (j + 1 : Nat)), some (.int elder), some (.lst false (natsD row)), d, e] := by
        intro us d e s ps2 hus hul h
        refine hk _ ⟨s, ps2, j + 1, _, _, _, _, _, rfl, by omega, fun p hp => ?_, ?_, rfl⟩
        · have hp' : p ∈ ps ∨ (∃ y ∈ us, (j + 1, y) = p) ∨ p = (j + 1, j + 1) := by
            rcases h with rfl | rfl
            · simp only [List.mem_append, List.mem_map] at hp; exact hp.imp_right .inl
            · simp only [List.mem_append, List.mem_map, List.mem_singleton] at hp
              rcases hp with (hp | hp) | hp
              · exact .inl hp
              · exact .inr (.inl hp)
              · exact .inr (.inr hp)
          rcases hp' with hp | ⟨y, hy, rfl⟩ | rfl
          · exact hps p hp
          · have := hus y hy
            exact ⟨by show j + 1 < r + 1; omega, by show y < r + 1; omega⟩
          · exact ⟨by show j + 1 < r + 1; omega, by show j + 1 < r + 1; omega⟩
        · rcases h with rfl | rfl
          · simp only [List.length_append, List.length_map]; omega
          · simp only [List.length_append, List.length_map, List.length_singleton]; omega
      have fin : ∀ (us : List Nat) (o : Bool) (kk : DEnv → Prop), (∀ y ∈ us, y < j + 1) → us.length ≤ 100 → (∀ s ps2, (ps2 = ps ++ us.map (fun y => (j + 1, y)) ∨ ps2 = ps ++ us.map (fun y => (j + 1, y)) ++ [(j + 1, j + 1)]) → kk [some (dealD s), some (.int most), some (.int (r + 1 : Nat)), some (.lst true (pairsD ps2)), some (.int (j + 1 : Nat)), some (.int elder), some (.lst false (natsD row)), none, some (.lst o (natsD ks))]) → True := fun _ _ _ _ _ _ => trivial
      have hsz : ∀ us : List Nat, us.length ≤ 100 → ps.length + us.length ≤ sizeLine := fun us h => size100 (by omega)
      have hks2 : ks.length ≤ 100 := by simp only [List.length_nil] at hle; omega
      by_cases hk0 : ks = []
      · subst hk0
        k_search ⟨List.isEmpty_nil, cut_one, io_law_folding⟩
        have hus : ∀ y ∈ row.take 1, y < j + 1 := fun y hy => hrow y (List.mem_of_mem_take hy)
        have hul : (row.take 1).length ≤ 100 := by rw [List.length_take]; omega
        generalize row.take 1 = us at hus hul
        refine lc_map (fun n : Nat => D.int (n : Nat)) (fun y => pairD (j + 1, y)) ?_ (size100 (by omega)) ?_
        · intro y hy acc kk hacc h
          k_search ⟨io_law_folding⟩
          exact ⟨hacc, h⟩
        rw [map_pairs]
        k_search ⟨List.length_map, pairsD_app_r, List.contains_nil, io_law_folding⟩
        exact ⟨hsz us hul, last us _ _ _ _ hus hul (.inl rfl)⟩
      · have hne : ks.isEmpty = false := by simpa using hk0
        k_search ⟨hne, io_law_folding⟩
        refine lc_map (fun n : Nat => D.int (n : Nat)) (fun y => pairD (j + 1, y)) ?_ (size100 (by omega)) ?_
        · intro y hy acc kk hacc h
          k_search ⟨io_law_folding⟩
          exact ⟨hacc, h⟩
        rw [map_pairs]
        k_search ⟨List.length_map, pairsD_app_r, pair_in, pairsD_ok, oks_cons, io_law_folding⟩
        refine ⟨hsz ks hks2, ?_⟩
        have l1 := fun s => last ks none (some (.lst false (natsD ks))) s _ hks hks2 (.inl rfl)
        have l2 := fun s => last ks none (some (.lst false (natsD ks))) s _ hks hks2 (.inr rfl)
        cases ks.contains elder with
        | false =>
          k_search ⟨io_law_folding⟩
          exact l1 _
        | true =>
          k_search ⟨pair_in, pairsD_ok, oks_cons, pairsD_app_r, io_law_folding⟩
          cases (ps ++ List.map (fun y => (j + 1, y)) ks).contains (elder, elder) with
          | false =>
            k_search ⟨io_law_folding⟩
            exact l1 _
          | true =>
            k_search ⟨io_law_folding⟩
            refine ⟨s3, 2, rfl, by omega, by omega, fun s4 v hv => ?_⟩
            k_search ⟨io_law_folding⟩
            by_cases hv0 : v = 0
            · subst hv0
              have e0 : (((0 : Nat) : Int) == 0) = true := rfl
              k_search ⟨e0, pairD_snoc, io_law_folding⟩
              exact ⟨Nat.lt_of_lt_of_le (by rw [List.length_append, List.length_map]; omega : (ps ++ List.map (fun y => (j + 1, y)) ks).length < 100000) (by decide), l2 _⟩
            · have e0 : ((v : Int) == 0) = false := by
                apply beq_eq_false_iff_ne.mpr
                omega
              k_search ⟨e0, io_law_folding⟩
              exact l1 _
  · rintro ρ ⟨s, ps, j, a, b, c, d, e, el, hj, hps, hlen, rfl⟩
    k_search ⟨io_law_folding⟩
    refine ⟨_, ps, rfl, by omega, hps, fun t G J => ?_⟩
    k_search ⟨io_law_folding⟩
    refine ⟨_, _, t, rfl, G.toGraph, by omega, fun s' t' G' R' => ?_⟩
    k_search ⟨io_law_folding⟩
    exact hΦ _ _ _ (by omega) (by omega) G'

end LX

set_option maxHeartbeats 0
namespace LX
open PySem PySem.Spec PyProof.Rows L2 DL
local macro_rules | `(tactic| k_search ⟨$es,*⟩) => `(tactic| simp only [$[$es:term],*, ↓wVar.ap, ↓wC.ap, ↓w1.ap, ↓w2.ap, ↓wTest.ap, ↓wAnd.ap, ↓wOr.ap, ↓wNot.ap, ↓wAndV.ap, ↓wOrV.ap, ↓wNotV.ap, ↓wIf.ap, ↓wNil.ap, ↓wCons.ap, ↓wN.ap, ↓wTup.ap, ↓wTupQ.ap, ↓wLstO.ap, ↓wLst.ap, ↓wIx.ap, ↓wNoPart.ap, ↓wPart.ap, ↓wSlice.ap, ↓wSeq.ap, ↓wRange1.ap, ↓wRange2.ap, ↓wEnum.ap, ↓wZip.ap, ↓wgName.ap, ↓wgsNil.ap, ↓wgsCons.ap, ↓wgTup.ap, ↓wYes.ap, ↓wLc.ap, ↓wNext.ap, ↓wsSeq.ap, ↓wBreak.ap, ↓wCont.ap, ↓wAsg.ap, ↓wAsgF.ap, ↓wRet.ap, ↓wRetN.ap, ↓wDrop.ap, ↓wsIf.ap, ↓wFor.ap, ↓wCall.ap, ↓wAppend.ap, ↓wPop.ap, ↓wPopAt.ap, ↓wSetIx.ap, ↓wTgF.ap, ↓wPar.ap, ↓wChain.ap, ↓wCallP.ap, ↓wBoth.ap, ↓wLc2.ap, ↓wListRg1.ap, ↓wTupRg1.ap, ↓wListRg2.ap, ↓wJoin.ap, ↓opAdd_i, ↓opAdd_s, ↓opAdd_t, ↓opAdd_l, ↓opSub_i, ↓opMod_i, ↓opDiv_i, ↓opMul_i, ↓opMul_l, ↓opMul_t, ↓opPow_i, ↓opNeg_i, ↓opLt_i, ↓opLe_i, ↓opGt_i, ↓opGe_i, ↓opIs_n, ↓opIs_b, ↓opIsNot_n, ↓opIsNot_b, ↓opEq_ap, ↓opNe_ap, ↓opIn_l, ↓opIn_t, ↓opIn_s, ↓opNotIn_l, ↓opNotIn_t, ↓opNotIn_s, ↓opLen_t, ↓opLen_l, ↓opLen_r, ↓opLen_s, ↓opTuple_t, ↓opTuple_l, ↓opTuple_r, ↓opList_t, ↓opList_l, ↓opList_r, ↓opSorted_l, ↓opAbs_i, ↓opMax2_i, ↓opMin2_i, ↓opInt_i, ↓opInt_b, ↓opInt_s, ↓opStr_i, ↓opAll_l, ↓opAny_l, ↓opRev_l, ↓opIsi_ap, ↓sliceD_t, ↓sliceD_l, ↓sliceD_r, ↓outOk_ap, ↓scal_int, ↓ixl_1_0, ↓ixl_1_m, ↓ixl_2_0, ↓ixl_2_1, ↓ixl_2_m, ↓ixl_3_0, ↓ixl_3_1, ↓ixl_3_2, ↓ixl_3_m, ↓ixl_4_0, ↓ixl_4_1, ↓ixl_4_2, ↓ixl_4_3, ↓ixl_4_m, ↓wdk_some, ↓asIk_int, ↓asBk_bl, ↓asLOk_lst, ↓ifk_t, ↓ifk_f, ↓lcGok_nil, ↓forGok_nil, ↓whilek_ap, ↓popD_ap, ↓item_tup, ↓item_lst, ↓item_ro, ↓itemD_st, ↓asI_int, ↓asB_bl, ↓asLO_lst, ↓wd_some, ↓lcGo_nil, ↓forGo_nil, lk0, lkS, wd_some, asI_int, asB_bl, asLO_lst, deref_val, deref_slot, deref_sub, moveT_val, moveT_slot, elemT_val, elemT_slot, frzT_val, frzT_slot, frzTs_nil, frzTs_cons, takeTs_nil, takeTs_cons, takeT1_tv, takeT1_ts, takeT1_f, putBack_s, putBack_n, putBack_nil, outArgs_nil, outArgs_t, outArgs_f, own_lst, own_tup, own_int, own_bl, own_str, own_non, own_ro, frz_tup, frz_int, frz_bl, frz_str, frz_non, frz_ro, frz_lstF, frz_lstT, frzs_nil, frzs_cons, valsT_nil, valsT_val, derefs_nil, derefs_cons, stable_val, stable_slot, stable_sub, placeT_slot, placeT_sub, itemsD_tup, itemsD_lst, itemsD_ro, itemsD_str, seqD_tup, seqD_lst, seqD_ro, listOf_lst, listOf_ro, walk_nil, walk_lst, setP_nil2, setP_lst, item_tup, item_lst, item_ro, itemD_st, atT_val, atT_int, atT_tup, atT_str, atT_lstT, atT_lstF, subT_slot, subT_sub, popD_ap, setPlace_ap, wipeD_nil, wipeD_cons, storeD_nil, storeD_cons, wdk_some, asIk_int, asBk_bl, asLOk_lst, ifk_t, ifk_f, lcGok_nil, forGok_nil, lcGo_nil, forGo_nil, pureL_nil, pureL_cons, opAdd_i, opAdd_s, opAdd_t, opAdd_l, opSub_i, opMod_i, opDiv_i, opMul_i, opMul_l, opMul_t, opPow_i, opNeg_i, opLt_i, opLe_i, opGt_i, opGe_i, opIs_n, opIs_b, opIsNot_n, opIsNot_b, opEq_ap, opNe_ap, opIn_l, opIn_t, opIn_s, opNotIn_l, opNotIn_t, opNotIn_s, opLen_t, opLen_l, opLen_r, opLen_s, opTuple_t, opTuple_l, opTuple_r, opList_t, opList_l, opList_r, opSorted_l, opAbs_i, opMax2_i, opMin2_i, opInt_i, opInt_b, opInt_s, opStr_i, opAll_l, opAny_l, opRev_l, opIsi_ap, sliceD_t, sliceD_l, sliceD_r, outOk_ap, scal_int, ixl_1_0, ixl_1_m, ixl_2_0, ixl_2_1, ixl_2_m, ixl_3_0, ixl_3_1, ixl_3_2, ixl_3_m, ixl_4_0, ixl_4_1, ixl_4_2, ixl_4_3, ixl_4_m, Option.bind_some, Option.map_some, List.set_cons_zero, List.set_cons_succ, List.set_nil, List.length_cons, List.length_nil, List.length_set, List.getElem?_cons_zero, List.getElem?_cons_succ, List.cons_append, List.nil_append, Bool.or_true, Bool.true_or, Bool.false_or, Bool.or_false, Bool.and_true, Bool.true_and, Bool.and_false, Bool.false_and, Bool.not_true, Bool.not_false, if_true, if_false, ite_true, ite_false, Bool.false_eq_true, eq_self, true_and, and_true, false_and, and_false, Nat.reduceAdd, Nat.reduceLT, Nat.zero_add, List.filterMap_cons, List.filterMap_nil, id_eq, List.nodup_nil, List.map_cons, List.map_nil, Nat.reduceSub, List.all_nil, List.all_cons, nodup1, sz1, sz2, sz3, sz4, sz5, sz6, sz7, sz8, sz9, sz10, sz11, sz12, Nat.zero_le, enumRows, ownRows_len, ownRows_at, ownRows_set, ownRows_frz, rangeD_nat0, rangeD_nat, asInts_nats, sortN_D, Int.toNat_natCast, natsD_len, natsD_at, natsD_frz, natsD_pure, natsD_nil, rowsD_len, rowsD_at, rowsD_frz, rowsD_pure, rowT_ap, pairsD_nil, pairsD_len, pairsD_frz, pairsD_pure, pairsD_at, tabD, flat_int, natsD_flat, natsD_in, eqv_int, beq_nat, natsD_ok, deal_own, eqv_tups, natsD_eqv, ok_int, ok_tup, ok_lst, oks_nil, eqv_nil, natsD_emp, bq0, bq1, bq2, bq3, bq4, bq5, bq6, bq7, bq8, bq9, bq10, bq11, bq12, bq13])

/-! _law_rule -/
abbrev N_law_rule : List Str := ["deal", "most", "form", "many", "x", "share", "pairs", "y"]
abbrev w_law_rule : WS := (wsSeq (wPar [2, 3] (wCons false (wCall [true, false] fs_law_any (wCons true (wVar 0) (wCons true (wC (.int 5)) wNil))) (wCons true (w2 false opAdd (wC (.int 1)) (wCall [true, false] fs_law_any (wCons true (wVar 0) (wCons true (wVar 1) wNil)))) wNil)))
    (wsSeq (wsIf (wTest (w2 true opLt (wVar 2) (wC (.int 2)))) (wRet (wCall [true, false] fs_law_folding (wCons true (wVar 0) (wCons true (wVar 1) wNil)))) wNext)
    (wsSeq (wsIf (wTest (w2 true opEq (wVar 2) (wC (.int 2)))) (wRet (wCall [true, false] fs_law_renamed (wCons false (wVar 0) (wCons true (wCall [false, false] fs_law_joined (wCons false (wN opMax2 (wCons true (wC (.int 3)) (wCons true (wVar 3) wNil))) (wCons true (wLc [4] (wRange1 (wCons true (wN opMax2 (wCons true (wC (.int 3)) (wCons true (wVar 3) wNil))) wNil)) (wgName 4) wYes (wTupQ (wCons true (wVar 4) (wCons true (w2 true opMod (wN opInt (wCons true (w2 true opAdd (wVar 4) (wC (.int 1))) wNil)) (wN opMax2 (wCons true (wC (.int 3)) (wCons true (wVar 3) wNil)))) wNil)))) wNil))) wNil)))) wNext)
    (wsSeq (wAsg 5 (wCall [true, false] fs_law_of (wCons true (wVar 0) (wCons true (wLstO (wCons true (wC (.int 2)) (wCons true (wC (.int 3)) (wCons true (wC (.int 5)) wNil)))) wNil))))
    (wsSeq (wAsg 6 (wLc [4, 7] (wSeq (wCall [false, false] fs_law_under (wCons true (wVar 3) (wCons true (wC (.int 1)) wNil)))) (wgTup 2 (wgsCons (wgName 4) (wgsCons (wgName 7) wgsNil))) (wTest (w2 true opEq (wCall [true, false] fs_law_any (wCons true (wVar 0) (wCons true (wVar 5) wNil))) (wC (.int 0)))) (wTupQ (wCons true (wVar 4) (wCons true (wVar 7) wNil)))))
    (wRet (wCall [false, false] fs_law_joined (wCons true (wVar 3) (wCons true (wVar 6) wNil)))))))))
abbrev io_law_rule : List Bool := [true, false]

def fs_law_rule : FS := fun ds Φ _ => ∃ (s : DealS) (most : Nat), ds = [dealD s, .int most] ∧ 1 ≤ most ∧ most ≤ 100 ∧ ∀ (s' : DealS) n t, 1 ≤ n → n ≤ max 3 most → Rul n t → Φ (tabD t) [dealD s', .int most]
theorem hl_law_rule : ∀ ds Φ Ψ, fs_law_rule ds Φ Ψ → ds.length = 2 := by
  rintro ds Φ Ψ ⟨s, n, rfl, _⟩
  rfl
theorem st_law_rule (a b : D) : startD N_law_rule [a, b] = [some a, some b, none, none, none, none, none, none] := rfl
theorem max_nat (m : Nat) : (if ((m : Nat) : Int) > 3 then (m : Int) else 3) = ((max 3 m : Nat) : Int) := by
  split <;> omega
theorem add1 (x : Nat) : (x : Int) + 1 = ((x + 1 : Nat) : Int) := by omega
theorem mod_nat (a b : Nat) : (a : Int) % (b : Int) = ((a % b : Nat) : Int) := by norm_cast
theorem under_mem {more : Nat} {l : List Nat} {p : Nat × Nat} (h : p ∈ underL more l) : p.1 ∈ l ∧ p.2 < p.1 + more := by
  unfold underL at h
  obtain ⟨x, hx, h⟩ := List.mem_flatMap.mp h
  obtain ⟨y, hy, rfl⟩ := List.mem_map.mp h
  exact ⟨hx, List.mem_range.mp hy⟩
theorem eq_lit {a b : Nat} : ((a : Int) == (b : Int)) = decide (a = b) := by
  by_cases h : a = b
  · subst h; simp
  · rw [decide_eq_false h]; apply beq_eq_false_iff_ne.mpr; omega
theorem h_law_rule : ∀ ds Φ Ψ, fs_law_rule ds Φ Ψ → w_law_rule ⟨fun ρ => outOk io_law_rule ds ρ (Φ .non), fun d ρ => outOk io_law_rule ds ρ (Φ d), fun _ => False, fun _ => False⟩ (fun x ρ => outOk io_law_rule ds ρ (Ψ x)) (startD N_law_rule ds) := by
  rintro ds Φ Ψ ⟨s, most, rfl, h1, h2, hΦ⟩
  k_search ⟨st_law_rule, w_law_rule, io_law_rule⟩
  refine ⟨s, 5, rfl, by omega, by omega, fun s1 form hf => ?_⟩
  k_search ⟨io_law_rule⟩
  refine ⟨s1, most, rfl, by omega, by omega, fun s2 r hr => ?_⟩
  k_search ⟨one_add, io_law_rule⟩
  by_cases c1 : form < 2
  · have e1 : decide ((form : Int) < 2) = true := decide_eq_true (by omega)
    k_search ⟨e1, io_law_rule⟩
    refine ⟨s2, most, rfl, h1, h2, fun s' n t h1 h2 G => ?_⟩
    k_search ⟨io_law_rule⟩
    exact hΦ s' n t h1 (by omega) G
  · have e1 : decide ((form : Int) < 2) = false := decide_eq_false (by omega)
    k_search ⟨e1, io_law_rule⟩
    by_cases c2 : form = 2
    · subst c2
      have e2 : (((2 : Nat) : Int) == 2) = true := rfl
      obtain ⟨M, hMe⟩ : ∃ M, M = max 3 (r + 1) := ⟨_, rfl⟩
      k_search ⟨e2, max_nat, hMe.symm, io_law_rule⟩
      have hM : max 3 (r + 1) ≤ 101 := by omega
      have hM0 : 3 ≤ max 3 (r + 1) := by omega
      have hM1 : max 3 (r + 1) ≤ 100 := by omega
      rw [← hMe] at hM hM0 hM1
      refine ⟨rg_small (by omega), ?_⟩
      refine lc_map (fun n : Nat => D.int (n : Nat)) (fun x => DL.pairD (x, (x + 1) % M)) ?_ (by rw [List.length_range]; exact size100 (by omega)) ?_
      · intro x hx acc kk hacc h
        k_search ⟨add1, max_nat, hMe.symm, mod_nat, io_law_rule⟩
        exact ⟨by omega, hacc, h⟩
      · have e3 : (List.range M).map (fun x => DL.pairD (x, (x + 1) % M)) = pairsD ((List.range M).map fun x => (x, (x + 1) % M)) := by rw [pairsD, List.map_map]; rfl
        rw [e3]
        k_search ⟨max_nat, hMe.symm, io_law_rule⟩
        refine ⟨M, _, rfl, hM1, fun p hp => ?_, fun t G J => ?_⟩
        · obtain ⟨x, hx, rfl⟩ := List.mem_map.mp hp
          exact ⟨List.mem_range.mp hx, Nat.mod_lt _ (by omega)⟩
        · k_search ⟨io_law_rule⟩
          refine ⟨_, _, t, rfl, G.toGraph, hM1, fun s' t' G' R' => ?_⟩
          k_search ⟨io_law_rule⟩
          exact hΦ s' M t' (by omega) (by omega) G'
    · have e2 : ((form : Int) == 2) = false := by apply beq_eq_false_iff_ne.mpr; omega
      k_search ⟨e2, io_law_rule⟩
      refine ⟨s2, [.int 2, .int 3, .int 5], _, rfl, Or.inl rfl, by simp, by simp, fun s3 i x hx => ?_⟩
      obtain ⟨v, rfl, hv⟩ : ∃ v : Nat, x = .int v ∧ 0 < v ∧ v < 100 := by
        match i, hx with
        | 0, hx => cases hx; exact ⟨2, rfl, by omega⟩
        | 1, hx => cases hx; exact ⟨3, rfl, by omega⟩
        | 2, hx => cases hx; exact ⟨5, rfl, by omega⟩
        | i + 3, hx => simp at hx
      k_search ⟨io_law_rule⟩
      refine ⟨r + 1, 1, rfl, by omega, by omega, ?_⟩
      k_search ⟨io_law_rule⟩
      have hul := under_len 1 (by omega) (List.range (r + 1)) fun x hx => by have := List.mem_range.mp hx; omega
      have hum : ∀ p ∈ underL 1 (List.range (r + 1)), p.1 < r + 1 ∧ p.2 < r + 1 := fun p hp => by
        have := under_mem hp
        have h1 := List.mem_range.mp this.1
        exact ⟨h1, by omega⟩
      rw [List.length_range] at hul
      generalize underL 1 (List.range (r + 1)) = us at hul hum
      refine lc_ty pairD (I := fun l ρ acc => ∃ (s : DealS) (ks : List (Nat × Nat)), (∀ p ∈ l, p.1 < r + 1 ∧ p.2 < r + 1) ∧ (∀ p ∈ ks, p.1 < r + 1 ∧ p.2 < r + 1) ∧ ks.length + l.length ≤ 10100 ∧ acc = pairsD ks ∧ ρ = [some (dealD s), some (.int most), some (.int form), some (.int (r + 1 : Nat)), none, some (.int v), none, none]) ?_ ?_ _ _ _ ⟨s3, [], hum, by simp, by simp; omega, rfl, rfl⟩
      · rintro ⟨x, y⟩ l kk hkk ρ acc ⟨s, ks, hl, hks, hle, rfl, rfl⟩
        k_search ⟨pairD_ap, io_law_rule⟩
        refine ⟨s, v, rfl, by omega, by omega, fun s3 v hv => ?_⟩
        simp only [List.length_cons] at hle
        k_search ⟨io_law_rule⟩
        by_cases hv0 : v = 0
        · subst hv0
          have e0 : (((0 : Nat) : Int) == 0) = true := rfl
          k_search ⟨e0, pairD_snoc, io_law_rule⟩
          exact ⟨Nat.lt_of_le_of_lt (by omega : ks.length ≤ 10100) (by decide), hkk _ _ ⟨s3, ks ++ [(x, y)], fun z hz => hl z (List.mem_cons_of_mem _ hz), fun z hz => by
            rcases List.mem_append.mp hz with hz | hz
            · exact hks z hz
            · rw [List.mem_singleton.mp hz]; exact hl _ List.mem_cons_self, by simp; omega, rfl, rfl⟩⟩
        · have e0 : ((v : Int) == 0) = false := by
            apply beq_eq_false_iff_ne.mpr
            omega
          k_search ⟨e0, io_law_rule⟩
          exact hkk _ _ ⟨s3, ks, fun z hz => hl z (List.mem_cons_of_mem _ hz), hks, by omega, rfl, rfl⟩
      · rintro ρ acc ⟨s3, ks, _, hks, hle, rfl, rfl⟩
        k_search ⟨io_law_rule⟩
        refine ⟨r + 1, ks, rfl, by omega, hks, fun t G J => ?_⟩
        k_search ⟨io_law_rule⟩
        exact hΦ s3 (r + 1) t (by omega) (by omega) G

/-! _law_web -/
abbrev N_law_web : List Str := ["deal", "most", "many", "form", "pairs", "x", "share", "y"]
abbrev w_law_web : WS := (wsSeq (wPar [2, 3] (wCons false (wCall [true, false] fs_law_any (wCons true (wVar 0) (wCons true (w2 true opAdd (wVar 1) (wC (.int 1))) wNil))) (wCons true (wCall [true, false] fs_law_any (wCons true (wVar 0) (wCons true (wC (.int 5)) wNil))) wNil)))
    (wsSeq (wsIf (wTest (w2 true opEq (wVar 3) (wC (.int 0)))) (wAsg 4 (wLc [5] (wRange2 (wCons true (wC (.int 1)) (wCons true (wVar 2) wNil))) (wgName 5) wYes (wTup (wCons false (wVar 5) (wCons true (wCall [true, false] fs_law_any (wCons true (wVar 0) (wCons true (wVar 5) wNil))) wNil))))) (wsIf (wTest (w2 true opEq (wVar 3) (wC (.int 1)))) (wAsg 4 (wLc [5] (wRange1 (wCons true (wIf (wTest (w2 true opGt (wVar 2) (wC (.int 2)))) (wVar 2) (w2 true opSub (wVar 2) (wC (.int 1)))) wNil)) (wgName 5) wYes (wTupQ (wCons true (wVar 5) (wCons true (w2 true opMod (wN opInt (wCons true (w2 true opAdd (wVar 5) (wC (.int 1))) wNil)) (wVar 2)) wNil))))) (wsIf (wTest (w2 true opEq (wVar 3) (wC (.int 2)))) (wAsg 4 (w2 false opAdd (wLc [5] (wRange1 (wCons true (w2 true opSub (wVar 2) (wC (.int 1))) wNil)) (wgName 5) wYes (wTupQ (wCons true (wVar 5) (wCons true (w2 true opAdd (wVar 5) (wC (.int 1))) wNil)))) (wLc [5] (wRange1 (wCons true (w2 true opSub (wVar 2) (wC (.int 2))) wNil)) (wgName 5) (wTest (w2 true opEq (wCall [true, false] fs_law_any (wCons true (wVar 0) (wCons true (wC (.int 2)) wNil))) (wC (.int 0)))) (wTupQ (wCons true (wVar 5) (wCons true (w2 true opAdd (wVar 5) (wC (.int 2))) wNil)))))) (wsSeq (wAsg 6 (wCall [true, false] fs_law_of (wCons true (wVar 0) (wCons true (wLstO (wCons true (wC (.int 2)) (wCons true (wC (.int 4)) (wCons true (wC (.int 9)) wNil)))) wNil))))
    (wAsg 4 (wLc [5, 7] (wSeq (wCall [false, false] fs_law_under (wCons true (wVar 2) (wCons true (wC (.int 0)) wNil)))) (wgTup 2 (wgsCons (wgName 5) (wgsCons (wgName 7) wgsNil))) (wTest (w2 true opEq (wCall [true, false] fs_law_any (wCons true (wVar 0) (wCons true (wVar 6) wNil))) (wC (.int 0)))) (wTupQ (wCons true (wVar 5) (wCons true (wVar 7) wNil)))))))))
    (wRet (wCall [true, false] fs_law_renamed (wCons false (wVar 0) (wCons true (wCall [false, false] fs_law_joined (wCons true (wVar 2) (wCons true (wVar 4) wNil))) wNil))))))
abbrev io_law_web : List Bool := [true, false]

def fs_law_web : FS := fun ds Φ _ => ∃ (s : DealS) (most : Nat), ds = [dealD s, .int most] ∧ most ≤ 100 ∧ ∀ (s' : DealS) n t, n ≤ most → Rul n t → Irr t → Φ (tabD t) [dealD s', .int most]
theorem hl_law_web : ∀ ds Φ Ψ, fs_law_web ds Φ Ψ → ds.length = 2 := by
  rintro ds Φ Ψ ⟨s, n, rfl, _⟩
  rfl
theorem st_law_web (a b : D) : startD N_law_web [a, b] = [some a, some b, none, none, none, none, none, none] := rfl
theorem rangeD_1n (n : Nat) : rangeD 1 ((n : Int) - 1).toNat = natsD (List.range' 1 (n - 1)) := by
  have e : ((n : Int) - 1).toNat = n - 1 := by omega
  rw [e]
  exact rangeD_from 1 (n - 1)
theorem rangeD_m1 (n : Nat) : rangeD 0 ((n : Int) - 1).toNat = natsD (List.range (n - 1)) := by
  have e : ((n : Int) - 1).toNat = n - 1 := by omega
  rw [e, rangeD_nat]
theorem rangeD_m2 (n : Nat) : rangeD 0 ((n : Int) - 2).toNat = natsD (List.range (n - 2)) := by
  have e : ((n : Int) - 2).toNat = n - 2 := by omega
  rw [e, rangeD_nat]
theorem add2 (x : Nat) : (x : Int) + 2 = ((x + 2 : Nat) : Int) := by omega
theorem ne_succ_mod {x n : Nat} (h : x < n) (h1 : 1 < n) : x ≠ (x + 1) % n := by
  by_cases c : x + 1 < n
  · rw [Nat.mod_eq_of_lt c]; omega
  · have e : x + 1 = n := by omega
    rw [e, Nat.mod_self]; omega
theorem irr_of {ps : List (Nat × Nat)} {t : List (List Nat)} (J : Joi ps t) (h : ∀ p ∈ ps, p.1 ≠ p.2) : Irr t := fun x hx => by
  rcases (J x x).mp hx with hx | hx
  · exact h _ hx rfl
  · exact h _ hx rfl
theorem h_law_web : ∀ ds Φ Ψ, fs_law_web ds Φ Ψ → w_law_web ⟨fun ρ => outOk io_law_web ds ρ (Φ .non), fun d ρ => outOk io_law_web ds ρ (Φ d), fun _ => False, fun _ => False⟩ (fun x ρ => outOk io_law_web ds ρ (Ψ x)) (startD N_law_web ds) := by
  rintro ds Φ Ψ ⟨s, most, rfl, h1, hΦ⟩
  k_search ⟨st_law_web, w_law_web, add1, io_law_web⟩
  refine ⟨s, most + 1, rfl, by omega, by omega, fun s1 many hm => ?_⟩
  k_search ⟨io_law_web⟩
  refine ⟨s1, 5, rfl, by omega, by omega, fun s2 form hf => ?_⟩
  k_search ⟨io_law_web⟩
  have tn1 : ((many : Int) - 1).toNat = many - 1 := by omega
  have tn2 : ((many : Int) - 2).toNat = many - 2 := by omega
  have rg1 : rgOk ((many : Int) - 1) := by unfold rgOk; omega
  have rg2 : rgOk ((many : Int) - 2) := by unfold rgOk; omega
  by_cases c0 : form = 0
  · subst c0
    have e0 : (((0 : Nat) : Int) == 0) = true := rfl
    k_search ⟨e0, io_law_web⟩
    refine ⟨rg_one, rg_small (by omega), ?_⟩
    rw [rangeD_1n]
    have hr : ∀ x ∈ List.range' 1 (many - 1), 0 < x ∧ x < many := fun x hx => by
      have := List.mem_range'_1.mp hx
      omega
    refine lc_ty (fun n : Nat => D.int (n : Nat)) (I := fun l ρ acc => ∃ (s : DealS) (ks : List (Nat × Nat)), (∀ x ∈ l, 0 < x ∧ x < many) ∧ (∀ p ∈ ks, p.1 < many ∧ p.2 < many ∧ p.1 ≠ p.2) ∧ ks.length + l.length ≤ 100 ∧ acc = pairsD ks ∧ ρ = [some (dealD s), some (.int most), some (.int many), some (.int (0 : Nat)), none, none, none, none]) ?_ ?_ _ _ _ ⟨s2, [], hr, by simp, by rw [List.length_range']; simp; omega, rfl, rfl⟩
    · rintro x l kk hkk ρ acc ⟨s, ks, hl, hks, hle, rfl, rfl⟩
      have hx := hl x List.mem_cons_self
      simp only [List.length_cons] at hle
      k_search ⟨io_law_web⟩
      refine ⟨s, x, rfl, hx.1, by omega, fun s3 v hv => ?_⟩
      k_search ⟨pairD_snoc, io_law_web⟩
      exact ⟨Nat.lt_of_le_of_lt (by omega : ks.length ≤ 100) (by decide), hkk _ _ ⟨s3, ks ++ [(x, v)], fun z hz => hl z (List.mem_cons_of_mem _ hz), fun z hz => by
        rcases List.mem_append.mp hz with hz | hz
        · exact hks z hz
        · rw [List.mem_singleton.mp hz]; exact ⟨hx.2, by show v < many; omega, by show x ≠ v; omega⟩, by simp; omega, rfl, rfl⟩⟩
    · rintro ρ acc ⟨s3, ks, _, hks, hle, rfl, rfl⟩
      k_search ⟨io_law_web⟩
      refine ⟨many, ks, rfl, by omega, fun p hp => ⟨(hks p hp).1, (hks p hp).2.1⟩, fun t G J => ?_⟩
      k_search ⟨io_law_web⟩
      refine ⟨_, _, t, rfl, G.toGraph, by omega, fun s' t' G' R' => ?_⟩
      k_search ⟨io_law_web⟩
      exact hΦ s' many t' (by omega) G' (R'.irr G'.toGraph (irr_of J fun p hp => (hks p hp).2.2))
  have e0 : ((form : Int) == 0) = false := by apply beq_eq_false_iff_ne.mpr; omega
  by_cases c1 : form = 1
  · subst c1
    have e1 : (((1 : Nat) : Int) == 1) = true := rfl
    have e01 : (((1 : Nat) : Int) == 0) = false := rfl
    k_search ⟨e1, e01, io_law_web⟩
    by_cases c2 : 2 < many
    · have e2 : decide ((2 : Int) < (many : Int)) = true := decide_eq_true (by omega)
      k_search ⟨e2, io_law_web⟩
      refine ⟨rg_small (by omega), ?_⟩
      refine lc_map (fun n : Nat => D.int (n : Nat)) (fun x => DL.pairD (x, (x + 1) % many)) ?_ (by rw [List.length_range]; exact size100 (by omega)) ?_
      · intro x hx acc kk hacc h
        k_search ⟨add1, mod_nat, io_law_web⟩
        exact ⟨by omega, hacc, h⟩
      · have e3 : (List.range many).map (fun x => DL.pairD (x, (x + 1) % many)) = pairsD ((List.range many).map fun x => (x, (x + 1) % many)) := by rw [pairsD, List.map_map]; rfl
        rw [e3]
        have hps : ∀ p ∈ (List.range many).map (fun x => (x, (x + 1) % many)), p.1 < many ∧ p.2 < many ∧ p.1 ≠ p.2 := fun p hp => by
          obtain ⟨x, hx, rfl⟩ := List.mem_map.mp hp
          exact ⟨List.mem_range.mp hx, Nat.mod_lt _ (by omega), ne_succ_mod (List.mem_range.mp hx) (by omega)⟩
        k_search ⟨io_law_web⟩
        refine ⟨many, _, rfl, by omega, fun p hp => ⟨(hps p hp).1, (hps p hp).2.1⟩, fun t G J => ?_⟩
        k_search ⟨io_law_web⟩
        refine ⟨_, _, t, rfl, G.toGraph, by omega, fun s' t' G' R' => ?_⟩
        k_search ⟨io_law_web⟩
        exact hΦ s' many t' (by omega) G' (R'.irr G'.toGraph (irr_of J fun p hp => (hps p hp).2.2))
    · have e2 : decide ((2 : Int) < (many : Int)) = false := decide_eq_false (by omega)
      k_search ⟨e2, io_law_web⟩
      refine ⟨rg1, ?_⟩
      rw [tn1]
      refine lc_map (fun n : Nat => D.int (n : Nat)) (fun x => DL.pairD (x, (x + 1) % many)) ?_ (by rw [List.length_range]; exact size100 (by omega)) ?_
      · intro x hx acc kk hacc h
        have := List.mem_range.mp hx
        k_search ⟨add1, mod_nat, io_law_web⟩
        exact ⟨by omega, hacc, h⟩
      · have e3 : (List.range (many - 1)).map (fun x => DL.pairD (x, (x + 1) % many)) = pairsD ((List.range (many - 1)).map fun x => (x, (x + 1) % many)) := by rw [pairsD, List.map_map]; rfl
        rw [e3]
        have hps : ∀ p ∈ (List.range (many - 1)).map (fun x => (x, (x + 1) % many)), p.1 < many ∧ p.2 < many ∧ p.1 ≠ p.2 := fun p hp => by
          obtain ⟨x, hx, rfl⟩ := List.mem_map.mp hp
          have := List.mem_range.mp hx
          exact ⟨by show x < many; omega, Nat.mod_lt _ (by omega), ne_succ_mod (by omega) (by omega)⟩
        k_search ⟨io_law_web⟩
        refine ⟨many, _, rfl, by omega, fun p hp => ⟨(hps p hp).1, (hps p hp).2.1⟩, fun t G J => ?_⟩
        k_search ⟨io_law_web⟩
        refine ⟨_, _, t, rfl, G.toGraph, by omega, fun s' t' G' R' => ?_⟩
        k_search ⟨io_law_web⟩
        exact hΦ s' many t' (by omega) G' (R'.irr G'.toGraph (irr_of J fun p hp => (hps p hp).2.2))
  have e1 : ((form : Int) == 1) = false := by apply beq_eq_false_iff_ne.mpr; omega
  by_cases c2 : form = 2
  · subst c2
    have e2 : (((2 : Nat) : Int) == 2) = true := rfl
    k_search ⟨e0, e1, e2, io_law_web⟩
    refine ⟨rg1, ?_⟩
    rw [tn1]
    refine lc_map (fun n : Nat => D.int (n : Nat)) (fun x => DL.pairD (x, x + 1)) ?_ (by rw [List.length_range]; exact size100 (by omega)) ?_
    · intro x hx acc kk hacc h
      k_search ⟨add1, io_law_web⟩
      exact ⟨hacc, h⟩
    have e3 : (List.range (many - 1)).map (fun x => DL.pairD (x, x + 1)) = pairsD ((List.range (many - 1)).map fun x => (x, x + 1)) := by rw [pairsD, List.map_map]; rfl
    rw [e3]
    have hps : ∀ p ∈ (List.range (many - 1)).map (fun x => (x, x + 1)), p.1 < many ∧ p.2 < many ∧ p.1 ≠ p.2 := fun p hp => by
      obtain ⟨x, hx, rfl⟩ := List.mem_map.mp hp
      have := List.mem_range.mp hx
      exact ⟨by show x < many; omega, by show x + 1 < many; omega, by show x ≠ x + 1; omega⟩
    have hpl : ((List.range (many - 1)).map (fun x => (x, x + 1))).length ≤ 100 := by rw [List.length_map, List.length_range]; omega
    generalize (List.range (many - 1)).map (fun x => (x, x + 1)) = ps at hps hpl
    k_search ⟨io_law_web⟩
    refine ⟨rg2, ?_⟩
    rw [tn2]
    have hr : ∀ x ∈ List.range (many - 2), x + 2 < many := fun x hx => by
      have := List.mem_range.mp hx
      omega
    refine lc_ty (fun n : Nat => D.int (n : Nat)) (I := fun l ρ acc => ∃ (s : DealS) (ks : List (Nat × Nat)), (∀ x ∈ l, x + 2 < many) ∧ (∀ p ∈ ks, p.1 < many ∧ p.2 < many ∧ p.1 ≠ p.2) ∧ ks.length + l.length ≤ 100 ∧ acc = pairsD ks ∧ ρ = [some (dealD s), some (.int most), some (.int many), some (.int (2 : Nat)), none, none, none, none]) ?_ ?_ _ _ _ ⟨s2, [], hr, by simp, by rw [List.length_range]; simp; omega, rfl, rfl⟩
    · rintro x l kk hkk ρ acc ⟨s, ks, hl, hks, hle, rfl, rfl⟩
      have hx := hl x List.mem_cons_self
      simp only [List.length_cons] at hle
      k_search ⟨io_law_web⟩
      refine ⟨s, 2, rfl, by omega, by omega, fun s3 v hv => ?_⟩
      k_search ⟨io_law_web⟩
      by_cases hv0 : v = 0
      · subst hv0
        have e0 : (((0 : Nat) : Int) == 0) = true := rfl
        k_search ⟨e0, add2, pairD_snoc, io_law_web⟩
        exact ⟨Nat.lt_of_le_of_lt (by omega : ks.length ≤ 100) (by decide), hkk _ _ ⟨s3, ks ++ [(x, x + 2)], fun z hz => hl z (List.mem_cons_of_mem _ hz), fun z hz => by
          rcases List.mem_append.mp hz with hz | hz
          · exact hks z hz
          · rw [List.mem_singleton.mp hz]; exact ⟨by show x < many; omega, hx, by show x ≠ x + 2; omega⟩, by simp; omega, rfl, rfl⟩⟩
      · have e0 : ((v : Int) == 0) = false := by
          apply beq_eq_false_iff_ne.mpr
          omega
        k_search ⟨e0, io_law_web⟩
        exact hkk _ _ ⟨s3, ks, fun z hz => hl z (List.mem_cons_of_mem _ hz), hks, by omega, rfl, rfl⟩
    · rintro ρ acc ⟨s3, ks, _, hks, hle, rfl, rfl⟩
      simp only [List.length_nil] at hle
      k_search ⟨pairsD_app_r, io_law_web⟩
      refine ⟨size100 (by omega), ?_⟩
      have hpp : ∀ p ∈ ps ++ ks, p.1 < many ∧ p.2 < many ∧ p.1 ≠ p.2 := fun p hp => (List.mem_append.mp hp).elim (hps p) (hks p)
      refine ⟨many, _, rfl, by omega, fun p hp => ⟨(hpp p hp).1, (hpp p hp).2.1⟩, fun t G J => ?_⟩
      k_search ⟨io_law_web⟩
      refine ⟨_, _, t, rfl, G.toGraph, by omega, fun s' t' G' R' => ?_⟩
      k_search ⟨io_law_web⟩
      exact hΦ s' many t' (by omega) G' (R'.irr G'.toGraph (irr_of J fun p hp => (hpp p hp).2.2))
  have e2 : ((form : Int) == 2) = false := by apply beq_eq_false_iff_ne.mpr; omega
  k_search ⟨e0, e1, e2, io_law_web⟩
  refine ⟨s2, [.int 2, .int 4, .int 9], _, rfl, Or.inl rfl, by simp, by simp, fun s3 i x hx => ?_⟩
  obtain ⟨v, rfl, hv⟩ : ∃ v : Nat, x = .int v ∧ 0 < v ∧ v < 100 := by
    match i, hx with
    | 0, hx => cases hx; exact ⟨2, rfl, by omega⟩
    | 1, hx => cases hx; exact ⟨4, rfl, by omega⟩
    | 2, hx => cases hx; exact ⟨9, rfl, by omega⟩
    | i + 3, hx => simp at hx
  k_search ⟨io_law_web⟩
  refine ⟨many, 0, rfl, by omega, by omega, ?_⟩
  k_search ⟨io_law_web⟩
  have hul := under_len 0 (by omega) (List.range many) fun x hx => by have := List.mem_range.mp hx; omega
  have hum : ∀ p ∈ underL 0 (List.range many), p.1 < many ∧ p.2 < many ∧ p.1 ≠ p.2 := fun p hp => by
    have := under_mem hp
    have h1 := List.mem_range.mp this.1
    exact ⟨h1, by omega, by omega⟩
  rw [List.length_range] at hul
  generalize underL 0 (List.range many) = us at hul hum
  refine lc_ty DL.pairD (I := fun l ρ acc => ∃ (s : DealS) (ks : List (Nat × Nat)), (∀ p ∈ l, p.1 < many ∧ p.2 < many ∧ p.1 ≠ p.2) ∧ (∀ p ∈ ks, p.1 < many ∧ p.2 < many ∧ p.1 ≠ p.2) ∧ ks.length + l.length ≤ 10100 ∧ acc = pairsD ks ∧ ρ = [some (dealD s), some (.int most), some (.int many), some (.int form), none, none, some (.int v), none]) ?_ ?_ _ _ _ ⟨s3, [], hum, by simp, by simp; omega, rfl, rfl⟩
  · rintro ⟨x, y⟩ l kk hkk ρ acc ⟨s, ks, hl, hks, hle, rfl, rfl⟩
    k_search ⟨pairD_ap, io_law_web⟩
    refine ⟨s, v, rfl, by omega, by omega, fun s3 v hv => ?_⟩
    simp only [List.length_cons] at hle
    k_search ⟨io_law_web⟩
    by_cases hv0 : v = 0
    · subst hv0
      have e0 : (((0 : Nat) : Int) == 0) = true := rfl
      k_search ⟨e0, pairD_snoc, io_law_web⟩
      exact ⟨Nat.lt_of_le_of_lt (by omega : ks.length ≤ 10100) (by decide), hkk _ _ ⟨s3, ks ++ [(x, y)], fun z hz => hl z (List.mem_cons_of_mem _ hz), fun z hz => by
        rcases List.mem_append.mp hz with hz | hz
        · exact hks z hz
        · rw [List.mem_singleton.mp hz]; exact hl _ List.mem_cons_self, by simp; omega, rfl, rfl⟩⟩
    · have e0 : ((v : Int) == 0) = false := by
        apply beq_eq_false_iff_ne.mpr
        omega
      k_search ⟨e0, io_law_web⟩
      exact hkk _ _ ⟨s3, ks, fun z hz => hl z (List.mem_cons_of_mem _ hz), hks, by omega, rfl, rfl⟩
  · rintro ρ acc ⟨s3, ks, _, hks, hle, rfl, rfl⟩
    k_search ⟨io_law_web⟩
    refine ⟨many, ks, rfl, by omega, fun p hp => ⟨(hks p hp).1, (hks p hp).2.1⟩, fun t G J => ?_⟩
    k_search ⟨io_law_web⟩
    refine ⟨_, _, t, rfl, G.toGraph, by omega, fun s' t' G' R' => ?_⟩
    k_search ⟨io_law_web⟩
    exact hΦ s' many t' (by omega) G' (R'.irr G'.toGraph (irr_of J fun p hp => (hks p hp).2.2))

end LX

set_option maxHeartbeats 0
namespace LX
open PySem PySem.Spec PyProof.Rows L2 DL
local macro_rules | `(tactic| k_search ⟨$es,*⟩) => `(tactic| simp only [$[$es:term],*, ↓wVar.ap, ↓wC.ap, ↓w1.ap, ↓w2.ap, ↓wTest.ap, ↓wAnd.ap, ↓wOr.ap, ↓wNot.ap, ↓wAndV.ap, ↓wOrV.ap, ↓wNotV.ap, ↓wIf.ap, ↓wNil.ap, ↓wCons.ap, ↓wN.ap, ↓wTup.ap, ↓wTupQ.ap, ↓wLstO.ap, ↓wLst.ap, ↓wIx.ap, ↓wNoPart.ap, ↓wPart.ap, ↓wSlice.ap, ↓wSeq.ap, ↓wRange1.ap, ↓wRange2.ap, ↓wEnum.ap, ↓wZip.ap, ↓wgName.ap, ↓wgsNil.ap, ↓wgsCons.ap, ↓wgTup.ap, ↓wYes.ap, ↓wLc.ap, ↓wNext.ap, ↓wsSeq.ap, ↓wBreak.ap, ↓wCont.ap, ↓wAsg.ap, ↓wAsgF.ap, ↓wRet.ap, ↓wRetN.ap, ↓wDrop.ap, ↓wsIf.ap, ↓wFor.ap, ↓wCall.ap, ↓wAppend.ap, ↓wPop.ap, ↓wPopAt.ap, ↓wSetIx.ap, ↓wTgF.ap, ↓wPar.ap, ↓wChain.ap, ↓wCallP.ap, ↓wBoth.ap, ↓wLc2.ap, ↓wListRg1.ap, ↓wTupRg1.ap, ↓wListRg2.ap, ↓wJoin.ap, ↓opAdd_i, ↓opAdd_s, ↓opAdd_t, ↓opAdd_l, ↓opSub_i, ↓opMod_i, ↓opDiv_i, ↓opMul_i, ↓opMul_l, ↓opMul_t, ↓opPow_i, ↓opNeg_i, ↓opLt_i, ↓opLe_i, ↓opGt_i, ↓opGe_i, ↓opIs_n, ↓opIs_b, ↓opIsNot_n, ↓opIsNot_b, ↓opEq_ap, ↓opNe_ap, ↓opIn_l, ↓opIn_t, ↓opIn_s, ↓opNotIn_l, ↓opNotIn_t, ↓opNotIn_s, ↓opLen_t, ↓opLen_l, ↓opLen_r, ↓opLen_s, ↓opTuple_t, ↓opTuple_l, ↓opTuple_r, ↓opList_t, ↓opList_l, ↓opList_r, ↓opSorted_l, ↓opAbs_i, ↓opMax2_i, ↓opMin2_i, ↓opInt_i, ↓opInt_b, ↓opInt_s, ↓opStr_i, ↓opAll_l, ↓opAny_l, ↓opRev_l, ↓opIsi_ap, ↓sliceD_t, ↓sliceD_l, ↓sliceD_r, ↓outOk_ap, ↓scal_int, ↓ixl_1_0, ↓ixl_1_m, ↓ixl_2_0, ↓ixl_2_1, ↓ixl_2_m, ↓ixl_3_0, ↓ixl_3_1, ↓ixl_3_2, ↓ixl_3_m, ↓ixl_4_0, ↓ixl_4_1, ↓ixl_4_2, ↓ixl_4_3, ↓ixl_4_m, ↓wdk_some, ↓asIk_int, ↓asBk_bl, ↓asLOk_lst, ↓ifk_t, ↓ifk_f, ↓lcGok_nil, ↓forGok_nil, ↓whilek_ap, ↓popD_ap, ↓item_tup, ↓item_lst, ↓item_ro, ↓itemD_st, ↓asI_int, ↓asB_bl, ↓asLO_lst, ↓wd_some, ↓lcGo_nil, ↓forGo_nil, lk0, lkS, wd_some, asI_int, asB_bl, asLO_lst, deref_val, deref_slot, deref_sub, moveT_val, moveT_slot, elemT_val, elemT_slot, frzT_val, frzT_slot, frzTs_nil, frzTs_cons, takeTs_nil, takeTs_cons, takeT1_tv, takeT1_ts, takeT1_f, putBack_s, putBack_n, putBack_nil, outArgs_nil, outArgs_t, outArgs_f, own_lst, own_tup, own_int, own_bl, own_str, own_non, own_ro, frz_tup, frz_int, frz_bl, frz_str, frz_non, frz_ro, frz_lstF, frz_lstT, frzs_nil, frzs_cons, valsT_nil, valsT_val, derefs_nil, derefs_cons, stable_val, stable_slot, stable_sub, placeT_slot, placeT_sub, itemsD_tup, itemsD_lst, itemsD_ro, itemsD_str, seqD_tup, seqD_lst, seqD_ro, listOf_lst, listOf_ro, walk_nil, walk_lst, setP_nil2, setP_lst, item_tup, item_lst, item_ro, itemD_st, atT_val, atT_int, atT_tup, atT_str, atT_lstT, atT_lstF, subT_slot, subT_sub, popD_ap, setPlace_ap, wipeD_nil, wipeD_cons, storeD_nil, storeD_cons, wdk_some, asIk_int, asBk_bl, asLOk_lst, ifk_t, ifk_f, lcGok_nil, forGok_nil, lcGo_nil, forGo_nil, pureL_nil, pureL_cons, opAdd_i, opAdd_s, opAdd_t, opAdd_l, opSub_i, opMod_i, opDiv_i, opMul_i, opMul_l, opMul_t, opPow_i, opNeg_i, opLt_i, opLe_i, opGt_i, opGe_i, opIs_n, opIs_b, opIsNot_n, opIsNot_b, opEq_ap, opNe_ap, opIn_l, opIn_t, opIn_s, opNotIn_l, opNotIn_t, opNotIn_s, opLen_t, opLen_l, opLen_r, opLen_s, opTuple_t, opTuple_l, opTuple_r, opList_t, opList_l, opList_r, opSorted_l, opAbs_i, opMax2_i, opMin2_i, opInt_i, opInt_b, opInt_s, opStr_i, opAll_l, opAny_l, opRev_l, opIsi_ap, sliceD_t, sliceD_l, sliceD_r, outOk_ap, scal_int, ixl_1_0, ixl_1_m, ixl_2_0, ixl_2_1, ixl_2_m, ixl_3_0, ixl_3_1, ixl_3_2, ixl_3_m, ixl_4_0, ixl_4_1, ixl_4_2, ixl_4_3, ixl_4_m, Option.bind_some, Option.map_some, List.set_cons_zero, List.set_cons_succ, List.set_nil, List.length_cons, List.length_nil, List.length_set, List.getElem?_cons_zero, List.getElem?_cons_succ, List.cons_append, List.nil_append, Bool.or_true, Bool.true_or, Bool.false_or, Bool.or_false, Bool.and_true, Bool.true_and, Bool.and_false, Bool.false_and, Bool.not_true, Bool.not_false, if_true, if_false, ite_true, ite_false, Bool.false_eq_true, eq_self, true_and, and_true, false_and, and_false, Nat.reduceAdd, Nat.reduceLT, Nat.zero_add, List.filterMap_cons, List.filterMap_nil, id_eq, List.nodup_nil, List.map_cons, List.map_nil, Nat.reduceSub, List.all_nil, List.all_cons, nodup1, sz1, sz2, sz3, sz4, sz5, sz6, sz7, sz8, sz9, sz10, sz11, sz12, Nat.zero_le, enumRows, ownRows_len, ownRows_at, ownRows_set, ownRows_frz, rangeD_nat0, rangeD_nat, asInts_nats, sortN_D, Int.toNat_natCast, natsD_len, natsD_at, natsD_frz, natsD_pure, natsD_nil, rowsD_len, rowsD_at, rowsD_frz, rowsD_pure, rowT_ap, pairsD_nil, pairsD_len, pairsD_frz, pairsD_pure, pairsD_at, tabD, flat_int, natsD_flat, natsD_in, eqv_int, beq_nat, natsD_ok, deal_own, eqv_tups, natsD_eqv, ok_int, ok_tup, ok_lst, oks_nil, eqv_nil, natsD_emp, bq0, bq1, bq2, bq3, bq4, bq5, bq6, bq7, bq8, bq9, bq10, bq11, bq12, bq13])

/-! _law_draw -/
abbrev N_law_draw : List Str := ["script", "salt", "cells", "cell", "blend"]
abbrev w_law_draw : WS := (wsSeq (wAsg 2 (wLc [3] (wSeq (wSlice (wVar 0) wNoPart (wPart (wC (.int 48))))) (wgName 3) wYes (wN opAbs (wCons true (wN opInt (wCons true (wVar 3) wNil)) wNil))))
    (wsSeq (wAsg 4 (w2 true opAdd (wC (.int 7919)) (w2 true opMul (wC (.int 104729)) (wVar 1))))
    (wsSeq (wFor (wSeq (wVar 2)) (wgName 3) (wAsg 4 (w2 true opMod (wN opInt (wCons true (w2 true opAdd (w2 true opAdd (w2 true opMul (wVar 4) (wC (.int 48271))) (w2 true opMod (wVar 3) (wC (.int 2147483549)))) (wC (.int 11))) wNil)) (wC (.int 2147483647)))))
    (wRet (wLstO (wCons true (w1 opRev (wLc [3] (wSeq (wVar 2)) (wgName 3) (wTest (w2 true opGe (wVar 3) (w2 true opPow (wC (.int 10)) (wC (.int 18))))) (wVar 3))) (wCons true (wVar 4) wNil)))))))
abbrev io_law_draw : List Bool := [false, false]

def fs_law_draw : FS := fun ds Φ _ => ∃ (ns : List Int) (salt : Nat), ds = [.ro (ns.map D.int), .int salt] ∧ ns.length ≤ 100 ∧ salt ≤ 1000 ∧ ∀ s : DealS, Φ (dealD s) [.ro (ns.map D.int), .int salt]
theorem hl_law_draw : ∀ ds Φ Ψ, fs_law_draw ds Φ Ψ → ds.length = 2 := by
  rintro ds Φ Ψ ⟨s, r, rfl, _⟩
  rfl
theorem st_law_draw (a b : D) : startD N_law_draw [a, b] = [some a, some b, none, none, none] := rfl
theorem abs_nat (i : Int) : (if i < 0 then -i else i) = (i.natAbs : Int) := by split <;> omega
theorem cut48 (l : List D) : DL.cutD l none (some 48) = l.take 48 := cut_pre l 48
theorem frzs_ints (l : List Int) : D.frzs (l.map D.int) = l.map D.int := frzs_pure (pureL_map (fun _ => rfl) l)
theorem natsD_rev (l : List Nat) : (natsD l).reverse = natsD l.reverse := by simp [natsD]
theorem mul_nat (a b : Nat) : (a : Int) * (b : Int) = ((a * b : Nat) : Int) := by norm_cast
theorem h_law_draw : ∀ ds Φ Ψ, fs_law_draw ds Φ Ψ → w_law_draw ⟨fun ρ => outOk io_law_draw ds ρ (Φ .non), fun d ρ => outOk io_law_draw ds ρ (Φ d), fun _ => False, fun _ => False⟩ (fun x ρ => outOk io_law_draw ds ρ (Ψ x)) (startD N_law_draw ds) := by
  rintro ds Φ Ψ ⟨ns, salt, rfl, h1, h2, hΦ⟩
  k_search ⟨st_law_draw, w_law_draw, cut48, List_map_take_r, frzs_ints, io_law_draw⟩
  refine lc_map D.int (fun i => .int (i.natAbs : Nat)) ?_ (by rw [List.length_take]; exact size100 (by omega)) ?_
  · intro i hi acc kk hacc h
    k_search ⟨abs_nat, io_law_draw⟩
    exact ⟨hacc, h⟩
  have e1 : (ns.take 48).map (fun i => D.int (i.natAbs : Nat)) = natsD ((ns.take 48).map Int.natAbs) := by rw [natsD, List.map_map]; rfl
  rw [e1]
  have hl : ((ns.take 48).map Int.natAbs).length ≤ 48 := by rw [List.length_map, List.length_take]; omega
  generalize (ns.take 48).map Int.natAbs = cs at hl
  have e2 : (7919 : Int) + 104729 * (salt : Int) = ((7919 + 104729 * salt : Nat) : Int) := by omega
  have l1 : (Int.natAbs 104729).log2 + (salt : Int).natAbs.log2 < 1000000 := by
    have := natAbs_log (n := salt) (by omega)
    have e : (Int.natAbs 104729).log2 = 16 := by decide
    omega
  k_search ⟨e2, io_law_draw⟩
  refine ⟨l1, ?_⟩
  refine for_ty (fun n : Nat => D.int (n : Nat)) (I := fun l ρ => ∃ (b : Nat) (x : Option D), b < 2 ^ 40 ∧ ρ = [some (.ro (ns.map D.int)), some (.int salt), some (.lst false (natsD cs)), x, some (.int b)]) ?_ ?_ _ _ ⟨7919 + 104729 * salt, none, by omega, rfl⟩
  · rintro c l k hk ρ ⟨b, x, hb, rfl⟩
    have e3 : (b : Int) * 48271 + (c : Int) % 2147483549 + 11 = ((b * 48271 + c % 2147483549 + 11 : Nat) : Int) := by omega
    have e4 : (((b * 48271 + c % 2147483549 + 11 : Nat) : Int)) % 2147483647 = (((b * 48271 + c % 2147483549 + 11) % 2147483647 : Nat) : Int) := by omega
    have l2 : (b : Int).natAbs.log2 + (Int.natAbs 48271).log2 < 1000000 := by
      have := natAbs_log (n := b) (by omega)
      have e : (Int.natAbs 48271).log2 = 15 := by decide
      omega
    k_search ⟨e3, e4, io_law_draw⟩
    exact ⟨l2, by decide, by decide, hk _ ⟨_, _, by omega, rfl⟩⟩
  · rintro ρ ⟨b, x, hb, rfl⟩
    k_search ⟨io_law_draw⟩
    refine lc_fn (fun n : Nat => D.int (n : Nat)) (fun c => decide (10 ^ 18 ≤ c)) (fun c => D.int (c : Nat)) ?_ (size100 (by omega)) ?_
    · intro c hc acc kk hacc h
      have e5 : decide ((10 : Int) ^ (18 : Int).toNat ≤ (c : Int)) = decide (10 ^ 18 ≤ c) := by
        have : (10 : Int) ^ (18 : Int).toNat = ((10 ^ 18 : Nat) : Int) := by decide
        rw [this]
        by_cases h : 10 ^ 18 ≤ c
        · rw [decide_eq_true h, decide_eq_true (by omega)]
        · rw [decide_eq_false h, decide_eq_false (by omega)]
      k_search ⟨e5, io_law_draw⟩
      refine ⟨by decide, ?_⟩
      cases hd : decide (10 ^ 18 ≤ c) <;> simp only [hd, if_true, if_false, ifk_t, ifk_f, Bool.false_eq_true] at h ⊢
      · exact h
      · exact ⟨hacc, h⟩
    · have e6 : ((cs.filter fun c => decide (10 ^ 18 ≤ c)).map fun c => D.int (c : Nat)) = natsD (cs.filter fun c => decide (10 ^ 18 ≤ c)) := rfl
      rw [e6]
      have hf : (cs.filter fun c => decide (10 ^ 18 ≤ c)).length ≤ 48 := Nat.le_trans (List.length_filter_le _ _) hl
      generalize (cs.filter fun c => decide (10 ^ 18 ≤ c)) = fs at hf
      k_search ⟨natsD_rev, io_law_draw⟩
      exact hΦ ⟨fs.reverse, b, by rw [List.length_reverse]; omega, hb⟩

/-! _law_same -/
abbrev N_law_same : List Str := ["value", "due", "one", "other"]
abbrev w_law_same (fs_law_same : FS) : WS := (wsSeq (wsIf (wTest (w1 (opIsi "tuple") (wVar 1))) (wsSeq (wsIf (wOr (wNot (wTest (w1 (opIsi "tuple") (wVar 0)))) (wTest (w2 true opNe (wN opLen (wCons true (wVar 0) wNil)) (wN opLen (wCons true (wVar 1) wNil))))) (wRet (wC (.bl false))) wNext)
    (wRet (w2 true opEq (wLc [2, 3] (wZip (wCons true (wVar 0) (wCons true (wVar 1) wNil))) (wgTup 2 (wgsCons (wgName 2) (wgsCons (wgName 3) wgsNil))) (wNot (wTest (wCall [false, false] fs_law_same (wCons true (wVar 2) (wCons true (wVar 3) wNil))))) (wC (.int 0))) (wLstO wNil)))) wNext)
    (wsSeq (wsIf (wTest (w2 true opIs (wVar 1) (wC .non))) (wRet (w2 true opIs (wVar 0) (wC .non))) wNext)
    (wsSeq (wsIf (wTest (w2 true opIs (wVar 1) (wC (.bl true)))) (wRet (w2 true opIs (wVar 0) (wC (.bl true)))) wNext)
    (wsSeq (wsIf (wTest (w2 true opIs (wVar 1) (wC (.bl false)))) (wRet (w2 true opIs (wVar 0) (wC (.bl false)))) wNext)
    (wsSeq (wsIf (wTest (w1 (opIsi "int") (wVar 1))) (wRet (wAndV (w1 (opIsi "int") (wVar 0)) (wAndV (wNotV (w1 (opIsi "bool") (wVar 0))) (w2 true opEq (wVar 0) (wVar 1))))) wNext)
    (wRet (wAndV (w1 (opIsi "str") (wVar 0)) (w2 true opEq (wVar 0) (wVar 1)))))))))
abbrev io_law_same : List Bool := [false, false]

def plain : Nat → D → Bool
  | 0, d => flatD d
  | n + 1, d => match d with
    | .tup ds => decide (ds.length ≤ 100000) && ds.all (plain n)
    | d => flatD d
def fs_same (n : Nat) : FS := fun ds Φ _ => ∃ d : D, ds = [d, d] ∧ plain n d = true ∧ Φ (.bl true) [d, d]
def fs_law_same : FS := fs_same 5
theorem hl_same (n : Nat) : ∀ ds Φ Ψ, fs_same n ds Φ Ψ → ds.length = 2 := by
  rintro ds Φ Ψ ⟨r, rfl, _⟩
  rfl
theorem st_law_same (a b : D) : startD N_law_same [a, b] = [some a, some b, none, none] := rfl
theorem bne_self2 (n : Nat) : (n == n) = true := by simp
theorem zip_self (ds : List D) : zipD ds ds = ds.map fun d => D.tup [d, d] := by
  unfold zipD
  induction ds with
  | nil => rfl
  | cons d ds ih => rw [List.zipWith_cons_cons, ih]; rfl
theorem zipOk_tup (xs ys : List D) : zipOk (.tup xs) (.tup ys) = some (xs, ys) := rfl
theorem plain_own : ∀ {n : Nat} {d : D}, plain n d = true → d.isOwn = false
  | 0, d, h => by cases d <;> first | rfl | cases h
  | n + 1, d, h => by cases d <;> first | rfl | cases h
theorem filt_none {α : Type} (l : List α) : l.filter (fun _ => false) = [] := by simp
theorem str_self (z : Str) : D.eqv (.str z) (.str z) = true := by
  unfold D.eqv
  exact beq_self_eq_true z
theorem scal_str (z w : Str) : scalD (.str z) (.str w) = true := rfl
theorem h_same (n : Nat) (fr : FS) (hfr : ∀ d, plain n (.tup [d]) = true → ∀ Φ Ψ, Φ (.bl true) [d, d] → fr [d, d] Φ Ψ) : ∀ ds Φ Ψ, fs_same n ds Φ Ψ → w_law_same fr ⟨fun ρ => outOk io_law_same ds ρ (Φ .non), fun d ρ => outOk io_law_same ds ρ (Φ d), fun _ => False, fun _ => False⟩ (fun x ρ => outOk io_law_same ds ρ (Ψ x)) (startD N_law_same ds) := by
  rintro ds Φ Ψ ⟨d, rfl, hp, hΦ⟩
  have cases5 : (∃ xs, d = .tup xs) ∨ d = .non ∨ (∃ b, d = .bl b) ∨ (∃ i, d = .int i) ∨ ∃ z, d = .str z := by
    cases d with
    | tup xs => exact .inl ⟨xs, rfl⟩
    | non => exact .inr (.inl rfl)
    | bl b => exact .inr (.inr (.inl ⟨b, rfl⟩))
    | int i => exact .inr (.inr (.inr (.inl ⟨i, rfl⟩)))
    | str z => exact .inr (.inr (.inr (.inr ⟨z, rfl⟩)))
    | _ => cases n <;> cases hp
  rcases cases5 with ⟨xs, rfl⟩ | rfl | ⟨b, rfl⟩ | ⟨i, rfl⟩ | ⟨z, rfl⟩
  · have i1 : D.isi "tuple" (.tup xs) = true := rfl
    have e1 : (xs.length == xs.length) = true := bne_self2 _
    have hpx : ∀ x ∈ xs, plain n (.tup [x]) = true ∧ x.isOwn = false := by
      intro x hx
      cases n with
      | zero => cases hp
      | succ n =>
        have h : xs.all (plain n) = true := (Bool.and_eq_true_iff.mp (show (decide (xs.length ≤ 100000) && xs.all (plain n)) = true from hp)).2
        have := List.all_eq_true.mp h x hx
        refine ⟨?_, plain_own this⟩
        show (decide ([x].length ≤ 100000) && [x].all (plain n)) = true
        rw [List.all_cons, this]; rfl
    k_search ⟨st_law_same, w_law_same, i1, e1, zipOk_tup, zip_self, io_law_same⟩
    have hsz : xs.length ≤ sizeLine := by
      cases n with
      | zero => cases hp
      | succ n => exact size100 (Nat.le_trans (of_decide_eq_true (Bool.and_eq_true_iff.mp (show (decide (xs.length ≤ 100000) && xs.all (plain n)) = true from hp)).1) (by decide))
    · refine lc_fn _ (fun _ => false) (fun _ => D.int 0) ?_ hsz ?_
      · intro x hx acc kk hacc h
        obtain ⟨h1, h2⟩ := hpx x hx
        have h3 := frz_pure h2
        k_search ⟨h2, h3, io_law_same⟩
        refine hfr x h1 _ _ ?_
        k_search ⟨io_law_same⟩
        exact h
      · rw [filt_none]
        k_search ⟨List.isEmpty_nil, io_law_same⟩
        exact hΦ
  · have i1 : D.isi "tuple" .non = false := rfl
    have i2 : D.isNon .non = true := rfl
    k_search ⟨st_law_same, w_law_same, i1, i2, io_law_same⟩
    exact hΦ
  · have i1 : D.isi "tuple" (.bl b) = false := rfl
    have i2 : D.isNon (.bl b) = false := rfl
    cases b with
    | true =>
      have i3 : D.isBl true (.bl true) = true := rfl
      k_search ⟨st_law_same, w_law_same, i1, i2, i3, io_law_same⟩
      exact hΦ
    | false =>
      have i3 : D.isBl true (.bl false) = false := rfl
      have i4 : D.isBl false (.bl false) = true := rfl
      k_search ⟨st_law_same, w_law_same, i1, i2, i3, i4, io_law_same⟩
      exact hΦ
  · have i1 : D.isi "tuple" (.int i) = false := rfl
    have i2 : D.isNon (.int i) = false := rfl
    have i3 : D.isBl true (.int i) = false := rfl
    have i4 : D.isBl false (.int i) = false := rfl
    have i5 : D.isi "int" (.int i) = true := rfl
    have i6 : D.isi "bool" (.int i) = false := rfl
    have i7 : (i == i) = true := beq_self_eq_true i
    k_search ⟨st_law_same, w_law_same, i1, i2, i3, i4, i5, i6, i7, io_law_same⟩
    exact hΦ
  · have i1 : D.isi "tuple" (.str z) = false := rfl
    have i2 : D.isNon (.str z) = false := rfl
    have i3 : D.isBl true (.str z) = false := rfl
    have i4 : D.isBl false (.str z) = false := rfl
    have i5 : D.isi "int" (.str z) = false := rfl
    have i6 : D.isi "str" (.str z) = true := rfl
    k_search ⟨st_law_same, w_law_same, i1, i2, i3, i4, i5, i6, str_self, scal_str, io_law_same⟩
    exact hΦ

end LX

set_option maxHeartbeats 0
namespace LX
open PySem PySem.Spec PyProof.Rows L2 DL
local macro_rules | `(tactic| k_search ⟨$es,*⟩) => `(tactic| simp only [$[$es:term],*, ↓wVar.ap, ↓wC.ap, ↓w1.ap, ↓w2.ap, ↓wTest.ap, ↓wAnd.ap, ↓wOr.ap, ↓wNot.ap, ↓wAndV.ap, ↓wOrV.ap, ↓wNotV.ap, ↓wIf.ap, ↓wNil.ap, ↓wCons.ap, ↓wN.ap, ↓wTup.ap, ↓wTupQ.ap, ↓wLstO.ap, ↓wLst.ap, ↓wIx.ap, ↓wNoPart.ap, ↓wPart.ap, ↓wSlice.ap, ↓wSeq.ap, ↓wRange1.ap, ↓wRange2.ap, ↓wEnum.ap, ↓wZip.ap, ↓wgName.ap, ↓wgsNil.ap, ↓wgsCons.ap, ↓wgTup.ap, ↓wYes.ap, ↓wLc.ap, ↓wNext.ap, ↓wsSeq.ap, ↓wBreak.ap, ↓wCont.ap, ↓wAsg.ap, ↓wAsgF.ap, ↓wRet.ap, ↓wRetN.ap, ↓wDrop.ap, ↓wsIf.ap, ↓wFor.ap, ↓wCall.ap, ↓wAppend.ap, ↓wPop.ap, ↓wPopAt.ap, ↓wSetIx.ap, ↓wTgF.ap, ↓wPar.ap, ↓wChain.ap, ↓wCallP.ap, ↓wBoth.ap, ↓wLc2.ap, ↓wListRg1.ap, ↓wTupRg1.ap, ↓wListRg2.ap, ↓wJoin.ap, ↓opAdd_i, ↓opAdd_s, ↓opAdd_t, ↓opAdd_l, ↓opSub_i, ↓opMod_i, ↓opDiv_i, ↓opMul_i, ↓opMul_l, ↓opMul_t, ↓opPow_i, ↓opNeg_i, ↓opLt_i, ↓opLe_i, ↓opGt_i, ↓opGe_i, ↓opIs_n, ↓opIs_b, ↓opIsNot_n, ↓opIsNot_b, ↓opEq_ap, ↓opNe_ap, ↓opIn_l, ↓opIn_t, ↓opIn_s, ↓opNotIn_l, ↓opNotIn_t, ↓opNotIn_s, ↓opLen_t, ↓opLen_l, ↓opLen_r, ↓opLen_s, ↓opTuple_t, ↓opTuple_l, ↓opTuple_r, ↓opList_t, ↓opList_l, ↓opList_r, ↓opSorted_l, ↓opAbs_i, ↓opMax2_i, ↓opMin2_i, ↓opInt_i, ↓opInt_b, ↓opInt_s, ↓opStr_i, ↓opAll_l, ↓opAny_l, ↓opRev_l, ↓opIsi_ap, ↓sliceD_t, ↓sliceD_l, ↓sliceD_r, ↓outOk_ap, ↓scal_int, ↓ixl_1_0, ↓ixl_1_m, ↓ixl_2_0, ↓ixl_2_1, ↓ixl_2_m, ↓ixl_3_0, ↓ixl_3_1, ↓ixl_3_2, ↓ixl_3_m, ↓ixl_4_0, ↓ixl_4_1, ↓ixl_4_2, ↓ixl_4_3, ↓ixl_4_m, ↓wdk_some, ↓asIk_int, ↓asBk_bl, ↓asLOk_lst, ↓ifk_t, ↓ifk_f, ↓lcGok_nil, ↓forGok_nil, ↓whilek_ap, ↓popD_ap, ↓item_tup, ↓item_lst, ↓item_ro, ↓itemD_st, ↓asI_int, ↓asB_bl, ↓asLO_lst, ↓wd_some, ↓lcGo_nil, ↓forGo_nil, lk0, lkS, wd_some, asI_int, asB_bl, asLO_lst, deref_val, deref_slot, deref_sub, moveT_val, moveT_slot, elemT_val, elemT_slot, frzT_val, frzT_slot, frzTs_nil, frzTs_cons, takeTs_nil, takeTs_cons, takeT1_tv, takeT1_ts, takeT1_f, putBack_s, putBack_n, putBack_nil, outArgs_nil, outArgs_t, outArgs_f, own_lst, own_tup, own_int, own_bl, own_str, own_non, own_ro, frz_tup, frz_int, frz_bl, frz_str, frz_non, frz_ro, frz_lstF, frz_lstT, frzs_nil, frzs_cons, valsT_nil, valsT_val, derefs_nil, derefs_cons, stable_val, stable_slot, stable_sub, placeT_slot, placeT_sub, itemsD_tup, itemsD_lst, itemsD_ro, itemsD_str, seqD_tup, seqD_lst, seqD_ro, listOf_lst, listOf_ro, walk_nil, walk_lst, setP_nil2, setP_lst, item_tup, item_lst, item_ro, itemD_st, atT_val, atT_int, atT_tup, atT_str, atT_lstT, atT_lstF, subT_slot, subT_sub, popD_ap, setPlace_ap, wipeD_nil, wipeD_cons, storeD_nil, storeD_cons, wdk_some, asIk_int, asBk_bl, asLOk_lst, ifk_t, ifk_f, lcGok_nil, forGok_nil, lcGo_nil, forGo_nil, pureL_nil, pureL_cons, opAdd_i, opAdd_s, opAdd_t, opAdd_l, opSub_i, opMod_i, opDiv_i, opMul_i, opMul_l, opMul_t, opPow_i, opNeg_i, opLt_i, opLe_i, opGt_i, opGe_i, opIs_n, opIs_b, opIsNot_n, opIsNot_b, opEq_ap, opNe_ap, opIn_l, opIn_t, opIn_s, opNotIn_l, opNotIn_t, opNotIn_s, opLen_t, opLen_l, opLen_r, opLen_s, opTuple_t, opTuple_l, opTuple_r, opList_t, opList_l, opList_r, opSorted_l, opAbs_i, opMax2_i, opMin2_i, opInt_i, opInt_b, opInt_s, opStr_i, opAll_l, opAny_l, opRev_l, opIsi_ap, sliceD_t, sliceD_l, sliceD_r, outOk_ap, scal_int, ixl_1_0, ixl_1_m, ixl_2_0, ixl_2_1, ixl_2_m, ixl_3_0, ixl_3_1, ixl_3_2, ixl_3_m, ixl_4_0, ixl_4_1, ixl_4_2, ixl_4_3, ixl_4_m, Option.bind_some, Option.map_some, List.set_cons_zero, List.set_cons_succ, List.set_nil, List.length_cons, List.length_nil, List.length_set, List.getElem?_cons_zero, List.getElem?_cons_succ, List.cons_append, List.nil_append, Bool.or_true, Bool.true_or, Bool.false_or, Bool.or_false, Bool.and_true, Bool.true_and, Bool.and_false, Bool.false_and, Bool.not_true, Bool.not_false, if_true, if_false, ite_true, ite_false, Bool.false_eq_true, eq_self, true_and, and_true, false_and, and_false, Nat.reduceAdd, Nat.reduceLT, Nat.zero_add, List.filterMap_cons, List.filterMap_nil, id_eq, List.nodup_nil, List.map_cons, List.map_nil, Nat.reduceSub, List.all_nil, List.all_cons, nodup1, sz1, sz2, sz3, sz4, sz5, sz6, sz7, sz8, sz9, sz10, sz11, sz12, Nat.zero_le, enumRows, ownRows_len, ownRows_at, ownRows_set, ownRows_frz, rangeD_nat0, rangeD_nat, asInts_nats, sortN_D, Int.toNat_natCast, natsD_len, natsD_at, natsD_frz, natsD_pure, natsD_nil, rowsD_len, rowsD_at, rowsD_frz, rowsD_pure, rowT_ap, pairsD_nil, pairsD_len, pairsD_frz, pairsD_pure, pairsD_at, tabD, flat_int, natsD_flat, natsD_in, eqv_int, beq_nat, natsD_ok, deal_own, eqv_tups, natsD_eqv, ok_int, ok_tup, ok_lst, oks_nil, eqv_nil, natsD_emp, bq0, bq1, bq2, bq3, bq4, bq5, bq6, bq7, bq8, bq9, bq10, bq11, bq12, bq13, ↓wRemove.ap, ↓wLend.ap, valT_val, ownClean_nil, ownClean_cons, oclean_none, oclean_some, clean_int, clean_bl, clean_non, clean_str, clean_tup, clean_lst, clean_nil, clean_cons, clean_nats, clean_pairs, mkD, ↓opRevT_t, opRevT_t, ↓wIndex.ap, listOf_lst, listOf_ro, ixN2_ap, ↓opMulS_s, opMulS_s, ↓wEnumZ.ap, zipTOk_tup, ↓wDPut.ap, ↓wDispT.ap, ↓wNewT.ap, ↓wNewK.ap, keyT_nats, opNotInD_T, opInD_T, opNotInD_K, opInD_K, opLenD_T, opLenD_K, dput_T, dput_K, own_dT, own_dK, ↓wAugI.ap, ↓wAugL.ap, asIO_i, lstOf2_l, ↓wgoName.ap, ↓wgoIx.ap, ↓wgosNil.ap, ↓wgosCons.ap, ↓wParG.ap, asSome_s, getT_s, getT_n, dkey_K, dkey_T, isDic_T, isDic_K, ↓wDGet.ap, ↓wDGetOr.ap, ↓wRaise.ap, ↓wTryAt.ap, one1_s, hasSlot.ap])

/-! round rules -/
def roundOk (n : Int) (b : Bool) : Bool := decide ((if b = true then (5 : Int) else 3) ≤ n) && (decide (n ≤ 12) && decide (n ≠ 4))
def roundR (n : Nat) (b : Bool) : List (List Nat) := (List.range n).map fun x => sortN ([(x + 1) % n, (x + n - 1) % n] ++ if b = true then [x] else [])
theorem frzs_rows {α : Type} (f : α → List Nat) : ∀ l : List α, D.frzs (l.map fun x => D.lst true (natsD (f x))) = (l.map f).map fun r => D.lst false (natsD r) := by
  intro l
  induction l with
  | nil => rfl
  | cons a l ih =>
    show D.frz (D.lst true (natsD (f a))) :: D.frzs (l.map fun x => D.lst true (natsD (f x))) = _
    rw [ih]
    have e : D.frz (D.lst true (natsD (f a))) = D.lst false (natsD (f a)) := by
      show D.lst false (D.frzs (natsD (f a))) = _
      have z : ∀ m : List Nat, D.frzs (natsD m) = natsD m := by
        intro m
        induction m with
        | nil => rfl
        | cons b m ih2 =>
          show D.int b :: D.frzs (natsD m) = _
          rw [ih2]; rfl
      rw [z]
    rw [e]; rfl

/-! round_rule -/
abbrev N_p_round_rule : List Str := ["many", "loose", "least", "rows", "x", "row"]
abbrev w_p_round_rule : WS := (wsSeq (wAsg 2 (wIf (wTest (wVar 1)) (wC (.int 5)) (wC (.int 3))))
    (wsSeq (wsIf (wOr (wTest (w2 true opLt (wVar 0) (wVar 2))) (wOr (wTest (w2 true opGt (wVar 0) (wC (.int 12)))) (wTest (w2 true opEq (wVar 0) (wC (.int 4)))))) (wRaise "InvalidRule" (wCons true (wC (.int 0)) wNil)) wNext)
    (wsSeq (wAsg 3 (wLc [4] (wRange1 (wCons true (wVar 0) wNil)) (wgName 4) wYes (w2 true opAdd (wLstO (wCons true (w2 true opMod (w2 true opAdd (wVar 4) (wC (.int 1))) (wVar 0)) (wCons true (w2 true opMod (w2 true opSub (wVar 4) (wC (.int 1))) (wVar 0)) wNil))) (wIf (wTest (wVar 1)) (wLstO (wCons true (wVar 4) wNil)) (wLstO wNil)))))
    (wRet (wN opTuple (wCons true (wLc [5] (wSeq (wVar 3)) (wgName 5) wYes (wN opTuple (wCons true (wN opSorted (wCons true (wVar 5) wNil)) wNil))) wNil))))))
abbrev io_p_round_rule : List Bool := [false, false]

theorem st_p_round_rule (a0 a1 : D) : startD N_p_round_rule [a0, a1] = [some a0, some a1, none, none, none, none] := rfl
def fs_p_round_rule : FS := fun ds Φ Ψ => ∃ (n : Int) (b : Bool), ds = [.int n, .bl b] ∧ n.natAbs < 10 ^ 14 ∧ (roundOk n b = true → Φ (tabD (roundR n.toNat b)) [.int n, .bl b]) ∧ (roundOk n b = false → Ψ ⟨"InvalidRule", some (.int 0)⟩ [.int n, .bl b])
theorem hl_p_round_rule : ∀ ds Φ Ψ, fs_p_round_rule ds Φ Ψ → ds.length = 2 := by
  rintro ds Φ Ψ ⟨_, _, rfl, _⟩
  rfl
theorem h_p_round_rule : ∀ ds Φ Ψ, fs_p_round_rule ds Φ Ψ → w_p_round_rule ⟨fun ρ => outOk io_p_round_rule ds ρ (Φ .non), fun d ρ => outOk io_p_round_rule ds ρ (Φ d), fun _ => False, fun _ => False⟩ (fun x ρ => outOk io_p_round_rule ds ρ (Ψ x)) (startD N_p_round_rule ds) := by
  rintro ds Φ Ψ ⟨n, b, rfl, hn, h1, h2⟩
  by_cases ok : roundOk n b = true
  · have hΦ := h1 ok
    unfold roundOk at ok
    simp only [Bool.and_eq_true, decide_eq_true_eq] at ok
    obtain ⟨o1, o2, o3⟩ := ok
    obtain ⟨k, rfl⟩ : ∃ k : Nat, n = k := ⟨n.toNat, by cases b <;> simp at o1 <;> omega⟩
    have e0 : (k : Int).toNat = k := by omega
    rw [e0] at hΦ
    cases b
    · simp only [Bool.false_eq_true, if_false] at o1
      have e1 : decide ((k : Int) < 3) = false := decide_eq_false (by omega)
      have e2 : decide ((k : Int) > 12) = false := decide_eq_false (by omega)
      have e3 : ((k : Int) == 4) = false := by simpa using o3
      k_search ⟨st_p_round_rule, w_p_round_rule, e1, e2, e3, io_p_round_rule⟩
      refine ⟨by unfold rgOk; omega, ?_⟩
      refine lc_map (fun n : Nat => D.int (n : Nat)) (fun x => D.lst true (natsD [(x + 1) % k, (x + k - 1) % k])) ?_ (by rw [List.length_range]; exact size100 (by omega)) ?_
      · intro x hx acc kk hacc h
        have m1 : ((x : Int) + 1) % (k : Int) = (((x + 1) % k : Nat) : Int) := by norm_cast
        have m2 : ((x : Int) - 1) % (k : Int) = (((x + k - 1) % k : Nat) : Int) := by
          have e : ((x + k - 1 : Nat) : Int) = (x : Int) - 1 + k := by omega
          rw [Int.natCast_emod, e, Int.add_emod_right]
        k_search ⟨m1, m2, io_p_round_rule⟩
        exact ⟨by omega, by omega, hacc, h⟩
      · k_search ⟨io_p_round_rule⟩
        rw [frzs_rows fun x => [(x + 1) % k, (x + k - 1) % k]]
        refine lc_map (fun ro : List Nat => D.lst false (natsD ro)) (fun ro => D.tup (natsD (sortN ro))) (l := (List.range k).map fun x => [(x + 1) % k, (x + k - 1) % k]) ?_ (by rw [List.length_map, List.length_range]; exact size100 (by omega)) ?_
        · intro ro hro acc kk hacc h
          k_search ⟨io_p_round_rule⟩
          exact ⟨hacc, h⟩
        · have er : ((List.range k).map fun x => [(x + 1) % k, (x + k - 1) % k]).map (fun ro => D.tup (natsD (sortN ro))) = rowsD (roundR k false) := by
            simp [roundR, rowsD, List.map_map, Function.comp_def]
            exact fun _ _ => rfl
          rw [er]
          k_search ⟨rowsD_pure, io_p_round_rule⟩
          exact hΦ
    · simp only [if_true] at o1
      have e1 : decide ((k : Int) < 5) = false := decide_eq_false (by omega)
      have e2 : decide ((k : Int) > 12) = false := decide_eq_false (by omega)
      have e3 : ((k : Int) == 4) = false := by simpa using o3
      k_search ⟨st_p_round_rule, w_p_round_rule, e1, e2, e3, io_p_round_rule⟩
      refine ⟨by unfold rgOk; omega, ?_⟩
      refine lc_map (fun n : Nat => D.int (n : Nat)) (fun x => D.lst true (natsD [(x + 1) % k, (x + k - 1) % k, x])) ?_ (by rw [List.length_range]; exact size100 (by omega)) ?_
      · intro x hx acc kk hacc h
        have m1 : ((x : Int) + 1) % (k : Int) = (((x + 1) % k : Nat) : Int) := by norm_cast
        have m2 : ((x : Int) - 1) % (k : Int) = (((x + k - 1) % k : Nat) : Int) := by
          have e : ((x + k - 1 : Nat) : Int) = (x : Int) - 1 + k := by omega
          rw [Int.natCast_emod, e, Int.add_emod_right]
        k_search ⟨m1, m2, io_p_round_rule⟩
        exact ⟨by omega, by omega, hacc, h⟩
      · k_search ⟨io_p_round_rule⟩
        rw [frzs_rows fun x => [(x + 1) % k, (x + k - 1) % k, x]]
        refine lc_map (fun ro : List Nat => D.lst false (natsD ro)) (fun ro => D.tup (natsD (sortN ro))) (l := (List.range k).map fun x => [(x + 1) % k, (x + k - 1) % k, x]) ?_ (by rw [List.length_map, List.length_range]; exact size100 (by omega)) ?_
        · intro ro hro acc kk hacc h
          k_search ⟨io_p_round_rule⟩
          exact ⟨hacc, h⟩
        · have er : ((List.range k).map fun x => [(x + 1) % k, (x + k - 1) % k, x]).map (fun ro => D.tup (natsD (sortN ro))) = rowsD (roundR k true) := by
            simp [roundR, rowsD, List.map_map, Function.comp_def]
            exact fun _ _ => rfl
          rw [er]
          k_search ⟨rowsD_pure, io_p_round_rule⟩
          exact hΦ
  · have hΨ := h2 (by simpa using ok)
    unfold roundOk at ok
    simp only [Bool.and_eq_true, decide_eq_true_eq] at ok
    have key : ∀ lo : Int, lo = (if b = true then (5 : Int) else 3) → n < lo ∨ (¬ n < lo ∧ (n > 12 ∨ (¬ n > 12 ∧ n = 4))) := fun lo e => by
      rw [← e] at ok
      by_cases c1 : n < lo
      · exact .inl c1
      · by_cases c2 : n > 12
        · exact .inr ⟨c1, .inl c2⟩
        · by_cases c3 : n = 4
          · exact .inr ⟨c1, .inr ⟨c2, c3⟩⟩
          · exact (ok ⟨by omega, by omega, c3⟩).elim
    cases b
    · rcases key 3 rfl with c1 | ⟨c1, c2 | ⟨c2, c3⟩⟩
      · have e1 := decide_eq_true c1
        k_search ⟨st_p_round_rule, w_p_round_rule, e1, io_p_round_rule⟩
        exact hΨ
      · have e1 := decide_eq_false c1
        have e2 := decide_eq_true c2
        k_search ⟨st_p_round_rule, w_p_round_rule, e1, e2, io_p_round_rule⟩
        exact hΨ
      · subst c3
        have e1 : decide ((4 : Int) < 3) = false := rfl
        have e2 : decide ((4 : Int) > 12) = false := rfl
        have e3 : ((4 : Int) == 4) = true := rfl
        k_search ⟨st_p_round_rule, w_p_round_rule, e1, e2, e3, io_p_round_rule⟩
        exact hΨ
    · rcases key 5 rfl with c1 | ⟨c1, c2 | ⟨c2, c3⟩⟩
      · have e1 := decide_eq_true c1
        k_search ⟨st_p_round_rule, w_p_round_rule, e1, io_p_round_rule⟩
        exact hΨ
      · have e1 := decide_eq_false c1
        have e2 := decide_eq_true c2
        k_search ⟨st_p_round_rule, w_p_round_rule, e1, e2, io_p_round_rule⟩
        exact hΨ
      · omega

/-! _law_made -/
abbrev N_law_made : List Str := ["many", "loose", "e"]
abbrev w_law_made : WS := (wTryAt 2 "InvalidRule" "refused" (wRet (wTup (wCons false (wC (.str "told")) (wCons true (wCall [false, false] fs_p_round_rule (wCons true (wVar 0) (wCons true (wVar 1) wNil))) wNil)))))
abbrev io_law_made : List Bool := [false, false]

theorem st_law_made (a0 a1 : D) : startD N_law_made [a0, a1] = [some a0, some a1, none] := rfl
def fs_law_made : FS := fun ds Φ Ψ => ∃ (n : Int) (b : Bool), ds = [.int n, .bl b] ∧ n.natAbs < 10 ^ 14 ∧ Φ (if roundOk n b = true then .tup [.str "told", tabD (roundR n.toNat b)] else .tup [.str "refused", .int 0]) [.int n, .bl b]
theorem hl_law_made : ∀ ds Φ Ψ, fs_law_made ds Φ Ψ → ds.length = 2 := by
  rintro ds Φ Ψ ⟨_, _, rfl, _⟩
  rfl
theorem h_law_made : ∀ ds Φ Ψ, fs_law_made ds Φ Ψ → w_law_made ⟨fun ρ => outOk io_law_made ds ρ (Φ .non), fun d ρ => outOk io_law_made ds ρ (Φ d), fun _ => False, fun _ => False⟩ (fun x ρ => outOk io_law_made ds ρ (Ψ x)) (startD N_law_made ds) := by
  rintro ds Φ Ψ ⟨n, b, rfl, hn, hΦ⟩
  k_search ⟨st_law_made, w_law_made, io_p_round_rule, io_law_made⟩
  refine ⟨n, b, rfl, hn, fun h => ?_, fun h => ?_⟩
  · rw [h, if_pos rfl] at hΦ
    k_search ⟨hn, io_law_made⟩
    exact hΦ
  · rw [h, if_neg (by decide)] at hΦ
    k_search ⟨hn, io_law_made⟩
    exact ⟨by decide, hΦ⟩

end LX

set_option maxHeartbeats 0
namespace LX
open PySem PySem.Spec PyProof.Rows L2 DL
local macro_rules | `(tactic| k_search ⟨$es,*⟩) => `(tactic| simp only [$[$es:term],*, ↓wVar.ap, ↓wC.ap, ↓w1.ap, ↓w2.ap, ↓wTest.ap, ↓wAnd.ap, ↓wOr.ap, ↓wNot.ap, ↓wAndV.ap, ↓wOrV.ap, ↓wNotV.ap, ↓wIf.ap, ↓wNil.ap, ↓wCons.ap, ↓wN.ap, ↓wTup.ap, ↓wTupQ.ap, ↓wLstO.ap, ↓wLst.ap, ↓wIx.ap, ↓wNoPart.ap, ↓wPart.ap, ↓wSlice.ap, ↓wSeq.ap, ↓wRange1.ap, ↓wRange2.ap, ↓wEnum.ap, ↓wZip.ap, ↓wgName.ap, ↓wgsNil.ap, ↓wgsCons.ap, ↓wgTup.ap, ↓wYes.ap, ↓wLc.ap, ↓wNext.ap, ↓wsSeq.ap, ↓wBreak.ap, ↓wCont.ap, ↓wAsg.ap, ↓wAsgF.ap, ↓wRet.ap, ↓wRetN.ap, ↓wDrop.ap, ↓wsIf.ap, ↓wFor.ap, ↓wCall.ap, ↓wAppend.ap, ↓wPop.ap, ↓wPopAt.ap, ↓wSetIx.ap, ↓wTgF.ap, ↓wPar.ap, ↓wChain.ap, ↓wCallP.ap, ↓wBoth.ap, ↓wLc2.ap, ↓wListRg1.ap, ↓wTupRg1.ap, ↓wListRg2.ap, ↓wJoin.ap, ↓opAdd_i, ↓opAdd_s, ↓opAdd_t, ↓opAdd_l, ↓opSub_i, ↓opMod_i, ↓opDiv_i, ↓opMul_i, ↓opMul_l, ↓opMul_t, ↓opPow_i, ↓opNeg_i, ↓opLt_i, ↓opLe_i, ↓opGt_i, ↓opGe_i, ↓opIs_n, ↓opIs_b, ↓opIsNot_n, ↓opIsNot_b, ↓opEq_ap, ↓opNe_ap, ↓opIn_l, ↓opIn_t, ↓opIn_s, ↓opNotIn_l, ↓opNotIn_t, ↓opNotIn_s, ↓opLen_t, ↓opLen_l, ↓opLen_r, ↓opLen_s, ↓opTuple_t, ↓opTuple_l, ↓opTuple_r, ↓opList_t, ↓opList_l, ↓opList_r, ↓opSorted_l, ↓opAbs_i, ↓opMax2_i, ↓opMin2_i, ↓opInt_i, ↓opInt_b, ↓opInt_s, ↓opStr_i, ↓opAll_l, ↓opAny_l, ↓opRev_l, ↓opIsi_ap, ↓sliceD_t, ↓sliceD_l, ↓sliceD_r, ↓outOk_ap, ↓scal_int, ↓ixl_1_0, ↓ixl_1_m, ↓ixl_2_0, ↓ixl_2_1, ↓ixl_2_m, ↓ixl_3_0, ↓ixl_3_1, ↓ixl_3_2, ↓ixl_3_m, ↓ixl_4_0, ↓ixl_4_1, ↓ixl_4_2, ↓ixl_4_3, ↓ixl_4_m, ↓wdk_some, ↓asIk_int, ↓asBk_bl, ↓asLOk_lst, ↓ifk_t, ↓ifk_f, ↓lcGok_nil, ↓forGok_nil, ↓whilek_ap, ↓popD_ap, ↓item_tup, ↓item_lst, ↓item_ro, ↓itemD_st, ↓asI_int, ↓asB_bl, ↓asLO_lst, ↓wd_some, ↓lcGo_nil, ↓forGo_nil, lk0, lkS, wd_some, asI_int, asB_bl, asLO_lst, deref_val, deref_slot, deref_sub, moveT_val, moveT_slot, elemT_val, elemT_slot, frzT_val, frzT_slot, frzTs_nil, frzTs_cons, takeTs_nil, takeTs_cons, takeT1_tv, takeT1_ts, takeT1_f, putBack_s, putBack_n, putBack_nil, outArgs_nil, outArgs_t, outArgs_f, own_lst, own_tup, own_int, own_bl, own_str, own_non, own_ro, frz_tup, frz_int, frz_bl, frz_str, frz_non, frz_ro, frz_lstF, frz_lstT, frzs_nil, frzs_cons, valsT_nil, valsT_val, derefs_nil, derefs_cons, stable_val, stable_slot, stable_sub, placeT_slot, placeT_sub, itemsD_tup, itemsD_lst, itemsD_ro, itemsD_str, seqD_tup, seqD_lst, seqD_ro, listOf_lst, listOf_ro, walk_nil, walk_lst, setP_nil2, setP_lst, item_tup, item_lst, item_ro, itemD_st, atT_val, atT_int, atT_tup, atT_str, atT_lstT, atT_lstF, subT_slot, subT_sub, popD_ap, setPlace_ap, wipeD_nil, wipeD_cons, storeD_nil, storeD_cons, wdk_some, asIk_int, asBk_bl, asLOk_lst, ifk_t, ifk_f, lcGok_nil, forGok_nil, lcGo_nil, forGo_nil, pureL_nil, pureL_cons, opAdd_i, opAdd_s, opAdd_t, opAdd_l, opSub_i, opMod_i, opDiv_i, opMul_i, opMul_l, opMul_t, opPow_i, opNeg_i, opLt_i, opLe_i, opGt_i, opGe_i, opIs_n, opIs_b, opIsNot_n, opIsNot_b, opEq_ap, opNe_ap, opIn_l, opIn_t, opIn_s, opNotIn_l, opNotIn_t, opNotIn_s, opLen_t, opLen_l, opLen_r, opLen_s, opTuple_t, opTuple_l, opTuple_r, opList_t, opList_l, opList_r, opSorted_l, opAbs_i, opMax2_i, opMin2_i, opInt_i, opInt_b, opInt_s, opStr_i, opAll_l, opAny_l, opRev_l, opIsi_ap, sliceD_t, sliceD_l, sliceD_r, outOk_ap, scal_int, ixl_1_0, ixl_1_m, ixl_2_0, ixl_2_1, ixl_2_m, ixl_3_0, ixl_3_1, ixl_3_2, ixl_3_m, ixl_4_0, ixl_4_1, ixl_4_2, ixl_4_3, ixl_4_m, Option.bind_some, Option.map_some, List.set_cons_zero, List.set_cons_succ, List.set_nil, List.length_cons, List.length_nil, List.length_set, List.getElem?_cons_zero, List.getElem?_cons_succ, List.cons_append, List.nil_append, Bool.or_true, Bool.true_or, Bool.false_or, Bool.or_false, Bool.and_true, Bool.true_and, Bool.and_false, Bool.false_and, Bool.not_true, Bool.not_false, if_true, if_false, ite_true, ite_false, Bool.false_eq_true, eq_self, true_and, and_true, false_and, and_false, Nat.reduceAdd, Nat.reduceLT, Nat.zero_add, List.filterMap_cons, List.filterMap_nil, id_eq, List.nodup_nil, List.map_cons, List.map_nil, Nat.reduceSub, List.all_nil, List.all_cons, nodup1, sz1, sz2, sz3, sz4, sz5, sz6, sz7, sz8, sz9, sz10, sz11, sz12, Nat.zero_le, enumRows, ownRows_len, ownRows_at, ownRows_set, ownRows_frz, rangeD_nat0, rangeD_nat, asInts_nats, sortN_D, Int.toNat_natCast, natsD_len, natsD_at, natsD_frz, natsD_pure, natsD_nil, rowsD_len, rowsD_at, rowsD_frz, rowsD_pure, rowT_ap, pairsD_nil, pairsD_len, pairsD_frz, pairsD_pure, pairsD_at, tabD, flat_int, natsD_flat, natsD_in, eqv_int, beq_nat, natsD_ok, deal_own, eqv_tups, natsD_eqv, ok_int, ok_tup, ok_lst, oks_nil, eqv_nil, natsD_emp, bq0, bq1, bq2, bq3, bq4, bq5, bq6, bq7, bq8, bq9, bq10, bq11, bq12, bq13, ↓wRemove.ap, ↓wLend.ap, valT_val, ownClean_nil, ownClean_cons, oclean_none, oclean_some, clean_int, clean_bl, clean_non, clean_str, clean_tup, clean_lst, clean_nil, clean_cons, clean_nats, clean_pairs, mkD, ↓opRevT_t, opRevT_t, ↓wIndex.ap, listOf_lst, listOf_ro, ixN2_ap, ↓opMulS_s, opMulS_s, ↓wEnumZ.ap, zipTOk_tup, ↓wDPut.ap, ↓wDispT.ap, ↓wNewT.ap, ↓wNewK.ap, keyT_nats, opNotInD_T, opInD_T, opNotInD_K, opInD_K, opLenD_T, opLenD_K, dput_T, dput_K, own_dT, own_dK, ↓wAugI.ap, ↓wAugL.ap, asIO_i, lstOf2_l, ↓wgoName.ap, ↓wgoIx.ap, ↓wgosNil.ap, ↓wgosCons.ap, ↓wParG.ap, asSome_s, getT_s, getT_n, dkey_K, dkey_T, isDic_T, isDic_K, ↓wDGet.ap, ↓wDGetOr.ap, ↓wRaise.ap, ↓wTryAt.ap, one1_s, hasSlot.ap])

/-! rest -/
abbrev N_p_rest : List Str := ["number", "many"]
abbrev w_p_rest : WS := (wRet (w2 true opMod (wN opInt (wCons true (wVar 0) wNil)) (wVar 1)))
abbrev io_p_rest : List Bool := [false, false]

theorem st_p_rest (a0 a1 : D) : startD N_p_rest [a0, a1] = [some a0, some a1] := rfl
def fs_p_rest : FS := fun ds Φ Ψ => ∃ (n : Int) (m : Nat), ds = [.int n, .int m] ∧ 0 < m ∧ Φ (.int (n % (m : Int))) [.int n, .int m]
theorem hl_p_rest : ∀ ds Φ Ψ, fs_p_rest ds Φ Ψ → ds.length = 2 := by
  rintro ds Φ Ψ ⟨_, _, rfl, _⟩
  rfl
theorem h_p_rest : ∀ ds Φ Ψ, fs_p_rest ds Φ Ψ → w_p_rest ⟨fun ρ => outOk io_p_rest ds ρ (Φ .non), fun d ρ => outOk io_p_rest ds ρ (Φ d), fun _ => False, fun _ => False⟩ (fun x ρ => outOk io_p_rest ds ρ (Ψ x)) (startD N_p_rest ds) := by
  rintro ds Φ Ψ ⟨n, m, rfl, hm, hΦ⟩
  k_search ⟨st_p_rest, w_p_rest, io_p_rest⟩
  exact ⟨by omega, hΦ⟩

/-! turned -/
abbrev N_p_turned : List Str := ["many", "x", "y", "gone"]
abbrev w_p_turned : WS := (wsSeq (wAsg 3 (wCall [false, false] fs_p_rest (wCons true (w2 true opSub (wVar 2) (wVar 1)) (wCons true (wVar 0) wNil))))
    (wRet (wIf (wTest (w2 true opGt (wVar 3) (wC (.int 1)))) (w1 opNeg (wC (.int 1))) (wVar 3))))
abbrev io_p_turned : List Bool := [false, false, false]

theorem st_p_turned (a0 a1 a2 : D) : startD N_p_turned [a0, a1, a2] = [some a0, some a1, some a2, none] := rfl
def turnI (m x y : Nat) : Int := if ((y : Int) - x) % (m : Int) > 1 then -1 else ((y : Int) - x) % (m : Int)
def fs_p_turned : FS := fun ds Φ Ψ => ∃ (m x y : Nat), ds = [.int m, .int x, .int y] ∧ 0 < m ∧ Φ (.int (turnI m x y)) [.int m, .int x, .int y]
theorem hl_p_turned : ∀ ds Φ Ψ, fs_p_turned ds Φ Ψ → ds.length = 3 := by
  rintro ds Φ Ψ ⟨_, _, _, rfl, _⟩
  rfl
theorem h_p_turned : ∀ ds Φ Ψ, fs_p_turned ds Φ Ψ → w_p_turned ⟨fun ρ => outOk io_p_turned ds ρ (Φ .non), fun d ρ => outOk io_p_turned ds ρ (Φ d), fun _ => False, fun _ => False⟩ (fun x ρ => outOk io_p_turned ds ρ (Ψ x)) (startD N_p_turned ds) := by
  rintro ds Φ Ψ ⟨m, x, y, rfl, hm, hΦ⟩
  k_search ⟨st_p_turned, w_p_turned, io_p_turned⟩
  refine ⟨_, m, rfl, hm, ?_⟩
  by_cases c : ((y : Int) - x) % (m : Int) > 1
  · have e1 := decide_eq_true c
    unfold turnI at hΦ
    rw [if_pos c] at hΦ
    k_search ⟨e1, io_p_turned⟩
    exact hΦ
  · have e1 := decide_eq_false c
    unfold turnI at hΦ
    rw [if_neg c] at hΦ
    k_search ⟨e1, io_p_turned⟩
    exact hΦ

/-! is_loose -/
abbrev N_p_is_loose : List Str := ["rule"]
abbrev w_p_is_loose : WS := (wRet (w2 true opIn (wC (.int 0)) (wIx true (wVar 0) (wC (.int 0)))))
abbrev io_p_is_loose : List Bool := [false]

theorem st_p_is_loose (a0 : D) : startD N_p_is_loose [a0] = [some a0] := rfl
def fs_p_is_loose : FS := fun ds Φ Ψ => ∃ (r : List (List Nat)) (n : Nat), ds = [tabD r] ∧ Graph n r ∧ 0 < n ∧ n ≤ 100 ∧ Φ (.bl (decide (0 ∈ row r 0))) [tabD r]
theorem hl_p_is_loose : ∀ ds Φ Ψ, fs_p_is_loose ds Φ Ψ → ds.length = 1 := by
  rintro ds Φ Ψ ⟨_, _, rfl, _⟩
  rfl
theorem h_p_is_loose : ∀ ds Φ Ψ, fs_p_is_loose ds Φ Ψ → w_p_is_loose ⟨fun ρ => outOk io_p_is_loose ds ρ (Φ .non), fun d ρ => outOk io_p_is_loose ds ρ (Φ d), fun _ => False, fun _ => False⟩ (fun x ρ => outOk io_p_is_loose ds ρ (Ψ x)) (startD N_p_is_loose ds) := by
  rintro ds Φ Ψ ⟨r, n, rfl, G, h0, hn, hΦ⟩
  k_search ⟨st_p_is_loose, w_p_is_loose, io_p_is_loose⟩
  have lr := G.len
  have ix : ixN r.length (0 : Int) = some 0 := ixN_nat (j := 0) (by omega)
  have rx : r[0]? = some (row r 0) := row_at (by omega)
  k_search ⟨ix, rx, io_p_is_loose⟩
  have e : inD (.int 0) (natsD (row r 0)) = decide (0 ∈ row r 0) := by
    rw [show (D.int 0) = D.int ((0 : Nat) : Int) from rfl, natsD_in]
    simp
  rw [e]
  exact hΦ

/-! rounds -/
theorem sorted_ext2 : ∀ {l1 l2 : List Nat}, l1.Pairwise (· < ·) → l2.Pairwise (· < ·) → (∀ z, z ∈ l1 ↔ z ∈ l2) → l1 = l2
  | [], [], _, _, _ => rfl
  | [], b :: l2, _, _, h => by have := (h b).mpr List.mem_cons_self; cases this
  | a :: l1, [], _, _, h => by have := (h a).mp List.mem_cons_self; cases this
  | a :: l1, b :: l2, h1, h2, h => by
    have p1 := List.pairwise_cons.mp h1
    have p2 := List.pairwise_cons.mp h2
    have e : a = b := by
      rcases List.mem_cons.mp ((h a).mp List.mem_cons_self) with x | x
      · exact x
      · rcases List.mem_cons.mp ((h b).mpr List.mem_cons_self) with y | y
        · exact y.symm
        · have := p1.1 b y
          have := p2.1 a x
          omega
    subst e
    congr 1
    refine sorted_ext2 p1.2 p2.2 fun z => ⟨fun hz => ?_, fun hz => ?_⟩
    · rcases List.mem_cons.mp ((h z).mp (List.mem_cons_of_mem _ hz)) with x | x
      · have := p1.1 z hz; omega
      · exact x
    · rcases List.mem_cons.mp ((h z).mpr (List.mem_cons_of_mem _ hz)) with x | x
      · have := p2.1 z hz; omega
      · exact x
theorem nodup_inj {l : List Nat} (nd : l.Nodup) {i k a : Nat} (x : l[i]? = some a) (y : l[k]? = some a) : i = k := by
  obtain ⟨hi, xi⟩ := List.getElem?_eq_some_iff.mp x
  obtain ⟨hk, yk⟩ := List.getElem?_eq_some_iff.mp y
  rcases Nat.lt_trichotomy i k with h | h | h
  · exact absurd (xi.trans yk.symm) (List.pairwise_iff_getElem.mp nd i k hi hk h)
  · exact h
  · exact absurd (yk.trans xi.symm) (List.pairwise_iff_getElem.mp nd k i hk hi h)
def asideL (r : List (List Nat)) (x : Nat) : List Nat := (row r x).filter fun y => !(y == x)
def lastN (p : List Nat) : Nat := p.getLastD 0
def furL (r : List (List Nat)) (p : List Nat) : List Nat := (asideL r (lastN p)).filter fun y => !(p.contains y)
def walkR (r : List (List Nat)) : Nat → List Nat → List Nat
  | 0, p => p
  | k + 1, p => match furL r p with
    | [] => p
    | y :: _ => walkR r k (p ++ [y])
theorem mem_aside {r : List (List Nat)} {x y : Nat} : y ∈ asideL r x ↔ y ∈ row r x ∧ y ≠ x := by
  unfold asideL
  rw [List.mem_filter]
  simp
theorem aside_sym {r : List (List Nat)} {n x y : Nat} (G : Graph n r) (h : y ∈ asideL r x) : x ∈ asideL r y := by
  obtain ⟨h1, h2⟩ := mem_aside.mp h
  exact mem_aside.mpr ⟨G.sym x y h1, fun e => h2 e.symm⟩
theorem aside_nd {r : List (List Nat)} {n x : Nat} (G : Graph n r) : (asideL r x).Nodup := (G.nd x).filter _
theorem aside_lt {r : List (List Nat)} {n x y : Nat} (G : Graph n r) (h : y ∈ asideL r x) : y < n := G.lt x y (mem_aside.mp h).1
theorem lastN_snoc (p : List Nat) (y : Nat) : lastN (p ++ [y]) = y := by unfold lastN; simp
theorem lastN_mem {p : List Nat} (h : p ≠ []) : lastN p ∈ p := by
  unfold lastN
  rw [List.getLastD_eq_getLast?, List.getLast?_eq_some_getLast h]
  exact List.getLast_mem h
theorem lastN_at {p : List Nat} (h : p ≠ []) : p[p.length - 1]? = some (lastN p) := by
  unfold lastN
  rw [List.getLastD_eq_getLast?, List.getLast?_eq_getElem?]
  have : p.length - 1 < p.length := by
    have := List.length_pos_iff.mpr h; omega
  simp [this]
/-- a walk: unlike marks, each next to the one ahead -/
structure PathR (r : List (List Nat)) (n : Nat) (p : List Nat) : Prop where
  ne : p ≠ []
  hd : p[0]? = some 0
  nd : p.Nodup
  lt : ∀ x ∈ p, x < n
  ad : ∀ (i : Nat) (a b : Nat), p[i]? = some a → p[i + 1]? = some b → b ∈ asideL r a
theorem PathR.one {r : List (List Nat)} {n : Nat} (h : 0 < n) : PathR r n [0] :=
  ⟨by simp, rfl, by simp, fun x hx => by rw [List.mem_singleton.mp hx]; exact h, fun i a b h1 h2 => by simp at h2⟩
theorem PathR.snoc {r : List (List Nat)} {n y : Nat} {p : List Nat} (G : Graph n r) (P : PathR r n p) (h : y ∈ furL r p) : PathR r n (p ++ [y]) := by
  obtain ⟨h1, h2⟩ := List.mem_filter.mp h
  have h3 : y ∉ p := by simpa using h2
  have lp := List.length_pos_iff.mpr P.ne
  refine ⟨by simp, ?_, ?_, fun x hx => ?_, fun i a b e1 e2 => ?_⟩
  · rw [List.getElem?_append_left lp]; exact P.hd
  · exact List.nodup_append.mpr ⟨P.nd, by simp, fun a ha b hb e => h3 (by rw [← List.mem_singleton.mp hb, ← e]; exact ha)⟩
  · rcases List.mem_append.mp hx with hx | hx
    · exact P.lt x hx
    · rw [List.mem_singleton.mp hx]; exact aside_lt G h1
  · by_cases hi : i + 1 < p.length
    · rw [List.getElem?_append_left (by omega)] at e1
      rw [List.getElem?_append_left hi] at e2
      exact P.ad i a b e1 e2
    · have hi2 : i + 1 = p.length := by
        have : i + 1 < (p ++ [y]).length := (List.getElem?_eq_some_iff.mp e2).1
        simp at this
        omega
      rw [hi2] at e2
      have eb : y = b := by simpa using e2
      rw [List.getElem?_append_left (by omega)] at e1
      have ea : lastN p = a := by
        have := lastN_at P.ne
        rw [show p.length - 1 = i by omega, e1] at this
        exact (Option.some.inj this).symm
      rw [← eb, ← ea]; exact h1
theorem PathR.len {r : List (List Nat)} {n : Nat} {p : List Nat} (P : PathR r n p) : p.length ≤ n := nodup_le n p P.nd P.lt
theorem full_all {n : Nat} {p : List Nat} (nd : p.Nodup) (lt : ∀ x ∈ p, x < n) (h : p.length = n) {x : Nat} (hx : x < n) : x ∈ p := by
  refine Classical.byContradiction fun hn => ?_
  have := nodup_le n (x :: p) (List.nodup_cons.mpr ⟨hn, nd⟩) fun y hy => by
    rcases List.mem_cons.mp hy with rfl | hy
    · exact hx
    · exact lt y hy
  simp at this
  omega
theorem fur_full {r : List (List Nat)} {n : Nat} {p : List Nat} (G : Graph n r) (P : PathR r n p) (h : p.length = n) : furL r p = [] := by
  unfold furL
  rw [List.filter_eq_nil_iff]
  intro y hy
  have : y ∈ p := full_all P.nd P.lt h (aside_lt G hy)
  simpa using this
theorem walk_path {r : List (List Nat)} {n : Nat} (G : Graph n r) : ∀ (k : Nat) (p : List Nat), PathR r n p → PathR r n (walkR r k p)
  | 0, _, P => P
  | k + 1, p, P => by
    unfold walkR
    split
    · exact P
    · rename_i y l e
      exact walk_path G k _ (P.snoc G (by rw [e]; exact List.mem_cons_self))
def okR (r : List (List Nat)) (n : Nat) : Bool := decide (3 ≤ n) && (!(n == 4) && (((List.range n).all fun x => !(row r x).contains x) || (((List.range n).all fun x => (row r x).contains x) && decide (5 ≤ n)))) && (List.range n).all fun x => (asideL r x).length == 2
def RO (r : List (List Nat)) (n : Nat) : D := if (okR r n && ((walkR r n [0]).length == n)) = true then .tup (natsD (walkR r n [0])) else .non
theorem two3 {l : List Nat} {a b c : Nat} (h : l.length = 2) (ha : a ∈ l) (hb : b ∈ l) (hc : c ∈ l) (h1 : a ≠ b) (h2 : a ≠ c) (h3 : b ≠ c) : False := by
  match l, h with
  | [u, v], _ =>
    simp only [List.mem_cons, List.not_mem_nil, or_false] at ha hb hc
    omega
/-- a walk through all marks, each of which has two others next to it, comes back -/
theorem closes {r : List (List Nat)} {n : Nat} {p : List Nat} (G : Graph n r) (P : PathR r n p) (hn : 3 ≤ n) (hl : p.length = n) (h2 : ∀ x, x < n → (asideL r x).length = 2) : 0 ∈ row r (lastN p) := by
  have at_ : ∀ i, i < n → ∃ a, p[i]? = some a := fun i hi => ⟨_, List.getElem?_eq_getElem (by omega)⟩
  obtain ⟨a1, e1⟩ := at_ 1 (by omega)
  have h01 := P.ad 0 0 a1 P.hd e1
  obtain ⟨v, hv, hne⟩ : ∃ v, v ∈ asideL r 0 ∧ v ≠ a1 := by
    have h0 := h2 0 (by omega)
    have nd := aside_nd G (x := 0)
    match hq : asideL r 0, h0 with
    | [u, v], _ =>
      rw [hq] at nd h01
      have : u ≠ v := by simpa using nd
      simp only [List.mem_cons, List.not_mem_nil, or_false] at h01
      rcases h01 with rfl | rfl
      · exact ⟨v, by simp, fun e => this e.symm⟩
      · exact ⟨u, by simp, this⟩
  have hvn := aside_lt G hv
  have hv0 : v ≠ 0 := (mem_aside.mp hv).2
  obtain ⟨j, hj, ej⟩ := List.getElem_of_mem (full_all P.nd P.lt hl hvn)
  have ej' : p[j]? = some v := by rw [← ej]; exact List.getElem?_eq_getElem hj
  have inj : ∀ {i k a : Nat}, p[i]? = some a → p[k]? = some a → i = k := fun {i k a} x y => nodup_inj P.nd x y
  have hj0 : j ≠ 0 := fun e => by
    subst e
    rw [P.hd] at ej'
    exact hv0 (Option.some.inj ej').symm
  have hj1 : j ≠ 1 := fun e => by
    subst e
    rw [e1] at ej'
    exact hne (Option.some.inj ej').symm
  by_cases hjl : j + 1 = n
  · have : lastN p = v := by
      have q := lastN_at P.ne
      rw [show p.length - 1 = j by omega, ej'] at q
      exact (Option.some.inj q).symm
    rw [this]
    exact (mem_aside.mp (aside_sym G hv)).1
  · exfalso
    obtain ⟨b, eb⟩ := at_ (j - 1) (by omega)
    obtain ⟨c, ec⟩ := at_ (j + 1) (by omega)
    have q1 := aside_sym G (P.ad (j - 1) b v eb (by rw [show j - 1 + 1 = j by omega]; exact ej'))
    have q2 := P.ad j v c ej' ec
    have q3 := aside_sym G hv
    refine two3 (h2 v hvn) q1 q2 q3 (fun e => ?_) (fun e => ?_) (fun e => ?_)
    · subst e
      have := inj eb ec
      omega
    · subst e
      have := inj eb P.hd
      omega
    · subst e
      have := inj ec P.hd
      omega
/-! the rule of a round -/
def ringP (o : List Nat) (n : Nat) (b : Bool) : List (Nat × Nat) := ((List.range n).map fun x => (mk o x, mk o ((x + 1) % n))) ++ if b = true then (List.range n).map fun x => (x, x) else []
structure Order (n : Nat) (o : List Nat) : Prop where
  of ::
  perm : o.Perm (List.range n)
  hd : mk o 0 = 0
  less : mk o 1 < mk o (n - 1)
section
variable {n : Nat} {o : List Nat} {r : List (List Nat)} {b : Bool}
theorem Order.len (O : Order n o) : o.length = n := by simpa using O.perm.length_eq
theorem Order.nd (O : Order n o) : o.Nodup := O.perm.nodup_iff.mpr List.nodup_range
theorem Order.lt (O : Order n o) {i : Nat} (h : i < n) : mk o i < n := by
  have : mk o i ∈ o := by
    have := mk_at (m := o) (p := i) (by rw [O.len]; exact h)
    exact List.mem_of_getElem? this
  exact List.mem_range.mp (O.perm.mem_iff.mp this)
theorem Order.inj (O : Order n o) {i j : Nat} (hi : i < n) (hj : j < n) (h : mk o i = mk o j) : i = j := by
  have e1 := mk_at (m := o) (p := i) (by rw [O.len]; exact hi)
  have e2 := mk_at (m := o) (p := j) (by rw [O.len]; exact hj)
  rw [h] at e1
  exact nodup_inj O.nd e1 e2
theorem Order.onto (O : Order n o) {c : Nat} (h : c < n) : ∃ i, i < n ∧ mk o i = c := by
  have : c ∈ o := O.perm.mem_iff.mpr (List.mem_range.mpr h)
  obtain ⟨i, hi, e⟩ := List.getElem_of_mem this
  refine ⟨i, by rw [← O.len]; exact hi, ?_⟩
  unfold mk; simp [hi, e]
theorem mem_ring (z c : Nat) : (c, z) ∈ ringP o n b ↔ (∃ i, i < n ∧ mk o i = c ∧ mk o ((i + 1) % n) = z) ∨ (b = true ∧ c = z ∧ c < n) := by
  unfold ringP
  rw [List.mem_append]
  constructor
  · rintro (h | h)
    · obtain ⟨i, hi, e⟩ := List.mem_map.mp h
      cases e
      exact .inl ⟨i, List.mem_range.mp hi, rfl, rfl⟩
    · cases b with
      | false => cases h
      | true =>
        obtain ⟨i, hi, e⟩ := List.mem_map.mp h
        cases e
        exact .inr ⟨rfl, rfl, List.mem_range.mp hi⟩
  · rintro (⟨i, hi, rfl, rfl⟩ | ⟨rfl, rfl, h⟩)
    · exact .inl (List.mem_map.mpr ⟨i, List.mem_range.mpr hi, rfl⟩)
    · exact .inr (List.mem_map.mpr ⟨c, List.mem_range.mpr h, rfl⟩)
theorem ring_row (O : Order n o) (hn : 3 ≤ n) (J : Joi (ringP o n b) r) {i : Nat} (hi : i < n) (z : Nat) : z ∈ row r (mk o i) ↔ z = mk o ((i + 1) % n) ∨ z = mk o ((i + n - 1) % n) ∨ (b = true ∧ z = mk o i) := by
  have hb := O.lt hi
  rw [J, mem_ring, mem_ring]
  constructor
  · rintro ((⟨j, hj, e1, rfl⟩ | ⟨hb, e, _⟩) | ⟨j, hj, rfl, e2⟩ | ⟨hb, e, _⟩)
    · have := O.inj hj hi e1
      subst this
      exact .inl rfl
    · exact .inr (.inr ⟨hb, e.symm⟩)
    · have := O.inj (Nat.mod_lt _ (by omega)) hi e2
      refine .inr (.inl ?_)
      rw [← this]
      congr 1
      by_cases h : j + 1 < n
      · rw [Nat.mod_eq_of_lt h]
        have : j + 1 + n - 1 = j + n := by omega
        rw [this, Nat.add_mod_right, Nat.mod_eq_of_lt hj]
      · have : j + 1 = n := by omega
        rw [this, Nat.mod_self, Nat.zero_add, Nat.mod_eq_of_lt (by omega)]
        omega
    · exact .inr (.inr ⟨hb, e⟩)
  · rintro (rfl | rfl | ⟨hb, rfl⟩)
    · exact .inl (.inl ⟨i, hi, rfl, rfl⟩)
    · refine .inr (.inl ⟨(i + n - 1) % n, Nat.mod_lt _ (by omega), rfl, ?_⟩)
      congr 1
      by_cases h : i = 0
      · subst h
        rw [Nat.zero_add, Nat.mod_eq_of_lt (by omega : n - 1 < n), show n - 1 + 1 = n by omega, Nat.mod_self]
      · have : i + n - 1 = (i - 1) + n := by omega
        rw [this, Nat.add_mod_right, Nat.mod_eq_of_lt (by omega : i - 1 < n), Nat.mod_eq_of_lt (by omega)]
        omega
    · exact .inl (.inr ⟨hb, rfl, O.lt hi⟩)
theorem ring_aside (O : Order n o) (hn : 3 ≤ n) (J : Joi (ringP o n b) r) {i : Nat} (hi : i < n) (z : Nat) : z ∈ asideL r (mk o i) ↔ z = mk o ((i + 1) % n) ∨ z = mk o ((i + n - 1) % n) := by
  rw [mem_aside, ring_row O hn J hi]
  have n1 : mk o ((i + 1) % n) ≠ mk o i := fun e => by
    have := O.inj (Nat.mod_lt _ (by omega)) hi e
    by_cases h : i + 1 < n
    · rw [Nat.mod_eq_of_lt h] at this; omega
    · rw [show i + 1 = n by omega, Nat.mod_self] at this; omega
  have n2 : mk o ((i + n - 1) % n) ≠ mk o i := fun e => by
    have := O.inj (Nat.mod_lt _ (by omega)) hi e
    by_cases h : i = 0
    · subst h
      rw [Nat.zero_add, Nat.mod_eq_of_lt (by omega)] at this; omega
    · rw [show i + n - 1 = (i - 1) + n by omega, Nat.add_mod_right, Nat.mod_eq_of_lt (by omega)] at this; omega
  constructor
  · rintro ⟨h | h | h, hz⟩
    · exact .inl h
    · exact .inr h
    · exact absurd h.2 hz
  · rintro (rfl | rfl)
    · exact ⟨.inl rfl, n1⟩
    · exact ⟨.inr (.inl rfl), n2⟩
theorem ring_two (O : Order n o) (hn : 3 ≤ n) {i : Nat} (hi : i < n) : mk o ((i + 1) % n) ≠ mk o ((i + n - 1) % n) := fun e => by
  have := O.inj (Nat.mod_lt _ (by omega)) (Nat.mod_lt _ (by omega)) e
  by_cases h0 : i = 0
  · subst h0
    rw [Nat.zero_add, Nat.zero_add, Nat.mod_eq_of_lt (by omega : 1 < n), Nat.mod_eq_of_lt (by omega : n - 1 < n)] at this
    omega
  · rw [show i + n - 1 = (i - 1) + n by omega, Nat.add_mod_right, Nat.mod_eq_of_lt (by omega : i - 1 < n)] at this
    by_cases h : i + 1 < n
    · rw [Nat.mod_eq_of_lt h] at this; omega
    · rw [show i + 1 = n by omega, Nat.mod_self] at this; omega
theorem len2 {l : List Nat} {a c : Nat} (nd : l.Nodup) (h : ∀ z, z ∈ l ↔ z = a ∨ z = c) (hac : a ≠ c) : l.length = 2 := by
  have : l.Perm [a, c] := (List.perm_ext_iff_of_nodup nd (by simpa using hac)).mpr fun z => by rw [h]; simp
  simpa using this.length_eq
theorem head_least : ∀ {l : List Nat} {v : Nat}, l.Pairwise (· < ·) → v ∈ l → (∀ z ∈ l, v ≤ z) → ∃ m, l = v :: m
  | [], v, _, h, _ => by cases h
  | a :: l, v, p, h, hz => by
    rcases List.mem_cons.mp h with rfl | h
    · exact ⟨l, rfl⟩
    · have := (List.pairwise_cons.mp p).1 v h
      have := hz a List.mem_cons_self
      omega
theorem ring_fur (R : Rul n r) (O : Order n o) (hn : 3 ≤ n) (J : Joi (ringP o n b) r) {i : Nat} (hi : i + 1 < n) : ∃ m, furL r (o.take (i + 1)) = mk o (i + 1) :: m := by
  have lo := O.len
  have hl : lastN (o.take (i + 1)) = mk o i := by
    unfold lastN
    rw [List.getLastD_eq_getLast?, List.getLast?_take]
    simp only [Nat.add_one_ne_zero, if_false, Nat.add_sub_cancel]
    rw [mk_at (by omega)]
    rfl
  have inT : ∀ j, j < n → (mk o j ∈ o.take (i + 1) ↔ j < i + 1) := fun j hj => by
    constructor
    · intro h
      obtain ⟨k, hk, e⟩ := List.getElem_of_mem h
      simp at hk
      have : mk o k = mk o j := by
        rw [List.getElem_take] at e
        unfold mk
        rw [← show o[k] = o.getD j 0 from e]
        simp [show k < o.length by omega]
      have := O.inj (by omega) hj this
      omega
    · intro h
      have e := mk_at (m := o) (p := j) (by omega)
      refine List.mem_of_getElem? (i := j) ?_
      rw [List.getElem?_take, if_pos h]
      exact e
  have pw : (furL r (o.take (i + 1))).Pairwise (· < ·) := by
    unfold furL asideL
    exact ((R.srt _).filter _).filter _
  have mem : ∀ z, z ∈ furL r (o.take (i + 1)) ↔ (z = mk o ((i + 1) % n) ∨ z = mk o ((i + n - 1) % n)) ∧ z ∉ o.take (i + 1) := fun z => by
    unfold furL
    rw [List.mem_filter, hl, ring_aside O hn J (by omega)]
    simp
  have e1 : (i + 1) % n = i + 1 := Nat.mod_eq_of_lt hi
  refine head_least pw ((mem _).mpr ⟨.inl (by rw [e1]), fun h => ?_⟩) fun z hz => ?_
  · have := (inT (i + 1) hi).mp h
    omega
  · obtain ⟨h1, h2⟩ := (mem z).mp hz
    rcases h1 with rfl | rfl
    · rw [e1]; exact Nat.le_refl _
    · by_cases h0 : i = 0
      · subst h0
        have e2 : (0 + n - 1) % n = n - 1 := by rw [Nat.zero_add, Nat.mod_eq_of_lt (by omega)]
        rw [e2]
        exact Nat.le_of_lt O.less
      · have e2 : (i + n - 1) % n = i - 1 := by rw [show i + n - 1 = (i - 1) + n by omega, Nat.add_mod_right, Nat.mod_eq_of_lt (by omega)]
        rw [e2] at h2
        exact absurd ((inT (i - 1) (by omega)).mpr (by omega)) h2
theorem ring_walk (R : Rul n r) (O : Order n o) (hn : 3 ≤ n) (J : Joi (ringP o n b) r) : ∀ (k i : Nat), i + k = n → i + 1 ≤ n → walkR r k (o.take (i + 1)) = o
  | 0, i, h, h2 => by omega
  | k + 1, i, h, h2 => by
    have lo := O.len
    by_cases hi : i + 1 < n
    · obtain ⟨m, e⟩ := ring_fur R O hn J hi
      unfold walkR
      rw [e]
      have e2 : o.take (i + 1) ++ [mk o (i + 1)] = o.take (i + 1 + 1) := by
        rw [List.take_succ (i := i + 1), mk_at (by omega)]
        rfl
      show walkR r k (o.take (i + 1) ++ [mk o (i + 1)]) = o
      rw [e2]
      exact ring_walk R O hn J k (i + 1) (by omega) (by omega)
    · have e2 : o.take (i + 1) = o := List.take_of_length_le (by omega)
      rw [e2]
      have nd := O.nd
      have : furL r o = [] := by
        unfold furL
        rw [List.filter_eq_nil_iff]
        intro y hy
        have : y ∈ o := full_all nd (fun x hx => List.mem_range.mp (O.perm.mem_iff.mp hx)) lo (aside_lt R.toGraph hy)
        simpa using this
      unfold walkR
      rw [this]
theorem ring_RO (R : Rul n r) (O : Order n o) (hn : 3 ≤ n) (h4 : n ≠ 4) (h5 : b = true → 5 ≤ n) (J : Joi (ringP o n b) r) : RO r n = .tup (natsD o) := by
  have lo := O.len
  have w : walkR r n [0] = o := by
    have := ring_walk R O hn J n 0 (by omega) (by omega)
    have e : o.take (0 + 1) = [0] := by
      match ho : o, lo with
      | a :: l, _ =>
        have h := O.hd
        have : a = 0 := h
        rw [this]; rfl
      | [], h => simp at h; omega
    rw [e] at this
    exact this
  have loop : ∀ x, x < n → ((row r x).contains x = b) := fun x hx => by
    obtain ⟨i, hi, rfl⟩ := O.onto hx
    rw [Bool.eq_iff_iff, List.contains_iff_mem, ring_row O hn J hi]
    have n1 := (ring_aside O hn J hi (mk o ((i + 1) % n))).mpr (.inl rfl)
    have n2 := (ring_aside O hn J hi (mk o ((i + n - 1) % n))).mpr (.inr rfl)
    have n1 := (mem_aside.mp n1).2
    have n2 := (mem_aside.mp n2).2
    constructor
    · rintro (e | e | e)
      · exact absurd e.symm n1
      · exact absurd e.symm n2
      · exact e.1
    · intro h
      exact .inr (.inr ⟨h, rfl⟩)
  have ok : okR r n = true := by
    unfold okR
    have two : (List.range n).all (fun x => (asideL r x).length == 2) = true := by
      rw [List.all_eq_true]
      intro x hx
      obtain ⟨i, hi, rfl⟩ := O.onto (List.mem_range.mp hx)
      have := len2 (aside_nd R.toGraph) (ring_aside O hn J hi) (ring_two O hn hi)
      rw [this]; rfl
    rw [two, Bool.and_true, decide_eq_true hn, Bool.true_and, show (n == 4) = false from beq_eq_false_iff_ne.mpr h4, Bool.not_false, Bool.true_and]
    cases b with
    | false =>
      rw [Bool.or_eq_true]
      refine .inl (List.all_eq_true.mpr fun x hx => ?_)
      rw [loop x (List.mem_range.mp hx)]; rfl
    | true =>
      rw [Bool.or_eq_true, Bool.and_eq_true]
      refine .inr ⟨List.all_eq_true.mpr fun x hx => loop x (List.mem_range.mp hx), decide_eq_true (h5 rfl)⟩
  unfold RO
  rw [w, ok, lo]
  simp
end

end LX

set_option maxHeartbeats 0
namespace LX
open PySem PySem.Spec PyProof.Rows L2 DL
local macro_rules | `(tactic| k_search ⟨$es,*⟩) => `(tactic| simp only [$[$es:term],*, ↓wVar.ap, ↓wC.ap, ↓w1.ap, ↓w2.ap, ↓wTest.ap, ↓wAnd.ap, ↓wOr.ap, ↓wNot.ap, ↓wAndV.ap, ↓wOrV.ap, ↓wNotV.ap, ↓wIf.ap, ↓wNil.ap, ↓wCons.ap, ↓wN.ap, ↓wTup.ap, ↓wTupQ.ap, ↓wLstO.ap, ↓wLst.ap, ↓wIx.ap, ↓wNoPart.ap, ↓wPart.ap, ↓wSlice.ap, ↓wSeq.ap, ↓wRange1.ap, ↓wRange2.ap, ↓wEnum.ap, ↓wZip.ap, ↓wgName.ap, ↓wgsNil.ap, ↓wgsCons.ap, ↓wgTup.ap, ↓wYes.ap, ↓wLc.ap, ↓wNext.ap, ↓wsSeq.ap, ↓wBreak.ap, ↓wCont.ap, ↓wAsg.ap, ↓wAsgF.ap, ↓wRet.ap, ↓wRetN.ap, ↓wDrop.ap, ↓wsIf.ap, ↓wFor.ap, ↓wCall.ap, ↓wAppend.ap, ↓wPop.ap, ↓wPopAt.ap, ↓wSetIx.ap, ↓wTgF.ap, ↓wPar.ap, ↓wChain.ap, ↓wCallP.ap, ↓wBoth.ap, ↓wLc2.ap, ↓wListRg1.ap, ↓wTupRg1.ap, ↓wListRg2.ap, ↓wJoin.ap, ↓opAdd_i, ↓opAdd_s, ↓opAdd_t, ↓opAdd_l, ↓opSub_i, ↓opMod_i, ↓opDiv_i, ↓opMul_i, ↓opMul_l, ↓opMul_t, ↓opPow_i, ↓opNeg_i, ↓opLt_i, ↓opLe_i, ↓opGt_i, ↓opGe_i, ↓opIs_n, ↓opIs_b, ↓opIsNot_n, ↓opIsNot_b, ↓opEq_ap, ↓opNe_ap, ↓opIn_l, ↓opIn_t, ↓opIn_s, ↓opNotIn_l, ↓opNotIn_t, ↓opNotIn_s, ↓opLen_t, ↓opLen_l, ↓opLen_r, ↓opLen_s, ↓opTuple_t, ↓opTuple_l, ↓opTuple_r, ↓opList_t, ↓opList_l, ↓opList_r, ↓opSorted_l, ↓opAbs_i, ↓opMax2_i, ↓opMin2_i, ↓opInt_i, ↓opInt_b, ↓opInt_s, ↓opStr_i, ↓opAll_l, ↓opAny_l, ↓opRev_l, ↓opIsi_ap, ↓sliceD_t, ↓sliceD_l, ↓sliceD_r, ↓outOk_ap, ↓scal_int, ↓ixl_1_0, ↓ixl_1_m, ↓ixl_2_0, ↓ixl_2_1, ↓ixl_2_m, ↓ixl_3_0, ↓ixl_3_1, ↓ixl_3_2, ↓ixl_3_m, ↓ixl_4_0, ↓ixl_4_1, ↓ixl_4_2, ↓ixl_4_3, ↓ixl_4_m, ↓wdk_some, ↓asIk_int, ↓asBk_bl, ↓asLOk_lst, ↓ifk_t, ↓ifk_f, ↓lcGok_nil, ↓forGok_nil, ↓whilek_ap, ↓popD_ap, ↓item_tup, ↓item_lst, ↓item_ro, ↓itemD_st, ↓asI_int, ↓asB_bl, ↓asLO_lst, ↓wd_some, ↓lcGo_nil, ↓forGo_nil, lk0, lkS, wd_some, asI_int, asB_bl, asLO_lst, deref_val, deref_slot, deref_sub, moveT_val, moveT_slot, elemT_val, elemT_slot, frzT_val, frzT_slot, frzTs_nil, frzTs_cons, takeTs_nil, takeTs_cons, takeT1_tv, takeT1_ts, takeT1_f, putBack_s, putBack_n, putBack_nil, outArgs_nil, outArgs_t, outArgs_f, own_lst, own_tup, own_int, own_bl, own_str, own_non, own_ro, frz_tup, frz_int, frz_bl, frz_str, frz_non, frz_ro, frz_lstF, frz_lstT, frzs_nil, frzs_cons, valsT_nil, valsT_val, derefs_nil, derefs_cons, stable_val, stable_slot, stable_sub, placeT_slot, placeT_sub, itemsD_tup, itemsD_lst, itemsD_ro, itemsD_str, seqD_tup, seqD_lst, seqD_ro, listOf_lst, listOf_ro, walk_nil, walk_lst, setP_nil2, setP_lst, item_tup, item_lst, item_ro, itemD_st, atT_val, atT_int, atT_tup, atT_str, atT_lstT, atT_lstF, subT_slot, subT_sub, popD_ap, setPlace_ap, wipeD_nil, wipeD_cons, storeD_nil, storeD_cons, wdk_some, asIk_int, asBk_bl, asLOk_lst, ifk_t, ifk_f, lcGok_nil, forGok_nil, lcGo_nil, forGo_nil, pureL_nil, pureL_cons, opAdd_i, opAdd_s, opAdd_t, opAdd_l, opSub_i, opMod_i, opDiv_i, opMul_i, opMul_l, opMul_t, opPow_i, opNeg_i, opLt_i, opLe_i, opGt_i, opGe_i, opIs_n, opIs_b, opIsNot_n, opIsNot_b, opEq_ap, opNe_ap, opIn_l, opIn_t, opIn_s, opNotIn_l, opNotIn_t, opNotIn_s, opLen_t, opLen_l, opLen_r, opLen_s, opTuple_t, opTuple_l, opTuple_r, opList_t, opList_l, opList_r, opSorted_l, opAbs_i, opMax2_i, opMin2_i, opInt_i, opInt_b, opInt_s, opStr_i, opAll_l, opAny_l, opRev_l, opIsi_ap, sliceD_t, sliceD_l, sliceD_r, outOk_ap, scal_int, ixl_1_0, ixl_1_m, ixl_2_0, ixl_2_1, ixl_2_m, ixl_3_0, ixl_3_1, ixl_3_2, ixl_3_m, ixl_4_0, ixl_4_1, ixl_4_2, ixl_4_3, ixl_4_m, Option.bind_some, Option.map_some, List.set_cons_zero, List.set_cons_succ, List.set_nil, List.length_cons, List.length_nil, List.length_set, List.getElem?_cons_zero, List.getElem?_cons_succ, List.cons_append, List.nil_append, Bool.or_true, Bool.true_or, Bool.false_or, Bool.or_false, Bool.and_true, Bool.true_and, Bool.and_false, Bool.false_and, Bool.not_true, Bool.not_false, if_true, if_false, ite_true, ite_false, Bool.false_eq_true, eq_self, true_and, and_true, false_and, and_false, Nat.reduceAdd, Nat.reduceLT, Nat.zero_add, List.filterMap_cons, List.filterMap_nil, id_eq, List.nodup_nil, List.map_cons, List.map_nil, Nat.reduceSub, List.all_nil, List.all_cons, nodup1, sz1, sz2, sz3, sz4, sz5, sz6, sz7, sz8, sz9, sz10, sz11, sz12, Nat.zero_le, enumRows, ownRows_len, ownRows_at, ownRows_set, ownRows_frz, rangeD_nat0, rangeD_nat, asInts_nats, sortN_D, Int.toNat_natCast, natsD_len, natsD_at, natsD_frz, natsD_pure, natsD_nil, rowsD_len, rowsD_at, rowsD_frz, rowsD_pure, rowT_ap, pairsD_nil, pairsD_len, pairsD_frz, pairsD_pure, pairsD_at, tabD, flat_int, natsD_flat, natsD_in, eqv_int, beq_nat, natsD_ok, deal_own, eqv_tups, natsD_eqv, ok_int, ok_tup, ok_lst, oks_nil, eqv_nil, natsD_emp, bq0, bq1, bq2, bq3, bq4, bq5, bq6, bq7, bq8, bq9, bq10, bq11, bq12, bq13, ↓wRemove.ap, ↓wLend.ap, valT_val, ownClean_nil, ownClean_cons, oclean_none, oclean_some, clean_int, clean_bl, clean_non, clean_str, clean_tup, clean_lst, clean_nil, clean_cons, clean_nats, clean_pairs, mkD, ↓opRevT_t, opRevT_t, ↓wIndex.ap, listOf_lst, listOf_ro, ixN2_ap, ↓opMulS_s, opMulS_s, ↓wEnumZ.ap, zipTOk_tup, ↓wDPut.ap, ↓wDispT.ap, ↓wNewT.ap, ↓wNewK.ap, keyT_nats, opNotInD_T, opInD_T, opNotInD_K, opInD_K, opLenD_T, opLenD_K, dput_T, dput_K, own_dT, own_dK, ↓wAugI.ap, ↓wAugL.ap, asIO_i, lstOf2_l, ↓wgoName.ap, ↓wgoIx.ap, ↓wgosNil.ap, ↓wgosCons.ap, ↓wParG.ap, asSome_s, getT_s, getT_n, dkey_K, dkey_T, isDic_T, isDic_K, ↓wDGet.ap, ↓wDGetOr.ap, ↓wRaise.ap, ↓wTryAt.ap, one1_s, hasSlot.ap])

/-! steps_aside -/
abbrev N_p_steps_aside : List Str := ["rule", "x", "y"]
abbrev w_p_steps_aside : WS := (wRet (wLc [2] (wSeq (wIx true (wVar 0) (wVar 1))) (wgName 2) (wTest (w2 true opNe (wVar 2) (wVar 1))) (wVar 2)))
abbrev io_p_steps_aside : List Bool := [false, false]

theorem st_p_steps_aside (a0 a1 : D) : startD N_p_steps_aside [a0, a1] = [some a0, some a1, none] := rfl
def fs_p_steps_aside : FS := fun ds Φ Ψ => ∃ (r : List (List Nat)) (n x : Nat), ds = [tabD r, .int x] ∧ Graph n r ∧ x < n ∧ n ≤ 100 ∧ Φ (.lst true (natsD (asideL r x))) [tabD r, .int x]
theorem hl_p_steps_aside : ∀ ds Φ Ψ, fs_p_steps_aside ds Φ Ψ → ds.length = 2 := by
  rintro ds Φ Ψ ⟨_, _, _, rfl, _⟩
  rfl
theorem h_p_steps_aside : ∀ ds Φ Ψ, fs_p_steps_aside ds Φ Ψ → w_p_steps_aside ⟨fun ρ => outOk io_p_steps_aside ds ρ (Φ .non), fun d ρ => outOk io_p_steps_aside ds ρ (Φ d), fun _ => False, fun _ => False⟩ (fun x ρ => outOk io_p_steps_aside ds ρ (Ψ x)) (startD N_p_steps_aside ds) := by
  rintro ds Φ Ψ ⟨r, n, x, rfl, G, hx, hn, hΦ⟩
  have ix : ixN r.length (x : Int) = some x := ixN_nat (by rw [G.len]; exact hx)
  have rx : r[x]? = some (row r x) := row_at (by rw [G.len]; exact hx)
  k_search ⟨st_p_steps_aside, w_p_steps_aside, ix, rx, io_p_steps_aside⟩
  refine lc_fn (fun n : Nat => D.int (n : Nat)) (fun y => !(y == x)) (fun y => D.int (y : Nat)) ?_ (size100 (by have := G.few x; omega)) ?_
  · intro y hy acc kk hacc h
    cases c : (y == x) <;> simp only [c, Bool.not_true, Bool.not_false, if_true, if_false, Bool.false_eq_true] at h <;> k_search ⟨c, io_p_steps_aside⟩ <;> first | exact ⟨hacc, h⟩ | exact h
  rw [natsD_id]
  k_search ⟨io_p_steps_aside⟩
  exact hΦ

/-! round_of -/
abbrev N_p_round_of : List Str := ["rule", "many", "own", "x", "found", "further", "y"]
abbrev w_p_round_of : WS := (wsSeq (wAsg 1 (wN opLen (wCons true (wVar 0) wNil)))
    (wsSeq (wAsg 2 (wLc [3] (wRange1 (wCons true (wVar 1) wNil)) (wgName 3) wYes (w2 true opIn (wVar 3) (wIx true (wVar 0) (wVar 3)))))
    (wsSeq (wsIf (wOr (wTest (w2 true opLt (wVar 1) (wC (.int 3)))) (wOr (wTest (w2 true opEq (wVar 1) (wC (.int 4)))) (wAnd (wTest (wN opAny (wCons true (wVar 2) wNil))) (wOr (wNot (wTest (wN opAll (wCons true (wVar 2) wNil)))) (wTest (w2 true opLt (wVar 1) (wC (.int 5)))))))) (wRet (wC .non)) wNext)
    (wsSeq (wsIf (wNot (wTest (wN opAll (wCons true (wLc [3] (wRange1 (wCons true (wVar 1) wNil)) (wgName 3) wYes (w2 true opEq (wN opLen (wCons true (wCall [false, false] fs_p_steps_aside (wCons true (wVar 0) (wCons true (wVar 3) wNil))) wNil)) (wC (.int 2)))) wNil)))) (wRet (wC .non)) wNext)
    (wsSeq (wAsg 4 (wLstO (wCons false (wC (.int 0)) (wCons true (wIx true (wCall [false, false] fs_p_steps_aside (wCons true (wVar 0) (wCons true (wC (.int 0)) wNil))) (wC (.int 0))) wNil))))
    (wsSeq (wWhile (wTest (w2 true opLt (wN opLen (wCons true (wVar 4) wNil)) (wVar 1))) (wsSeq (wAsg 5 (wLc [6] (wSeq (wCall [false, false] fs_p_steps_aside (wCons true (wVar 0) (wCons true (wIx true (wVar 4) (w1 opNeg (wC (.int 1)))) wNil)))) (wgName 6) (wTest (w2 true opNotIn (wVar 6) (wVar 4))) (wVar 6)))
    (wsSeq (wsIf (wTest (w2 true opEq (wVar 5) (wLstO wNil))) (wRet (wC .non)) wNext)
    (wDrop (wAppend true (wVar 4) (wCons true (wIx true (wVar 5) (wC (.int 0))) wNil))))))
    (wRet (wN opTuple (wCons true (wVar 4) wNil)))))))))
abbrev io_p_round_of : List Bool := [false]

theorem st_p_round_of (a0 : D) : startD N_p_round_of [a0] = [some a0, none, none, none, none, none, none] := rfl
def bls (l : List Bool) : List D := l.map D.bl
theorem nats_last {p : List Nat} (h : p ≠ []) : ixN p.length (-1) = some (p.length - 1) := ixN_neg1 (List.length_pos_iff.mpr h)
theorem ow_all (r : List (List Nat)) (n : Nat) : (((List.range n).map fun x => (row r x).contains x).all id) = (List.range n).all fun x => (row r x).contains x := by rw [List.all_map]; rfl
theorem ow_any (r : List (List Nat)) (n : Nat) : (((List.range n).map fun x => (row r x).contains x).any id) = !((List.range n).all fun x => !(row r x).contains x) := by
  rw [List.any_map, List.any_eq_not_all_not]; rfl
theorem fur_at (r : List (List Nat)) (p : List Nat) : (asideL r (lastN p)).filter (fun y => !(p.contains y)) = furL r p := rfl
theorem walk_nil {r : List (List Nat)} {p : List Nat} {k : Nat} (h : furL r p = []) : walkR r k p = p := by
  cases k with
  | zero => rfl
  | succ k => unfold walkR; rw [h]
theorem walk_cons {r : List (List Nat)} {p l : List Nat} {k y : Nat} (h : furL r p = y :: l) : walkR r (k + 1) p = walkR r k (p ++ [y]) := by
  show (match furL r p with | [] => p | y :: _ => walkR r k (p ++ [y])) = _
  rw [h]
theorem asBls_ofMap {α : Type} (f : α → Bool) (l : List α) : asBls (l.map fun x => D.bl (f x)) = some (l.map f) := by
  induction l with
  | nil => rfl
  | cons a l ih =>
    show asBls (D.bl (f a) :: l.map fun x => D.bl (f x)) = _
    unfold asBls
    rw [ih]; rfl
theorem okR_3 {r : List (List Nat)} {n : Nat} (h : n < 3) : RO r n = .non := by
  unfold RO okR
  rw [decide_eq_false (by omega : ¬ 3 ≤ n)]
  simp
theorem okR_4 {r : List (List Nat)} {n : Nat} (h : n = 4) : RO r n = .non := by
  subst h
  unfold RO okR
  simp
theorem okR_loops {r : List (List Nat)} {n : Nat} (h : ((List.range n).all fun x => !(row r x).contains x) = false) (h2 : ((List.range n).all fun x => (row r x).contains x) = false ∨ n < 5) : RO r n = .non := by
  unfold RO okR
  rw [h]
  rcases h2 with h2 | h2
  · rw [h2]; simp
  · rw [decide_eq_false (by omega : ¬ 5 ≤ n)]; simp
theorem okR_two {r : List (List Nat)} {n : Nat} (h : ((List.range n).all fun x => (asideL r x).length == 2) = false) : RO r n = .non := by
  unfold RO okR
  rw [h]
  simp
theorem okR_ok {r : List (List Nat)} {n : Nat} (h3 : ¬ n < 3) (h4 : n ≠ 4) (hl : ((List.range n).all fun x => !(row r x).contains x) = true ∨ (((List.range n).all fun x => (row r x).contains x) = true ∧ ¬ n < 5)) (h2 : ((List.range n).all fun x => (asideL r x).length == 2) = true) : okR r n = true := by
  unfold okR
  rw [h2, decide_eq_true (by omega : 3 ≤ n), show (n == 4) = false from beq_eq_false_iff_ne.mpr h4]
  rcases hl with h | ⟨h, h5⟩
  · rw [h]; rfl
  · rw [h, decide_eq_true (by omega : 5 ≤ n)]; simp
def fs_p_round_of : FS := fun ds Φ Ψ => ∃ (r : List (List Nat)) (n : Nat), ds = [tabD r] ∧ Graph n r ∧ 0 < n ∧ n ≤ 100 ∧ Φ (RO r n) [tabD r]
theorem hl_p_round_of : ∀ ds Φ Ψ, fs_p_round_of ds Φ Ψ → ds.length = 1 := by
  rintro ds Φ Ψ ⟨_, _, rfl, _⟩
  rfl
theorem h_p_round_of : ∀ ds Φ Ψ, fs_p_round_of ds Φ Ψ → w_p_round_of ⟨fun ρ => outOk io_p_round_of ds ρ (Φ .non), fun d ρ => outOk io_p_round_of ds ρ (Φ d), fun _ => False, fun _ => False⟩ (fun x ρ => outOk io_p_round_of ds ρ (Ψ x)) (startD N_p_round_of ds) := by
  rintro ds Φ Ψ ⟨r, n, rfl, G, h0, hn, hΦ⟩
  have lr := G.len
  k_search ⟨st_p_round_of, w_p_round_of, lr, io_p_round_of⟩
  refine ⟨rg_small (by omega), ?_⟩
  refine lc_map (fun n : Nat => D.int (n : Nat)) (fun x => D.bl ((row r x).contains x)) ?_ (by rw [List.length_range]; exact size100 (by omega)) ?_
  · intro x hx acc kk hacc h
    have hx := List.mem_range.mp hx
    have ix : ixN r.length (x : Int) = some x := ixN_nat (by omega)
    have rx : r[x]? = some (row r x) := row_at (by omega)
    k_search ⟨ix, rx, io_p_round_of⟩
    exact ⟨hacc, h⟩
  have eA := asBls_ofMap (fun x => (row r x).contains x) (List.range n)
  by_cases c3 : n < 3
  · have e3 : decide ((n : Int) < 3) = true := decide_eq_true (by omega)
    rw [okR_3 c3] at hΦ
    k_search ⟨e3, io_p_round_of⟩
    exact hΦ
  have e3 : decide ((n : Int) < 3) = false := decide_eq_false (by omega)
  by_cases c4 : n = 4
  · have e4 : ((n : Int) == 4) = true := by rw [c4]; rfl
    rw [okR_4 c4] at hΦ
    k_search ⟨e3, e4, io_p_round_of⟩
    exact hΦ
  have e4 : ((n : Int) == 4) = false := beq_eq_false_iff_ne.mpr (by omega)
  have hL : ((List.range n).all fun x => !(row r x).contains x) = true ∨ (((List.range n).all fun x => !(row r x).contains x) = false ∧ ((List.range n).all fun x => (row r x).contains x) = true ∧ ¬ n < 5) ∨ (((List.range n).all fun x => !(row r x).contains x) = false ∧ (((List.range n).all fun x => (row r x).contains x) = false ∨ n < 5)) := by
    cases cA : ((List.range n).all fun x => !(row r x).contains x) with
    | true => exact .inl rfl
    | false =>
      cases cB : ((List.range n).all fun x => (row r x).contains x) with
      | true =>
        by_cases c5 : n < 5
        · exact .inr (.inr ⟨rfl, .inr c5⟩)
        · exact .inr (.inl ⟨rfl, rfl, c5⟩)
      | false => exact .inr (.inr ⟨rfl, .inl rfl⟩)
  refine hL.elim (fun cA => ?a) fun q => q.elim (fun ⟨cA, cB, c5⟩ => ?b) fun ⟨cA, cC⟩ => ?c
  case' c =>
    have z := okR_loops cA cC
    rw [z] at hΦ
    rcases cC with cB | c5
    · k_search ⟨e3, e4, eA, ow_any, ow_all, cA, cB, io_p_round_of⟩
      exact hΦ
    · have e5 : decide ((n : Int) < 5) = true := decide_eq_true (by omega)
      cases cB : ((List.range n).all fun x => (row r x).contains x) <;> k_search ⟨e3, e4, eA, ow_any, ow_all, cA, cB, e5, io_p_round_of⟩ <;> exact hΦ
  case' a => k_search ⟨e3, e4, eA, ow_any, ow_all, cA, io_p_round_of⟩
  case' b =>
    have e5 : decide ((n : Int) < 5) = false := decide_eq_false (by omega)
    k_search ⟨e3, e4, eA, ow_any, ow_all, cA, cB, e5, io_p_round_of⟩
  case' a => have hl : ((List.range n).all fun x => !(row r x).contains x) = true ∨ (((List.range n).all fun x => (row r x).contains x) = true ∧ ¬ n < 5) := .inl cA
  case' b => have hl : ((List.range n).all fun x => !(row r x).contains x) = true ∨ (((List.range n).all fun x => (row r x).contains x) = true ∧ ¬ n < 5) := .inr ⟨cB, c5⟩
  all_goals
    clear cA
    refine ⟨rg_small (by omega), ?_⟩
    refine lc_map (fun n : Nat => D.int (n : Nat)) (fun x => D.bl ((asideL r x).length == 2)) ?_ (by rw [List.length_range]; exact size100 (by omega)) ?_
    · intro x hx acc kk hacc h
      have hx := List.mem_range.mp hx
      k_search ⟨io_p_round_of⟩
      refine ⟨r, n, x, rfl, G, hx, hn, ?_⟩
      k_search ⟨io_p_round_of⟩
      have e2 : (((asideL r x).length : Int) == 2) = ((asideL r x).length == 2) := beq_nat _ 2
      rw [e2]
      exact ⟨hacc, h⟩
    k_search ⟨asBls_ofMap, io_p_round_of⟩
    have eQ : (((List.range n).map fun x => (asideL r x).length == 2).all id) = (List.range n).all fun x => (asideL r x).length == 2 := by rw [List.all_map]; rfl
    cases c2 : ((List.range n).all fun x => (asideL r x).length == 2) with
    | false =>
      rw [okR_two c2] at hΦ
      k_search ⟨eQ, c2, io_p_round_of⟩
      exact hΦ
    | true =>
      have hok := okR_ok c3 c4 hl c2
      k_search ⟨eQ, c2, io_p_round_of⟩
      have hal : (asideL r 0).length = 2 := by
        have := List.all_eq_true.mp c2 0 (List.mem_range.mpr h0)
        simpa using this
      refine ⟨r, n, 0, rfl, G, h0, hn, ?_⟩
      obtain ⟨a0, b0, ea⟩ : ∃ a b, asideL r 0 = [a, b] := by
        match asideL r 0, hal with
        | [a, b], _ => exact ⟨a, b, rfl⟩
      have i0 : ixN 2 0 = some 0 := ixN_0 (by omega)
      k_search ⟨ea, natsD_cons, i0, io_p_round_of⟩
      have P1 : PathR r n [0] := PathR.one h0
      have f1 : furL r [0] = a0 :: [b0] := by
        have m1 : a0 ∈ asideL r 0 := by rw [ea]; simp
        have m2 : b0 ∈ asideL r 0 := by rw [ea]; simp
        have n1 := (mem_aside.mp m1).2
        have n2 := (mem_aside.mp m2).2
        show (asideL r 0).filter (fun y => !([0].contains y)) = _
        rw [ea]
        simp [n1, n2]
      have P2 : PathR r n [0, a0] := P1.snoc G (by rw [f1]; exact List.mem_cons_self)
      have w2' : walkR r (n + 1 - [0, a0].length) [0, a0] = walkR r n [0] := by
        obtain ⟨k, rfl⟩ : ∃ k, n = k + 1 := ⟨n - 1, by omega⟩
        rw [walk_cons f1]
        rfl
      refine while_runk (I := fun m ρ => ∃ (p : List Nat) (x3 x5 x6 : Option D), p.length + m = n ∧ PathR r n p ∧ 2 ≤ p.length ∧ walkR r (n + 1 - p.length) p = walkR r n [0] ∧ ρ = [some (tabD r), some (.int n), some (.lst true ((List.range n).map fun x => D.bl ((row r x).contains x))), x3, some (.lst true (natsD p)), x5, x6]) ?_ (n := n - 2) ⟨[0, a0], none, none, none, by show 2 + (n - 2) = n; omega, P2, Nat.le_refl _, w2', rfl⟩
      rintro m k hk ρ ⟨p, x3, x5, x6, hm, P, hp2, hw, rfl⟩
      k_search ⟨io_p_round_of⟩
      by_cases hpn : p.length < n
      · have e1 : decide ((p.length : Int) < (n : Int)) = true := decide_eq_true (by omega)
        have hl := lastN_mem P.ne
        have ip : ixN p.length (-1) = some (p.length - 1) := nats_last P.ne
        have lp : p[p.length - 1]? = some (lastN p) := lastN_at P.ne
        have hlt := P.lt _ hl
        k_search ⟨e1, ip, lp, io_p_round_of⟩
        refine ⟨r, n, lastN p, rfl, G, hlt, hn, ?_⟩
        k_search ⟨io_p_round_of⟩
        refine lc_fn (fun n : Nat => D.int (n : Nat)) (fun y => !(p.contains y)) (fun y => D.int (y : Nat)) ?_ (size100 (by have := nodup_le n _ (aside_nd G (x := lastN p)) (fun x hx => aside_lt G hx); omega)) ?_
        · intro y hy acc kk hacc h
          cases c : p.contains y <;> simp only [c, Bool.not_true, Bool.not_false, if_true, if_false, Bool.false_eq_true] at h <;> k_search ⟨c, io_p_round_of⟩ <;> first | exact ⟨hacc, h⟩ | exact h
        rw [natsD_id, fur_at]
        cases hf : furL r p with
        | nil =>
          k_search ⟨List.isEmpty_nil, io_p_round_of⟩
          have hW : walkR r n [0] = p := by rw [← hw, walk_nil hf]
          have hR : RO r n = .non := by
            unfold RO
            rw [hW, show (p.length == n) = false from beq_eq_false_iff_ne.mpr (by omega), Bool.and_false]
            rfl
          rw [hR] at hΦ
          exact hΦ
        | cons y l =>
          have i1 : ixN (l.length + 1) 0 = some 0 := ixN_0 (by omega)
          k_search ⟨List.isEmpty_cons, natsD_cons, i1, natsD_snoc_r, io_p_round_of⟩
          refine ⟨by rw [show D.oks 63 (D.int (y : Nat) :: natsD l) = true from natsD_ok 63 (y :: l), Bool.or_true], Nat.lt_of_le_of_lt (by omega : p.length ≤ 100) (by decide), hk (m - 1) _ (by omega) ⟨p ++ [y], _, _, _, by simp; omega, P.snoc G (by rw [hf]; exact List.mem_cons_self), by simp; omega, ?_, rfl⟩⟩
          rw [← hw]
          have e : n + 1 - p.length = (n + 1 - (p ++ [y]).length) + 1 := by simp; omega
          rw [e, walk_cons hf]
      · have e1 : decide ((p.length : Int) < (n : Int)) = false := decide_eq_false (by omega)
        have hpl : p.length = n := by have := P.len; omega
        have hW : walkR r n [0] = p := by rw [← hw, walk_nil (fur_full G P hpl)]
        have hR : RO r n = .tup (natsD p) := by
          unfold RO
          rw [hW, hok, hpl]
          simp
        rw [hR] at hΦ
        k_search ⟨e1, io_p_round_of⟩
        exact hΦ

/-! spots -/
abbrev N_p_spots : List Str := ["rule", "found", "at", "mark"]
abbrev w_p_spots : WS := (wsSeq (wAsg 1 (w2 true opMul (wLstO (wCons true (wC (.int 0)) wNil)) (wN opLen (wCons true (wVar 0) wNil))))
    (wsSeq (wFor (wEnum (wCons true (wCall [false] fs_p_round_of (wCons true (wVar 0) wNil)) wNil)) (wgTup 2 (wgsCons (wgName 2) (wgsCons (wgName 3) wgsNil))) (wSetIx (wVar 2) (wVar 1) (wVar 3)))
    (wRet (wVar 1))))
abbrev io_p_spots : List Bool := [false]

theorem st_p_spots (a0 : D) : startD N_p_spots [a0] = [some a0, none, none, none] := rfl
theorem enumNats (o : List Nat) : enumD (natsD o) = (List.range o.length).map fun i => DL.pairD (i, mk o i) := by
  unfold enumD
  rw [natsD_len]
  refine List.map_congr_left fun i hi => ?_
  have hi := List.mem_range.mp hi
  have e : (natsD o).getD i .non = .int (mk o i : Nat) := by
    rw [List.getD_eq_getElem?_getD, natsD_at, mk_at hi]
    rfl
  rw [e]
  rfl
theorem mk_setN {m : List Nat} {p q k : Nat} (h : p < m.length) : mk (m.set p k) q = if q = p then k else mk m q := mk_set h
theorem zeros (n : Nat) : (List.replicate n [D.int 0]).flatten = natsD (List.replicate n 0) := by
  induction n with
  | zero => rfl
  | succ n ih =>
    rw [List.replicate_succ, List.replicate_succ, List.flatten_cons, ih]
    rfl
def fs_p_spots : FS := fun ds Φ Ψ => ∃ (r : List (List Nat)) (n : Nat) (o : List Nat), ds = [tabD r] ∧ Graph n r ∧ 0 < n ∧ n ≤ 100 ∧ RO r n = .tup (natsD o) ∧ (∀ i, i < n → mk o i < n) ∧ (∀ i j, i < n → j < n → mk o i = mk o j → i = j) ∧ o.length = n ∧ ∀ f : List Nat, f.length = n → (∀ j, j < n → mk f (mk o j) = j) → Φ (.lst true (natsD f)) [tabD r]
theorem hl_p_spots : ∀ ds Φ Ψ, fs_p_spots ds Φ Ψ → ds.length = 1 := by
  rintro ds Φ Ψ ⟨_, _, _, rfl, _⟩
  rfl
theorem h_p_spots : ∀ ds Φ Ψ, fs_p_spots ds Φ Ψ → w_p_spots ⟨fun ρ => outOk io_p_spots ds ρ (Φ .non), fun d ρ => outOk io_p_spots ds ρ (Φ d), fun _ => False, fun _ => False⟩ (fun x ρ => outOk io_p_spots ds ρ (Ψ x)) (startD N_p_spots ds) := by
  rintro ds Φ Ψ ⟨r, n, o, rfl, G, h0, hn, hR, ho, hinj, hol, hΦ⟩
  have lr := G.len
  k_search ⟨st_p_spots, w_p_spots, lr, io_p_spots⟩
  refine ⟨by omega, by omega, by rw [Nat.one_mul]; exact size100 (by omega), r, n, rfl, G, h0, hn, ?_⟩
  k_search ⟨hR, zeros, enumNats, hol, io_p_spots⟩
  refine for_ty (fun i : Nat => DL.pairD (i, mk o i)) (I := fun l ρ => ∃ (f : List Nat) (x2 x3 : Option D), f.length = n ∧ (∀ i ∈ l, i < n) ∧ (∀ j, j < n → j ∉ l → mk f (mk o j) = j) ∧ ρ = [some (tabD r), some (.lst true (natsD f)), x2, x3]) ?_ ?_ _ _ ⟨_, none, none, by simp, fun i hi => List.mem_range.mp hi, fun j hj h => absurd (List.mem_range.mpr hj) h, rfl⟩
  · rintro i l k hk ρ ⟨f, x2, x3, hf, hl, hd, rfl⟩
    have hi := hl i List.mem_cons_self
    have im : ixN f.length (mk o i : Int) = some (mk o i) := ixN_nat (by have := ho i hi; omega)
    k_search ⟨pairD_ap, im, natsD_set, io_p_spots⟩
    refine hk _ ⟨_, _, _, by rw [List.length_set]; exact hf, fun j hj => hl j (List.mem_cons_of_mem _ hj), fun j hj hnl => ?_, rfl⟩
    rw [mk_setN (by have := ho i hi; omega)]
    by_cases e : j = i
    · rw [e, if_pos rfl]
    · rw [if_neg fun z => e (hinj j i hj hi z)]
      exact hd j hj fun z => by
        rcases List.mem_cons.mp z with z | z
        · exact e z
        · exact hnl z
  · rintro ρ ⟨f, x2, x3, hf, hl, hd, rfl⟩
    k_search ⟨io_p_spots⟩
    exact hΦ f hf fun j hj => hd j hj (by simp)

/-! turn -/
abbrev N_p_turn : List Str := ["rule", "x", "y", "where"]
abbrev w_p_turn : WS := (wsSeq (wAsg 3 (wCall [false] fs_p_spots (wCons true (wVar 0) wNil)))
    (wRet (wCall [false, false, false] fs_p_turned (wCons true (wN opLen (wCons true (wVar 0) wNil)) (wCons true (wIx true (wVar 3) (wVar 1)) (wCons true (wIx true (wVar 3) (wVar 2)) wNil))))))
abbrev io_p_turn : List Bool := [false, false, false]

theorem st_p_turn (a0 a1 a2 : D) : startD N_p_turn [a0, a1, a2] = [some a0, some a1, some a2, none] := rfl
def fs_p_turn : FS := fun ds Φ Ψ => ∃ (r : List (List Nat)) (n : Nat) (o : List Nat) (i j : Nat), ds = [tabD r, .int (mk o i : Nat), .int (mk o j : Nat)] ∧ Graph n r ∧ 0 < n ∧ n ≤ 100 ∧ RO r n = .tup (natsD o) ∧ (∀ i, i < n → mk o i < n) ∧ (∀ i j, i < n → j < n → mk o i = mk o j → i = j) ∧ o.length = n ∧ i < n ∧ j < n ∧ Φ (.int (turnI n i j)) [tabD r, .int (mk o i : Nat), .int (mk o j : Nat)]
theorem hl_p_turn : ∀ ds Φ Ψ, fs_p_turn ds Φ Ψ → ds.length = 3 := by
  rintro ds Φ Ψ ⟨_, _, _, _, _, rfl, _⟩
  rfl
theorem h_p_turn : ∀ ds Φ Ψ, fs_p_turn ds Φ Ψ → w_p_turn ⟨fun ρ => outOk io_p_turn ds ρ (Φ .non), fun d ρ => outOk io_p_turn ds ρ (Φ d), fun _ => False, fun _ => False⟩ (fun x ρ => outOk io_p_turn ds ρ (Ψ x)) (startD N_p_turn ds) := by
  rintro ds Φ Ψ ⟨r, n, o, i, j, rfl, G, h0, hn, hR, ho, hinj, hol, hi, hj, hΦ⟩
  have lr := G.len
  k_search ⟨st_p_turn, w_p_turn, io_p_turn⟩
  refine ⟨r, n, o, rfl, G, h0, hn, hR, ho, hinj, hol, fun f hf hfj => ?_⟩
  have i1 : ixN f.length (mk o i : Int) = some (mk o i) := ixN_nat (by have := ho i hi; omega)
  have i2 : ixN f.length (mk o j : Int) = some (mk o j) := ixN_nat (by have := ho j hj; omega)
  have g1 : f[mk o i]? = some i := by
    rw [mk_at (by have := ho i hi; omega), hfj i hi]
  have g2 : f[mk o j]? = some j := by
    rw [mk_at (by have := ho j hj; omega), hfj j hj]
  k_search ⟨i1, i2, g1, g2, lr, io_p_turn⟩
  refine ⟨n, i, j, rfl, h0, ?_⟩
  k_search ⟨io_p_turn⟩
  exact hΦ

/-! _law_turned -/
abbrev N_law_turned37 : List Str := ["many", "x", "y", "gone"]
abbrev w_law_turned37 : WS := (wsSeq (wAsg 3 (w2 true opMod (wN opInt (wCons true (w2 true opSub (wVar 2) (wVar 1)) wNil)) (wVar 0)))
    (wRet (wIf (wTest (w2 true opGt (wVar 3) (wC (.int 1)))) (w1 opNeg (wC (.int 1))) (wVar 3))))
abbrev io_law_turned37 : List Bool := [false, false, false]

theorem st_law_turned37 (a0 a1 a2 : D) : startD N_law_turned37 [a0, a1, a2] = [some a0, some a1, some a2, none] := rfl
def fs_law_turned37 : FS := fun ds Φ Ψ => ∃ (m x y : Nat), ds = [.int m, .int x, .int y] ∧ 0 < m ∧ Φ (.int (turnI m x y)) [.int m, .int x, .int y]
theorem hl_law_turned37 : ∀ ds Φ Ψ, fs_law_turned37 ds Φ Ψ → ds.length = 3 := by
  rintro ds Φ Ψ ⟨_, _, _, rfl, _⟩
  rfl
theorem h_law_turned37 : ∀ ds Φ Ψ, fs_law_turned37 ds Φ Ψ → w_law_turned37 ⟨fun ρ => outOk io_law_turned37 ds ρ (Φ .non), fun d ρ => outOk io_law_turned37 ds ρ (Φ d), fun _ => False, fun _ => False⟩ (fun x ρ => outOk io_law_turned37 ds ρ (Ψ x)) (startD N_law_turned37 ds) := by
  rintro ds Φ Ψ ⟨m, x, y, rfl, hm, hΦ⟩
  k_search ⟨st_law_turned37, w_law_turned37, io_law_turned37⟩
  refine ⟨by omega, ?_⟩
  by_cases c : ((y : Int) - x) % (m : Int) > 1
  · have e1 := decide_eq_true c
    unfold turnI at hΦ
    rw [if_pos c] at hΦ
    k_search ⟨e1, io_law_turned37⟩
    exact hΦ
  · have e1 := decide_eq_false c
    unfold turnI at hΦ
    rw [if_neg c] at hΦ
    k_search ⟨e1, io_law_turned37⟩
    exact hΦ

/-! _law_great -/
abbrev N_law_great : List Str := ["deal", "number"]
abbrev w_law_great : WS := (wsSeq (wAsg 1 (w2 false opAdd (w2 false opMul (wCall [true, false] fs_law_any (wCons true (wVar 0) (wCons true (w2 true opPow (wC (.int 10)) (wC (.int 6))) wNil))) (wCall [true, false] fs_law_of (wCons true (wVar 0) (wCons true (wLstO (wCons true (wC (.int 0)) (wCons true (wC (.int 1)) (wCons true (w2 true opPow (wC (.int 10)) (wC (.int 6))) wNil)))) wNil)))) (wCall [true, false] fs_law_any (wCons true (wVar 0) (wCons true (w2 true opPow (wC (.int 10)) (wC (.int 6))) wNil)))))
    (wRet (w2 false opMul (w2 true opMod (wVar 1) (w2 true opPow (wC (.int 10)) (wC (.int 12)))) (wCall [true, false] fs_law_of (wCons true (wVar 0) (wCons true (wLstO (wCons true (wC (.int 1)) (wCons true (wC (.int 1)) (wCons true (w1 opNeg (wC (.int 1))) wNil)))) wNil))))))
abbrev io_law_great : List Bool := [true]

theorem st_law_great (a0 : D) : startD N_law_great [a0] = [some a0, none] := rfl
theorem pow6 : ((10 : Int) ^ (6 : Int).toNat) = ((1000000 : Nat) : Int) := by decide
theorem pow12 : ((10 : Int) ^ (12 : Int).toNat) = 1000000000000 := by decide
theorem dealOfInts {xs : List Int} {i : Nat} {x : D} (h : (xs.map D.int)[i]? = some x) : ∃ v ∈ xs, x = .int v := by
  rw [List.getElem?_map] at h
  cases e : xs[i]? with
  | none => rw [e] at h; cases h
  | some v => rw [e] at h; cases h; exact ⟨v, List.mem_of_getElem? e, rfl⟩
theorem log_sum {a b : Int} (ha : a.natAbs < 2 ^ 64) (hb : b.natAbs < 2 ^ 64) : a.natAbs.log2 + b.natAbs.log2 < 1000000 := by
  have := log_small ha
  have := log_small hb
  omega
def fs_law_great : FS := fun ds Φ Ψ => ∃ (s : DealS), ds = [dealD s] ∧ (∀ (s' : DealS) (n : Int), n.natAbs < 10 ^ 13 → Φ (.int n) [dealD s'])
theorem hl_law_great : ∀ ds Φ Ψ, fs_law_great ds Φ Ψ → ds.length = 1 := by
  rintro ds Φ Ψ ⟨_, rfl, _⟩
  rfl
theorem h_law_great : ∀ ds Φ Ψ, fs_law_great ds Φ Ψ → w_law_great ⟨fun ρ => outOk io_law_great ds ρ (Φ .non), fun d ρ => outOk io_law_great ds ρ (Φ d), fun _ => False, fun _ => False⟩ (fun x ρ => outOk io_law_great ds ρ (Ψ x)) (startD N_law_great ds) := by
  rintro ds Φ Ψ ⟨s, rfl, hΦ⟩
  have p6 : (0 : Int) ≤ 6 ∧ (6 : Int) ≤ 1000000 ∧ Int.natAbs 10 < 2 ^ 64 := by decide
  have p12 : (0 : Int) ≤ 12 ∧ (12 : Int) ≤ 1000000 ∧ Int.natAbs 10 < 2 ^ 64 := by decide
  k_search ⟨st_law_great, w_law_great, pow6, io_law_great⟩
  refine ⟨p6, s, 1000000, rfl, by omega, by omega, fun s1 a ha => ?_⟩
  k_search ⟨pow6, io_law_great⟩
  refine ⟨p6, s1, [(0 : Int), 1, 1000000].map D.int, _, rfl, Or.inl rfl, by simp, by simp, fun s2 i x hx => ?_⟩
  obtain ⟨f, hf, rfl⟩ := dealOfInts hx
  k_search ⟨pow6, io_law_great⟩
  have hf2 : f = 0 ∨ f = 1 ∨ f = 1000000 := by simpa using hf
  refine ⟨log_sum (by omega) (by rcases hf2 with rfl | rfl | rfl <;> decide), p6, s2, 1000000, rfl, by omega, by omega, fun s3 b hb => ?_⟩
  k_search ⟨pow12, io_law_great⟩
  refine ⟨p12, by decide, s3, [(1 : Int), 1, -1].map D.int, _, rfl, Or.inl rfl, by simp, by simp, fun s4 j y hy => ?_⟩
  obtain ⟨g, hg, rfl⟩ := dealOfInts hy
  have hg2 : g = 1 ∨ g = -1 := by simpa using hg
  generalize hc : ((a : Int) * f + b) % 1000000000000 = c
  have hc2 : 0 ≤ c ∧ c < 1000000000000 := by omega
  k_search ⟨io_law_great⟩
  refine ⟨log_sum (by omega) (by rcases hg2 with rfl | rfl <;> decide), ?_⟩
  refine hΦ s4 _ ?_
  rcases hg2 with rfl | rfl <;> omega

end LX

set_option maxHeartbeats 0
namespace LX
open PySem PySem.Spec PyProof.Rows L2 DL
local macro_rules | `(tactic| k_search ⟨$es,*⟩) => `(tactic| simp only [$[$es:term],*, ↓wVar.ap, ↓wC.ap, ↓w1.ap, ↓w2.ap, ↓wTest.ap, ↓wAnd.ap, ↓wOr.ap, ↓wNot.ap, ↓wAndV.ap, ↓wOrV.ap, ↓wNotV.ap, ↓wIf.ap, ↓wNil.ap, ↓wCons.ap, ↓wN.ap, ↓wTup.ap, ↓wTupQ.ap, ↓wLstO.ap, ↓wLst.ap, ↓wIx.ap, ↓wNoPart.ap, ↓wPart.ap, ↓wSlice.ap, ↓wSeq.ap, ↓wRange1.ap, ↓wRange2.ap, ↓wEnum.ap, ↓wZip.ap, ↓wgName.ap, ↓wgsNil.ap, ↓wgsCons.ap, ↓wgTup.ap, ↓wYes.ap, ↓wLc.ap, ↓wNext.ap, ↓wsSeq.ap, ↓wBreak.ap, ↓wCont.ap, ↓wAsg.ap, ↓wAsgF.ap, ↓wRet.ap, ↓wRetN.ap, ↓wDrop.ap, ↓wsIf.ap, ↓wFor.ap, ↓wCall.ap, ↓wAppend.ap, ↓wPop.ap, ↓wPopAt.ap, ↓wSetIx.ap, ↓wTgF.ap, ↓wPar.ap, ↓wChain.ap, ↓wCallP.ap, ↓wBoth.ap, ↓wLc2.ap, ↓wListRg1.ap, ↓wTupRg1.ap, ↓wListRg2.ap, ↓wJoin.ap, ↓opAdd_i, ↓opAdd_s, ↓opAdd_t, ↓opAdd_l, ↓opSub_i, ↓opMod_i, ↓opDiv_i, ↓opMul_i, ↓opMul_l, ↓opMul_t, ↓opPow_i, ↓opNeg_i, ↓opLt_i, ↓opLe_i, ↓opGt_i, ↓opGe_i, ↓opIs_n, ↓opIs_b, ↓opIsNot_n, ↓opIsNot_b, ↓opEq_ap, ↓opNe_ap, ↓opIn_l, ↓opIn_t, ↓opIn_s, ↓opNotIn_l, ↓opNotIn_t, ↓opNotIn_s, ↓opLen_t, ↓opLen_l, ↓opLen_r, ↓opLen_s, ↓opTuple_t, ↓opTuple_l, ↓opTuple_r, ↓opList_t, ↓opList_l, ↓opList_r, ↓opSorted_l, ↓opAbs_i, ↓opMax2_i, ↓opMin2_i, ↓opInt_i, ↓opInt_b, ↓opInt_s, ↓opStr_i, ↓opAll_l, ↓opAny_l, ↓opRev_l, ↓opIsi_ap, ↓sliceD_t, ↓sliceD_l, ↓sliceD_r, ↓outOk_ap, ↓scal_int, ↓ixl_1_0, ↓ixl_1_m, ↓ixl_2_0, ↓ixl_2_1, ↓ixl_2_m, ↓ixl_3_0, ↓ixl_3_1, ↓ixl_3_2, ↓ixl_3_m, ↓ixl_4_0, ↓ixl_4_1, ↓ixl_4_2, ↓ixl_4_3, ↓ixl_4_m, ↓wdk_some, ↓asIk_int, ↓asBk_bl, ↓asLOk_lst, ↓ifk_t, ↓ifk_f, ↓lcGok_nil, ↓forGok_nil, ↓whilek_ap, ↓popD_ap, ↓item_tup, ↓item_lst, ↓item_ro, ↓itemD_st, ↓asI_int, ↓asB_bl, ↓asLO_lst, ↓wd_some, ↓lcGo_nil, ↓forGo_nil, lk0, lkS, wd_some, asI_int, asB_bl, asLO_lst, deref_val, deref_slot, deref_sub, moveT_val, moveT_slot, elemT_val, elemT_slot, frzT_val, frzT_slot, frzTs_nil, frzTs_cons, takeTs_nil, takeTs_cons, takeT1_tv, takeT1_ts, takeT1_f, putBack_s, putBack_n, putBack_nil, outArgs_nil, outArgs_t, outArgs_f, own_lst, own_tup, own_int, own_bl, own_str, own_non, own_ro, frz_tup, frz_int, frz_bl, frz_str, frz_non, frz_ro, frz_lstF, frz_lstT, frzs_nil, frzs_cons, valsT_nil, valsT_val, derefs_nil, derefs_cons, stable_val, stable_slot, stable_sub, placeT_slot, placeT_sub, itemsD_tup, itemsD_lst, itemsD_ro, itemsD_str, seqD_tup, seqD_lst, seqD_ro, listOf_lst, listOf_ro, walk_nil, walk_lst, setP_nil2, setP_lst, item_tup, item_lst, item_ro, itemD_st, atT_val, atT_int, atT_tup, atT_str, atT_lstT, atT_lstF, subT_slot, subT_sub, popD_ap, setPlace_ap, wipeD_nil, wipeD_cons, storeD_nil, storeD_cons, wdk_some, asIk_int, asBk_bl, asLOk_lst, ifk_t, ifk_f, lcGok_nil, forGok_nil, lcGo_nil, forGo_nil, pureL_nil, pureL_cons, opAdd_i, opAdd_s, opAdd_t, opAdd_l, opSub_i, opMod_i, opDiv_i, opMul_i, opMul_l, opMul_t, opPow_i, opNeg_i, opLt_i, opLe_i, opGt_i, opGe_i, opIs_n, opIs_b, opIsNot_n, opIsNot_b, opEq_ap, opNe_ap, opIn_l, opIn_t, opIn_s, opNotIn_l, opNotIn_t, opNotIn_s, opLen_t, opLen_l, opLen_r, opLen_s, opTuple_t, opTuple_l, opTuple_r, opList_t, opList_l, opList_r, opSorted_l, opAbs_i, opMax2_i, opMin2_i, opInt_i, opInt_b, opInt_s, opStr_i, opAll_l, opAny_l, opRev_l, opIsi_ap, sliceD_t, sliceD_l, sliceD_r, outOk_ap, scal_int, ixl_1_0, ixl_1_m, ixl_2_0, ixl_2_1, ixl_2_m, ixl_3_0, ixl_3_1, ixl_3_2, ixl_3_m, ixl_4_0, ixl_4_1, ixl_4_2, ixl_4_3, ixl_4_m, Option.bind_some, Option.map_some, List.set_cons_zero, List.set_cons_succ, List.set_nil, List.length_cons, List.length_nil, List.length_set, List.getElem?_cons_zero, List.getElem?_cons_succ, List.cons_append, List.nil_append, Bool.or_true, Bool.true_or, Bool.false_or, Bool.or_false, Bool.and_true, Bool.true_and, Bool.and_false, Bool.false_and, Bool.not_true, Bool.not_false, if_true, if_false, ite_true, ite_false, Bool.false_eq_true, eq_self, true_and, and_true, false_and, and_false, Nat.reduceAdd, Nat.reduceLT, Nat.zero_add, List.filterMap_cons, List.filterMap_nil, id_eq, List.nodup_nil, List.map_cons, List.map_nil, Nat.reduceSub, List.all_nil, List.all_cons, nodup1, sz1, sz2, sz3, sz4, sz5, sz6, sz7, sz8, sz9, sz10, sz11, sz12, Nat.zero_le, enumRows, ownRows_len, ownRows_at, ownRows_set, ownRows_frz, rangeD_nat0, rangeD_nat, asInts_nats, sortN_D, Int.toNat_natCast, natsD_len, natsD_at, natsD_frz, natsD_pure, natsD_nil, rowsD_len, rowsD_at, rowsD_frz, rowsD_pure, rowT_ap, pairsD_nil, pairsD_len, pairsD_frz, pairsD_pure, pairsD_at, tabD, flat_int, natsD_flat, natsD_in, eqv_int, beq_nat, natsD_ok, deal_own, eqv_tups, natsD_eqv, ok_int, ok_tup, ok_lst, oks_nil, eqv_nil, natsD_emp, bq0, bq1, bq2, bq3, bq4, bq5, bq6, bq7, bq8, bq9, bq10, bq11, bq12, bq13, ↓wRemove.ap, ↓wLend.ap, valT_val, ownClean_nil, ownClean_cons, oclean_none, oclean_some, clean_int, clean_bl, clean_non, clean_str, clean_tup, clean_lst, clean_nil, clean_cons, clean_nats, clean_pairs, mkD, ↓opRevT_t, opRevT_t, ↓wIndex.ap, listOf_lst, listOf_ro, ixN2_ap, ↓opMulS_s, opMulS_s, ↓wEnumZ.ap, zipTOk_tup, ↓wDPut.ap, ↓wDispT.ap, ↓wNewT.ap, ↓wNewK.ap, keyT_nats, opNotInD_T, opInD_T, opNotInD_K, opInD_K, opLenD_T, opLenD_K, dput_T, dput_K, own_dT, own_dK, ↓wAugI.ap, ↓wAugL.ap, asIO_i, lstOf2_l, ↓wgoName.ap, ↓wgoIx.ap, ↓wgosNil.ap, ↓wgosCons.ap, ↓wParG.ap, asSome_s, getT_s, getT_n, dkey_K, dkey_T, isDic_T, isDic_K, ↓wDGet.ap, ↓wDGetOr.ap, ↓wRaise.ap, ↓wTryAt.ap, one1_s, hasSlot.ap])

/-! _law_least_round -/
abbrev N_law_least_round : List Str := ["order", "at", "one", "other"]
abbrev w_law_least_round : WS := (wsSeq (wAsg 1 (wIndex true (wVar 0) (wCons true (wC (.int 0)) wNil)))
    (wsSeq (wAsg 2 (w2 true opAdd (wSlice (wVar 0) (wPart (wVar 1)) wNoPart) (wSlice (wVar 0) wNoPart (wPart (wVar 1)))))
    (wsSeq (wAsg 3 (w2 true opAdd (wSlice (wVar 2) wNoPart (wPart (wC (.int 1)))) (w1 opRev (wSlice (wVar 2) (wPart (wC (.int 1))) wNoPart))))
    (wRet (wIf (wTest (w2 true opLtL (wVar 2) (wVar 3))) (wVar 2) (wVar 3))))))
abbrev io_law_least_round : List Bool := [false]

theorem st_law_least_round (a0 : D) : startD N_law_least_round [a0] = [some a0, none, none, none] := rfl
theorem listLt_cons (x y : Int) (xs ys : List Int) : PySem.W.listLt (x :: xs) (y :: ys) = if x = y then PySem.W.listLt xs ys else decide (x < y) := rfl
theorem cut_suf1 (l : List D) : DL.cutD l (some 1) none = l.drop 1 := cut_suf l 1
theorem cut_pre1 (l : List D) : DL.cutD l none (some 1) = l.take 1 := cut_pre l 1
theorem rot_zero {n : Nat} {o : List Nat} (h3 : 3 ≤ n) (hp : o.Perm (List.range n)) : ∃ (x y : Nat) (m : List Nat), o.drop (ixN2 o 0) ++ o.take (ixN2 o 0) = 0 :: x :: (m ++ [y]) ∧ x ≠ y ∧ (0 :: x :: (m ++ [y])).Perm (List.range n) := by
  have h0 : 0 ∈ o := hp.mem_iff.mpr (List.mem_range.mpr (by omega))
  have e := ixN2_at h0
  have pm : (o.drop (ixN2 o 0) ++ o.take (ixN2 o 0)).Perm (List.range n) := (List.perm_append_comm.trans (by rw [List.take_append_drop])).trans hp
  generalize ixN2 o 0 = j at e pm ⊢
  have hj := (List.getElem?_eq_some_iff.mp e).1
  have ed : o.drop j = 0 :: o.drop (j + 1) := by
    rw [List.drop_eq_getElem_cons hj]
    congr 1
    exact (List.getElem?_eq_some_iff.mp e).2
  rw [ed, List.cons_append] at pm ⊢
  generalize hr : o.drop (j + 1) ++ o.take j = rest at pm ⊢
  have hl : (0 :: rest).length = n := by simpa using pm.length_eq
  have nd : (0 :: rest).Nodup := pm.nodup_iff.mpr List.nodup_range
  match hx : rest with
  | [] => simp at hl; omega
  | [x] => simp at hl; omega
  | x :: z :: l =>
    rcases List.eq_nil_or_concat (z :: l) with q | ⟨m, y, q⟩
    · cases q
    · rw [List.concat_eq_append] at q
      rw [q] at nd pm ⊢
      refine ⟨x, y, m, rfl, ?_, pm⟩
      have := List.nodup_cons.mp (List.nodup_cons.mp nd).2
      exact fun e => this.1 (by rw [e]; simp)
theorem order_of {n x y : Nat} {m : List Nat} (pm : (0 :: x :: (m ++ [y])).Perm (List.range n)) (h : x < y) : Order n (0 :: x :: (m ++ [y])) := by
  have hl : (0 :: x :: (m ++ [y])).length = n := by simpa using pm.length_eq
  refine ⟨pm, rfl, ?_⟩
  have e1 : mk (0 :: x :: (m ++ [y])) 1 = x := rfl
  have e2 : mk (0 :: x :: (m ++ [y])) (n - 1) = y := by
    have : n - 1 = m.length + 2 := by simp at hl; omega
    rw [this]
    unfold mk
    simp
  rw [e1, e2]; exact h
def fs_law_least_round : FS := fun ds Φ Ψ => ∃ (n : Nat) (o : List Nat), ds = [.lst false (natsD o)] ∧ 3 ≤ n ∧ n ≤ 100 ∧ o.Perm (List.range n) ∧ ∀ o', Order n o' → Φ (.lst true (natsD o')) [.lst false (natsD o)]
theorem hl_law_least_round : ∀ ds Φ Ψ, fs_law_least_round ds Φ Ψ → ds.length = 1 := by
  rintro ds Φ Ψ ⟨_, _, rfl, _⟩
  rfl
theorem h_law_least_round : ∀ ds Φ Ψ, fs_law_least_round ds Φ Ψ → w_law_least_round ⟨fun ρ => outOk io_law_least_round ds ρ (Φ .non), fun d ρ => outOk io_law_least_round ds ρ (Φ d), fun _ => False, fun _ => False⟩ (fun x ρ => outOk io_law_least_round ds ρ (Ψ x)) (startD N_law_least_round ds) := by
  rintro ds Φ Ψ ⟨n, o, rfl, h3, hn, hp, hΦ⟩
  obtain ⟨x, y, m, e, hxy, pm⟩ := rot_zero h3 hp
  have h0 : (0 : Int) ∈ o.map Int.ofNat := List.mem_map.mpr ⟨0, hp.mem_iff.mpr (List.mem_range.mpr (by omega)), rfl⟩
  have lo : (0 :: x :: (m ++ [y])).length = n := by simpa using pm.length_eq
  have e0 : ixOf (o.map Int.ofNat) 0 = ixN2 o 0 := rfl
  have e2 : (0 :: x :: (m ++ [y])).take 1 ++ ((0 :: x :: (m ++ [y])).drop 1).reverse = 0 :: y :: (m.reverse ++ [x]) := by simp
  have es : (o.drop (ixN2 o 0)).length + (o.take (ixN2 o 0)).length ≤ sizeLine := by
    rw [← List.length_append, e]
    exact size100 (by omega)
  have es2 : ((0 :: x :: (m ++ [y])).take 1).length + ((0 :: x :: (m ++ [y])).drop 1).reverse.length ≤ sizeLine := by
    rw [← List.length_append, e2]
    simp at lo ⊢
    exact size100 (by omega)
  have rv : ∀ l : List Nat, (natsD l).reverse = natsD l.reverse := fun l => by unfold natsD; rw [List.map_reverse]
  k_search ⟨st_law_least_round, w_law_least_round, e0, cut_suf, cut_pre, cut_suf1, cut_pre1, natsD_take, natsD_drop, natsD_app_r, e, rv, e2, io_law_least_round⟩
  refine ⟨h0, es, es2, ?_⟩
  have el : PySem.W.listLt ((0 :: x :: (m ++ [y])).map Int.ofNat) ((0 :: y :: (m.reverse ++ [x])).map Int.ofNat) = decide (x < y) := by
    simp only [List.map_cons]
    rw [listLt_cons, if_pos rfl, listLt_cons, if_neg (fun z => hxy (Int.ofNat.inj z))]
    exact dec_lt x y
  rw [opLtL_n, el]
  by_cases c : x < y
  · rw [decide_eq_true c]
    k_search ⟨io_law_least_round⟩
    exact hΦ _ (order_of pm c)
  · rw [decide_eq_false c]
    k_search ⟨io_law_least_round⟩
    refine hΦ _ (order_of ?_ (by omega))
    refine List.Perm.trans (List.Perm.cons 0 ?_) pm
    refine ((List.perm_append_comm (l₁ := m.reverse) (l₂ := [x])).cons y).trans ?_
    refine (List.Perm.swap x y m.reverse).trans ((List.Perm.cons x ?_))
    exact ((List.reverse_perm m).cons y).trans (List.perm_append_comm (l₁ := [y]) (l₂ := m))

/-! _law_round_of_marks -/
abbrev N_law_round_of_marks : List Str := ["deal", "many", "loose", "order", "pairs", "x"]
abbrev w_law_round_of_marks : WS := (wsSeq (wAsg 3 (wCall [false] fs_law_least_round (wCons true (wCall [true, false] fs_law_mixed (wCons true (wVar 0) (wCons true (wListRg1 (wVar 1)) wNil))) wNil)))
    (wsSeq (wAsg 4 (w2 false opAdd (wLc [5] (wRange1 (wCons true (wVar 1) wNil)) (wgName 5) wYes (wTupQ (wCons true (wIx true (wVar 3) (wVar 5)) (wCons true (wIx true (wVar 3) (w2 true opMod (wN opInt (wCons true (w2 true opAdd (wVar 5) (wC (.int 1))) wNil)) (wVar 1))) wNil)))) (wLc [5] (wRange1 (wCons true (wVar 1) wNil)) (wgName 5) (wTest (wVar 2)) (wTupQ (wCons true (wVar 5) (wCons true (wVar 5) wNil))))))
    (wRet (wTup (wCons false (wVar 3) (wCons true (wCall [false, false] fs_law_joined (wCons true (wVar 1) (wCons true (wVar 4) wNil))) (wCons true (wVar 2) wNil)))))))
abbrev io_law_round_of_marks : List Bool := [true, false, false]

theorem st_law_round_of_marks (a0 a1 a2 : D) : startD N_law_round_of_marks [a0, a1, a2] = [some a0, some a1, some a2, none, none, none] := rfl
/-- what a drawn round rule is -/
structure RoundRule (n : Nat) (b : Bool) (o : List Nat) (r : List (List Nat)) : Prop where
  ord : Order n o
  rul : Rul n r
  joi : Joi (ringP o n b) r
def fs_law_round_of_marks : FS := fun ds Φ Ψ => ∃ (s : DealS) (n : Nat) (b : Bool), ds = [dealD s, .int n, .bl b] ∧ 3 ≤ n ∧ n ≤ 100 ∧ ∀ (s' : DealS) (o : List Nat) (r : List (List Nat)), RoundRule n b o r → Φ (.tup [.lst false (natsD o), tabD r, .bl b]) [dealD s', .int n, .bl b]
theorem hl_law_round_of_marks : ∀ ds Φ Ψ, fs_law_round_of_marks ds Φ Ψ → ds.length = 3 := by
  rintro ds Φ Ψ ⟨_, _, _, rfl, _⟩
  rfl
theorem h_law_round_of_marks : ∀ ds Φ Ψ, fs_law_round_of_marks ds Φ Ψ → w_law_round_of_marks ⟨fun ρ => outOk io_law_round_of_marks ds ρ (Φ .non), fun d ρ => outOk io_law_round_of_marks ds ρ (Φ d), fun _ => False, fun _ => False⟩ (fun x ρ => outOk io_law_round_of_marks ds ρ (Ψ x)) (startD N_law_round_of_marks ds) := by
  rintro ds Φ Ψ ⟨s, n, b, rfl, h3, hn, hΦ⟩
  k_search ⟨st_law_round_of_marks, w_law_round_of_marks, Int.sub_zero, io_law_round_of_marks⟩
  refine ⟨⟨by omega, by omega, by omega, by omega, by omega⟩, s, natsD (List.range n), _, rfl, Or.inl rfl, natsD_pure _, natsD_ok _ _, by rw [natsD_len, List.length_range]; omega, fun s1 ys hy => ?_⟩
  obtain ⟨o0, rfl, hp0⟩ := perm_nats hy
  k_search ⟨io_law_round_of_marks⟩
  refine ⟨n, o0, rfl, h3, hn, hp0, fun o O => ?_⟩
  have lo := O.len
  k_search ⟨io_law_round_of_marks⟩
  refine ⟨by unfold rgOk; omega, ?_⟩
  refine lc_map (fun n : Nat => D.int (n : Nat)) (fun x => DL.pairD (mk o x, mk o ((x + 1) % n))) ?_ (by rw [List.length_range]; exact size100 (by omega)) ?_
  · intro x hx acc kk hacc h
    have hx := List.mem_range.mp hx
    have i1 : ixN o.length (x : Int) = some x := ixN_nat (by omega)
    have m1 : ((x : Int) + 1) % (n : Int) = (((x + 1) % n : Nat) : Int) := by norm_cast
    have hm : (x + 1) % n < n := Nat.mod_lt _ (by omega)
    have i2 : ixN o.length (((x + 1) % n : Nat) : Int) = some ((x + 1) % n) := ixN_nat (by omega)
    have g1 : o[x]? = some (mk o x) := mk_at (by omega)
    have g2 : o[(x + 1) % n]? = some (mk o ((x + 1) % n)) := mk_at (by omega)
    k_search ⟨i1, m1, i2, g1, g2, io_law_round_of_marks⟩
    exact ⟨by omega, hacc, h⟩
  rw [pairsD_map]
  k_search ⟨io_law_round_of_marks⟩
  refine ⟨by unfold rgOk; omega, ?_⟩
  refine lc_fn (fun n : Nat => D.int (n : Nat)) (fun _ => b) (fun x => DL.pairD (x, x)) ?_ (by rw [List.length_range]; exact size100 (by omega)) ?_
  · intro x hx acc kk hacc h
    cases b
    · k_search ⟨io_law_round_of_marks⟩
      exact h
    · k_search ⟨io_law_round_of_marks⟩
      exact ⟨hacc, h⟩
  have eb : ((List.range n).filter fun _ => b) = if b = true then List.range n else [] := by
    cases b <;> simp
  have e2 : pairsD ((List.range n).map fun x => (mk o x, mk o ((x + 1) % n))) ++ (((List.range n).filter fun _ => b).map fun x => DL.pairD (x, x)) = pairsD (ringP o n b) := by
    unfold ringP
    rw [pairsD_app, eb, pairsD_map (if b = true then List.range n else []) fun x => (x, x)]
    cases b <;> rfl
  have e3 : ((List.range n).map fun x => (mk o x, mk o ((x + 1) % n))).length + (((List.range n).filter fun _ => b).map fun x => DL.pairD (x, x)).length ≤ sizeLine := by
    rw [eb]
    refine size100 ?_
    cases b <;> simp <;> omega
  have e4 : pureL (((List.range n).filter fun _ => b).map fun x => DL.pairD (x, x)) = true := by
    rw [pairsD_map _ fun x => (x, x)]
    exact pairsD_pure _
  k_search ⟨e2, io_law_round_of_marks⟩
  refine ⟨e4, e3, n, ringP o n b, rfl, hn, fun p hp => ?_, fun t G J => ?_⟩
  · rcases (mem_ring p.2 p.1).mp hp with ⟨i, hi, e1, e2⟩ | ⟨_, e1, e2⟩
    · rw [← e1, ← e2]
      exact ⟨O.lt hi, O.lt (Nat.mod_lt _ (by omega))⟩
    · exact ⟨e2, by rw [← e1]; exact e2⟩
  · k_search ⟨io_law_round_of_marks⟩
    exact hΦ s1 o t ⟨O, G, J⟩

/-! _law_round_rule -/
abbrev N_law_round_rule : List Str := ["deal", "loose", "many"]
abbrev w_law_round_rule : WS := (wsSeq (wAsg 1 (w2 true opEq (wCall [true, false] fs_law_any (wCons true (wVar 0) (wCons true (wC (.int 3)) wNil))) (wC (.int 0))))
    (wsSeq (wAsg 2 (wIf (wTest (wVar 1)) (wCall [true, false] fs_law_of (wCons false (wVar 0) (wCons true (wLstO (wCons false (wC (.int 5)) (wCons false (wC (.int 6)) (wCons true (w2 false opAdd (wC (.int 5)) (wCall [true, false] fs_law_any (wCons true (wVar 0) (wCons true (wC (.int 8)) wNil)))) wNil)))) wNil))) (wCall [true, false] fs_law_of (wCons false (wVar 0) (wCons true (wLstO (wCons false (wC (.int 3)) (wCons false (wC (.int 3)) (wCons false (wC (.int 3)) (wCons false (wC (.int 5)) (wCons false (wC (.int 6)) (wCons true (w2 false opAdd (wC (.int 5)) (wCall [true, false] fs_law_any (wCons true (wVar 0) (wCons true (wC (.int 8)) wNil)))) wNil))))))) wNil)))))
    (wRet (wCall [true, false, false] fs_law_round_of_marks (wCons true (wVar 0) (wCons true (wVar 2) (wCons true (wVar 1) wNil)))))))
abbrev io_law_round_rule : List Bool := [true]

theorem st_law_round_rule (a0 : D) : startD N_law_round_rule [a0] = [some a0, none, none] := rfl
def fs_law_round_rule : FS := fun ds Φ Ψ => ∃ (s : DealS), ds = [dealD s] ∧ ∀ (s' : DealS) (n : Nat) (b : Bool) (o : List Nat) (r : List (List Nat)), RoundRule n b o r → 3 ≤ n → n ≤ 12 → n ≠ 4 → (b = true → 5 ≤ n) → Φ (.tup [.lst false (natsD o), tabD r, .bl b]) [dealD s']
theorem hl_law_round_rule : ∀ ds Φ Ψ, fs_law_round_rule ds Φ Ψ → ds.length = 1 := by
  rintro ds Φ Ψ ⟨_, rfl, _⟩
  rfl
theorem h_law_round_rule : ∀ ds Φ Ψ, fs_law_round_rule ds Φ Ψ → w_law_round_rule ⟨fun ρ => outOk io_law_round_rule ds ρ (Φ .non), fun d ρ => outOk io_law_round_rule ds ρ (Φ d), fun _ => False, fun _ => False⟩ (fun x ρ => outOk io_law_round_rule ds ρ (Ψ x)) (startD N_law_round_rule ds) := by
  rintro ds Φ Ψ ⟨s, rfl, hΦ⟩
  k_search ⟨st_law_round_rule, w_law_round_rule, io_law_round_rule⟩
  refine ⟨s, 3, rfl, by omega, by omega, fun s1 a ha => ?_⟩
  have ea : ((a : Int) == 0) = decide (a = 0) := by
    by_cases h : a = 0
    · subst h; rfl
    · rw [decide_eq_false h]; exact beq_eq_false_iff_ne.mpr (by omega)
  by_cases c : a = 0
  · have e1 : ((a : Int) == 0) = true := by rw [ea]; exact decide_eq_true c
    k_search ⟨e1, io_law_round_rule⟩
    refine ⟨s1, 8, rfl, by omega, by omega, fun s2 v hv => ?_⟩
    k_search ⟨io_law_round_rule⟩
    refine ⟨s2, [(5 : Int), 6, 5 + (v : Int)].map D.int, _, rfl, Or.inl rfl, by simp, by simp, fun s3 i x hx => ?_⟩
    obtain ⟨f, hf, rfl⟩ := dealOfInts hx
    obtain ⟨n, rfl, n1, n2⟩ : ∃ n : Nat, f = n ∧ 5 ≤ n ∧ n ≤ 12 := by
      have : f = 5 ∨ f = 6 ∨ f = 5 + (v : Int) := by simpa using hf
      exact ⟨f.toNat, by omega, by omega, by omega⟩
    k_search ⟨io_law_round_rule⟩
    refine ⟨s3, n, true, rfl, by omega, by omega, fun s4 o r R => ?_⟩
    k_search ⟨io_law_round_rule⟩
    exact hΦ s4 n true o r R (by omega) n2 (by omega) fun _ => n1
  · have e1 : ((a : Int) == 0) = false := by rw [ea]; exact decide_eq_false c
    k_search ⟨e1, io_law_round_rule⟩
    refine ⟨s1, 8, rfl, by omega, by omega, fun s2 v hv => ?_⟩
    k_search ⟨io_law_round_rule⟩
    refine ⟨s2, [(3 : Int), 3, 3, 5, 6, 5 + (v : Int)].map D.int, _, rfl, Or.inl rfl, by simp, by simp, fun s3 i x hx => ?_⟩
    obtain ⟨f, hf, rfl⟩ := dealOfInts hx
    obtain ⟨n, rfl, n1, n2, n3⟩ : ∃ n : Nat, f = n ∧ 3 ≤ n ∧ n ≤ 12 ∧ n ≠ 4 := by
      have : f = 3 ∨ f = 5 ∨ f = 6 ∨ f = 5 + (v : Int) := by
        have h : f = 3 ∨ f = 3 ∨ f = 3 ∨ f = 5 ∨ f = 6 ∨ f = 5 + (v : Int) := by simpa using hf
        omega
      exact ⟨f.toNat, by omega, by omega, by omega, by omega⟩
    k_search ⟨io_law_round_rule⟩
    refine ⟨s3, n, false, rfl, by omega, by omega, fun s4 o r R => ?_⟩
    k_search ⟨io_law_round_rule⟩
    exact hΦ s4 n false o r R (by omega) n2 n3 (fun h => by cases h)

/-! _law_due_round -/
abbrev N_law_due_round : List Str := ["rule", "many", "own", "x", "row", "turn_at", "further", "y"]
abbrev w_law_due_round : WS := (wsSeq (wAsg 1 (wN opLen (wCons true (wVar 0) wNil)))
    (wsSeq (wAsg 2 (wLc [3] (wRange1 (wCons true (wVar 1) wNil)) (wgName 3) (wTest (w2 true opIn (wVar 3) (wIx true (wVar 0) (wVar 3)))) (wVar 3)))
    (wsSeq (wsIf (wOr (wTest (w2 true opLt (wVar 1) (wC (.int 3)))) (wOr (wTest (w2 true opEq (wVar 1) (wC (.int 4)))) (wAnd (wTest (w2 true opNe (wVar 2) (wLstO wNil))) (wOr (wTest (w2 true opLt (wN opLen (wCons true (wVar 2) wNil)) (wVar 1))) (wTest (w2 true opLt (wVar 1) (wC (.int 5)))))))) (wRet (wC .non)) wNext)
    (wsSeq (wsIf (wTest (w2 true opNe (wLc [3] (wRange1 (wCons true (wVar 1) wNil)) (wgName 3) (wTest (w2 true opNe (wN opLen (wCons true (wIx true (wVar 0) (wVar 3)) wNil)) (wIf (wTest (w2 true opEq (wVar 2) (wLstO wNil))) (wC (.int 2)) (wC (.int 3))))) (wVar 3)) (wLstO wNil))) (wRet (wC .non)) wNext)
    (wsSeq (wAsg 4 (wLstO (wCons true (wC (.int 0)) wNil)))
    (wsSeq (wFor (wRange1 (wCons true (wVar 1) wNil)) (wgName 5) (wsSeq (wAsg 6 (wLc [7] (wSeq (wIx true (wVar 0) (wIx true (wVar 4) (w1 opNeg (wC (.int 1)))))) (wgName 7) (wAnd (wTest (w2 true opNe (wVar 7) (wIx true (wVar 4) (w1 opNeg (wC (.int 1)))))) (wTest (w2 true opNotIn (wVar 7) (wVar 4)))) (wVar 7)))
    (wsSeq (wsIf (wTest (w2 true opEq (wVar 6) (wLstO wNil))) wBreak wNext)
    (wDrop (wAppend true (wVar 4) (wCons true (wIx true (wVar 6) (wC (.int 0))) wNil))))))
    (wRet (wIf (wAnd (wTest (w2 true opEq (wN opLen (wCons true (wVar 4) wNil)) (wVar 1))) (wTest (w2 true opIn (wC (.int 0)) (wIx true (wVar 0) (wIx true (wVar 4) (w1 opNeg (wC (.int 1)))))))) (wN opTuple (wCons true (wVar 4) wNil)) (wC .non)))))))))
abbrev io_law_due_round : List Bool := [false]

theorem st_law_due_round (a0 : D) : startD N_law_due_round [a0] = [some a0, none, none, none, none, none, none, none] := rfl
theorem fil_all (r : List (List Nat)) (n : Nat) : ((List.range n).filter fun x => (row r x).contains x).isEmpty = (List.range n).all fun x => !(row r x).contains x := filter_emp
theorem fil_len (n : Nat) (p : Nat → Bool) : (((List.range n).filter p).length < n) ↔ (List.range n).all p = false := by
  have h := List.length_filter_le p (List.range n)
  rw [List.length_range] at h
  have e : ((List.range n).filter p).length = n ↔ (List.range n).all p = true := by
    rw [List.all_eq_true]
    have := List.length_filter_eq_length_iff (p := p) (l := List.range n)
    rwa [List.length_range] at this
  constructor
  · intro hl
    cases q : (List.range n).all p with
    | false => rfl
    | true => have := e.mpr q; omega
  · intro q
    have : ¬ ((List.range n).filter p).length = n := fun z => by rw [e.mp z] at q; cases q
    omega
theorem aside_no {r : List (List Nat)} {x : Nat} (h : (row r x).contains x = false) : asideL r x = row r x := by
  unfold asideL
  rw [List.filter_eq_self]
  intro y hy
  have : y ≠ x := fun e => by subst e; simp at h; exact h hy
  simpa using this
theorem aside_own {r : List (List Nat)} {n x : Nat} (G : Graph n r) (h : (row r x).contains x = true) : (asideL r x).length + 1 = (row r x).length := by
  have h : x ∈ row r x := by simpa using h
  have e : asideL r x = (row r x).erase x := ((G.nd x).erase_eq_filter x).symm
  rw [e, List.length_erase_of_mem h]
  have := List.length_pos_of_mem h
  omega
def fs_law_due_round : FS := fun ds Φ Ψ => ∃ (r : List (List Nat)) (n : Nat), ds = [tabD r] ∧ Graph n r ∧ 0 < n ∧ n ≤ 100 ∧ Φ (RO r n) [tabD r]
theorem hl_law_due_round : ∀ ds Φ Ψ, fs_law_due_round ds Φ Ψ → ds.length = 1 := by
  rintro ds Φ Ψ ⟨_, _, rfl, _⟩
  rfl
theorem h_law_due_round : ∀ ds Φ Ψ, fs_law_due_round ds Φ Ψ → w_law_due_round ⟨fun ρ => outOk io_law_due_round ds ρ (Φ .non), fun d ρ => outOk io_law_due_round ds ρ (Φ d), fun _ => False, fun _ => False⟩ (fun x ρ => outOk io_law_due_round ds ρ (Ψ x)) (startD N_law_due_round ds) := by
  rintro ds Φ Ψ ⟨r, n, rfl, G, h0, hn, hΦ⟩
  have lr := G.len
  k_search ⟨st_law_due_round, w_law_due_round, lr, io_law_due_round⟩
  refine ⟨rg_small (by omega), ?_⟩
  refine lc_fn (fun n : Nat => D.int (n : Nat)) (fun x => (row r x).contains x) (fun x => D.int (x : Nat)) ?_ (by rw [List.length_range]; exact size100 (by omega)) ?_
  · intro x hx acc kk hacc h
    have hx := List.mem_range.mp hx
    have ix : ixN r.length (x : Int) = some x := ixN_nat (by omega)
    have rx : r[x]? = some (row r x) := row_at (by omega)
    cases c : (row r x).contains x <;> simp only [c, Bool.not_true, Bool.not_false, if_true, if_false, Bool.false_eq_true] at h <;> k_search ⟨c, ix, rx, io_law_due_round⟩ <;> first | exact ⟨hacc, h⟩ | exact h
  rw [natsD_id]
  have ok1 := natsD_ok 63 ((List.range n).filter fun x => (row r x).contains x)
  by_cases c3 : n < 3
  · have e3 : decide ((n : Int) < 3) = true := decide_eq_true (by omega)
    rw [okR_3 c3] at hΦ
    k_search ⟨e3, io_law_due_round⟩
    exact hΦ
  have e3 : decide ((n : Int) < 3) = false := decide_eq_false (by omega)
  by_cases c4 : n = 4
  · have e4 : ((n : Int) == 4) = true := by rw [c4]; rfl
    rw [okR_4 c4] at hΦ
    k_search ⟨e3, e4, io_law_due_round⟩
    exact hΦ
  have e4 : ((n : Int) == 4) = false := beq_eq_false_iff_ne.mpr (by omega)
  have hL : ((List.range n).all fun x => !(row r x).contains x) = true ∨ (((List.range n).all fun x => !(row r x).contains x) = false ∧ ((List.range n).all fun x => (row r x).contains x) = true ∧ ¬ n < 5) ∨ (((List.range n).all fun x => !(row r x).contains x) = false ∧ (((List.range n).all fun x => (row r x).contains x) = false ∨ n < 5)) := by
    cases cA : ((List.range n).all fun x => !(row r x).contains x) with
    | true => exact .inl rfl
    | false =>
      cases cB : ((List.range n).all fun x => (row r x).contains x) with
      | true =>
        by_cases c5 : n < 5
        · exact .inr (.inr ⟨rfl, .inr c5⟩)
        · exact .inr (.inl ⟨rfl, rfl, c5⟩)
      | false => exact .inr (.inr ⟨rfl, .inl rfl⟩)
  have two : ∀ k m : Nat, ((k : Int) == (m : Int)) = (k == m) := beq_nat
  have hs : (((List.range n).filter fun x => (row r x).contains x).length : Int) < (n : Int) ↔ (List.range n).all (fun x => (row r x).contains x) = false := by
    rw [← fil_len]; omega
  refine hL.elim (fun cA => ?a) fun q => q.elim (fun ⟨cA, cB, c5⟩ => ?b) fun ⟨cA, cC⟩ => ?c
  case' c =>
    have z := okR_loops cA cC
    rw [z] at hΦ
    rcases cC with cB | c5
    · have e6 : decide ((((List.range n).filter fun x => (row r x).contains x).length : Int) < (n : Int)) = true := decide_eq_true (hs.mpr cB)
      k_search ⟨e3, e4, ok1, fil_all, cA, e6, io_law_due_round⟩
      exact hΦ
    · have e5 : decide ((n : Int) < 5) = true := decide_eq_true (by omega)
      cases e6 : decide ((((List.range n).filter fun x => (row r x).contains x).length : Int) < (n : Int)) <;> k_search ⟨e3, e4, ok1, fil_all, cA, e6, e5, io_law_due_round⟩ <;> exact hΦ
  case' a =>
    k_search ⟨e3, e4, ok1, fil_all, cA, io_law_due_round⟩
    have hdl : ∀ x, x < n → ((row r x).length == 2) = ((asideL r x).length == 2) := fun x hx => by
      have := List.all_eq_true.mp cA x (List.mem_range.mpr hx)
      rw [aside_no (by simpa using this)]
    obtain ⟨dg, hdg, hgl⟩ : ∃ dg : Nat, dg = 2 ∧ ∀ x, x < n → ((row r x).length == dg) = ((asideL r x).length == 2) := ⟨2, rfl, hdl⟩
    have bq : ∀ k : Nat, ((k : Int) == 2) = (k == dg) := fun k => by rw [hdg]; exact beq_nat k 2
    have hl : ((List.range n).all fun x => !(row r x).contains x) = true ∨ (((List.range n).all fun x => (row r x).contains x) = true ∧ ¬ n < 5) := .inl cA
  case' b =>
    have e5 : decide ((n : Int) < 5) = false := decide_eq_false (by omega)
    have e6 : decide ((((List.range n).filter fun x => (row r x).contains x).length : Int) < (n : Int)) = false := decide_eq_false fun z => by rw [hs.mp z] at cB; cases cB
    k_search ⟨e3, e4, ok1, fil_all, cA, e6, e5, io_law_due_round⟩
    have hdl : ∀ x, x < n → ((row r x).length == 3) = ((asideL r x).length == 2) := fun x hx => by
      have := aside_own G (List.all_eq_true.mp cB x (List.mem_range.mpr hx))
      rw [← this]
      rw [Bool.eq_iff_iff, beq_iff_eq, beq_iff_eq]
      omega
    obtain ⟨dg, hdg, hgl⟩ : ∃ dg : Nat, dg = 3 ∧ ∀ x, x < n → ((row r x).length == dg) = ((asideL r x).length == 2) := ⟨3, rfl, hdl⟩
    have bq : ∀ k : Nat, ((k : Int) == 3) = (k == dg) := fun k => by rw [hdg]; exact beq_nat k 3
    have hl : ((List.range n).all fun x => !(row r x).contains x) = true ∨ (((List.range n).all fun x => (row r x).contains x) = true ∧ ¬ n < 5) := .inr ⟨cB, c5⟩
  all_goals
    refine ⟨rg_small (by omega), ?_⟩
    refine lc_fn (fun n : Nat => D.int (n : Nat)) (fun x => !((row r x).length == dg)) (fun x => D.int (x : Nat)) ?_ (by rw [List.length_range]; exact size100 (by omega)) ?_
    · intro x hx acc kk hacc h
      have hx := List.mem_range.mp hx
      have ix : ixN r.length (x : Int) = some x := ixN_nat (by omega)
      have rx : r[x]? = some (row r x) := row_at (by omega)
      k_search ⟨ix, rx, ok1, fil_all, cA, bq, io_law_due_round⟩
      cases c : (row r x).length == dg <;> simp only [c, Bool.not_true, Bool.not_false, if_true, if_false, Bool.false_eq_true] at h <;> k_search ⟨c, io_law_due_round⟩ <;> first | exact ⟨hacc, h⟩ | exact h
    rw [natsD_id]
    have ok2 := natsD_ok 63 ((List.range n).filter fun x => !((row r x).length == dg))
    have eQ : ((List.range n).filter fun x => !((row r x).length == dg)).isEmpty = (List.range n).all fun x => (asideL r x).length == 2 := by
      rw [filter_emp]
      rw [Bool.eq_iff_iff, List.all_eq_true, List.all_eq_true]
      constructor <;> intro h x hx <;> have := h x hx <;> have q := hgl x (List.mem_range.mp hx)
      · rw [← q]; simpa using this
      · rw [q, this]; rfl
    cases c2 : ((List.range n).all fun x => (asideL r x).length == 2) with
    | false =>
      rw [okR_two c2] at hΦ
      k_search ⟨ok2, eQ, c2, io_law_due_round⟩
      exact hΦ
    | true =>
      have hok := okR_ok c3 c4 hl c2
      have hdeg : ∀ x, x < n → (asideL r x).length = 2 := fun x hx => by
        have := List.all_eq_true.mp c2 x (List.mem_range.mpr hx)
        simpa using this
      k_search ⟨ok2, eQ, c2, io_law_due_round⟩
      refine ⟨rg_small (by omega), ?_⟩
      refine for_ty (fun n : Nat => D.int (n : Nat)) (I := fun l ρ => ∃ (p : List Nat) (x3 x5 x6 x7 : Option D), PathR r n p ∧ walkR r l.length p = walkR r n [0] ∧ ρ = [some (tabD r), some (.int n), some (.lst true (natsD ((List.range n).filter fun x => (row r x).contains x))), x3, some (.lst true (natsD p)), x5, x6, x7]) ?_ ?_ _ _ ⟨[0], none, none, none, none, PathR.one h0, by rw [List.length_range], rfl⟩
      · rintro tn l k hk ρ ⟨p, x3, x5, x6, x7, P, hw, rfl⟩
        have hp := P.len
        have hl := lastN_mem P.ne
        have ip : ixN p.length (-1) = some (p.length - 1) := nats_last P.ne
        have lp : p[p.length - 1]? = some (lastN p) := lastN_at P.ne
        have hlt := P.lt _ hl
        have il : ixN r.length (lastN p : Int) = some (lastN p) := ixN_nat (by omega)
        have rl : r[lastN p]? = some (row r (lastN p)) := row_at (by omega)
        k_search ⟨ip, lp, il, rl, io_law_due_round⟩
        refine lc_fn (fun n : Nat => D.int (n : Nat)) (fun y => !(y == lastN p) && !(p.contains y)) (fun y => D.int (y : Nat)) ?_ (size100 (by have := G.few (lastN p); omega)) ?_
        · intro y hy acc kk hacc h
          cases c : (y == lastN p) <;> cases c' : p.contains y <;> simp only [c, c', Bool.not_true, Bool.not_false, if_true, if_false, Bool.false_eq_true, Bool.and_true, Bool.true_and, Bool.and_false, Bool.false_and] at h <;> k_search ⟨ip, lp, c, c', io_law_due_round⟩ <;> first | exact ⟨hacc, h⟩ | exact h
        have eF : (row r (lastN p)).filter (fun y => !(y == lastN p) && !(p.contains y)) = furL r p := by
          unfold furL asideL
          rw [List.filter_filter]
          refine List.filter_congr fun y _ => ?_
          rw [Bool.and_comm]
        rw [natsD_id, eF]
        cases hf : furL r p with
        | nil =>
          have hW : walkR r n [0] = p := by rw [← hw, walk_nil hf]
          k_search ⟨List.isEmpty_nil, io_law_due_round⟩
          have ip : ixN p.length (-1) = some (p.length - 1) := nats_last P.ne
          have lp : p[p.length - 1]? = some (lastN p) := lastN_at P.ne
          have hlt := P.lt _ (lastN_mem P.ne)
          have il : ixN r.length (lastN p : Int) = some (lastN p) := ixN_nat (by omega)
          have rl : r[lastN p]? = some (row r (lastN p)) := row_at (by omega)
          by_cases cl : p.length = n
          · have e1 : (p.length == n) = true := by rw [cl]; exact beq_self_eq_true _
            have cc : (row r (lastN p)).contains 0 = true := by
              have := closes G P (by omega) cl hdeg
              simpa using this
            have cc : inD (.int 0) (natsD (row r (lastN p))) = true := by
              rw [show (D.int 0) = D.int ((0 : Nat) : Int) from rfl, natsD_in]; exact cc
            have hR : RO r n = .tup (natsD p) := by
              unfold RO
              rw [hW, hok, cl]
              simp
            rw [hR] at hΦ
            k_search ⟨e1, ip, lp, il, rl, cc, io_law_due_round⟩
            exact hΦ
          · have e1 : (p.length == n) = false := beq_eq_false_iff_ne.mpr cl
            have hR : RO r n = .non := by
              unfold RO
              rw [hW, show (p.length == n) = false from beq_eq_false_iff_ne.mpr cl, Bool.and_false]
              rfl
            rw [hR] at hΦ
            k_search ⟨e1, io_law_due_round⟩
            exact hΦ
        | cons y l2 =>
          have i1 : ixN (l2.length + 1) 0 = some 0 := ixN_0 (by omega)
          have ok3 : (scalD (D.lst true (D.int (y : Nat) :: natsD l2)) (D.lst true []) || D.oks 63 (D.int (y : Nat) :: natsD l2)) = true := by rw [show D.oks 63 (D.int (y : Nat) :: natsD l2) = true from natsD_ok 63 (y :: l2), Bool.or_true]
          k_search ⟨List.isEmpty_cons, natsD_cons, i1, natsD_snoc_r, io_law_due_round⟩
          refine ⟨ok3, Nat.lt_of_le_of_lt (by omega : p.length ≤ 100) (by decide), hk _ ⟨p ++ [y], _, _, _, _, P.snoc G (by rw [hf]; exact List.mem_cons_self), ?_, rfl⟩⟩
          rw [← hw, List.length_cons, walk_cons hf]
      · rintro ρ ⟨p, x3, x5, x6, x7, P, hw, rfl⟩
        have hW : walkR r n [0] = p := by rw [← hw]; rfl
        k_search ⟨io_law_due_round⟩
        have ip : ixN p.length (-1) = some (p.length - 1) := nats_last P.ne
        have lp : p[p.length - 1]? = some (lastN p) := lastN_at P.ne
        have hlt := P.lt _ (lastN_mem P.ne)
        have il : ixN r.length (lastN p : Int) = some (lastN p) := ixN_nat (by omega)
        have rl : r[lastN p]? = some (row r (lastN p)) := row_at (by omega)
        by_cases cl : p.length = n
        · have e1 : (p.length == n) = true := by rw [cl]; exact beq_self_eq_true _
          have cc : (row r (lastN p)).contains 0 = true := by
            have := closes G P (by omega) cl hdeg
            simpa using this
          have cc : inD (.int 0) (natsD (row r (lastN p))) = true := by
            rw [show (D.int 0) = D.int ((0 : Nat) : Int) from rfl, natsD_in]; exact cc
          have hR : RO r n = .tup (natsD p) := by
            unfold RO
            rw [hW, hok, cl]
            simp
          rw [hR] at hΦ
          k_search ⟨e1, ip, lp, il, rl, cc, io_law_due_round⟩
          exact hΦ
        · have e1 : (p.length == n) = false := beq_eq_false_iff_ne.mpr cl
          have hR : RO r n = .non := by
            unfold RO
            rw [hW, show (p.length == n) = false from beq_eq_false_iff_ne.mpr cl, Bool.and_false]
            rfl
          rw [hR] at hΦ
          k_search ⟨e1, io_law_due_round⟩
          exact hΦ

end LX

set_option maxHeartbeats 0
namespace LX
open PySem PySem.Spec PyProof.Rows L2 DL
local macro_rules | `(tactic| k_search ⟨$es,*⟩) => `(tactic| simp only [$[$es:term],*, ↓wVar.ap, ↓wC.ap, ↓w1.ap, ↓w2.ap, ↓wTest.ap, ↓wAnd.ap, ↓wOr.ap, ↓wNot.ap, ↓wAndV.ap, ↓wOrV.ap, ↓wNotV.ap, ↓wIf.ap, ↓wNil.ap, ↓wCons.ap, ↓wN.ap, ↓wTup.ap, ↓wTupQ.ap, ↓wLstO.ap, ↓wLst.ap, ↓wIx.ap, ↓wNoPart.ap, ↓wPart.ap, ↓wSlice.ap, ↓wSeq.ap, ↓wRange1.ap, ↓wRange2.ap, ↓wEnum.ap, ↓wZip.ap, ↓wgName.ap, ↓wgsNil.ap, ↓wgsCons.ap, ↓wgTup.ap, ↓wYes.ap, ↓wLc.ap, ↓wNext.ap, ↓wsSeq.ap, ↓wBreak.ap, ↓wCont.ap, ↓wAsg.ap, ↓wAsgF.ap, ↓wRet.ap, ↓wRetN.ap, ↓wDrop.ap, ↓wsIf.ap, ↓wFor.ap, ↓wCall.ap, ↓wAppend.ap, ↓wPop.ap, ↓wPopAt.ap, ↓wSetIx.ap, ↓wTgF.ap, ↓wPar.ap, ↓wChain.ap, ↓wCallP.ap, ↓wBoth.ap, ↓wLc2.ap, ↓wListRg1.ap, ↓wTupRg1.ap, ↓wListRg2.ap, ↓wJoin.ap, ↓opAdd_i, ↓opAdd_s, ↓opAdd_t, ↓opAdd_l, ↓opSub_i, ↓opMod_i, ↓opDiv_i, ↓opMul_i, ↓opMul_l, ↓opMul_t, ↓opPow_i, ↓opNeg_i, ↓opLt_i, ↓opLe_i, ↓opGt_i, ↓opGe_i, ↓opIs_n, ↓opIs_b, ↓opIsNot_n, ↓opIsNot_b, ↓opEq_ap, ↓opNe_ap, ↓opIn_l, ↓opIn_t, ↓opIn_s, ↓opNotIn_l, ↓opNotIn_t, ↓opNotIn_s, ↓opLen_t, ↓opLen_l, ↓opLen_r, ↓opLen_s, ↓opTuple_t, ↓opTuple_l, ↓opTuple_r, ↓opList_t, ↓opList_l, ↓opList_r, ↓opSorted_l, ↓opAbs_i, ↓opMax2_i, ↓opMin2_i, ↓opInt_i, ↓opInt_b, ↓opInt_s, ↓opStr_i, ↓opAll_l, ↓opAny_l, ↓opRev_l, ↓opIsi_ap, ↓sliceD_t, ↓sliceD_l, ↓sliceD_r, ↓outOk_ap, ↓scal_int, ↓ixl_1_0, ↓ixl_1_m, ↓ixl_2_0, ↓ixl_2_1, ↓ixl_2_m, ↓ixl_3_0, ↓ixl_3_1, ↓ixl_3_2, ↓ixl_3_m, ↓ixl_4_0, ↓ixl_4_1, ↓ixl_4_2, ↓ixl_4_3, ↓ixl_4_m, ↓wdk_some, ↓asIk_int, ↓asBk_bl, ↓asLOk_lst, ↓ifk_t, ↓ifk_f, ↓lcGok_nil, ↓forGok_nil, ↓whilek_ap, ↓popD_ap, ↓item_tup, ↓item_lst, ↓item_ro, ↓itemD_st, ↓asI_int, ↓asB_bl, ↓asLO_lst, ↓wd_some, ↓lcGo_nil, ↓forGo_nil, lk0, lkS, wd_some, asI_int, asB_bl, asLO_lst, deref_val, deref_slot, deref_sub, moveT_val, moveT_slot, elemT_val, elemT_slot, frzT_val, frzT_slot, frzTs_nil, frzTs_cons, takeTs_nil, takeTs_cons, takeT1_tv, takeT1_ts, takeT1_f, putBack_s, putBack_n, putBack_nil, outArgs_nil, outArgs_t, outArgs_f, own_lst, own_tup, own_int, own_bl, own_str, own_non, own_ro, frz_tup, frz_int, frz_bl, frz_str, frz_non, frz_ro, frz_lstF, frz_lstT, frzs_nil, frzs_cons, valsT_nil, valsT_val, derefs_nil, derefs_cons, stable_val, stable_slot, stable_sub, placeT_slot, placeT_sub, itemsD_tup, itemsD_lst, itemsD_ro, itemsD_str, seqD_tup, seqD_lst, seqD_ro, listOf_lst, listOf_ro, walk_nil, walk_lst, setP_nil2, setP_lst, item_tup, item_lst, item_ro, itemD_st, atT_val, atT_int, atT_tup, atT_str, atT_lstT, atT_lstF, subT_slot, subT_sub, popD_ap, setPlace_ap, wipeD_nil, wipeD_cons, storeD_nil, storeD_cons, wdk_some, asIk_int, asBk_bl, asLOk_lst, ifk_t, ifk_f, lcGok_nil, forGok_nil, lcGo_nil, forGo_nil, pureL_nil, pureL_cons, opAdd_i, opAdd_s, opAdd_t, opAdd_l, opSub_i, opMod_i, opDiv_i, opMul_i, opMul_l, opMul_t, opPow_i, opNeg_i, opLt_i, opLe_i, opGt_i, opGe_i, opIs_n, opIs_b, opIsNot_n, opIsNot_b, opEq_ap, opNe_ap, opIn_l, opIn_t, opIn_s, opNotIn_l, opNotIn_t, opNotIn_s, opLen_t, opLen_l, opLen_r, opLen_s, opTuple_t, opTuple_l, opTuple_r, opList_t, opList_l, opList_r, opSorted_l, opAbs_i, opMax2_i, opMin2_i, opInt_i, opInt_b, opInt_s, opStr_i, opAll_l, opAny_l, opRev_l, opIsi_ap, sliceD_t, sliceD_l, sliceD_r, outOk_ap, scal_int, ixl_1_0, ixl_1_m, ixl_2_0, ixl_2_1, ixl_2_m, ixl_3_0, ixl_3_1, ixl_3_2, ixl_3_m, ixl_4_0, ixl_4_1, ixl_4_2, ixl_4_3, ixl_4_m, Option.bind_some, Option.map_some, List.set_cons_zero, List.set_cons_succ, List.set_nil, List.length_cons, List.length_nil, List.length_set, List.getElem?_cons_zero, List.getElem?_cons_succ, List.cons_append, List.nil_append, Bool.or_true, Bool.true_or, Bool.false_or, Bool.or_false, Bool.and_true, Bool.true_and, Bool.and_false, Bool.false_and, Bool.not_true, Bool.not_false, if_true, if_false, ite_true, ite_false, Bool.false_eq_true, eq_self, true_and, and_true, false_and, and_false, Nat.reduceAdd, Nat.reduceLT, Nat.zero_add, List.filterMap_cons, List.filterMap_nil, id_eq, List.nodup_nil, List.map_cons, List.map_nil, Nat.reduceSub, List.all_nil, List.all_cons, nodup1, sz1, sz2, sz3, sz4, sz5, sz6, sz7, sz8, sz9, sz10, sz11, sz12, Nat.zero_le, enumRows, ownRows_len, ownRows_at, ownRows_set, ownRows_frz, rangeD_nat0, rangeD_nat, asInts_nats, sortN_D, Int.toNat_natCast, natsD_len, natsD_at, natsD_frz, natsD_pure, natsD_nil, rowsD_len, rowsD_at, rowsD_frz, rowsD_pure, rowT_ap, pairsD_nil, pairsD_len, pairsD_frz, pairsD_pure, pairsD_at, tabD, flat_int, natsD_flat, natsD_in, eqv_int, beq_nat, natsD_ok, deal_own, eqv_tups, natsD_eqv, ok_int, ok_tup, ok_lst, oks_nil, eqv_nil, natsD_emp, bq0, bq1, bq2, bq3, bq4, bq5, bq6, bq7, bq8, bq9, bq10, bq11, bq12, bq13, ↓wRemove.ap, ↓wLend.ap, valT_val, ownClean_nil, ownClean_cons, oclean_none, oclean_some, clean_int, clean_bl, clean_non, clean_str, clean_tup, clean_lst, clean_nil, clean_cons, clean_nats, clean_pairs, mkD, ↓opRevT_t, opRevT_t, ↓wIndex.ap, listOf_lst, listOf_ro, ixN2_ap, ↓opMulS_s, opMulS_s, ↓wEnumZ.ap, zipTOk_tup, ↓wDPut.ap, ↓wDispT.ap, ↓wNewT.ap, ↓wNewK.ap, keyT_nats, opNotInD_T, opInD_T, opNotInD_K, opInD_K, opLenD_T, opLenD_K, dput_T, dput_K, own_dT, own_dK, ↓wAugI.ap, ↓wAugL.ap, asIO_i, lstOf2_l, ↓wgoName.ap, ↓wgoIx.ap, ↓wgosNil.ap, ↓wgosCons.ap, ↓wParG.ap, asSome_s, getT_s, getT_n, dkey_K, dkey_T, isDic_T, isDic_K, ↓wDGet.ap, ↓wDGetOr.ap, ↓wRaise.ap, ↓wTryAt.ap, one1_s, hasSlot.ap])

/-! _law_near_rule -/
abbrev N_law_near_rule : List Str := ["deal", "form", "order", "rule", "loose", "many", "pairs", "x", "row", "y", "pair", "size", "loops", "first", "second", "some", "rings"]
abbrev w_law_near_rule : WS := (wsSeq (wAsg 1 (wCall [true, false] fs_law_any (wCons true (wVar 0) (wCons true (wC (.int 8)) wNil))))
    (wsSeq (wTgF (wgTup 3 (wgsCons (wgName 2) (wgsCons (wgName 3) (wgsCons (wgName 4) wgsNil)))) (wCall [true] fs_law_round_rule (wCons true (wVar 0) wNil)))
    (wsSeq (wAsg 5 (wN opLen (wCons true (wVar 3) wNil)))
    (wsSeq (wAsg 6 (wLstO wNil))
    (wsSeq (wFor (wEnum (wCons true (wVar 3) wNil)) (wgTup 2 (wgsCons (wgName 7) (wgsCons (wgName 8) wgsNil))) (wAsg 6 (w2 false opAdd (wVar 6) (wLc [9] (wSeq (wVar 8)) (wgName 9) wYes (wTupQ (wCons true (wVar 7) (wCons true (wVar 9) wNil)))))))
    (wsSeq (wsIf (wTest (w2 true opLt (wVar 1) (wC (.int 3)))) (wRet (wVar 3)) wNext)
    (wsSeq (wsIf (wTest (w2 true opEq (wVar 1) (wC (.int 3)))) (wsSeq (wPar [7, 9] (wCons false (wCall [true, false] fs_law_any (wCons true (wVar 0) (wCons true (wVar 5) wNil))) (wCons true (wCall [true, false] fs_law_any (wCons true (wVar 0) (wCons true (wVar 5) wNil))) wNil)))
    (wRet (wCall [false, false] fs_law_joined (wCons true (wVar 5) (wCons true (w2 true opAdd (wVar 6) (wLstO (wCons true (wTupQ (wCons true (wVar 7) (wCons true (wVar 9) wNil))) wNil))) wNil))))) wNext)
    (wsSeq (wsIf (wTest (w2 true opEq (wVar 1) (wC (.int 4)))) (wsSeq (wTgF (wgTup 2 (wgsCons (wgName 7) (wgsCons (wgName 9) wgsNil))) (wCall [true, false] fs_law_of (wCons true (wVar 0) (wCons true (wVar 6) wNil))))
    (wRet (wCall [false, false] fs_law_joined (wCons false (wVar 5) (wCons true (wLc [10] (wSeq (wVar 6)) (wgName 10) (wTest (w2 true opNotIn (wVar 10) (wLstO (wCons true (wTupQ (wCons true (wVar 7) (wCons true (wVar 9) wNil))) (wCons true (wTupQ (wCons true (wVar 9) (wCons true (wVar 7) wNil))) wNil))))) (wVar 10)) wNil))))) wNext)
    (wsSeq (wsIf (wTest (w2 true opEq (wVar 1) (wC (.int 5)))) (wsSeq (wAsg 11 (wCall [true, false] fs_law_of (wCons true (wVar 0) (wCons true (wLstO (wCons true (wC (.int 4)) (wCons true (wC (.int 4)) (wCons true (wC (.int 3)) (wCons true (wC (.int 2)) (wCons true (wC (.int 1)) wNil)))))) wNil))))
    (wsSeq (wAsg 12 (wLc [7] (wRange1 (wCons true (wVar 11) wNil)) (wgName 7) (wTest (w2 true opEq (wCall [true, false] fs_law_any (wCons true (wVar 0) (wCons true (wC (.int 2)) wNil))) (wC (.int 0)))) (wTupQ (wCons true (wVar 7) (wCons true (wVar 7) wNil)))))
    (wRet (wCall [false, false] fs_law_joined (wCons false (wVar 11) (wCons true (w2 true opAdd (wLc [7] (wRange1 (wCons true (wVar 11) wNil)) (wgName 7) (wTest (w2 true opGt (wVar 11) (wC (.int 2)))) (wTupQ (wCons true (wVar 7) (wCons true (w2 true opMod (wN opInt (wCons true (w2 true opAdd (wVar 7) (wC (.int 1))) wNil)) (wVar 11)) wNil)))) (wVar 12)) wNil)))))) wNext)
    (wsSeq (wsIf (wTest (w2 true opEq (wVar 1) (wC (.int 6)))) (wsSeq (wPar [13, 14] (wCons false (w2 false opAdd (wC (.int 3)) (wCall [true, false] fs_law_any (wCons true (wVar 0) (wCons true (wC (.int 4)) wNil)))) (wCons true (w2 false opAdd (wC (.int 3)) (wCall [true, false] fs_law_any (wCons true (wVar 0) (wCons true (wC (.int 4)) wNil)))) wNil)))
    (wsSeq (wAsg 15 (wIf (wTest (w2 true opEq (wCall [true, false] fs_law_any (wCons true (wVar 0) (wCons true (wC (.int 2)) wNil))) (wC (.int 0)))) (wLc [7] (wRange1 (wCons true (w2 true opAdd (wVar 13) (wVar 14)) wNil)) (wgName 7) wYes (wTupQ (wCons true (wVar 7) (wCons true (wVar 7) wNil)))) (wLstO wNil)))
    (wsSeq (wAsg 16 (w2 false opAdd (wLc [7] (wRange1 (wCons true (wVar 13) wNil)) (wgName 7) wYes (wTupQ (wCons true (wVar 7) (wCons true (w2 true opMod (wN opInt (wCons true (w2 true opAdd (wVar 7) (wC (.int 1))) wNil)) (wVar 13)) wNil)))) (wLc [7] (wRange1 (wCons true (wVar 14) wNil)) (wgName 7) wYes (wTupQ (wCons true (w2 true opAdd (wVar 13) (wVar 7)) (wCons true (w2 true opAdd (wVar 13) (w2 true opMod (wN opInt (wCons true (w2 true opAdd (wVar 7) (wC (.int 1))) wNil)) (wVar 14))) wNil))))))
    (wRet (wCall [true, false] fs_law_renamed (wCons false (wVar 0) (wCons true (wCall [false, false] fs_law_joined (wCons true (w2 true opAdd (wVar 13) (wVar 14)) (wCons true (w2 true opAdd (wVar 16) (wVar 15)) wNil))) wNil))))))) wNext)
    (wRet (wCall [true, false] fs_law_rule (wCons true (wVar 0) (wCons true (wC (.int 12)) wNil))))))))))))))
abbrev io_law_near_rule : List Bool := [true]

theorem st_law_near_rule (a0 : D) : startD N_law_near_rule [a0] = [some a0, none, none, none, none, none, none, none, none, none, none, none, none, none, none, none, none] := rfl
theorem flat_len37 (r : List (List Nat)) (h : ∀ q ∈ r, q.length ≤ 100) (l : List Nat) : (l.flatMap fun x => (r.getD x []).map fun y => (x, y)).length ≤ l.length * 100 := flat_len r h l
theorem pairsD_nil2 (l : List (Nat × Nat)) : pairsD l ++ [] = pairsD l := List.append_nil _
theorem modn_cast (a b : Nat) : ((a : Int) + 1) % (b : Int) = (((a + 1) % b : Nat) : Int) := by norm_cast
def fs_law_near_rule : FS := fun ds Φ Ψ => ∃ (s : DealS), ds = [dealD s] ∧ ∀ (s' : DealS) (n : Nat) (r : List (List Nat)), Rul n r → 1 ≤ n → n ≤ 12 → Φ (tabD r) [dealD s']
theorem hl_law_near_rule : ∀ ds Φ Ψ, fs_law_near_rule ds Φ Ψ → ds.length = 1 := by
  rintro ds Φ Ψ ⟨_, rfl, _⟩
  rfl
theorem h_law_near_rule : ∀ ds Φ Ψ, fs_law_near_rule ds Φ Ψ → w_law_near_rule ⟨fun ρ => outOk io_law_near_rule ds ρ (Φ .non), fun d ρ => outOk io_law_near_rule ds ρ (Φ d), fun _ => False, fun _ => False⟩ (fun x ρ => outOk io_law_near_rule ds ρ (Ψ x)) (startD N_law_near_rule ds) := by
  rintro ds Φ Ψ ⟨s, rfl, hΦ⟩
  k_search ⟨st_law_near_rule, w_law_near_rule, io_law_near_rule⟩
  refine ⟨s, 8, rfl, by omega, by omega, fun s1 form hform => ?_⟩
  k_search ⟨io_law_near_rule⟩
  refine ⟨s1, rfl, fun s2 m b o r R h3 h12 h4 h5 => ?_⟩
  have G := R.rul.toGraph
  have lr := G.len
  have hr : ∀ x, (r.getD x []).length ≤ 100 := fun x => Nat.le_trans (G.few x) (by omega)
  have hr2 : ∀ q ∈ r, q.length ≤ 100 := fun q hq => by
    obtain ⟨x, _, rfl⟩ := row_of hq
    exact Nat.le_trans (G.few x) (by omega)
  k_search ⟨lr, io_law_near_rule⟩
  refine for_ty _ (I := fun l ρ => ∃ done a b' c, List.range r.length = done ++ l ∧ ρ = [some (dealD s2), some (.int form), some (.lst false (natsD o)), some (tabD r), some (.bl b), some (.int m), some (.lst true (pairsD (done.flatMap fun x => (r.getD x []).map fun y => (x, y)))), a, b', c, none, none, none, none, none, none, none]) ?_ ?_ _ _ ⟨[], none, none, none, by rw [lr]; rfl, rfl⟩
  · rintro x l k hk ρ ⟨done, a, b', c, e, rfl⟩
    k_search ⟨io_law_near_rule⟩
    refine lc_map (fun n : Nat => D.int (n : Nat)) (fun y => DL.pairD (x, y)) ?_ (size100 (by have := hr x; omega)) ?_
    · intro y hy acc kk hacc h
      k_search ⟨io_law_near_rule⟩
      exact ⟨hacc, h⟩
    · rw [pairsD_map]
      k_search ⟨pairsD_app_r, io_law_near_rule⟩
      have hd := flat_len r hr2 done
      have hx := hr x
      have hm : done.length + 1 ≤ r.length := by
        have := congrArg List.length e
        simp at this; omega
      have e3 : (done.flatMap fun x => (r.getD x []).map fun y => (x, y)) ++ (r.getD x []).map (fun y => (x, y)) = (done ++ [x]).flatMap fun x => (r.getD x []).map fun y => (x, y) := by
        rw [List.flatMap_append]; simp
      rw [e3]
      exact ⟨by simp only [List.length_map]; exact size100 (by omega), hk _ ⟨done ++ [x], _, _, _, by simpa using e, rfl⟩⟩
  rintro ρ ⟨done, a, b', c, e, rfl⟩
  have ed : done = List.range r.length := by simpa using e.symm
  subst ed
  have hbl := flat_len r hr2 (List.range r.length)
  rw [List.length_range] at hbl
  have hbm : ∀ p ∈ ((List.range r.length).flatMap fun x => (r.getD x []).map fun y => (x, y)), p.1 < m ∧ p.2 < m := fun p hp => by
    obtain ⟨x, hx, hp⟩ := List.mem_flatMap.mp hp
    obtain ⟨y, hy, rfl⟩ := List.mem_map.mp hp
    have h1 := List.mem_range.mp hx
    have h2 := G.lt x y hy
    exact ⟨by show x < m; omega, by show y < m; omega⟩
  have hne : ((List.range r.length).flatMap fun x => (r.getD x []).map fun y => (x, y)) ≠ [] := fun z => by
    have hz := List.flatMap_eq_nil_iff.mp z 0 (List.mem_range.mpr (by omega))
    have hz := List.map_eq_nil_iff.mp hz
    have q := (ring_aside R.ord h3 R.joi (i := 0) (by omega) (mk o 1)).mpr (.inl (by rw [Nat.zero_add, Nat.mod_eq_of_lt (by omega)]))
    rw [R.ord.hd] at q
    have := (mem_aside.mp q).1
    unfold row at this
    rw [hz] at this
    cases this
  generalize ((List.range r.length).flatMap fun x => (r.getD x []).map fun y => (x, y)) = ps at hbl hbm hne
  have hbl : ps.length ≤ 1200 := by omega
  by_cases c0 : form < 3
  · have e0 : decide ((form : Int) < 3) = true := decide_eq_true (by omega)
    k_search ⟨e0, io_law_near_rule⟩
    exact hΦ s2 m r R.rul (by omega) h12
  have e0 : decide ((form : Int) < 3) = false := decide_eq_false (by omega)
  by_cases c3 : form = 3
  · have e3 : ((form : Int) == 3) = true := by rw [c3]; rfl
    k_search ⟨e0, e3, io_law_near_rule⟩
    refine ⟨s2, m, rfl, by omega, by omega, fun s3 x hx => ?_⟩
    k_search ⟨io_law_near_rule⟩
    refine ⟨s3, m, rfl, by omega, by omega, fun s4 y hy => ?_⟩
    k_search ⟨pairD_snoc, io_law_near_rule⟩
    refine ⟨size100 (by omega), m, ps ++ [(x, y)], rfl, by omega, fun p hp => ?_, fun t T J => ?_⟩
    · rcases List.mem_append.mp hp with hp | hp
      · exact hbm p hp
      · rw [List.mem_singleton.mp hp]; exact ⟨hx, hy⟩
    · k_search ⟨io_law_near_rule⟩
      exact hΦ s4 m t T (by omega) h12
  have e3 : ((form : Int) == 3) = false := beq_eq_false_iff_ne.mpr (by omega)
  by_cases c4 : form = 4
  · have e4 : ((form : Int) == 4) = true := by rw [c4]; rfl
    k_search ⟨e0, e3, e4, io_law_near_rule⟩
    refine ⟨s2, pairsD ps, _, rfl, Or.inl rfl, by rw [pairsD_len]; exact List.length_pos_iff.mpr hne, by rw [pairsD_len]; omega, fun s3 i q hq => ?_⟩
    obtain ⟨⟨x, y⟩, rfl⟩ : ∃ p : Nat × Nat, q = DL.pairD p := by
      rw [pairsD_at] at hq
      cases e : ps[i]? with
      | none => rw [e] at hq; cases hq
      | some p => rw [e] at hq; cases hq; exact ⟨p, rfl⟩
    k_search ⟨pairD_ap, io_law_near_rule⟩
    have e2 : [D.tup [.int (x : Nat), .int (y : Nat)], D.tup [.int (y : Nat), .int (x : Nat)]] = pairsD [(x, y), (y, x)] := rfl
    refine lc_fn DL.pairD (fun p => !([(x, y), (y, x)].contains p)) (fun p => DL.pairD p) ?_ (size100 (by omega)) ?_
    · rintro ⟨p1, p2⟩ hp acc kk hacc h
      cases c : [(x, y), (y, x)].contains (p1, p2) <;> simp only [c, Bool.not_true, Bool.not_false, if_true, if_false, Bool.false_eq_true] at h <;> k_search ⟨pairD_ap, e2, pair_in, c, pairsD_ok, oks_cons, io_law_near_rule⟩ <;> first | exact ⟨hacc, h⟩ | exact h
    rw [show ((ps.filter fun p => !([(x, y), (y, x)].contains p)).map fun p => DL.pairD p) = pairsD (ps.filter fun p => !([(x, y), (y, x)].contains p)) from rfl]
    k_search ⟨io_law_near_rule⟩
    refine ⟨m, ps.filter fun p => !([(x, y), (y, x)].contains p), rfl, by omega, fun p hp => hbm p (List.mem_filter.mp hp).1, fun t T J => ?_⟩
    k_search ⟨io_law_near_rule⟩
    exact hΦ s3 m t T (by omega) h12
  have e4 : ((form : Int) == 4) = false := beq_eq_false_iff_ne.mpr (by omega)
  by_cases c5 : form = 5
  · have e5 : ((form : Int) == 5) = true := by rw [c5]; rfl
    k_search ⟨e0, e3, e4, e5, io_law_near_rule⟩
    refine ⟨s2, [(4 : Int), 4, 3, 2, 1].map D.int, _, rfl, Or.inl rfl, by simp, by simp, fun s3 i q hq => ?_⟩
    obtain ⟨f, hf, rfl⟩ := dealOfInts hq
    obtain ⟨k, rfl, k1, k2⟩ : ∃ k : Nat, f = k ∧ 1 ≤ k ∧ k ≤ 4 := by
      have h : f = 4 ∨ f = 4 ∨ f = 3 ∨ f = 2 ∨ f = 1 := by simpa using hf
      exact ⟨f.toNat, by omega, by omega, by omega⟩
    k_search ⟨io_law_near_rule⟩
    refine ⟨rg_small (by omega), ?_⟩
    refine lc_deal (fun n : Nat => D.int (n : Nat)) (fun x => DL.pairD (x, x)) (R := fun s => [some (dealD s), some (.int form), some (.lst false (natsD o)), some (tabD r), some (.bl b), some (.int m), some (.lst true (pairsD ps)), none, b', c, none, some (.int k), none, none, none, none, none]) ?_ ?_ ?_ s3
    · intro x hx s4 acc kk hacc h1 h2
      k_search ⟨io_law_near_rule⟩
      refine ⟨s4, 2, rfl, by omega, by omega, fun s5 v hv => ?_⟩
      have ev : ((v : Int) == 0) = (v == 0) := beq_nat v 0
      cases cv : v == 0
      · k_search ⟨ev, cv, io_law_near_rule⟩
        exact h2 s5
      · k_search ⟨ev, cv, io_law_near_rule⟩
        exact ⟨hacc, h1 s5⟩
    · rw [List.length_range]; exact size100 (by omega)
    intro s4 xs hxs
    rw [pairsD_map]
    k_search ⟨io_law_near_rule⟩
    refine ⟨rg_small (by omega), ?_⟩
    have hxl := hxs.length_le
    rw [List.length_range] at hxl
    refine lc_fn (fun n : Nat => D.int (n : Nat)) (fun _ => decide (2 < k)) (fun x => DL.pairD (x, (x + 1) % k)) ?_ (by rw [List.length_range]; exact size100 (by omega)) ?_
    · intro x hx acc kk hacc h
      have ek : decide ((2 : Int) < (k : Int)) = decide (2 < k) := dec_lt 2 k
      cases ck : decide (2 < k) <;> simp only [ck, if_true, if_false, Bool.false_eq_true] at h <;> k_search ⟨ek, ck, modn_cast, io_law_near_rule⟩ <;> first | exact ⟨by omega, hacc, h⟩ | exact h
    rw [pairsD_map _ fun x => (x, (x + 1) % k)]
    have e6 : ((List.range k).filter fun _ => decide (2 < k)).length ≤ k := by
      have := List.length_filter_le (fun _ => decide (2 < k)) (List.range k)
      rwa [List.length_range] at this
    k_search ⟨pairsD_app_r, io_law_near_rule⟩
    refine ⟨by simp only [List.length_map]; exact size100 (by omega), k, _, rfl, by omega, fun p hp => ?_, fun t T J => ?_⟩
    · rcases List.mem_append.mp hp with hp | hp
      · obtain ⟨x, hx, rfl⟩ := List.mem_map.mp hp
        exact ⟨List.mem_range.mp (List.mem_filter.mp hx).1, Nat.mod_lt _ (by omega)⟩
      · obtain ⟨x, hx, rfl⟩ := List.mem_map.mp hp
        have := List.mem_range.mp (hxs.subset hx)
        exact ⟨this, this⟩
    · k_search ⟨io_law_near_rule⟩
      exact hΦ s4 k t T k1 (by omega)
  have e5 : ((form : Int) == 5) = false := beq_eq_false_iff_ne.mpr (by omega)
  by_cases c6 : form = 6
  · have e6 : ((form : Int) == 6) = true := by rw [c6]; rfl
    k_search ⟨e0, e3, e4, e5, e6, io_law_near_rule⟩
    refine ⟨s2, 4, rfl, by omega, by omega, fun s3 u hu => ?_⟩
    k_search ⟨io_law_near_rule⟩
    refine ⟨s3, 4, rfl, by omega, by omega, fun s4 v hv => ?_⟩
    obtain ⟨f, hf, f1, f2⟩ : ∃ f : Nat, (3 : Int) + u = f ∧ 3 ≤ f ∧ f ≤ 6 := ⟨3 + u, by omega, by omega, by omega⟩
    obtain ⟨g, hg, g1, g2⟩ : ∃ g : Nat, (3 : Int) + v = g ∧ 3 ≤ g ∧ g ≤ 6 := ⟨3 + v, by omega, by omega, by omega⟩
    have hfg : (f : Int) + (g : Int) = ((f + g : Nat) : Int) := by omega
    k_search ⟨hf, hg, io_law_near_rule⟩
    refine ⟨s4, 2, rfl, by omega, by omega, fun s5 w hw => ?_⟩
    have ev : ((w : Int) == 0) = (w == 0) := beq_nat w 0
    have adds : ∀ (x : Nat), (f : Int) + (x : Int) = ((f + x : Nat) : Int) := fun x => by omega
    cases cw : w == 0
    · k_search ⟨ev, cw, hfg, io_law_near_rule⟩
      refine ⟨rg_small (by omega), ?_⟩
      refine lc_map (fun n : Nat => D.int (n : Nat)) (fun x => DL.pairD (x, (x + 1) % f)) ?_ (by rw [List.length_range]; exact size100 (by omega)) ?_
      · intro x hx acc kk hacc h
        k_search ⟨modn_cast, io_law_near_rule⟩
        exact ⟨by omega, hacc, h⟩
      rw [pairsD_map _ fun x => (x, (x + 1) % f)]
      k_search ⟨io_law_near_rule⟩
      refine ⟨rg_small (by omega), ?_⟩
      refine lc_map (fun n : Nat => D.int (n : Nat)) (fun x => DL.pairD (f + x, f + (x + 1) % g)) ?_ (by rw [List.length_range]; exact size100 (by omega)) ?_
      · intro x hx acc kk hacc h
        k_search ⟨modn_cast, adds, io_law_near_rule⟩
        exact ⟨by omega, hacc, h⟩
      rw [pairsD_map _ fun x => (f + x, f + (x + 1) % g)]
      k_search ⟨pairsD_app_r, hfg, pairsD_nil2, List.append_nil, io_law_near_rule⟩
      refine ⟨by simp only [List.length_map, List.length_range]; exact size100 (by omega), by simp only [List.length_append, List.length_map, List.length_range, List.length_nil, Nat.add_zero]; exact size100 (by omega), f + g, _, rfl, by omega, fun p hp => ?_, fun t T J => ?_⟩
      · skip
        rcases List.mem_append.mp hp with hp | hp
        · obtain ⟨x, hx, rfl⟩ := List.mem_map.mp hp
          have := Nat.mod_lt (x + 1) (by omega : f > 0)
          have := List.mem_range.mp hx
          exact ⟨by show x < f + g; omega, by show (x + 1) % f < f + g; omega⟩
        · obtain ⟨x, hx, rfl⟩ := List.mem_map.mp hp
          have := Nat.mod_lt (x + 1) (by omega : g > 0)
          have := List.mem_range.mp hx
          exact ⟨by show f + x < f + g; omega, by show f + (x + 1) % g < f + g; omega⟩
      · k_search ⟨io_law_near_rule⟩
        refine ⟨s5, _, t, rfl, T.toGraph, by omega, fun s6 t' T' _ => ?_⟩
        k_search ⟨io_law_near_rule⟩
        exact hΦ s6 _ t' T' (by omega) (by omega)
    · k_search ⟨ev, cw, hfg, io_law_near_rule⟩
      refine ⟨rg_small (by omega), ?_⟩
      refine lc_map (fun n : Nat => D.int (n : Nat)) (fun x => DL.pairD (x, x)) ?_ (by rw [List.length_range]; exact size100 (by omega)) ?_
      · intro x hx acc kk hacc h
        k_search ⟨io_law_near_rule⟩
        exact ⟨hacc, h⟩
      rw [pairsD_map _ fun x => (x, x)]
      k_search ⟨hfg, io_law_near_rule⟩
      refine ⟨rg_small (by omega), ?_⟩
      refine lc_map (fun n : Nat => D.int (n : Nat)) (fun x => DL.pairD (x, (x + 1) % f)) ?_ (by rw [List.length_range]; exact size100 (by omega)) ?_
      · intro x hx acc kk hacc h
        k_search ⟨modn_cast, io_law_near_rule⟩
        exact ⟨by omega, hacc, h⟩
      rw [pairsD_map _ fun x => (x, (x + 1) % f)]
      k_search ⟨io_law_near_rule⟩
      refine ⟨rg_small (by omega), ?_⟩
      refine lc_map (fun n : Nat => D.int (n : Nat)) (fun x => DL.pairD (f + x, f + (x + 1) % g)) ?_ (by rw [List.length_range]; exact size100 (by omega)) ?_
      · intro x hx acc kk hacc h
        k_search ⟨modn_cast, adds, io_law_near_rule⟩
        exact ⟨by omega, hacc, h⟩
      rw [pairsD_map _ fun x => (f + x, f + (x + 1) % g)]
      k_search ⟨pairsD_app_r, hfg, pairsD_nil2, List.append_nil, io_law_near_rule⟩
      refine ⟨by simp only [List.length_map, List.length_range]; exact size100 (by omega), by simp only [List.length_append, List.length_map, List.length_range]; exact size100 (by omega), f + g, _, rfl, by omega, fun p hp => ?_, fun t T J => ?_⟩
      · rcases List.mem_append.mp hp with hp | hp
        case' inr =>
          obtain ⟨x, hx, rfl⟩ := List.mem_map.mp hp
          have := List.mem_range.mp hx
          exact ⟨this, this⟩
        rcases List.mem_append.mp hp with hp | hp
        · obtain ⟨x, hx, rfl⟩ := List.mem_map.mp hp
          have := Nat.mod_lt (x + 1) (by omega : f > 0)
          have := List.mem_range.mp hx
          exact ⟨by show x < f + g; omega, by show (x + 1) % f < f + g; omega⟩
        · obtain ⟨x, hx, rfl⟩ := List.mem_map.mp hp
          have := Nat.mod_lt (x + 1) (by omega : g > 0)
          have := List.mem_range.mp hx
          exact ⟨by show f + x < f + g; omega, by show f + (x + 1) % g < f + g; omega⟩
      · k_search ⟨io_law_near_rule⟩
        refine ⟨s5, _, t, rfl, T.toGraph, by omega, fun s6 t' T' _ => ?_⟩
        k_search ⟨io_law_near_rule⟩
        exact hΦ s6 _ t' T' (by omega) (by omega)
  have e6 : ((form : Int) == 6) = false := beq_eq_false_iff_ne.mpr (by omega)
  k_search ⟨e0, e3, e4, e5, e6, io_law_near_rule⟩
  refine ⟨s2, 12, rfl, by omega, by omega, fun s' n t h1 h2 T => ?_⟩
  k_search ⟨io_law_near_rule⟩
  exact hΦ s' n t T h1 (by omega)

end LX

set_option maxHeartbeats 0
namespace LX
open PySem PySem.Spec PyProof.Rows L2 DL
local macro_rules | `(tactic| k_search ⟨$es,*⟩) => `(tactic| simp only [$[$es:term],*, ↓wVar.ap, ↓wC.ap, ↓w1.ap, ↓w2.ap, ↓wTest.ap, ↓wAnd.ap, ↓wOr.ap, ↓wNot.ap, ↓wAndV.ap, ↓wOrV.ap, ↓wNotV.ap, ↓wIf.ap, ↓wNil.ap, ↓wCons.ap, ↓wN.ap, ↓wTup.ap, ↓wTupQ.ap, ↓wLstO.ap, ↓wLst.ap, ↓wIx.ap, ↓wNoPart.ap, ↓wPart.ap, ↓wSlice.ap, ↓wSeq.ap, ↓wRange1.ap, ↓wRange2.ap, ↓wEnum.ap, ↓wZip.ap, ↓wgName.ap, ↓wgsNil.ap, ↓wgsCons.ap, ↓wgTup.ap, ↓wYes.ap, ↓wLc.ap, ↓wNext.ap, ↓wsSeq.ap, ↓wBreak.ap, ↓wCont.ap, ↓wAsg.ap, ↓wAsgF.ap, ↓wRet.ap, ↓wRetN.ap, ↓wDrop.ap, ↓wsIf.ap, ↓wFor.ap, ↓wCall.ap, ↓wAppend.ap, ↓wPop.ap, ↓wPopAt.ap, ↓wSetIx.ap, ↓wTgF.ap, ↓wPar.ap, ↓wChain.ap, ↓wCallP.ap, ↓wBoth.ap, ↓wLc2.ap, ↓wListRg1.ap, ↓wTupRg1.ap, ↓wListRg2.ap, ↓wJoin.ap, ↓opAdd_i, ↓opAdd_s, ↓opAdd_t, ↓opAdd_l, ↓opSub_i, ↓opMod_i, ↓opDiv_i, ↓opMul_i, ↓opMul_l, ↓opMul_t, ↓opPow_i, ↓opNeg_i, ↓opLt_i, ↓opLe_i, ↓opGt_i, ↓opGe_i, ↓opIs_n, ↓opIs_b, ↓opIsNot_n, ↓opIsNot_b, ↓opEq_ap, ↓opNe_ap, ↓opIn_l, ↓opIn_t, ↓opIn_s, ↓opNotIn_l, ↓opNotIn_t, ↓opNotIn_s, ↓opLen_t, ↓opLen_l, ↓opLen_r, ↓opLen_s, ↓opTuple_t, ↓opTuple_l, ↓opTuple_r, ↓opList_t, ↓opList_l, ↓opList_r, ↓opSorted_l, ↓opAbs_i, ↓opMax2_i, ↓opMin2_i, ↓opInt_i, ↓opInt_b, ↓opInt_s, ↓opStr_i, ↓opAll_l, ↓opAny_l, ↓opRev_l, ↓opIsi_ap, ↓sliceD_t, ↓sliceD_l, ↓sliceD_r, ↓outOk_ap, ↓scal_int, ↓ixl_1_0, ↓ixl_1_m, ↓ixl_2_0, ↓ixl_2_1, ↓ixl_2_m, ↓ixl_3_0, ↓ixl_3_1, ↓ixl_3_2, ↓ixl_3_m, ↓ixl_4_0, ↓ixl_4_1, ↓ixl_4_2, ↓ixl_4_3, ↓ixl_4_m, ↓wdk_some, ↓asIk_int, ↓asBk_bl, ↓asLOk_lst, ↓ifk_t, ↓ifk_f, ↓lcGok_nil, ↓forGok_nil, ↓whilek_ap, ↓popD_ap, ↓item_tup, ↓item_lst, ↓item_ro, ↓itemD_st, ↓asI_int, ↓asB_bl, ↓asLO_lst, ↓wd_some, ↓lcGo_nil, ↓forGo_nil, lk0, lkS, wd_some, asI_int, asB_bl, asLO_lst, deref_val, deref_slot, deref_sub, moveT_val, moveT_slot, elemT_val, elemT_slot, frzT_val, frzT_slot, frzTs_nil, frzTs_cons, takeTs_nil, takeTs_cons, takeT1_tv, takeT1_ts, takeT1_f, putBack_s, putBack_n, putBack_nil, outArgs_nil, outArgs_t, outArgs_f, own_lst, own_tup, own_int, own_bl, own_str, own_non, own_ro, frz_tup, frz_int, frz_bl, frz_str, frz_non, frz_ro, frz_lstF, frz_lstT, frzs_nil, frzs_cons, valsT_nil, valsT_val, derefs_nil, derefs_cons, stable_val, stable_slot, stable_sub, placeT_slot, placeT_sub, itemsD_tup, itemsD_lst, itemsD_ro, itemsD_str, seqD_tup, seqD_lst, seqD_ro, listOf_lst, listOf_ro, walk_nil, walk_lst, setP_nil2, setP_lst, item_tup, item_lst, item_ro, itemD_st, atT_val, atT_int, atT_tup, atT_str, atT_lstT, atT_lstF, subT_slot, subT_sub, popD_ap, setPlace_ap, wipeD_nil, wipeD_cons, storeD_nil, storeD_cons, wdk_some, asIk_int, asBk_bl, asLOk_lst, ifk_t, ifk_f, lcGok_nil, forGok_nil, lcGo_nil, forGo_nil, pureL_nil, pureL_cons, opAdd_i, opAdd_s, opAdd_t, opAdd_l, opSub_i, opMod_i, opDiv_i, opMul_i, opMul_l, opMul_t, opPow_i, opNeg_i, opLt_i, opLe_i, opGt_i, opGe_i, opIs_n, opIs_b, opIsNot_n, opIsNot_b, opEq_ap, opNe_ap, opIn_l, opIn_t, opIn_s, opNotIn_l, opNotIn_t, opNotIn_s, opLen_t, opLen_l, opLen_r, opLen_s, opTuple_t, opTuple_l, opTuple_r, opList_t, opList_l, opList_r, opSorted_l, opAbs_i, opMax2_i, opMin2_i, opInt_i, opInt_b, opInt_s, opStr_i, opAll_l, opAny_l, opRev_l, opIsi_ap, sliceD_t, sliceD_l, sliceD_r, outOk_ap, scal_int, ixl_1_0, ixl_1_m, ixl_2_0, ixl_2_1, ixl_2_m, ixl_3_0, ixl_3_1, ixl_3_2, ixl_3_m, ixl_4_0, ixl_4_1, ixl_4_2, ixl_4_3, ixl_4_m, Option.bind_some, Option.map_some, List.set_cons_zero, List.set_cons_succ, List.set_nil, List.length_cons, List.length_nil, List.length_set, List.getElem?_cons_zero, List.getElem?_cons_succ, List.cons_append, List.nil_append, Bool.or_true, Bool.true_or, Bool.false_or, Bool.or_false, Bool.and_true, Bool.true_and, Bool.and_false, Bool.false_and, Bool.not_true, Bool.not_false, if_true, if_false, ite_true, ite_false, Bool.false_eq_true, eq_self, true_and, and_true, false_and, and_false, Nat.reduceAdd, Nat.reduceLT, Nat.zero_add, List.filterMap_cons, List.filterMap_nil, id_eq, List.nodup_nil, List.map_cons, List.map_nil, Nat.reduceSub, List.all_nil, List.all_cons, nodup1, sz1, sz2, sz3, sz4, sz5, sz6, sz7, sz8, sz9, sz10, sz11, sz12, Nat.zero_le, enumRows, ownRows_len, ownRows_at, ownRows_set, ownRows_frz, rangeD_nat0, rangeD_nat, asInts_nats, sortN_D, Int.toNat_natCast, natsD_len, natsD_at, natsD_frz, natsD_pure, natsD_nil, rowsD_len, rowsD_at, rowsD_frz, rowsD_pure, rowT_ap, pairsD_nil, pairsD_len, pairsD_frz, pairsD_pure, pairsD_at, tabD, flat_int, natsD_flat, natsD_in, eqv_int, beq_nat, natsD_ok, deal_own, eqv_tups, natsD_eqv, ok_int, ok_tup, ok_lst, oks_nil, eqv_nil, natsD_emp, bq0, bq1, bq2, bq3, bq4, bq5, bq6, bq7, bq8, bq9, bq10, bq11, bq12, bq13, ↓wRemove.ap, ↓wLend.ap, valT_val, ownClean_nil, ownClean_cons, oclean_none, oclean_some, clean_int, clean_bl, clean_non, clean_str, clean_tup, clean_lst, clean_nil, clean_cons, clean_nats, clean_pairs, mkD, ↓opRevT_t, opRevT_t, ↓wIndex.ap, listOf_lst, listOf_ro, ixN2_ap, ↓opMulS_s, opMulS_s, ↓wEnumZ.ap, zipTOk_tup, ↓wDPut.ap, ↓wDispT.ap, ↓wNewT.ap, ↓wNewK.ap, keyT_nats, opNotInD_T, opInD_T, opNotInD_K, opInD_K, opLenD_T, opLenD_K, dput_T, dput_K, own_dT, own_dK, ↓wAugI.ap, ↓wAugL.ap, asIO_i, lstOf2_l, ↓wgoName.ap, ↓wgoIx.ap, ↓wgosNil.ap, ↓wgosCons.ap, ↓wParG.ap, asSome_s, getT_s, getT_n, dkey_K, dkey_T, isDic_T, isDic_K, ↓wDGet.ap, ↓wDGetOr.ap, ↓wRaise.ap, ↓wTryAt.ap, one1_s, hasSlot.ap])

/-! law -/
abbrev N_p_law : List Str := ["script", "deal", "turn_at", "rule", "due", "many", "loose", "rows", "x", "row", "order", "y"]
abbrev w_p_law : WS := (wsSeq (wAsg 1 (wCall [false, false] fs_law_draw (wCons true (wVar 0) (wCons true (wC (.int 37)) wNil))))
    (wsSeq (wFor (wRange1 (wCons true (wC (.int 3)) wNil)) (wgName 2) (wsSeq (wAsg 3 (wCall [true] fs_law_near_rule (wCons true (wVar 1) wNil)))
    (wsSeq (wAsg 4 (wCall [false] fs_law_due_round (wCons true (wVar 3) wNil)))
    (wsSeq (wsIf (wNot (wTest (wCall [false, false] fs_law_same (wCons true (wCall [false] fs_p_round_of (wCons true (wVar 3) wNil)) (wCons true (wVar 4) wNil))))) (wRet (wC (.bl false))) wNext)
    (wsIf (wAnd (wTest (w2 true opIsNot (wVar 4) (wC .non))) (wNot (wTest (wCall [false, false] fs_law_same (wCons true (wCall [false] fs_p_is_loose (wCons true (wVar 3) wNil)) (wCons true (w2 true opIn (wC (.int 0)) (wIx true (wVar 3) (wC (.int 0)))) wNil)))))) (wRet (wC (.bl false))) wNext)))))
    (wsSeq (wPar [5, 6] (wCons false (wCall [true, false] fs_law_of (wCons false (wVar 1) (wCons true (wLstO (wCons false (w2 false opSub (w1 opNeg (wC (.int 1))) (wCall [true, false] fs_law_any (wCons true (wVar 1) (wCons true (wC (.int 3)) wNil)))) (wCons false (wCall [true, false] fs_law_any (wCons true (wVar 1) (wCons true (wC (.int 15)) wNil))) (wCons false (wCall [true, false] fs_law_any (wCons true (wVar 1) (wCons true (wC (.int 15)) wNil))) (wCons false (w2 false opAdd (wC (.int 3)) (wCall [true, false] fs_law_any (wCons true (wVar 1) (wCons true (wC (.int 4)) wNil)))) (wCons true (wCall [true] fs_law_great (wCons true (wVar 1) wNil)) wNil)))))) wNil))) (wCons true (w2 true opEq (wCall [true, false] fs_law_any (wCons true (wVar 1) (wCons true (wC (.int 2)) wNil))) (wC (.int 0))) wNil)))
    (wsSeq (wAsg 4 (wTupQ (wCons true (wC (.str "refused")) (wCons true (wC (.int 0)) wNil))))
    (wsSeq (wsIf (wAnd (wTest (wChain true opLe opLe (wC (.int 3)) (wVar 5) (wC (.int 12)))) (wAnd (wTest (w2 true opNe (wVar 5) (wC (.int 4)))) (wOr (wTest (w2 true opGt (wVar 5) (wC (.int 4)))) (wNot (wTest (wVar 6)))))) (wsSeq (wAsg 7 (wLc [8] (wRange1 (wCons true (wVar 5) wNil)) (wgName 8) wYes (w2 true opAdd (wLstO (wCons true (w2 true opMod (wN opInt (wCons true (w2 true opAdd (wVar 8) (wC (.int 1))) wNil)) (wVar 5)) (wCons true (w2 true opMod (wN opInt (wCons true (w2 true opSub (w2 true opAdd (wVar 8) (wVar 5)) (wC (.int 1))) wNil)) (wVar 5)) wNil))) (wIf (wTest (wVar 6)) (wLstO (wCons true (wVar 8) wNil)) (wLstO wNil)))))
    (wAsg 4 (wTupQ (wCons false (wC (.str "told")) (wCons true (wN opTuple (wCons true (wLc [9] (wSeq (wVar 7)) (wgName 9) wYes (wN opTuple (wCons true (wN opSorted (wCons true (wVar 9) wNil)) wNil))) wNil)) wNil))))) wNext)
    (wsSeq (wsIf (wNot (wTest (wCall [false, false] fs_law_same (wCons true (wCall [false, false] fs_law_made (wCons true (wVar 5) (wCons true (wVar 6) wNil))) (wCons true (wVar 4) wNil))))) (wRet (wC (.bl false))) wNext)
    (wsSeq (wTgF (wgTup 3 (wgsCons (wgName 10) (wgsCons (wgName 3) (wgsCons (wgName 6) wgsNil)))) (wCall [true] fs_law_round_rule (wCons true (wVar 1) wNil)))
    (wsSeq (wsIf (wOr (wNot (wTest (wCall [false, false] fs_law_same (wCons true (wCallP [false] [0] fs_p_round_of (wBoth 0 true wNil (wCons true (wVar 3) wNil))) (wCons true (wN opTuple (wCons true (wVar 10) wNil)) wNil))))) (wNot (wTest (wCall [false, false] fs_law_same (wCons true (wCallP [false] [0] fs_p_is_loose (wBoth 0 true wNil (wCons true (wVar 3) wNil))) (wCons true (wVar 6) wNil)))))) (wRet (wC (.bl false))) wNext)
    (wsSeq (wsIf (wNot (wTest (wCall [false, false] fs_law_same (wCons false (wCallP [false, false] [1, 0] fs_p_round_rule (wBoth 0 true wNil (wCons true (wVar 6) (wCons true (wN opLen (wCons true (wVar 3) wNil)) wNil)))) (wCons true (wCall [false, false] fs_law_joined (wCons false (wN opLen (wCons true (wVar 3) wNil)) (wCons true (w2 false opAdd (wLc [8] (wRange1 (wCons true (wN opLen (wCons true (wVar 3) wNil)) wNil)) (wgName 8) wYes (wTupQ (wCons true (wVar 8) (wCons true (w2 true opMod (wN opInt (wCons true (w2 true opAdd (wVar 8) (wC (.int 1))) wNil)) (wN opLen (wCons true (wVar 3) wNil))) wNil)))) (wLc [8] (wRange1 (wCons true (wN opLen (wCons true (wVar 3) wNil)) wNil)) (wgName 8) (wTest (wVar 6)) (wTupQ (wCons true (wVar 8) (wCons true (wVar 8) wNil))))) wNil))) wNil))))) (wRet (wC (.bl false))) wNext)
    (wsSeq (wFor (wEnum (wCons true (wVar 3) wNil)) (wgTup 2 (wgsCons (wgName 8) (wgsCons (wgName 9) wgsNil))) (wFor (wSeq (wVar 9)) (wgName 11) (wsIf (wNot (wTest (wCall [false, false] fs_law_same (wCons false (wCallP [false, false, false] [0, 1, 2] fs_p_turn (wBoth 0 true wNil (wCons true (wVar 3) (wCons true (wVar 8) (wCons true (wVar 11) wNil))))) (wCons true (wCall [false, false, false] fs_law_turned37 (wCons false (wN opLen (wCons true (wVar 3) wNil)) (wCons false (wIndex true (wVar 10) (wCons true (wVar 8) wNil)) (wCons true (wIndex true (wVar 10) (wCons true (wVar 11) wNil)) wNil)))) wNil))))) (wRet (wC (.bl false))) wNext)))
    (wRet (wC (.bl true)))))))))))))
abbrev io_p_law : List Bool := [false]

theorem st_p_law (a0 : D) : startD N_p_law [a0] = [some a0, none, none, none, none, none, none, none, none, none, none, none] := rfl
theorem plain_nats37 (n : Nat) (l : List Nat) (h : l.length ≤ 100000) : plain (n + 1) (.tup (natsD l)) = true := by
  show (decide ((natsD l).length ≤ 100000) && (natsD l).all (plain n)) = true
  rw [natsD_len, decide_eq_true h, Bool.true_and, List.all_eq_true]
  intro d hd
  obtain ⟨x, _, rfl⟩ := List.mem_map.mp hd
  cases n <;> rfl
theorem plain_tab37 (n : Nat) (t : List (List Nat)) (h : t.length ≤ 100000) (h2 : ∀ r ∈ t, r.length ≤ 100000) : plain (n + 2) (tabD t) = true := by
  show (decide ((rowsD t).length ≤ 100000) && (rowsD t).all (plain (n + 1))) = true
  rw [rowsD_len, decide_eq_true h, Bool.true_and, List.all_eq_true]
  intro d hd
  obtain ⟨x, hx, rfl⟩ := List.mem_map.mp hd
  exact plain_nats37 n x (h2 x hx)
theorem RO_cases {n : Nat} {r : List (List Nat)} (G : Graph n r) (h0 : 0 < n) (hn : n ≤ 100) : RO r n = .non ∨ ∃ o : List Nat, o.length ≤ 100 ∧ RO r n = .tup (natsD o) := by
  unfold RO
  split
  · refine .inr ⟨_, ?_, rfl⟩
    have := (walk_path G n [0] (PathR.one h0)).len
    omega
  · exact .inl rfl
theorem range3b : rangeD 0 (3 : Int).toNat = natsD (List.range 3) := rfl
theorem sortN_len (l : List Nat) : (sortN l).length = l.length := (sortN_perm l).length_eq
theorem roundR_row (n : Nat) (b : Bool) {x : Nat} (hx : x < n) : row (roundR n b) x = sortN ([(x + 1) % n, (x + n - 1) % n] ++ if b = true then [x] else []) := by
  unfold row roundR
  simp [hx]
theorem roundR_joi {n : Nat} {b : Bool} {t : List (List Nat)} (h3 : 3 ≤ n) (T : Rul n t) (J : Joi (ringP (List.range n) n b) t) : t = roundR n b := by
  have lt := T.toGraph.len
  have O : ∀ i, i < n → mk (List.range n) i = i := fun i hi => by unfold mk; simp [hi]
  have lr : (roundR n b).length = n := by unfold roundR; simp
  apply List.ext_getElem (by rw [lt, lr])
  intro x h1 h2
  have hx : x < n := by omega
  have e1 : t[x] = row t x := by unfold row; simp [h1]
  have e2 : (roundR n b)[x] = row (roundR n b) x := by unfold row; simp [h2]
  rw [e1, e2, roundR_row n b hx]
  have m1 : (x + 1) % n ≠ (x + n - 1) % n := fun e => by
    by_cases h0 : x = 0
    · subst h0
      rw [Nat.zero_add, Nat.zero_add, Nat.mod_eq_of_lt (by omega : 1 < n), Nat.mod_eq_of_lt (by omega : n - 1 < n)] at e
      omega
    · rw [show x + n - 1 = (x - 1) + n by omega, Nat.add_mod_right, Nat.mod_eq_of_lt (by omega : x - 1 < n)] at e
      by_cases h : x + 1 < n
      · rw [Nat.mod_eq_of_lt h] at e; omega
      · rw [show x + 1 = n by omega, Nat.mod_self] at e; omega
  have m2 : (x + 1) % n ≠ x := fun e => by
    by_cases h : x + 1 < n
    · rw [Nat.mod_eq_of_lt h] at e; omega
    · rw [show x + 1 = n by omega, Nat.mod_self] at e; omega
  have m3 : (x + n - 1) % n ≠ x := fun e => by
    by_cases h0 : x = 0
    · subst h0
      rw [Nat.zero_add, Nat.mod_eq_of_lt (by omega : n - 1 < n)] at e; omega
    · rw [show x + n - 1 = (x - 1) + n by omega, Nat.add_mod_right, Nat.mod_eq_of_lt (by omega : x - 1 < n)] at e; omega
  have nd : ([(x + 1) % n, (x + n - 1) % n] ++ if b = true then [x] else []).Nodup := by
    cases b <;> simp [m1, m2, m3]
  refine sorted_ext2 (T.srt x) (sortN_lt nd) fun z => ?_
  rw [(sortN_perm _).mem_iff, J, mem_ring, mem_ring]
  constructor
  · rintro ((⟨i, hi, q1, q2⟩ | ⟨hb, e, _⟩) | ⟨i, hi, q1, q2⟩ | ⟨hb, e, _⟩)
    · rw [O i hi] at q1
      rw [O _ (Nat.mod_lt _ (by omega)), q1] at q2
      simp [← q2]
    · simp [hb, e]
    · rw [O i hi] at q1
      rw [O _ (Nat.mod_lt _ (by omega))] at q2
      have : z = (x + n - 1) % n := by
        rw [← q2, ← q1]
        by_cases h : i + 1 < n
        · rw [Nat.mod_eq_of_lt h, show i + 1 + n - 1 = i + n by omega, Nat.add_mod_right, Nat.mod_eq_of_lt hi]
        · rw [show i + 1 = n by omega, Nat.mod_self, Nat.zero_add, Nat.mod_eq_of_lt (by omega)]; omega
      simp [← this]
    · simp [hb, e]
  · intro h
    have h : z = (x + 1) % n ∨ z = (x + n - 1) % n ∨ (b = true ∧ z = x) := by
      cases b <;> simp at h <;> simp
      · exact h
      · exact h
    rcases h with rfl | rfl | ⟨hb, rfl⟩
    · exact .inl (.inl ⟨x, hx, O x hx, O _ (Nat.mod_lt _ (by omega))⟩)
    · refine .inr (.inl ⟨(x + n - 1) % n, Nat.mod_lt _ (by omega), O _ (Nat.mod_lt _ (by omega)), ?_⟩)
      have : ((x + n - 1) % n + 1) % n = x := by
        by_cases h0 : x = 0
        · subst h0
          rw [Nat.zero_add, Nat.mod_eq_of_lt (by omega : n - 1 < n), show n - 1 + 1 = n by omega, Nat.mod_self]
        · rw [show x + n - 1 = (x - 1) + n by omega, Nat.add_mod_right, Nat.mod_eq_of_lt (by omega : x - 1 < n), Nat.mod_eq_of_lt (by omega)]; omega
      rw [this]; exact O x hx
    · exact .inl (.inr ⟨hb, rfl, hx⟩)
theorem pm0 {α : Type} (a : α) : permL [0] [a] = [a] := Eq.trans rfl rfl
theorem ip0 : ([0] : List Nat).isPerm (List.range 1) = true := by decide
theorem pm10 {α : Type} (a b : α) : permL [1, 0] [a, b] = [b, a] := Eq.trans rfl rfl
theorem ip10 : ([1, 0] : List Nat).isPerm (List.range 2) = true := by decide
theorem pm012 {α : Type} (a b c : α) : permL [0, 1, 2] [a, b, c] = [a, b, c] := Eq.trans rfl rfl
theorem ip012 : ([0, 1, 2] : List Nat).isPerm (List.range 3) = true := by decide
/-- a name for the rule itself (so that it is not met as the ascending round's) -/
abbrev roundRr (r : List (List Nat)) : List (List Nat) := r
theorem ring_loop {n : Nat} {o : List Nat} {r : List (List Nat)} {b : Bool} (O : Order n o) (hn : 3 ≤ n) (J : Joi (ringP o n b) r) : decide (0 ∈ row r 0) = b := by
  have h := ring_row O hn J (i := 0) (by omega) 0
  have h0 := O.hd
  have n1 := (ring_aside O hn J (i := 0) (by omega) (mk o ((0 + 1) % n))).mpr (.inl rfl)
  have n2 := (ring_aside O hn J (i := 0) (by omega) (mk o ((0 + n - 1) % n))).mpr (.inr rfl)
  rw [h0] at n1 n2 h
  have n1 := (mem_aside.mp n1).2
  have n2 := (mem_aside.mp n2).2
  cases b with
  | true => exact decide_eq_true (h.mpr (.inr (.inr ⟨rfl, rfl⟩)))
  | false =>
    refine decide_eq_false fun z => ?_
    rcases h.mp z with e | e | e
    · exact n1 e.symm
    · exact n2 e.symm
    · cases e.1
theorem ringP_id {n : Nat} {b : Bool} : ringP (List.range n) n b = ((List.range n).map fun x => (x, (x + 1) % n)) ++ if b = true then (List.range n).map fun x => (x, x) else [] := by
  unfold ringP
  congr 1
  refine List.map_congr_left fun x hx => ?_
  have hx := List.mem_range.mp hx
  have e : ∀ i, i < n → mk (List.range n) i = i := fun i hi => by unfold mk; simp [hi]
  rw [e x hx, e _ (Nat.mod_lt _ (by omega))]
def fs_p_law : FS := fun ds Φ Ψ => ∃ (ns : List Int), ds = [.ro (ns.map D.int)] ∧ ns.length ≤ 63 ∧ Φ (.bl true) [.ro (ns.map D.int)]
theorem hl_p_law : ∀ ds Φ Ψ, fs_p_law ds Φ Ψ → ds.length = 1 := by
  rintro ds Φ Ψ ⟨_, rfl, _⟩
  rfl
theorem h_p_law : ∀ ds Φ Ψ, fs_p_law ds Φ Ψ → w_p_law ⟨fun ρ => outOk io_p_law ds ρ (Φ .non), fun d ρ => outOk io_p_law ds ρ (Φ d), fun _ => False, fun _ => False⟩ (fun x ρ => outOk io_p_law ds ρ (Ψ x)) (startD N_p_law ds) := by
  rintro ds Φ Ψ ⟨ns, rfl, hns, hΦ⟩
  k_search ⟨st_p_law, w_p_law, io_p_law⟩
  refine ⟨ns, 37, rfl, by omega, by omega, fun s => ?_⟩
  k_search ⟨range3b, io_p_law⟩
  refine ⟨by unfold rgOk; omega, ?_⟩
  refine for_ty (fun n : Nat => D.int (n : Nat)) (I := fun l ρ => ∃ (s : DealS) (x2 x3 x4 : Option D), ρ = [some (.ro (ns.map D.int)), some (dealD s), x2, x3, x4, none, none, none, none, none, none, none]) ?_ ?_ _ _ ⟨s, none, none, none, rfl⟩
  · rintro turn l k hk ρ ⟨s, x2, x3, x4, rfl⟩
    k_search ⟨io_p_law⟩
    refine ⟨s, rfl, fun s1 n r R h1 h12 => ?_⟩
    have G := R.toGraph
    have lr := G.len
    k_search ⟨io_p_law⟩
    refine ⟨r, n, rfl, G, by omega, by omega, ?_⟩
    have cc : inD (.int 0) (natsD (row r 0)) = decide (0 ∈ row r 0) := by
      rw [show (D.int 0) = D.int ((0 : Nat) : Int) from rfl, natsD_in]; simp
    have i0 : ixN r.length 0 = some 0 := ixN_0 (by omega)
    have r0 : r[0]? = some (row r 0) := row_at (by omega)
    rcases RO_cases G (by omega) (by omega : n ≤ 100) with hR | ⟨o, hol, hR⟩
    · k_search ⟨hR, io_p_law⟩
      refine ⟨r, n, rfl, G, by omega, by omega, ?_⟩
      k_search ⟨hR, io_p_law⟩
      refine ⟨.non, rfl, rfl, ?_⟩
      have i1 : D.isNon .non = true := rfl
      k_search ⟨i1, io_p_law⟩
      exact hk _ ⟨s1, _, _, _, rfl⟩
    · k_search ⟨hR, io_p_law⟩
      refine ⟨r, n, rfl, G, by omega, by omega, ?_⟩
      k_search ⟨hR, io_p_law⟩
      refine ⟨_, rfl, plain_nats37 4 o (by omega), ?_⟩
      have i1 : D.isNon (.tup (natsD o)) = false := rfl
      k_search ⟨i1, io_p_law⟩
      refine ⟨r, n, rfl, G, by omega, by omega, ?_⟩
      k_search ⟨i0, r0, cc, io_p_law⟩
      refine ⟨_, rfl, rfl, ?_⟩
      k_search ⟨io_p_law⟩
      exact hk _ ⟨s1, _, _, _, rfl⟩
  rintro ρ ⟨s, x2, x3, x4, rfl⟩
  k_search ⟨io_p_law⟩
  refine ⟨s, 3, rfl, by omega, by omega, fun s1 a1 h1 => ?_⟩
  k_search ⟨io_p_law⟩
  refine ⟨s1, 15, rfl, by omega, by omega, fun s2 a2 h2 => ?_⟩
  k_search ⟨io_p_law⟩
  refine ⟨s2, 15, rfl, by omega, by omega, fun s3 a3 h3 => ?_⟩
  k_search ⟨io_p_law⟩
  refine ⟨s3, 4, rfl, by omega, by omega, fun s4 a4 h4 => ?_⟩
  k_search ⟨io_p_law⟩
  refine ⟨s4, rfl, fun s5 a5 h5 => ?_⟩
  k_search ⟨io_p_law⟩
  refine ⟨s5, [-1 - (a1 : Int), a2, a3, 3 + (a4 : Int), a5].map D.int, _, rfl, Or.inl rfl, by simp, by simp, fun s6 i x hx => ?_⟩
  obtain ⟨m, hm, rfl⟩ := dealOfInts hx
  have hm : m.natAbs < 10 ^ 13 := by
    have h : m = -1 - (a1 : Int) ∨ m = a2 ∨ m = a3 ∨ m = 3 + (a4 : Int) ∨ m = a5 := by simpa using hm
    omega
  k_search ⟨io_p_law⟩
  refine ⟨s6, 2, rfl, by omega, by omega, fun s7 v hv => ?_⟩
  obtain ⟨b, hb⟩ : ∃ b : Bool, ((v : Int) == 0) = b := ⟨_, rfl⟩
  k_search ⟨hb, io_p_law⟩
  have hcase : m < 3 ∨ (3 ≤ m ∧ 12 < m) ∨ (3 ≤ m ∧ m ≤ 12 ∧ m = 4) ∨ (3 ≤ m ∧ m ≤ 12 ∧ m ≠ 4 ∧ ¬ 4 < m ∧ b = true) ∨ (3 ≤ m ∧ m ≤ 12 ∧ m ≠ 4 ∧ (4 < m ∨ (¬ 4 < m ∧ b = false))) := by
    cases b <;> simp <;> omega
  refine hcase.elim (fun c1 => ?a) fun q => q.elim (fun ⟨c1, c2⟩ => ?b) fun q => q.elim (fun ⟨c1, c2, c3⟩ => ?c) fun q => q.elim (fun ⟨c1, c2, c3, c4, c5⟩ => ?d) fun ⟨c1, c2, c3, c4⟩ => ?e
  case' a =>
    have e1 : decide ((3 : Int) ≤ m) = false := decide_eq_false (by omega)
    have hno : roundOk m b = false := by
      unfold roundOk
      cases b
      · rw [decide_eq_false (by simp; omega)]; rfl
      · rw [decide_eq_false (by simp; omega)]; rfl
    k_search ⟨e1, io_p_law⟩
    refine ⟨m, b, rfl, by omega, ?_⟩
    rw [hno]
    k_search ⟨io_p_law⟩
    refine ⟨_, rfl, rfl, ?_⟩
    k_search ⟨io_p_law⟩
  case' b =>
    have e1 : decide ((3 : Int) ≤ m) = true := decide_eq_true (by omega)
    have e2 : decide (m ≤ 12) = false := decide_eq_false (by omega)
    have hno : roundOk m b = false := by
      unfold roundOk
      rw [e2, Bool.false_and, Bool.and_false]
    k_search ⟨e1, e2, io_p_law⟩
    refine ⟨m, b, rfl, by omega, ?_⟩
    rw [hno]
    k_search ⟨io_p_law⟩
    refine ⟨_, rfl, rfl, ?_⟩
    k_search ⟨io_p_law⟩
  case' c =>
    have e1 : decide ((3 : Int) ≤ m) = true := decide_eq_true (by omega)
    have e2 : decide (m ≤ 12) = true := decide_eq_true (by omega)
    have e3 : (m == 4) = true := by rw [c3]; rfl
    have hno : roundOk m b = false := by
      unfold roundOk
      rw [decide_eq_false (fun h : m ≠ 4 => h c3), Bool.and_false, Bool.and_false]
    k_search ⟨e1, e2, e3, io_p_law⟩
    refine ⟨m, b, rfl, by omega, ?_⟩
    rw [hno]
    k_search ⟨io_p_law⟩
    refine ⟨_, rfl, rfl, ?_⟩
    k_search ⟨io_p_law⟩
  case' d =>
    have e1 : decide ((3 : Int) ≤ m) = true := decide_eq_true (by omega)
    have e2 : decide (m ≤ 12) = true := decide_eq_true (by omega)
    have e3 : (m == 4) = false := beq_eq_false_iff_ne.mpr c3
    have e4 : decide (4 < m) = false := decide_eq_false c4
    have hno : roundOk m b = false := by
      unfold roundOk
      rw [c5, if_pos rfl, decide_eq_false (by omega)]; rfl
    k_search ⟨e1, e2, e3, e4, c5, io_p_law⟩
    refine ⟨m, true, rfl, by omega, ?_⟩
    rw [c5] at hno
    rw [hno]
    k_search ⟨io_p_law⟩
    refine ⟨_, rfl, rfl, ?_⟩
    k_search ⟨io_p_law⟩
  case' e =>
    have e1 : decide ((3 : Int) ≤ m) = true := decide_eq_true (by omega)
    have e2 : decide (m ≤ 12) = true := decide_eq_true (by omega)
    have e3 : (m == 4) = false := beq_eq_false_iff_ne.mpr c3
    have hyes : roundOk m b = true := by
      unfold roundOk
      rw [e2, decide_eq_true c3, Bool.true_and, Bool.and_true]
      cases b
      · exact decide_eq_true (by simp; omega)
      · refine decide_eq_true ?_
        rcases c4 with h | ⟨_, h⟩
        · simp; omega
        · cases h
    obtain ⟨k, rfl⟩ : ∃ k : Nat, m = k := ⟨m.toNat, by omega⟩
    have ek : (k : Int).toNat = k := by omega
    have m1 : ∀ x : Nat, ((x : Int) + 1) % (k : Int) = (((x + 1) % k : Nat) : Int) := fun x => by norm_cast
    have m2 : ∀ x : Nat, ((x : Int) + (k : Int) - 1) % (k : Int) = (((x + k - 1) % k : Nat) : Int) := fun x => by
      have e : (x : Int) + (k : Int) - 1 = ((x + k - 1 : Nat) : Int) := by omega
      rw [e]; norm_cast
    have done : ∀ rest : Bool, rest = rest := fun _ => rfl
    rcases c4 with c4 | ⟨c4, rfl⟩
    case' inl => have e4 : decide ((4 : Int) < (k : Int)) = true := decide_eq_true c4
    case' inr => have e4 : decide ((4 : Int) < (k : Int)) = false := decide_eq_false c4
    case' inl => cases b
    all_goals
      k_search ⟨e1, e2, e3, e4, io_p_law⟩
      refine ⟨by unfold rgOk; omega, ?_⟩
    case' inl.true =>
      refine lc_map (fun n : Nat => D.int (n : Nat)) (fun x => D.lst true (natsD [(x + 1) % k, (x + k - 1) % k, x])) ?_ (by rw [List.length_range]; exact size100 (by omega)) ?_
      · intro x hx acc kk hacc h
        k_search ⟨m1, m2, io_p_law⟩
        exact ⟨by omega, by omega, hacc, h⟩
      k_search ⟨io_p_law⟩
      rw [frzs_rows fun x => [(x + 1) % k, (x + k - 1) % k, x]]
      refine lc_map (fun ro : List Nat => D.lst false (natsD ro)) (fun ro => D.tup (natsD (sortN ro))) (l := (List.range k).map fun x => [(x + 1) % k, (x + k - 1) % k, x]) ?_ (by rw [List.length_map, List.length_range]; exact size100 (by omega)) ?_
      · intro ro hro acc kk hacc h
        k_search ⟨io_p_law⟩
        exact ⟨hacc, h⟩
      have er : ((List.range k).map fun x => [(x + 1) % k, (x + k - 1) % k, x]).map (fun ro => D.tup (natsD (sortN ro))) = rowsD (roundR k true) := by
        simp [roundR, rowsD, List.map_map, Function.comp_def]
        exact fun _ _ => rfl
      rw [er]
      k_search ⟨rowsD_pure, io_p_law⟩
      refine ⟨k, true, rfl, by omega, ?_⟩
      rw [hyes, ek]
      k_search ⟨io_p_law⟩
      refine ⟨_, rfl, ?_, ?_⟩
      case' refine_1 =>
        show (decide (2 ≤ 100000) && [D.str "told", tabD (roundR k true)].all (plain 4)) = true
        have := plain_tab37 2 (roundR k true) (by unfold roundR; simp; omega) (fun q hq => by
          obtain ⟨x, hx, rfl⟩ := List.mem_map.mp hq
          rw [sortN_len]
          simp)
        simp only [List.all_cons, List.all_nil, this]
        rfl
      case' refine_2 => k_search ⟨io_p_law⟩
    case' inl.false =>
      refine lc_map (fun n : Nat => D.int (n : Nat)) (fun x => D.lst true (natsD [(x + 1) % k, (x + k - 1) % k])) ?_ (by rw [List.length_range]; exact size100 (by omega)) ?_
      · intro x hx acc kk hacc h
        k_search ⟨m1, m2, io_p_law⟩
        exact ⟨by omega, by omega, hacc, h⟩
      k_search ⟨io_p_law⟩
      rw [frzs_rows fun x => [(x + 1) % k, (x + k - 1) % k]]
      refine lc_map (fun ro : List Nat => D.lst false (natsD ro)) (fun ro => D.tup (natsD (sortN ro))) (l := (List.range k).map fun x => [(x + 1) % k, (x + k - 1) % k]) ?_ (by rw [List.length_map, List.length_range]; exact size100 (by omega)) ?_
      · intro ro hro acc kk hacc h
        k_search ⟨io_p_law⟩
        exact ⟨hacc, h⟩
      have er : ((List.range k).map fun x => [(x + 1) % k, (x + k - 1) % k]).map (fun ro => D.tup (natsD (sortN ro))) = rowsD (roundR k false) := by
        simp [roundR, rowsD, List.map_map, Function.comp_def]
        exact fun _ _ => rfl
      rw [er]
      k_search ⟨rowsD_pure, io_p_law⟩
      refine ⟨k, false, rfl, by omega, ?_⟩
      rw [hyes, ek]
      k_search ⟨io_p_law⟩
      refine ⟨_, rfl, ?_, ?_⟩
      case' refine_1 =>
        show (decide (2 ≤ 100000) && [D.str "told", tabD (roundR k false)].all (plain 4)) = true
        have := plain_tab37 2 (roundR k false) (by unfold roundR; simp; omega) (fun q hq => by
          obtain ⟨x, hx, rfl⟩ := List.mem_map.mp hq
          rw [sortN_len]
          simp)
        simp only [List.all_cons, List.all_nil, this]
        rfl
      case' refine_2 => k_search ⟨io_p_law⟩
    case' inr =>
      refine lc_map (fun n : Nat => D.int (n : Nat)) (fun x => D.lst true (natsD [(x + 1) % k, (x + k - 1) % k])) ?_ (by rw [List.length_range]; exact size100 (by omega)) ?_
      · intro x hx acc kk hacc h
        k_search ⟨m1, m2, io_p_law⟩
        exact ⟨by omega, by omega, hacc, h⟩
      k_search ⟨io_p_law⟩
      rw [frzs_rows fun x => [(x + 1) % k, (x + k - 1) % k]]
      refine lc_map (fun ro : List Nat => D.lst false (natsD ro)) (fun ro => D.tup (natsD (sortN ro))) (l := (List.range k).map fun x => [(x + 1) % k, (x + k - 1) % k]) ?_ (by rw [List.length_map, List.length_range]; exact size100 (by omega)) ?_
      · intro ro hro acc kk hacc h
        k_search ⟨io_p_law⟩
        exact ⟨hacc, h⟩
      have er : ((List.range k).map fun x => [(x + 1) % k, (x + k - 1) % k]).map (fun ro => D.tup (natsD (sortN ro))) = rowsD (roundR k false) := by
        simp [roundR, rowsD, List.map_map, Function.comp_def]
        exact fun _ _ => rfl
      rw [er]
      k_search ⟨rowsD_pure, io_p_law⟩
      refine ⟨k, false, rfl, by omega, ?_⟩
      rw [hyes, ek]
      k_search ⟨io_p_law⟩
      refine ⟨_, rfl, ?_, ?_⟩
      case' refine_1 =>
        show (decide (2 ≤ 100000) && [D.str "told", tabD (roundR k false)].all (plain 4)) = true
        have := plain_tab37 2 (roundR k false) (by unfold roundR; simp; omega) (fun q hq => by
          obtain ⟨x, hx, rfl⟩ := List.mem_map.mp hq
          rw [sortN_len]
          simp)
        simp only [List.all_cons, List.all_nil, this]
        rfl
      case' refine_2 => k_search ⟨io_p_law⟩
    all_goals
      skip
  all_goals
    refine ⟨s7, rfl, fun s8 n b o r R h3 h12 h4 h5 => ?_⟩
    have O := R.ord
    have G := R.rul.toGraph
    have lr := G.len
    have lo := O.len
    have hRO := ring_RO R.rul O h3 h4 h5 R.joi
    k_search ⟨ip0, pm0, io_p_law⟩
    refine ⟨r, n, rfl, G, by omega, by omega, ?_⟩
    k_search ⟨hRO, io_p_law⟩
    refine ⟨_, rfl, plain_nats37 4 o (by omega), ?_⟩
    k_search ⟨ip0, pm0, io_p_law⟩
    refine ⟨r, n, rfl, G, by omega, by omega, ?_⟩
    rw [ring_loop O h3 R.joi]
    k_search ⟨io_p_law⟩
    refine ⟨_, rfl, rfl, ?_⟩
    k_search ⟨lr, ip10, pm10, io_p_law⟩
    refine ⟨n, b, rfl, by omega, fun _ => ?_, fun hz => ?_⟩
    case' refine_2 =>
      exfalso
      unfold roundOk at hz
      rw [decide_eq_true (by omega : (n : Int) ≤ 12), decide_eq_true (by omega : (n : Int) ≠ 4), Bool.and_true, Bool.and_true] at hz
      have := of_decide_eq_false hz
      cases b with
      | true => have := h5 rfl; simp at *; omega
      | false => simp at *; omega
    have en : (n : Int).toNat = n := by omega
    rw [en]
    k_search ⟨lr, io_p_law⟩
    refine ⟨by unfold rgOk; omega, ?_⟩
    refine lc_map (fun n : Nat => D.int (n : Nat)) (fun x => DL.pairD (x, (x + 1) % n)) ?_ (by rw [List.length_range]; exact size100 (by omega)) ?_
    · intro x hx acc kk hacc h
      k_search ⟨lr, modn_cast, io_p_law⟩
      exact ⟨by omega, hacc, h⟩
    rw [pairsD_map _ fun x => (x, (x + 1) % n)]
    k_search ⟨lr, io_p_law⟩
    refine ⟨by unfold rgOk; omega, ?_⟩
    refine lc_fn (fun n : Nat => D.int (n : Nat)) (fun _ => b) (fun x => DL.pairD (x, x)) ?_ (by rw [List.length_range]; exact size100 (by omega)) ?_
    · intro x hx acc kk hacc h
      cases b
      · k_search ⟨io_p_law⟩
        exact h
      · k_search ⟨io_p_law⟩
        exact ⟨hacc, h⟩
    have eb : ((List.range n).filter fun _ => b) = if b = true then List.range n else [] := by
      cases b <;> simp
    have e2 : pairsD ((List.range n).map fun x => (x, (x + 1) % n)) ++ (((List.range n).filter fun _ => b).map fun x => DL.pairD (x, x)) = pairsD (ringP (List.range n) n b) := by
      rw [ringP_id, pairsD_app, eb, pairsD_map (if b = true then List.range n else []) fun x => (x, x)]
      cases b <;> rfl
    have e3 : ((List.range n).map fun x => (x, (x + 1) % n)).length + (((List.range n).filter fun _ => b).map fun x => DL.pairD (x, x)).length ≤ sizeLine := by
      rw [eb]
      refine size100 ?_
      cases b <;> simp <;> omega
    have e4 : pureL (((List.range n).filter fun _ => b).map fun x => DL.pairD (x, x)) = true := by
      rw [pairsD_map _ fun x => (x, x)]
      exact pairsD_pure _
    k_search ⟨e2, lr, io_p_law⟩
    refine ⟨e4, e3, n, ringP (List.range n) n b, rfl, by omega, fun p hp => ?_, fun t T J => ?_⟩
    case' refine_1 =>
      rcases (mem_ring p.2 p.1).mp hp with ⟨i, hi, q1, q2⟩ | ⟨_, q1, q2⟩
      · have e : ∀ i, i < n → mk (List.range n) i = i := fun i hi => by unfold mk; simp [hi]
        rw [← q1, ← q2, e i hi, e _ (Nat.mod_lt _ (by omega))]
        exact ⟨hi, Nat.mod_lt _ (by omega)⟩
      · exact ⟨q2, by rw [← q1]; exact q2⟩
    have et := roundR_joi h3 T J
    subst et
    k_search ⟨io_p_law⟩
    refine ⟨_, rfl, plain_tab37 3 _ (by rw [T.toGraph.len]; omega) (fun q hq => by
      obtain ⟨x, _, rfl⟩ := row_of hq
      exact Nat.le_trans (T.toGraph.few x) (by omega)), ?_⟩
    k_search ⟨lr, io_p_law⟩
    refine for_ty _ (I := fun l ρ => ∃ (s : DealS) (x2 x4 x5 x6 x7 x8 x9 x11 : Option D), (∀ x ∈ l, x < n) ∧ ρ = [some (.ro (ns.map D.int)), some (dealD s), x2, some (tabD (roundRr r)), x4, x5, x6, x7, x8, x9, some (.lst false (natsD o)), x11]) ?_ ?_ _ _ ⟨s8, _, _, _, _, _, _, _, _, fun x hx => List.mem_range.mp hx, rfl⟩
    · rintro x l k hk ρ ⟨s, x2, x4, x5, x6, x7, x8, x9, x11, hl, rfl⟩
      have hx := hl x List.mem_cons_self
      k_search ⟨roundRr, io_p_law⟩
      refine for_ty (fun n : Nat => D.int (n : Nat)) (I := fun l ρ => ∃ (s : DealS) (x2 x4 x5 x6 x7 x9 x11 : Option D), (∀ y ∈ l, y < n) ∧ ρ = [some (.ro (ns.map D.int)), some (dealD s), x2, some (tabD (roundRr r)), x4, x5, x6, x7, some (.int x), x9, some (.lst false (natsD o)), x11]) ?_ ?_ _ _ ⟨s, _, _, _, _, _, _, _, fun y hy => G.lt x y hy, rfl⟩
      · rintro y l2 k2 hk2 ρ ⟨s, x2, x4, x5, x6, x7, x9, x11, hl2, rfl⟩
        have hy := hl2 y List.mem_cons_self
        obtain ⟨i, hi, rfl⟩ := O.onto hx
        obtain ⟨j, hj, rfl⟩ := O.onto hy
        have xi : ∀ i, i < n → (mk o i : Int) ∈ o.map Int.ofNat ∧ ixOf (o.map Int.ofNat) (mk o i : Int) = i := fun i hi => by
          have m1 : mk o i ∈ o := List.mem_of_getElem? (mk_at (m := o) (p := i) (by omega))
          refine ⟨List.mem_map.mpr ⟨_, m1, rfl⟩, ?_⟩
          have := ixN2_at m1
          exact nodup_inj O.nd this (mk_at (by omega))
        k_search ⟨ip012, pm012, roundRr, io_p_law⟩
        refine ⟨r, n, o, i, j, rfl, G, by omega, by omega, hRO, fun i hi => O.lt hi, fun i j hi hj h => O.inj hi hj h, lo, hi, hj, ?_⟩
        have a1 := (xi i hi).1
        have a2 := (xi j hj).1
        have b1 := (xi i hi).2
        have b2 := (xi j hj).2
        have ixi : ixN2 o (mk o i) = i := b1
        have ixj : ixN2 o (mk o j) = j := b2
        k_search ⟨lr, b1, b2, ixi, ixj, io_p_law⟩
        refine ⟨a1, a2, n, i, j, rfl, by omega, ?_⟩
        k_search ⟨io_p_law⟩
        refine ⟨_, rfl, rfl, ?_⟩
        k_search ⟨io_p_law⟩
        exact hk2 _ ⟨s, _, _, _, _, _, _, _, fun y hy => hl2 y (List.mem_cons_of_mem _ hy), rfl⟩
      · rintro ρ ⟨s, x2, x4, x5, x6, x7, x9, x11, hl2, rfl⟩
        exact hk _ ⟨s, _, _, _, _, _, _, _, _, fun y hy => hl y (List.mem_cons_of_mem _ hy), rfl⟩
    · rintro ρ ⟨s, x2, x4, x5, x6, x7, x8, x9, x11, hl, rfl⟩
      k_search ⟨io_p_law⟩
      exact hΦ

end LX

set_option maxHeartbeats 0
namespace LX
open PySem PySem.Spec PyProof.Rows L2 DL
def topS (i : Nat) : Stmt := PySem.Challenge.pw_foldaway_k37_whole_round_rules.main.body.getD i (.Pass ⟨0, 0, 0, 0⟩)

abbrev s_p_steps_aside : Stmt := topS 5
theorem sc_p_steps_aside : FnScope N_p_steps_aside ["rule", "x"] (defScope s_p_steps_aside) := ⟨rfl, rfl, rfl, by decide +kernel, rfl, by decide +kernel, by decide +kernel⟩

abbrev s_p_round_of : Stmt := topS 6
theorem sc_p_round_of : FnScope N_p_round_of ["rule"] (defScope s_p_round_of) := ⟨rfl, rfl, rfl, by decide +kernel, rfl, by decide +kernel, by decide +kernel⟩

abbrev s_p_is_loose : Stmt := topS 7
theorem sc_p_is_loose : FnScope N_p_is_loose ["rule"] (defScope s_p_is_loose) := ⟨rfl, rfl, rfl, by decide +kernel, rfl, by decide +kernel, by decide +kernel⟩

abbrev s_p_round_rule : Stmt := topS 8
theorem sc_p_round_rule : FnScope N_p_round_rule ["many", "loose"] (defScope s_p_round_rule) := ⟨rfl, rfl, rfl, by decide +kernel, rfl, by decide +kernel, by decide +kernel⟩

abbrev s_p_spots : Stmt := topS 9
theorem sc_p_spots : FnScope N_p_spots ["rule"] (defScope s_p_spots) := ⟨rfl, rfl, rfl, by decide +kernel, rfl, by decide +kernel, by decide +kernel⟩

abbrev s_p_rest : Stmt := topS 10
theorem sc_p_rest : FnScope N_p_rest ["number", "many"] (defScope s_p_rest) := ⟨rfl, rfl, rfl, by decide +kernel, rfl, by decide +kernel, by decide +kernel⟩

abbrev s_p_turned : Stmt := topS 11
theorem sc_p_turned : FnScope N_p_turned ["many", "x", "y"] (defScope s_p_turned) := ⟨rfl, rfl, rfl, by decide +kernel, rfl, by decide +kernel, by decide +kernel⟩

abbrev s_p_turn : Stmt := topS 12
theorem sc_p_turn : FnScope N_p_turn ["rule", "x", "y"] (defScope s_p_turn) := ⟨rfl, rfl, rfl, by decide +kernel, rfl, by decide +kernel, by decide +kernel⟩

abbrev s_law_draw : Stmt := topS 14
theorem sc_law_draw : FnScope N_law_draw ["script", "salt"] (defScope s_law_draw) := ⟨rfl, rfl, rfl, by decide +kernel, rfl, by decide +kernel, by decide +kernel⟩

abbrev N_law_any_b : List Str := ["deal", "bound", "rest_v"]
abbrev s_law_any : Stmt := topS 15
theorem sc_law_any : FnScope N_law_any_b ["deal", "bound"] (defScope s_law_any) := ⟨rfl, rfl, rfl, by decide +kernel, rfl, by decide +kernel, by decide +kernel⟩

abbrev s_law_of : Stmt := topS 16
theorem sc_law_of : FnScope N_law_of ["deal", "some"] (defScope s_law_of) := ⟨rfl, rfl, rfl, by decide +kernel, rfl, by decide +kernel, by decide +kernel⟩

abbrev s_law_mixed : Stmt := topS 17
theorem sc_law_mixed : FnScope N_law_mixed ["deal", "some"] (defScope s_law_mixed) := ⟨rfl, rfl, rfl, by decide +kernel, rfl, by decide +kernel, by decide +kernel⟩

abbrev s_law_same : Stmt := topS 18
theorem sc_law_same : FnScope N_law_same ["value", "due"] (defScope s_law_same) := ⟨rfl, rfl, rfl, by decide +kernel, rfl, by decide +kernel, by decide +kernel⟩

abbrev s_law_great : Stmt := topS 19
theorem sc_law_great : FnScope N_law_great ["deal"] (defScope s_law_great) := ⟨rfl, rfl, rfl, by decide +kernel, rfl, by decide +kernel, by decide +kernel⟩

abbrev s_law_both : Stmt := topS 20
theorem sc_law_both : FnScope N_law_both ["rows"] (defScope s_law_both) := ⟨rfl, rfl, rfl, by decide +kernel, rfl, by decide +kernel, by decide +kernel⟩

abbrev s_law_under : Stmt := topS 21
theorem sc_law_under : FnScope N_law_under ["many", "more"] (defScope s_law_under) := ⟨rfl, rfl, rfl, by decide +kernel, rfl, by decide +kernel, by decide +kernel⟩

abbrev s_law_joined : Stmt := topS 22
theorem sc_law_joined : FnScope N_law_joined ["many", "pairs"] (defScope s_law_joined) := ⟨rfl, rfl, rfl, by decide +kernel, rfl, by decide +kernel, by decide +kernel⟩

abbrev s_law_renamed : Stmt := topS 23
theorem sc_law_renamed : FnScope N_law_renamed ["deal", "rows"] (defScope s_law_renamed) := ⟨rfl, rfl, rfl, by decide +kernel, rfl, by decide +kernel, by decide +kernel⟩

abbrev s_law_folding : Stmt := topS 24
theorem sc_law_folding : FnScope N_law_folding ["deal", "most"] (defScope s_law_folding) := ⟨rfl, rfl, rfl, by decide +kernel, rfl, by decide +kernel, by decide +kernel⟩

abbrev s_law_rule : Stmt := topS 25
theorem sc_law_rule : FnScope N_law_rule ["deal", "most"] (defScope s_law_rule) := ⟨rfl, rfl, rfl, by decide +kernel, rfl, by decide +kernel, by decide +kernel⟩

abbrev s_law_least_round : Stmt := topS 26
theorem sc_law_least_round : FnScope N_law_least_round ["order"] (defScope s_law_least_round) := ⟨rfl, rfl, rfl, by decide +kernel, rfl, by decide +kernel, by decide +kernel⟩

abbrev s_law_round_of_marks : Stmt := topS 28
theorem sc_law_round_of_marks : FnScope N_law_round_of_marks ["deal", "many", "loose"] (defScope s_law_round_of_marks) := ⟨rfl, rfl, rfl, by decide +kernel, rfl, by decide +kernel, by decide +kernel⟩

abbrev s_law_round_rule : Stmt := topS 27
theorem sc_law_round_rule : FnScope N_law_round_rule ["deal"] (defScope s_law_round_rule) := ⟨rfl, rfl, rfl, by decide +kernel, rfl, by decide +kernel, by decide +kernel⟩

abbrev s_law_turned37 : Stmt := topS 29
theorem sc_law_turned37 : FnScope N_law_turned37 ["many", "x", "y"] (defScope s_law_turned37) := ⟨rfl, rfl, rfl, by decide +kernel, rfl, by decide +kernel, by decide +kernel⟩

abbrev s_law_due_round : Stmt := topS 30
theorem sc_law_due_round : FnScope N_law_due_round ["rule"] (defScope s_law_due_round) := ⟨rfl, rfl, rfl, by decide +kernel, rfl, by decide +kernel, by decide +kernel⟩

abbrev s_law_near_rule : Stmt := topS 31
theorem sc_law_near_rule : FnScope N_law_near_rule ["deal"] (defScope s_law_near_rule) := ⟨rfl, rfl, rfl, by decide +kernel, rfl, by decide +kernel, by decide +kernel⟩

abbrev s_law_made : Stmt := topS 32
theorem sc_law_made : FnScope N_law_made ["many", "loose"] (defScope s_law_made) := ⟨rfl, rfl, rfl, by decide +kernel, rfl, by decide +kernel, by decide +kernel⟩

abbrev s_p_law : Stmt := topS 33
theorem sc_p_law : FnScope N_p_law ["script"] (defScope s_p_law) := ⟨rfl, rfl, rfl, by decide +kernel, rfl, by decide +kernel, by decide +kernel⟩

abbrev bl : List Str := ["abs", "all", "any", "bool", "enumerate", "int", "isinstance", "len", "list", "max", "range", "sorted", "str", "tuple", "zip"]
section
variable {P : Program} {w : World} {K : PySem.W.Frag} {mg : Str → Option Value} {base : Heap}
theorem d_p_steps_aside : DSs (scOf P w K mg base N_p_steps_aside s_p_steps_aside 0) [] (defBody s_p_steps_aside) w_p_steps_aside := by
  have nd : (scOf P w K mg base N_p_steps_aside s_p_steps_aside 0).N.Nodup := sc_p_steps_aside.nd
  exact (dss_one (ds_ret (de_lc (own := [("y", 2)]) nd (blkOk_by (by kernel_rfl)) (di_seq (de_ix (de_name 0) (de_name 1))) (dg_name (i := 2) nd) (by decide) (dts_one (dt_ne (de_name 2) (de_name 1))) (de_name 2))))
theorem ok_p_steps_aside {f : Addr} {fd : FuncData} (F : Fun K "steps_aside" "steps_aside" s_p_steps_aside f fd) (hm : mg "steps_aside" = some (.ref f)) : Df P w K mg base "steps_aside" ["rule", "x"] 1 io_p_steps_aside fs_p_steps_aside f fd :=
  ⟨fnD_of F sc_p_steps_aside (d_p_steps_aside) (by intro j h; revert h; match j with | 0 => decide | 1 => decide | 2 => decide | 3 => decide | 4 => decide | 5 => decide | _ + 6 => intro h; simp at h) hl_p_steps_aside h_p_steps_aside, hm, F.kp, F.binds fun _ _ _ _ _ _ us hl => match us, hl with | [_, _], _ => rfl⟩

theorem d_p_round_of (B : Free mg bl) {f_p_steps_aside : Addr} {fd_p_steps_aside : FuncData} (D_p_steps_aside : Df P w K mg base "steps_aside" ["rule", "x"] 1 io_p_steps_aside fs_p_steps_aside f_p_steps_aside fd_p_steps_aside) : DSs (scOf P w K mg base N_p_round_of s_p_round_of 1) [1, 2, 4, 5] (defBody s_p_round_of) w_p_round_of := by
  have nd : (scOf P w K mg base N_p_round_of s_p_round_of 1).N.Nodup := sc_p_round_of.nd
  exact (dss_cons (ds_asg 1 nd (b_len B (da_cons (de_name 0) da_nil)))
    (dss_cons (ds_setLc 2 (own := [("x", 3)]) nd rfl (blkOk_by (by kernel_rfl)) (i_range1 B (da_cons (de_name 1) da_nil)) (dg_name (i := 3) nd) (by decide) dts_nil (de_in (de_name 3) (de_ix (de_name 0) (de_name 3))))
    (dss_cons (ds_ifS (DW.dt (dw_or (dt_lt (de_name 1) de_int) (dw_or (dt_eq (de_name 1) de_int) (dw_or1 (DW.dt (dw_and (dt_val (b_any B (da_cons (de_name 2) da_nil))) (dw_and1 (DW.dt (dw_or (dt_not (dt_val (b_all B (da_cons (de_name 2) da_nil)))) (dw_or1 (dt_lt (de_name 1) de_int))))))))))) (dss_one (ds_ret de_non)) dss_nil)
    (dss_cons (ds_ifS (dt_not (dt_val (b_all B (da_cons (de_lc (own := [("x", 3)]) nd (blkOk_by (by kernel_rfl)) (i_range1 B (da_cons (de_name 1) da_nil)) (dg_name (i := 3) nd) (by decide) dts_nil (de_eq (b_len B (da_cons (de_callD D_p_steps_aside (da_cons (de_name 0) (da_cons (de_name 3) da_nil))) da_nil)) de_int)) da_nil)))) (dss_one (ds_ret de_non)) dss_nil)
    (dss_cons (ds_asg 4 nd (de_lstO (da_cons de_int (da_cons (de_ix (de_callD D_p_steps_aside (da_cons (de_name 0) (da_cons de_int da_nil))) de_int) da_nil))))
    (dss_cons (ds_while (dt_lt (b_len B (da_cons (de_name 4) da_nil)) (de_name 1)) (dss_cons (ds_setLc 5 (own := [("y", 6)]) nd rfl (blkOk_by (by kernel_rfl)) (di_seq (de_callD D_p_steps_aside (da_cons (de_name 0) (da_cons (de_ix (de_name 4) (de_neg de_int)) da_nil)))) (dg_name (i := 6) nd) (by decide) (dts_one (dt_notin (de_name 6) (de_name 4))) (de_name 6))
    (dss_cons (ds_ifS (dt_eq (de_name 5) (de_lstO da_nil)) (dss_one (ds_ret de_non)) dss_nil)
    (dss_one (ds_expr (de_append (de_name 4) (da_cons (de_ix (de_name 5) de_int) da_nil)))))))
    (dss_one (ds_ret (b_tuple B (da_cons (de_name 4) da_nil))))))))))
theorem ok_p_round_of {f : Addr} {fd : FuncData} (F : Fun K "round_of" "round_of" s_p_round_of f fd) (hm : mg "round_of" = some (.ref f)) (B : Free mg bl) {f_p_steps_aside : Addr} {fd_p_steps_aside : FuncData} (D_p_steps_aside : Df P w K mg base "steps_aside" ["rule", "x"] 1 io_p_steps_aside fs_p_steps_aside f_p_steps_aside fd_p_steps_aside) : Df P w K mg base "round_of" ["rule"] 2 io_p_round_of fs_p_round_of f fd :=
  ⟨fnD_of F sc_p_round_of (d_p_round_of B D_p_steps_aside) (by intro j h; revert h; match j with | 0 => decide | 1 => decide | 2 => decide | 3 => decide | 4 => decide | 5 => decide | _ + 6 => intro h; simp at h) hl_p_round_of h_p_round_of, hm, F.kp, F.binds fun _ _ _ _ _ _ us hl => match us, hl with | [_], _ => rfl⟩

theorem d_p_is_loose : DSs (scOf P w K mg base N_p_is_loose s_p_is_loose 0) [] (defBody s_p_is_loose) w_p_is_loose := by
  have nd : (scOf P w K mg base N_p_is_loose s_p_is_loose 0).N.Nodup := sc_p_is_loose.nd
  exact (dss_one (ds_ret (de_in de_int (de_ix (de_name 0) de_int))))
theorem ok_p_is_loose {f : Addr} {fd : FuncData} (F : Fun K "is_loose" "is_loose" s_p_is_loose f fd) (hm : mg "is_loose" = some (.ref f)) : Df P w K mg base "is_loose" ["rule"] 1 io_p_is_loose fs_p_is_loose f fd :=
  ⟨fnD_of F sc_p_is_loose (d_p_is_loose) (by intro j h; revert h; match j with | 0 => decide | 1 => decide | 2 => decide | 3 => decide | 4 => decide | 5 => decide | _ + 6 => intro h; simp at h) hl_p_is_loose h_p_is_loose, hm, F.kp, F.binds fun _ _ _ _ _ _ us hl => match us, hl with | [_], _ => rfl⟩

theorem d_p_round_rule (B : Free mg bl) {t_MOST_MARKS : Tok} (C_MOST_MARKS : mg "MOST_MARKS" = some (.int 12 t_MOST_MARKS)) (X_InvalidRule : ExnC P K mg "InvalidRule") : DSs (scOf P w K mg base N_p_round_rule s_p_round_rule 2) [2, 3] (defBody s_p_round_rule) w_p_round_rule := by
  have nd : (scOf P w K mg base N_p_round_rule s_p_round_rule 2).N.Nodup := sc_p_round_rule.nd
  exact (dss_cons (ds_asg 2 nd (de_if (dt_val (de_name 1)) de_int de_int))
    (dss_cons (ds_ifS (DW.dt (dw_or (dt_lt (de_name 0) (de_name 2)) (dw_or (dt_gt (de_name 0) (de_constI C_MOST_MARKS)) (dw_or1 (dt_eq (de_name 0) de_int))))) (dss_one (ds_raise (x := "InvalidRule") X_InvalidRule (Nat.le_of_ble_eq_true rfl) (da_cons de_int da_nil))) dss_nil)
    (dss_cons (ds_setLc 3 (own := [("x", 4)]) nd rfl (blkOk_by (by kernel_rfl)) (i_range1 B (da_cons (de_name 0) da_nil)) (dg_name (i := 4) nd) (by decide) dts_nil (de_add (de_lstO (da_cons (de_mod (de_add (de_name 4) de_int) (de_name 0)) (da_cons (de_mod (de_sub (de_name 4) de_int) (de_name 0)) da_nil))) (de_if (dt_val (de_name 1)) (de_lstO (da_cons (de_name 4) da_nil)) (de_lstO da_nil))))
    (dss_one (ds_ret (b_tuple B (da_cons (de_lc (own := [("row", 5)]) nd (blkOk_by (by kernel_rfl)) (di_seq (de_name 3)) (dg_name (i := 5) nd) (by decide) dts_nil (b_tuple B (da_cons (b_sorted B (da_cons (de_name 5) da_nil)) da_nil))) da_nil)))))))
theorem ok_p_round_rule {f : Addr} {fd : FuncData} (F : Fun K "round_rule" "round_rule" s_p_round_rule f fd) (hm : mg "round_rule" = some (.ref f)) (B : Free mg bl) {t_MOST_MARKS : Tok} (C_MOST_MARKS : mg "MOST_MARKS" = some (.int 12 t_MOST_MARKS)) (X_InvalidRule : ExnC P K mg "InvalidRule") : Df P w K mg base "round_rule" ["many", "loose"] 3 io_p_round_rule fs_p_round_rule f fd :=
  ⟨fnD_of F sc_p_round_rule (d_p_round_rule B C_MOST_MARKS X_InvalidRule) (by intro j h; revert h; match j with | 0 => decide | 1 => decide | 2 => decide | 3 => decide | 4 => decide | 5 => decide | _ + 6 => intro h; simp at h) hl_p_round_rule h_p_round_rule, hm, F.kp, F.binds fun _ _ _ _ _ _ us hl => match us, hl with | [_, _], _ => rfl⟩

theorem d_p_spots (B : Free mg bl) {f_p_round_of : Addr} {fd_p_round_of : FuncData} (D_p_round_of : Df P w K mg base "round_of" ["rule"] 2 io_p_round_of fs_p_round_of f_p_round_of fd_p_round_of) : DSs (scOf P w K mg base N_p_spots s_p_spots 2) [1, 2, 3] (defBody s_p_spots) w_p_spots := by
  have nd : (scOf P w K mg base N_p_spots s_p_spots 2).N.Nodup := sc_p_spots.nd
  exact (dss_cons (ds_asg 1 nd (de_mul (de_lstO (da_cons de_int da_nil)) (b_len B (da_cons (de_name 0) da_nil))))
    (dss_cons (ds_for (i_enum B (da_cons (de_callD D_p_round_of (da_cons (de_name 0) da_nil)) da_nil)) (dg_tup (dgs_cons (dg_name (i := 2) nd) (dgs_cons (dg_name (i := 3) nd) dgs_nil))) (dss_one (ds_setIx (de_name 2) (de_name 1) (de_name 3))))
    (dss_one (ds_ret (de_name 1)))))
theorem ok_p_spots {f : Addr} {fd : FuncData} (F : Fun K "spots" "spots" s_p_spots f fd) (hm : mg "spots" = some (.ref f)) (B : Free mg bl) {f_p_round_of : Addr} {fd_p_round_of : FuncData} (D_p_round_of : Df P w K mg base "round_of" ["rule"] 2 io_p_round_of fs_p_round_of f_p_round_of fd_p_round_of) : Df P w K mg base "spots" ["rule"] 3 io_p_spots fs_p_spots f fd :=
  ⟨fnD_of F sc_p_spots (d_p_spots B D_p_round_of) (by intro j h; revert h; match j with | 0 => decide | 1 => decide | 2 => decide | 3 => decide | 4 => decide | 5 => decide | _ + 6 => intro h; simp at h) hl_p_spots h_p_spots, hm, F.kp, F.binds fun _ _ _ _ _ _ us hl => match us, hl with | [_], _ => rfl⟩

theorem d_p_rest (B : Free mg bl) : DSs (scOf P w K mg base N_p_rest s_p_rest 0) [] (defBody s_p_rest) w_p_rest := by
  have nd : (scOf P w K mg base N_p_rest s_p_rest 0).N.Nodup := sc_p_rest.nd
  exact (dss_one (ds_ret (de_mod (b_int B (da_cons (de_name 0) da_nil)) (de_name 1))))
theorem ok_p_rest {f : Addr} {fd : FuncData} (F : Fun K "rest" "rest" s_p_rest f fd) (hm : mg "rest" = some (.ref f)) (B : Free mg bl) : Df P w K mg base "rest" ["number", "many"] 1 io_p_rest fs_p_rest f fd :=
  ⟨fnD_of F sc_p_rest (d_p_rest B) (by intro j h; revert h; match j with | 0 => decide | 1 => decide | 2 => decide | 3 => decide | 4 => decide | 5 => decide | _ + 6 => intro h; simp at h) hl_p_rest h_p_rest, hm, F.kp, F.binds fun _ _ _ _ _ _ us hl => match us, hl with | [_, _], _ => rfl⟩

theorem d_p_turned {f_p_rest : Addr} {fd_p_rest : FuncData} (D_p_rest : Df P w K mg base "rest" ["number", "many"] 1 io_p_rest fs_p_rest f_p_rest fd_p_rest) : DSs (scOf P w K mg base N_p_turned s_p_turned 1) [3] (defBody s_p_turned) w_p_turned := by
  have nd : (scOf P w K mg base N_p_turned s_p_turned 1).N.Nodup := sc_p_turned.nd
  exact (dss_cons (ds_asg 3 nd (de_callD D_p_rest (da_cons (de_sub (de_name 2) (de_name 1)) (da_cons (de_name 0) da_nil))))
    (dss_one (ds_ret (de_if (dt_gt (de_name 3) de_int) (de_neg de_int) (de_name 3)))))
theorem ok_p_turned {f : Addr} {fd : FuncData} (F : Fun K "turned" "turned" s_p_turned f fd) (hm : mg "turned" = some (.ref f)) {f_p_rest : Addr} {fd_p_rest : FuncData} (D_p_rest : Df P w K mg base "rest" ["number", "many"] 1 io_p_rest fs_p_rest f_p_rest fd_p_rest) : Df P w K mg base "turned" ["many", "x", "y"] 2 io_p_turned fs_p_turned f fd :=
  ⟨fnD_of F sc_p_turned (d_p_turned D_p_rest) (by intro j h; revert h; match j with | 0 => decide | 1 => decide | 2 => decide | 3 => decide | 4 => decide | 5 => decide | _ + 6 => intro h; simp at h) hl_p_turned h_p_turned, hm, F.kp, F.binds fun _ _ _ _ _ _ us hl => match us, hl with | [_, _, _], _ => rfl⟩

theorem d_p_turn (B : Free mg bl) {f_p_spots : Addr} {fd_p_spots : FuncData} (D_p_spots : Df P w K mg base "spots" ["rule"] 3 io_p_spots fs_p_spots f_p_spots fd_p_spots) {f_p_turned : Addr} {fd_p_turned : FuncData} (D_p_turned : Df P w K mg base "turned" ["many", "x", "y"] 2 io_p_turned fs_p_turned f_p_turned fd_p_turned) : DSs (scOf P w K mg base N_p_turn s_p_turn 3) [3] (defBody s_p_turn) w_p_turn := by
  have nd : (scOf P w K mg base N_p_turn s_p_turn 3).N.Nodup := sc_p_turn.nd
  exact (dss_cons (ds_asg 3 nd (de_callD D_p_spots (da_cons (de_name 0) da_nil)))
    (dss_one (ds_ret (de_callD D_p_turned (da_cons (b_len B (da_cons (de_name 0) da_nil)) (da_cons (de_ix (de_name 3) (de_name 1)) (da_cons (de_ix (de_name 3) (de_name 2)) da_nil)))))))
theorem ok_p_turn {f : Addr} {fd : FuncData} (F : Fun K "turn" "turn" s_p_turn f fd) (hm : mg "turn" = some (.ref f)) (B : Free mg bl) {f_p_spots : Addr} {fd_p_spots : FuncData} (D_p_spots : Df P w K mg base "spots" ["rule"] 3 io_p_spots fs_p_spots f_p_spots fd_p_spots) {f_p_turned : Addr} {fd_p_turned : FuncData} (D_p_turned : Df P w K mg base "turned" ["many", "x", "y"] 2 io_p_turned fs_p_turned f_p_turned fd_p_turned) : Df P w K mg base "turn" ["rule", "x", "y"] 4 io_p_turn fs_p_turn f fd :=
  ⟨fnD_of F sc_p_turn (d_p_turn B D_p_spots D_p_turned) (by intro j h; revert h; match j with | 0 => decide | 1 => decide | 2 => decide | 3 => decide | 4 => decide | 5 => decide | _ + 6 => intro h; simp at h) hl_p_turn h_p_turn, hm, F.kp, F.binds fun _ _ _ _ _ _ us hl => match us, hl with | [_, _, _], _ => rfl⟩

theorem d_law_draw (B : Free mg bl) : DSs (scOf P w K mg base N_law_draw s_law_draw 0) [2, 4, 3, 4] (defBody s_law_draw) w_law_draw := by
  have nd : (scOf P w K mg base N_law_draw s_law_draw 0).N.Nodup := sc_law_draw.nd
  exact (dss_cons (ds_setLc 2 (own := [("cell", 3)]) nd rfl (blkOk_by (by kernel_rfl)) (di_seq (de_slice (de_name 0) do_none (do_some de_int))) (dg_name (i := 3) nd) (by decide) dts_nil (b_abs B (da_cons (b_int B (da_cons (de_name 3) da_nil)) da_nil)))
    (dss_cons (ds_asg 4 nd (de_add de_int (de_mul de_int (de_name 1))))
    (dss_cons (ds_for (di_seq (de_name 2)) (dg_name (i := 3) nd) (dss_one (ds_asg 4 nd (de_mod (b_int B (da_cons (de_add (de_add (de_mul (de_name 4) de_int) (de_mod (de_name 3) de_int)) de_int) da_nil)) de_int))))
    (dss_one (ds_ret (de_lstO (da_cons (de_rev (de_lc (own := [("cell", 3)]) nd (blkOk_by (by kernel_rfl)) (di_seq (de_name 2)) (dg_name (i := 3) nd) (by decide) (dts_one (dt_ge (de_name 3) (de_pow de_int de_int))) (de_name 3))) (da_cons (de_name 4) da_nil))))))))
theorem ok_law_draw {f : Addr} {fd : FuncData} (F : Fun K "_law_draw" "_law_draw" s_law_draw f fd) (hm : mg "_law_draw" = some (.ref f)) (B : Free mg bl) : Df P w K mg base "_law_draw" ["script", "salt"] 1 io_law_draw fs_law_draw f fd :=
  ⟨fnD_of F sc_law_draw (d_law_draw B) (by intro j h; revert h; match j with | 0 => decide | 1 => decide | 2 => decide | 3 => decide | 4 => decide | 5 => decide | _ + 6 => intro h; simp at h) hl_law_draw h_law_draw, hm, F.kp, F.binds fun _ _ _ _ _ _ us hl => match us, hl with | [_, _], _ => rfl⟩

theorem d_law_any (B : Free mg bl) : DSs (scOf P w K mg base N_law_any_b s_law_any 0) [2] (defBody s_law_any) w_law_any := by
  have nd : (scOf P w K mg base N_law_any_b s_law_any 0).N.Nodup := sc_law_any.nd
  exact (dss_cons (ds_while (DW.dt (dw_and (dt_ne (de_ix (de_name 0) de_int) (de_lstO da_nil)) (dw_and1 (dt_eq (de_ix (de_ix (de_name 0) de_int) (de_neg de_int)) de_int)))) (dss_one (ds_expr (de_pop (de_ix (de_name 0) de_int)))))
    (dss_cons (ds_ifS (dt_ne (de_ix (de_name 0) de_int) (de_lstO da_nil)) (dss_cons (ds_asg 2 nd (b_int B (da_cons (de_pop (de_ix (de_name 0) de_int)) da_nil)))
    (dss_cons (ds_expr (de_append (de_ix (de_name 0) de_int) (da_cons (de_div (de_name 2) (de_name 1)) da_nil)))
    (dss_one (ds_ret (de_mod (de_name 2) (de_name 1)))))) dss_nil)
    (dss_cons (ds_setIx (de_mod (b_int B (da_cons (de_add (de_mul (de_ix (de_name 0) de_int) de_int) de_int) da_nil)) de_int) (de_name 0) de_int)
    (dss_one (ds_ret (de_mod (b_int B (da_cons (de_div (de_ix (de_name 0) de_int) de_int) da_nil)) (de_name 1)))))))
theorem ok_law_any {f : Addr} {fd : FuncData} (F : Fun K "_law_any" "_law_any" s_law_any f fd) (hm : mg "_law_any" = some (.ref f)) (B : Free mg bl) : Df P w K mg base "_law_any" ["deal", "bound"] 1 io_law_any fs_law_any f fd :=
  ⟨fnD_of F sc_law_any (d_law_any B) (by intro j h; revert h; match j with | 0 => decide | 1 => decide | 2 => decide | 3 => decide | 4 => decide | 5 => decide | _ + 6 => intro h; simp at h) hl_law_any h_law_any, hm, F.kp, F.binds fun _ _ _ _ _ _ us hl => match us, hl with | [_, _], _ => rfl⟩

theorem d_law_of (B : Free mg bl) {f_law_any : Addr} {fd_law_any : FuncData} (D_law_any : Df P w K mg base "_law_any" ["deal", "bound"] 1 io_law_any fs_law_any f_law_any fd_law_any) : DSs (scOf P w K mg base N_law_of s_law_of 1) [] (defBody s_law_of) w_law_of := by
  have nd : (scOf P w K mg base N_law_of s_law_of 1).N.Nodup := sc_law_of.nd
  exact (dss_one (ds_ret (de_ix (de_name 1) (de_callD D_law_any (da_cons (de_name 0) (da_cons (b_len B (da_cons (de_name 1) da_nil)) da_nil))))))
theorem ok_law_of {f : Addr} {fd : FuncData} (F : Fun K "_law_of" "_law_of" s_law_of f fd) (hm : mg "_law_of" = some (.ref f)) (B : Free mg bl) {f_law_any : Addr} {fd_law_any : FuncData} (D_law_any : Df P w K mg base "_law_any" ["deal", "bound"] 1 io_law_any fs_law_any f_law_any fd_law_any) : Df P w K mg base "_law_of" ["deal", "some"] 2 io_law_of fs_law_of f fd :=
  ⟨fnD_of F sc_law_of (d_law_of B D_law_any) (by intro j h; revert h; match j with | 0 => decide | 1 => decide | 2 => decide | 3 => decide | 4 => decide | 5 => decide | _ + 6 => intro h; simp at h) hl_law_of h_law_of, hm, F.kp, F.binds fun _ _ _ _ _ _ us hl => match us, hl with | [_, _], _ => rfl⟩

theorem d_law_mixed (B : Free mg bl) {f_law_any : Addr} {fd_law_any : FuncData} (D_law_any : Df P w K mg base "_law_any" ["deal", "bound"] 1 io_law_any fs_law_any f_law_any fd_law_any) : DSs (scOf P w K mg base N_law_mixed s_law_mixed 1) [2, 3] (defBody s_law_mixed) w_law_mixed := by
  have nd : (scOf P w K mg base N_law_mixed s_law_mixed 1).N.Nodup := sc_law_mixed.nd
  exact (dss_cons (ds_par 2 3 nd (da_cons (b_list B (da_cons (de_name 1) da_nil)) (da_cons (de_lstO da_nil) da_nil)) (hw := fun env h => by obtain ⟨⟩ := env; cases h; rfl))
    (dss_cons (ds_while (dt_ne (de_name 2) (de_lstO da_nil)) (dss_one (ds_expr (de_append (de_name 3) (da_cons (de_popAt (de_name 2) (da_cons (de_callD D_law_any (da_cons (de_name 0) (da_cons (b_len B (da_cons (de_name 2) da_nil)) da_nil))) da_nil)) da_nil)))))
    (dss_one (ds_ret (de_name 3)))))
theorem ok_law_mixed {f : Addr} {fd : FuncData} (F : Fun K "_law_mixed" "_law_mixed" s_law_mixed f fd) (hm : mg "_law_mixed" = some (.ref f)) (B : Free mg bl) {f_law_any : Addr} {fd_law_any : FuncData} (D_law_any : Df P w K mg base "_law_any" ["deal", "bound"] 1 io_law_any fs_law_any f_law_any fd_law_any) : Df P w K mg base "_law_mixed" ["deal", "some"] 2 io_law_mixed fs_law_mixed f fd :=
  ⟨fnD_of F sc_law_mixed (d_law_mixed B D_law_any) (by intro j h; revert h; match j with | 0 => decide | 1 => decide | 2 => decide | 3 => decide | 4 => decide | 5 => decide | _ + 6 => intro h; simp at h) hl_law_mixed h_law_mixed, hm, F.kp, F.binds fun _ _ _ _ _ _ us hl => match us, hl with | [_, _], _ => rfl⟩

theorem d_law_same (B : Free mg bl) {kk : Nat} {fs_law_same : FS} {f : Addr} {fd : FuncData} (D_law_same : Df P w K mg base "_law_same" ["value", "due"] kk io_law_same fs_law_same f fd) : DSs (scOf P w K mg base N_law_same s_law_same kk) [] (defBody s_law_same) (w_law_same fs_law_same) := by
  have nd : (scOf P w K mg base N_law_same s_law_same kk).N.Nodup := sc_law_same.nd
  exact (dss_cons (ds_ifS (dt_val (b_isi B (de_name 1))) (dss_cons (ds_ifS (DW.dt (dw_or (dt_not (dt_val (b_isi B (de_name 0)))) (dw_or1 (dt_ne (b_len B (da_cons (de_name 0) da_nil)) (b_len B (da_cons (de_name 1) da_nil)))))) (dss_one (ds_ret de_bl)) dss_nil)
    (dss_one (ds_ret (de_eq (de_lc (own := [("one", 2), ("other", 3)]) nd (blkOk_by (by kernel_rfl)) (i_zip B (da_cons (de_name 0) (da_cons (de_name 1) da_nil))) (dg_tup (dgs_cons (dg_name (i := 2) nd) (dgs_cons (dg_name (i := 3) nd) dgs_nil))) (by decide) (dts_one (dt_not (dt_val (de_callD D_law_same (da_cons (de_name 2) (da_cons (de_name 3) da_nil)))))) de_int) (de_lstO da_nil))))) dss_nil)
    (dss_cons (ds_ifS (dt_is (de_name 1) de_non) (dss_one (ds_ret (de_is (de_name 0) de_non))) dss_nil)
    (dss_cons (ds_ifS (dt_is (de_name 1) de_bl) (dss_one (ds_ret (de_is (de_name 0) de_bl))) dss_nil)
    (dss_cons (ds_ifS (dt_is (de_name 1) de_bl) (dss_one (ds_ret (de_is (de_name 0) de_bl))) dss_nil)
    (dss_cons (ds_ifS (dt_val (b_isi B (de_name 1))) (dss_one (ds_ret (de_and (b_isi B (de_name 0)) (de_and (de_not (b_isi B (de_name 0))) (de_one (de_eq (de_name 0) (de_name 1))))))) dss_nil)
    (dss_one (ds_ret (de_and (b_isi B (de_name 0)) (de_one (de_eq (de_name 0) (de_name 1)))))))))))

theorem ok_law_same {f : Addr} {fd : FuncData} (F : Fun K "_law_same" "_law_same" s_law_same f fd) (hm : mg "_law_same" = some (.ref f)) (B : Free mg bl) : Df P w K mg base "_law_same" ["value", "due"] 6 io_law_same fs_law_same f fd := by
  have bd : Binds K fd ["value", "due"] [] := F.binds fun _ _ _ _ _ _ us hl => match us, hl with | [_, _], _ => rfl
  have hio : ∀ j : Nat, io_law_same[j]? = some true → j ∉ [] := by intro j h; revert h; match j with | 0 => decide | 1 => decide | _ + 2 => intro h; simp at h
  have step : ∀ (k n : Nat) (fr : FS), FnOk P w K mg base (L2.CX P w) k f fd ["value", "due"] (spOf K mg io_law_same fr) → (∀ d, plain n (.tup [d]) = true → ∀ Φ Ψ, Φ (.bl true) [d, d] → fr [d, d] Φ Ψ) → FnOk P w K mg base (L2.CX P w) (k + 1) f fd ["value", "due"] (spOf K mg io_law_same (fs_same n)) := by
    intro k n fr G hfr
    exact fnD_of F sc_law_same (d_law_same B (D_law_same := ⟨G, hm, F.kp, bd⟩)) hio (hl_same n) (h_same n fr hfr)
  have all : ∀ n, FnOk P w K mg base (L2.CX P w) (n + 1) f fd ["value", "due"] (spOf K mg io_law_same (fs_same n)) := by
    intro n
    induction n with
    | zero => exact step 0 0 _ fnOk_no fun d h => by cases h
    | succ n ih =>
      refine step (n + 1) (n + 1) _ ih fun d h Φ Ψ hΦ => ⟨d, rfl, ?_, hΦ⟩
      have h2 : ([d].all (plain n)) = true := (Bool.and_eq_true_iff.mp (show (decide ([d].length ≤ 100000) && [d].all (plain n)) = true from h)).2
      exact List.all_eq_true.mp h2 d List.mem_cons_self
  exact ⟨all 5, hm, F.kp, bd⟩

theorem d_law_great {f_law_any : Addr} {fd_law_any : FuncData} (D_law_any : Df P w K mg base "_law_any" ["deal", "bound"] 1 io_law_any fs_law_any f_law_any fd_law_any) {f_law_of : Addr} {fd_law_of : FuncData} (D_law_of : Df P w K mg base "_law_of" ["deal", "some"] 2 io_law_of fs_law_of f_law_of fd_law_of) : DSs (scOf P w K mg base N_law_great s_law_great 2) [1] (defBody s_law_great) w_law_great := by
  have nd : (scOf P w K mg base N_law_great s_law_great 2).N.Nodup := sc_law_great.nd
  exact (dss_cons (ds_asg 1 nd (de_add (de_mul (de_callD D_law_any (da_cons (de_name 0) (da_cons (de_pow de_int de_int) da_nil))) (de_callD D_law_of (da_cons (de_name 0) (da_cons (de_lstO (da_cons de_int (da_cons de_int (da_cons (de_pow de_int de_int) da_nil)))) da_nil)))) (de_callD D_law_any (da_cons (de_name 0) (da_cons (de_pow de_int de_int) da_nil)))))
    (dss_one (ds_ret (de_mul (de_mod (de_name 1) (de_pow de_int de_int)) (de_callD D_law_of (da_cons (de_name 0) (da_cons (de_lstO (da_cons de_int (da_cons de_int (da_cons (de_neg de_int) da_nil)))) da_nil)))))))
theorem ok_law_great {f : Addr} {fd : FuncData} (F : Fun K "_law_great" "_law_great" s_law_great f fd) (hm : mg "_law_great" = some (.ref f)) {f_law_any : Addr} {fd_law_any : FuncData} (D_law_any : Df P w K mg base "_law_any" ["deal", "bound"] 1 io_law_any fs_law_any f_law_any fd_law_any) {f_law_of : Addr} {fd_law_of : FuncData} (D_law_of : Df P w K mg base "_law_of" ["deal", "some"] 2 io_law_of fs_law_of f_law_of fd_law_of) : Df P w K mg base "_law_great" ["deal"] 3 io_law_great fs_law_great f fd :=
  ⟨fnD_of F sc_law_great (d_law_great D_law_any D_law_of) (by intro j h; revert h; match j with | 0 => decide | 1 => decide | 2 => decide | 3 => decide | 4 => decide | 5 => decide | _ + 6 => intro h; simp at h) hl_law_great h_law_great, hm, F.kp, F.binds fun _ _ _ _ _ _ us hl => match us, hl with | [_], _ => rfl⟩

theorem d_law_both (B : Free mg bl) : DSs (scOf P w K mg base N_law_both s_law_both 0) [1, 2, 3, 1] (defBody s_law_both) w_law_both := by
  have nd : (scOf P w K mg base N_law_both s_law_both 0).N.Nodup := sc_law_both.nd
  exact (dss_cons (ds_asg 1 nd (de_lstO da_nil))
    (dss_cons (ds_for (i_enum B (da_cons (de_name 0) da_nil)) (dg_tup (dgs_cons (dg_name (i := 2) nd) (dgs_cons (dg_name (i := 3) nd) dgs_nil))) (dss_one (ds_asg 1 nd (de_add (de_name 1) (de_lc (own := [("y", 4)]) nd (blkOk_by (by kernel_rfl)) (di_seq (de_name 3)) (dg_name (i := 4) nd) (by decide) dts_nil (de_tupQ (da_cons (de_name 2) (da_cons (de_name 4) da_nil))))))))
    (dss_one (ds_ret (de_name 1)))))
theorem ok_law_both {f : Addr} {fd : FuncData} (F : Fun K "_law_both" "_law_both" s_law_both f fd) (hm : mg "_law_both" = some (.ref f)) (B : Free mg bl) : Df P w K mg base "_law_both" ["rows"] 1 io_law_both fs_law_both f fd :=
  ⟨fnD_of F sc_law_both (d_law_both B) (by intro j h; revert h; match j with | 0 => decide | 1 => decide | 2 => decide | 3 => decide | 4 => decide | 5 => decide | _ + 6 => intro h; simp at h) hl_law_both h_law_both, hm, F.kp, F.binds fun _ _ _ _ _ _ us hl => match us, hl with | [_], _ => rfl⟩

theorem d_law_under (B : Free mg bl) : DSs (scOf P w K mg base N_law_under s_law_under 0) [2, 3, 2] (defBody s_law_under) w_law_under := by
  have nd : (scOf P w K mg base N_law_under s_law_under 0).N.Nodup := sc_law_under.nd
  exact (dss_cons (ds_asg 2 nd (de_lstO da_nil))
    (dss_cons (ds_for (i_range1 B (da_cons (de_name 0) da_nil)) (dg_name (i := 3) nd) (dss_one (ds_asg 2 nd (de_add (de_name 2) (de_lc (own := [("y", 4)]) nd (blkOk_by (by kernel_rfl)) (i_range1 B (da_cons (de_add (de_name 3) (de_name 1)) da_nil)) (dg_name (i := 4) nd) (by decide) dts_nil (de_tupQ (da_cons (de_name 3) (da_cons (de_name 4) da_nil))))))))
    (dss_one (ds_ret (de_name 2)))))
theorem ok_law_under {f : Addr} {fd : FuncData} (F : Fun K "_law_under" "_law_under" s_law_under f fd) (hm : mg "_law_under" = some (.ref f)) (B : Free mg bl) : Df P w K mg base "_law_under" ["many", "more"] 1 io_law_under fs_law_under f fd :=
  ⟨fnD_of F sc_law_under (d_law_under B) (by intro j h; revert h; match j with | 0 => decide | 1 => decide | 2 => decide | 3 => decide | 4 => decide | 5 => decide | _ + 6 => intro h; simp at h) hl_law_under h_law_under, hm, F.kp, F.binds fun _ _ _ _ _ _ us hl => match us, hl with | [_, _], _ => rfl⟩

theorem d_law_joined (B : Free mg bl) : DSs (scOf P w K mg base N_law_joined s_law_joined 0) [2, 4, 5, 3, 6] (defBody s_law_joined) w_law_joined := by
  have nd : (scOf P w K mg base N_law_joined s_law_joined 0).N.Nodup := sc_law_joined.nd
  exact (dss_cons (ds_setLc 2 (own := [("one", 3)]) nd rfl (blkOk_by (by kernel_rfl)) (i_range1 B (da_cons (de_name 0) da_nil)) (dg_name (i := 3) nd) (by decide) dts_nil (de_lstO da_nil))
    (dss_cons (ds_for (di_seq (de_name 1)) (dg_tup (dgs_cons (dg_name (i := 4) nd) (dgs_cons (dg_name (i := 5) nd) dgs_nil))) (dss_one (ds_for (di_seq (de_lstO (da_cons (de_tupQ (da_cons (de_name 4) (da_cons (de_name 5) da_nil))) (da_cons (de_tupQ (da_cons (de_name 5) (da_cons (de_name 4) da_nil))) da_nil)))) (dg_tup (dgs_cons (dg_name (i := 3) nd) (dgs_cons (dg_name (i := 6) nd) dgs_nil))) (dss_one (ds_ifS (dt_notin (de_name 6) (de_ix (de_name 2) (de_name 3))) (dss_one (ds_expr (de_append (de_ix (de_name 2) (de_name 3)) (da_cons (de_name 6) da_nil)))) dss_nil)))))
    (dss_one (ds_ret (b_tuple B (da_cons (de_lc (own := [("row", 7)]) nd (blkOk_by (by kernel_rfl)) (di_seq (de_name 2)) (dg_name (i := 7) nd) (by decide) dts_nil (b_tuple B (da_cons (b_sorted B (da_cons (de_name 7) da_nil)) da_nil))) da_nil))))))
theorem ok_law_joined {f : Addr} {fd : FuncData} (F : Fun K "_law_joined" "_law_joined" s_law_joined f fd) (hm : mg "_law_joined" = some (.ref f)) (B : Free mg bl) : Df P w K mg base "_law_joined" ["many", "pairs"] 1 io_law_joined fs_law_joined f fd :=
  ⟨fnD_of F sc_law_joined (d_law_joined B) (by intro j h; revert h; match j with | 0 => decide | 1 => decide | 2 => decide | 3 => decide | 4 => decide | 5 => decide | _ + 6 => intro h; simp at h) hl_law_joined h_law_joined, hm, F.kp, F.binds fun _ _ _ _ _ _ us hl => match us, hl with | [_, _], _ => rfl⟩

theorem d_law_renamed (B : Free mg bl) {f_law_both : Addr} {fd_law_both : FuncData} (D_law_both : Df P w K mg base "_law_both" ["rows"] 1 io_law_both fs_law_both f_law_both fd_law_both) {f_law_joined : Addr} {fd_law_joined : FuncData} (D_law_joined : Df P w K mg base "_law_joined" ["many", "pairs"] 1 io_law_joined fs_law_joined f_law_joined fd_law_joined) {f_law_mixed : Addr} {fd_law_mixed : FuncData} (D_law_mixed : Df P w K mg base "_law_mixed" ["deal", "some"] 2 io_law_mixed fs_law_mixed f_law_mixed fd_law_mixed) : DSs (scOf P w K mg base N_law_renamed s_law_renamed 2) [2, 3] (defBody s_law_renamed) w_law_renamed := by
  have nd : (scOf P w K mg base N_law_renamed s_law_renamed 2).N.Nodup := sc_law_renamed.nd
  exact (dss_cons (ds_asg 2 nd (de_callD D_law_mixed (da_cons (de_name 0) (da_cons (b_listRg1 B (b_len B (da_cons (de_name 1) da_nil))) da_nil))))
    (dss_cons (ds_setLc 3 (own := [("x", 4), ("y", 5)]) nd rfl (blkOk_by (by kernel_rfl)) (di_seq (de_callD D_law_both (da_cons (de_name 1) da_nil))) (dg_tup (dgs_cons (dg_name (i := 4) nd) (dgs_cons (dg_name (i := 5) nd) dgs_nil))) (by decide) dts_nil (de_tupQ (da_cons (de_ix (de_name 2) (de_name 4)) (da_cons (de_ix (de_name 2) (de_name 5)) da_nil))))
    (dss_one (ds_ret (de_callD D_law_joined (da_cons (b_len B (da_cons (de_name 1) da_nil)) (da_cons (de_name 3) da_nil)))))))
theorem ok_law_renamed {f : Addr} {fd : FuncData} (F : Fun K "_law_renamed" "_law_renamed" s_law_renamed f fd) (hm : mg "_law_renamed" = some (.ref f)) (B : Free mg bl) {f_law_both : Addr} {fd_law_both : FuncData} (D_law_both : Df P w K mg base "_law_both" ["rows"] 1 io_law_both fs_law_both f_law_both fd_law_both) {f_law_joined : Addr} {fd_law_joined : FuncData} (D_law_joined : Df P w K mg base "_law_joined" ["many", "pairs"] 1 io_law_joined fs_law_joined f_law_joined fd_law_joined) {f_law_mixed : Addr} {fd_law_mixed : FuncData} (D_law_mixed : Df P w K mg base "_law_mixed" ["deal", "some"] 2 io_law_mixed fs_law_mixed f_law_mixed fd_law_mixed) : Df P w K mg base "_law_renamed" ["deal", "rows"] 3 io_law_renamed fs_law_renamed f fd :=
  ⟨fnD_of F sc_law_renamed (d_law_renamed B D_law_both D_law_joined D_law_mixed) (by intro j h; revert h; match j with | 0 => decide | 1 => decide | 2 => decide | 3 => decide | 4 => decide | 5 => decide | _ + 6 => intro h; simp at h) hl_law_renamed h_law_renamed, hm, F.kp, F.binds fun _ _ _ _ _ _ us hl => match us, hl with | [_, _], _ => rfl⟩

theorem d_law_folding (B : Free mg bl) {f_law_any : Addr} {fd_law_any : FuncData} (D_law_any : Df P w K mg base "_law_any" ["deal", "bound"] 1 io_law_any fs_law_any f_law_any fd_law_any) {f_law_joined : Addr} {fd_law_joined : FuncData} (D_law_joined : Df P w K mg base "_law_joined" ["many", "pairs"] 1 io_law_joined fs_law_joined f_law_joined fd_law_joined) {f_law_renamed : Addr} {fd_law_renamed : FuncData} (D_law_renamed : Df P w K mg base "_law_renamed" ["deal", "rows"] 3 io_law_renamed fs_law_renamed f_law_renamed fd_law_renamed) : DSs (scOf P w K mg base N_law_folding s_law_folding 3) [2, 3, 4, 5, 6, 8, 3] (defBody s_law_folding) w_law_folding := by
  have nd : (scOf P w K mg base N_law_folding s_law_folding 3).N.Nodup := sc_law_folding.nd
  exact (dss_cons (ds_parC (is := [2, 3]) (da_cons (de_add de_int (de_callD D_law_any (da_cons (de_name 0) (da_cons (de_name 1) da_nil)))) (da_cons (de_lstO (da_cons (de_tupQ (da_cons de_int (da_cons de_int da_nil))) da_nil)) da_nil)) (dnm_cons (i := 2) nd (dnm_cons (i := 3) nd dnm_nil)) (hw := fun env h => by obtain ⟨⟩ := env; cases h; rfl))
    (dss_cons (ds_for (i_range2 B (da_cons de_int (da_cons (de_name 2) da_nil))) (dg_name (i := 4) nd) (dss_cons (ds_asg 5 nd (de_callD D_law_any (da_cons (de_name 0) (da_cons (de_name 4) da_nil))))
    (dss_cons (ds_setLc 6 (own := [("y", 7)]) nd rfl (blkOk_by (by kernel_rfl)) (i_range1 B (da_cons (de_name 4) da_nil)) (dg_name (i := 7) nd) (by decide) (dts_one (DW.dt (dw_or (dt_in (de_tupQ (da_cons (de_name 7) (da_cons (de_name 5) da_nil))) (de_name 3)) (dw_or1 (dt_in (de_tupQ (da_cons (de_name 5) (da_cons (de_name 7) da_nil))) (de_name 3)))))) (de_name 7))
    (dss_cons (ds_setLc 8 (own := [("y", 7)]) nd rfl (blkOk_by (by kernel_rfl)) (di_seq (de_name 6)) (dg_name (i := 7) nd) (by decide) (dts_one (dt_gt (de_callD D_law_any (da_cons (de_name 0) (da_cons de_int da_nil))) de_int)) (de_name 7))
    (dss_cons (ds_asg 3 nd (de_add (de_name 3) (de_lc (own := [("y", 7)]) nd (blkOk_by (by kernel_rfl)) (di_seq (de_if (dt_ne (de_name 8) (de_lstO da_nil)) (de_name 8) (de_slice (de_name 6) do_none (do_some de_int)))) (dg_name (i := 7) nd) (by decide) dts_nil (de_tupQ (da_cons (de_name 4) (da_cons (de_name 7) da_nil))))))
    (dss_one (ds_ifS (DW.dt (dw_and (dt_in (de_name 5) (de_name 8)) (dw_and (dt_in (de_tupQ (da_cons (de_name 5) (da_cons (de_name 5) da_nil))) (de_name 3)) (dw_and1 (dt_eq (de_callD D_law_any (da_cons (de_name 0) (da_cons de_int da_nil))) de_int))))) (dss_one (ds_expr (de_append (de_name 3) (da_cons (de_tupQ (da_cons (de_name 4) (da_cons (de_name 4) da_nil))) da_nil)))) dss_nil)))))))
    (dss_one (ds_ret (de_callD D_law_renamed (da_cons (de_name 0) (da_cons (de_callD D_law_joined (da_cons (de_name 2) (da_cons (de_name 3) da_nil))) da_nil)))))))
theorem ok_law_folding {f : Addr} {fd : FuncData} (F : Fun K "_law_folding" "_law_folding" s_law_folding f fd) (hm : mg "_law_folding" = some (.ref f)) (B : Free mg bl) {f_law_any : Addr} {fd_law_any : FuncData} (D_law_any : Df P w K mg base "_law_any" ["deal", "bound"] 1 io_law_any fs_law_any f_law_any fd_law_any) {f_law_joined : Addr} {fd_law_joined : FuncData} (D_law_joined : Df P w K mg base "_law_joined" ["many", "pairs"] 1 io_law_joined fs_law_joined f_law_joined fd_law_joined) {f_law_renamed : Addr} {fd_law_renamed : FuncData} (D_law_renamed : Df P w K mg base "_law_renamed" ["deal", "rows"] 3 io_law_renamed fs_law_renamed f_law_renamed fd_law_renamed) : Df P w K mg base "_law_folding" ["deal", "most"] 4 io_law_folding fs_law_folding f fd :=
  ⟨fnD_of F sc_law_folding (d_law_folding B D_law_any D_law_joined D_law_renamed) (by intro j h; revert h; match j with | 0 => decide | 1 => decide | 2 => decide | 3 => decide | 4 => decide | 5 => decide | _ + 6 => intro h; simp at h) hl_law_folding h_law_folding, hm, F.kp, F.binds fun _ _ _ _ _ _ us hl => match us, hl with | [_, _], _ => rfl⟩

theorem d_law_rule (B : Free mg bl) {f_law_any : Addr} {fd_law_any : FuncData} (D_law_any : Df P w K mg base "_law_any" ["deal", "bound"] 1 io_law_any fs_law_any f_law_any fd_law_any) {f_law_folding : Addr} {fd_law_folding : FuncData} (D_law_folding : Df P w K mg base "_law_folding" ["deal", "most"] 4 io_law_folding fs_law_folding f_law_folding fd_law_folding) {f_law_joined : Addr} {fd_law_joined : FuncData} (D_law_joined : Df P w K mg base "_law_joined" ["many", "pairs"] 1 io_law_joined fs_law_joined f_law_joined fd_law_joined) {f_law_of : Addr} {fd_law_of : FuncData} (D_law_of : Df P w K mg base "_law_of" ["deal", "some"] 2 io_law_of fs_law_of f_law_of fd_law_of) {f_law_renamed : Addr} {fd_law_renamed : FuncData} (D_law_renamed : Df P w K mg base "_law_renamed" ["deal", "rows"] 3 io_law_renamed fs_law_renamed f_law_renamed fd_law_renamed) {f_law_under : Addr} {fd_law_under : FuncData} (D_law_under : Df P w K mg base "_law_under" ["many", "more"] 1 io_law_under fs_law_under f_law_under fd_law_under) : DSs (scOf P w K mg base N_law_rule s_law_rule 4) [2, 3, 5, 6] (defBody s_law_rule) w_law_rule := by
  have nd : (scOf P w K mg base N_law_rule s_law_rule 4).N.Nodup := sc_law_rule.nd
  exact (dss_cons (ds_parC (is := [2, 3]) (da_cons (de_callD D_law_any (da_cons (de_name 0) (da_cons de_int da_nil))) (da_cons (de_add de_int (de_callD D_law_any (da_cons (de_name 0) (da_cons (de_name 1) da_nil)))) da_nil)) (dnm_cons (i := 2) nd (dnm_cons (i := 3) nd dnm_nil)) (hw := fun env h => by obtain ⟨⟩ := env; cases h; rfl))
    (dss_cons (ds_ifS (dt_lt (de_name 2) de_int) (dss_one (ds_ret (de_callD D_law_folding (da_cons (de_name 0) (da_cons (de_name 1) da_nil))))) dss_nil)
    (dss_cons (ds_ifS (dt_eq (de_name 2) de_int) (dss_one (ds_ret (de_callD D_law_renamed (da_cons (de_name 0) (da_cons (de_callD D_law_joined (da_cons (b_max2 B (da_cons de_int (da_cons (de_name 3) da_nil))) (da_cons (de_lc (own := [("x", 4)]) nd (blkOk_by (by kernel_rfl)) (i_range1 B (da_cons (b_max2 B (da_cons de_int (da_cons (de_name 3) da_nil))) da_nil)) (dg_name (i := 4) nd) (by decide) dts_nil (de_tupQ (da_cons (de_name 4) (da_cons (de_mod (b_int B (da_cons (de_add (de_name 4) de_int) da_nil)) (b_max2 B (da_cons de_int (da_cons (de_name 3) da_nil)))) da_nil)))) da_nil))) da_nil))))) dss_nil)
    (dss_cons (ds_asg 5 nd (de_callD D_law_of (da_cons (de_name 0) (da_cons (de_lstO (da_cons de_int (da_cons de_int (da_cons de_int da_nil)))) da_nil))))
    (dss_cons (ds_setLc 6 (own := [("x", 4), ("y", 7)]) nd rfl (blkOk_by (by kernel_rfl)) (di_seq (de_callD D_law_under (da_cons (de_name 3) (da_cons de_int da_nil)))) (dg_tup (dgs_cons (dg_name (i := 4) nd) (dgs_cons (dg_name (i := 7) nd) dgs_nil))) (by decide) (dts_one (dt_eq (de_callD D_law_any (da_cons (de_name 0) (da_cons (de_name 5) da_nil))) de_int)) (de_tupQ (da_cons (de_name 4) (da_cons (de_name 7) da_nil))))
    (dss_one (ds_ret (de_callD D_law_joined (da_cons (de_name 3) (da_cons (de_name 6) da_nil))))))))))
theorem ok_law_rule {f : Addr} {fd : FuncData} (F : Fun K "_law_rule" "_law_rule" s_law_rule f fd) (hm : mg "_law_rule" = some (.ref f)) (B : Free mg bl) {f_law_any : Addr} {fd_law_any : FuncData} (D_law_any : Df P w K mg base "_law_any" ["deal", "bound"] 1 io_law_any fs_law_any f_law_any fd_law_any) {f_law_folding : Addr} {fd_law_folding : FuncData} (D_law_folding : Df P w K mg base "_law_folding" ["deal", "most"] 4 io_law_folding fs_law_folding f_law_folding fd_law_folding) {f_law_joined : Addr} {fd_law_joined : FuncData} (D_law_joined : Df P w K mg base "_law_joined" ["many", "pairs"] 1 io_law_joined fs_law_joined f_law_joined fd_law_joined) {f_law_of : Addr} {fd_law_of : FuncData} (D_law_of : Df P w K mg base "_law_of" ["deal", "some"] 2 io_law_of fs_law_of f_law_of fd_law_of) {f_law_renamed : Addr} {fd_law_renamed : FuncData} (D_law_renamed : Df P w K mg base "_law_renamed" ["deal", "rows"] 3 io_law_renamed fs_law_renamed f_law_renamed fd_law_renamed) {f_law_under : Addr} {fd_law_under : FuncData} (D_law_under : Df P w K mg base "_law_under" ["many", "more"] 1 io_law_under fs_law_under f_law_under fd_law_under) : Df P w K mg base "_law_rule" ["deal", "most"] 5 io_law_rule fs_law_rule f fd :=
  ⟨fnD_of F sc_law_rule (d_law_rule B D_law_any D_law_folding D_law_joined D_law_of D_law_renamed D_law_under) (by intro j h; revert h; match j with | 0 => decide | 1 => decide | 2 => decide | 3 => decide | 4 => decide | 5 => decide | _ + 6 => intro h; simp at h) hl_law_rule h_law_rule, hm, F.kp, F.binds fun _ _ _ _ _ _ us hl => match us, hl with | [_, _], _ => rfl⟩

theorem d_law_least_round : DSs (scOf P w K mg base N_law_least_round s_law_least_round 0) [1, 2, 3] (defBody s_law_least_round) w_law_least_round := by
  have nd : (scOf P w K mg base N_law_least_round s_law_least_round 0).N.Nodup := sc_law_least_round.nd
  exact (dss_cons (ds_asg 1 nd (de_index (de_name 0) (da_cons de_int da_nil)))
    (dss_cons (ds_asg 2 nd (de_add (de_slice (de_name 0) (do_some (de_name 1)) do_none) (de_slice (de_name 0) do_none (do_some (de_name 1)))))
    (dss_cons (ds_asg 3 nd (de_add (de_slice (de_name 2) do_none (do_some de_int)) (de_rev (de_slice (de_name 2) (do_some de_int) do_none))))
    (dss_one (ds_ret (de_if (dt_ltL (de_name 2) (de_name 3)) (de_name 2) (de_name 3)))))))
theorem ok_law_least_round {f : Addr} {fd : FuncData} (F : Fun K "_law_least_round" "_law_least_round" s_law_least_round f fd) (hm : mg "_law_least_round" = some (.ref f)) : Df P w K mg base "_law_least_round" ["order"] 1 io_law_least_round fs_law_least_round f fd :=
  ⟨fnD_of F sc_law_least_round (d_law_least_round) (by intro j h; revert h; match j with | 0 => decide | 1 => decide | 2 => decide | 3 => decide | 4 => decide | 5 => decide | _ + 6 => intro h; simp at h) hl_law_least_round h_law_least_round, hm, F.kp, F.binds fun _ _ _ _ _ _ us hl => match us, hl with | [_], _ => rfl⟩

theorem d_law_round_of_marks (B : Free mg bl) {f_law_joined : Addr} {fd_law_joined : FuncData} (D_law_joined : Df P w K mg base "_law_joined" ["many", "pairs"] 1 io_law_joined fs_law_joined f_law_joined fd_law_joined) {f_law_least_round : Addr} {fd_law_least_round : FuncData} (D_law_least_round : Df P w K mg base "_law_least_round" ["order"] 1 io_law_least_round fs_law_least_round f_law_least_round fd_law_least_round) {f_law_mixed : Addr} {fd_law_mixed : FuncData} (D_law_mixed : Df P w K mg base "_law_mixed" ["deal", "some"] 2 io_law_mixed fs_law_mixed f_law_mixed fd_law_mixed) : DSs (scOf P w K mg base N_law_round_of_marks s_law_round_of_marks 2) [3, 4] (defBody s_law_round_of_marks) w_law_round_of_marks := by
  have nd : (scOf P w K mg base N_law_round_of_marks s_law_round_of_marks 2).N.Nodup := sc_law_round_of_marks.nd
  exact (dss_cons (ds_asg 3 nd (de_callD D_law_least_round (da_cons (de_callD D_law_mixed (da_cons (de_name 0) (da_cons (b_listRg1 B (de_name 1)) da_nil))) da_nil)))
    (dss_cons (ds_asg 4 nd (de_add (de_lc (own := [("x", 5)]) nd (blkOk_by (by kernel_rfl)) (i_range1 B (da_cons (de_name 1) da_nil)) (dg_name (i := 5) nd) (by decide) dts_nil (de_tupQ (da_cons (de_ix (de_name 3) (de_name 5)) (da_cons (de_ix (de_name 3) (de_mod (b_int B (da_cons (de_add (de_name 5) de_int) da_nil)) (de_name 1))) da_nil)))) (de_lc (own := [("x", 5)]) nd (blkOk_by (by kernel_rfl)) (i_range1 B (da_cons (de_name 1) da_nil)) (dg_name (i := 5) nd) (by decide) (dts_one (dt_val (de_name 2))) (de_tupQ (da_cons (de_name 5) (da_cons (de_name 5) da_nil))))))
    (dss_one (ds_ret (de_tup (da_cons (de_name 3) (da_cons (de_callD D_law_joined (da_cons (de_name 1) (da_cons (de_name 4) da_nil))) (da_cons (de_name 2) da_nil))))))))
theorem ok_law_round_of_marks {f : Addr} {fd : FuncData} (F : Fun K "_law_round_of_marks" "_law_round_of_marks" s_law_round_of_marks f fd) (hm : mg "_law_round_of_marks" = some (.ref f)) (B : Free mg bl) {f_law_joined : Addr} {fd_law_joined : FuncData} (D_law_joined : Df P w K mg base "_law_joined" ["many", "pairs"] 1 io_law_joined fs_law_joined f_law_joined fd_law_joined) {f_law_least_round : Addr} {fd_law_least_round : FuncData} (D_law_least_round : Df P w K mg base "_law_least_round" ["order"] 1 io_law_least_round fs_law_least_round f_law_least_round fd_law_least_round) {f_law_mixed : Addr} {fd_law_mixed : FuncData} (D_law_mixed : Df P w K mg base "_law_mixed" ["deal", "some"] 2 io_law_mixed fs_law_mixed f_law_mixed fd_law_mixed) : Df P w K mg base "_law_round_of_marks" ["deal", "many", "loose"] 3 io_law_round_of_marks fs_law_round_of_marks f fd :=
  ⟨fnD_of F sc_law_round_of_marks (d_law_round_of_marks B D_law_joined D_law_least_round D_law_mixed) (by intro j h; revert h; match j with | 0 => decide | 1 => decide | 2 => decide | 3 => decide | 4 => decide | 5 => decide | _ + 6 => intro h; simp at h) hl_law_round_of_marks h_law_round_of_marks, hm, F.kp, F.binds fun _ _ _ _ _ _ us hl => match us, hl with | [_, _, _], _ => rfl⟩

theorem d_law_round_rule {f_law_any : Addr} {fd_law_any : FuncData} (D_law_any : Df P w K mg base "_law_any" ["deal", "bound"] 1 io_law_any fs_law_any f_law_any fd_law_any) {f_law_of : Addr} {fd_law_of : FuncData} (D_law_of : Df P w K mg base "_law_of" ["deal", "some"] 2 io_law_of fs_law_of f_law_of fd_law_of) {f_law_round_of_marks : Addr} {fd_law_round_of_marks : FuncData} (D_law_round_of_marks : Df P w K mg base "_law_round_of_marks" ["deal", "many", "loose"] 3 io_law_round_of_marks fs_law_round_of_marks f_law_round_of_marks fd_law_round_of_marks) : DSs (scOf P w K mg base N_law_round_rule s_law_round_rule 3) [1, 2] (defBody s_law_round_rule) w_law_round_rule := by
  have nd : (scOf P w K mg base N_law_round_rule s_law_round_rule 3).N.Nodup := sc_law_round_rule.nd
  exact (dss_cons (ds_asg 1 nd (de_eq (de_callD D_law_any (da_cons (de_name 0) (da_cons de_int da_nil))) de_int))
    (dss_cons (ds_asg 2 nd (de_if (dt_val (de_name 1)) (de_callD D_law_of (da_cons (de_name 0) (da_cons (de_lstO (da_cons de_int (da_cons de_int (da_cons (de_add de_int (de_callD D_law_any (da_cons (de_name 0) (da_cons de_int da_nil)))) da_nil)))) da_nil))) (de_callD D_law_of (da_cons (de_name 0) (da_cons (de_lstO (da_cons de_int (da_cons de_int (da_cons de_int (da_cons de_int (da_cons de_int (da_cons (de_add de_int (de_callD D_law_any (da_cons (de_name 0) (da_cons de_int da_nil)))) da_nil))))))) da_nil)))))
    (dss_one (ds_ret (de_callD D_law_round_of_marks (da_cons (de_name 0) (da_cons (de_name 2) (da_cons (de_name 1) da_nil))))))))
theorem ok_law_round_rule {f : Addr} {fd : FuncData} (F : Fun K "_law_round_rule" "_law_round_rule" s_law_round_rule f fd) (hm : mg "_law_round_rule" = some (.ref f)) {f_law_any : Addr} {fd_law_any : FuncData} (D_law_any : Df P w K mg base "_law_any" ["deal", "bound"] 1 io_law_any fs_law_any f_law_any fd_law_any) {f_law_of : Addr} {fd_law_of : FuncData} (D_law_of : Df P w K mg base "_law_of" ["deal", "some"] 2 io_law_of fs_law_of f_law_of fd_law_of) {f_law_round_of_marks : Addr} {fd_law_round_of_marks : FuncData} (D_law_round_of_marks : Df P w K mg base "_law_round_of_marks" ["deal", "many", "loose"] 3 io_law_round_of_marks fs_law_round_of_marks f_law_round_of_marks fd_law_round_of_marks) : Df P w K mg base "_law_round_rule" ["deal"] 4 io_law_round_rule fs_law_round_rule f fd :=
  ⟨fnD_of F sc_law_round_rule (d_law_round_rule D_law_any D_law_of D_law_round_of_marks) (by intro j h; revert h; match j with | 0 => decide | 1 => decide | 2 => decide | 3 => decide | 4 => decide | 5 => decide | _ + 6 => intro h; simp at h) hl_law_round_rule h_law_round_rule, hm, F.kp, F.binds fun _ _ _ _ _ _ us hl => match us, hl with | [_], _ => rfl⟩

theorem d_law_turned37 (B : Free mg bl) : DSs (scOf P w K mg base N_law_turned37 s_law_turned37 0) [3] (defBody s_law_turned37) w_law_turned37 := by
  have nd : (scOf P w K mg base N_law_turned37 s_law_turned37 0).N.Nodup := sc_law_turned37.nd
  exact (dss_cons (ds_asg 3 nd (de_mod (b_int B (da_cons (de_sub (de_name 2) (de_name 1)) da_nil)) (de_name 0)))
    (dss_one (ds_ret (de_if (dt_gt (de_name 3) de_int) (de_neg de_int) (de_name 3)))))
theorem ok_law_turned37 {f : Addr} {fd : FuncData} (F : Fun K "_law_turned" "_law_turned" s_law_turned37 f fd) (hm : mg "_law_turned" = some (.ref f)) (B : Free mg bl) : Df P w K mg base "_law_turned" ["many", "x", "y"] 1 io_law_turned37 fs_law_turned37 f fd :=
  ⟨fnD_of F sc_law_turned37 (d_law_turned37 B) (by intro j h; revert h; match j with | 0 => decide | 1 => decide | 2 => decide | 3 => decide | 4 => decide | 5 => decide | _ + 6 => intro h; simp at h) hl_law_turned37 h_law_turned37, hm, F.kp, F.binds fun _ _ _ _ _ _ us hl => match us, hl with | [_, _, _], _ => rfl⟩

theorem d_law_due_round (B : Free mg bl) : DSs (scOf P w K mg base N_law_due_round s_law_due_round 0) [1, 2, 4, 5, 6] (defBody s_law_due_round) w_law_due_round := by
  have nd : (scOf P w K mg base N_law_due_round s_law_due_round 0).N.Nodup := sc_law_due_round.nd
  exact (dss_cons (ds_asg 1 nd (b_len B (da_cons (de_name 0) da_nil)))
    (dss_cons (ds_asgC 2 nd (de_lc (own := [("x", 3)]) nd (blkOk_by (by kernel_rfl)) (i_range1 B (da_cons (de_name 1) da_nil)) (dg_name (i := 3) nd) (by decide) (dts_one (dt_in (de_name 3) (de_ix (de_name 0) (de_name 3)))) (de_name 3)))
    (dss_cons (ds_ifS (DW.dt (dw_or (dt_lt (de_name 1) de_int) (dw_or (dt_eq (de_name 1) de_int) (dw_or1 (DW.dt (dw_and (dt_ne (de_name 2) (de_lstO da_nil)) (dw_and1 (DW.dt (dw_or (dt_lt (b_len B (da_cons (de_name 2) da_nil)) (de_name 1)) (dw_or1 (dt_lt (de_name 1) de_int))))))))))) (dss_one (ds_ret de_non)) dss_nil)
    (dss_cons (ds_ifS (dt_ne (de_lc (own := [("x", 3)]) nd (blkOk_by (by kernel_rfl)) (i_range1 B (da_cons (de_name 1) da_nil)) (dg_name (i := 3) nd) (by decide) (dts_one (dt_ne (b_len B (da_cons (de_ix (de_name 0) (de_name 3)) da_nil)) (de_if (dt_eq (de_name 2) (de_lstO da_nil)) de_int de_int))) (de_name 3)) (de_lstO da_nil)) (dss_one (ds_ret de_non)) dss_nil)
    (dss_cons (ds_asg 4 nd (de_lstO (da_cons de_int da_nil)))
    (dss_cons (ds_for (i_range1 B (da_cons (de_name 1) da_nil)) (dg_name (i := 5) nd) (dss_cons (ds_setLc 6 (own := [("y", 7)]) nd rfl (blkOk_by (by kernel_rfl)) (di_seq (de_ix (de_name 0) (de_ix (de_name 4) (de_neg de_int)))) (dg_name (i := 7) nd) (by decide) (dts_one (DW.dt (dw_and (dt_ne (de_name 7) (de_ix (de_name 4) (de_neg de_int))) (dw_and1 (dt_notin (de_name 7) (de_name 4)))))) (de_name 7))
    (dss_cons (ds_ifS (dt_eq (de_name 6) (de_lstO da_nil)) (dss_one ds_break) dss_nil)
    (dss_one (ds_expr (de_append (de_name 4) (da_cons (de_ix (de_name 6) de_int) da_nil)))))))
    (dss_one (ds_ret (de_if (DW.dt (dw_and (dt_eq (b_len B (da_cons (de_name 4) da_nil)) (de_name 1)) (dw_and1 (dt_in de_int (de_ix (de_name 0) (de_ix (de_name 4) (de_neg de_int))))))) (b_tuple B (da_cons (de_name 4) da_nil)) de_non)))))))))
theorem ok_law_due_round {f : Addr} {fd : FuncData} (F : Fun K "_law_due_round" "_law_due_round" s_law_due_round f fd) (hm : mg "_law_due_round" = some (.ref f)) (B : Free mg bl) : Df P w K mg base "_law_due_round" ["rule"] 1 io_law_due_round fs_law_due_round f fd :=
  ⟨fnD_of F sc_law_due_round (d_law_due_round B) (by intro j h; revert h; match j with | 0 => decide | 1 => decide | 2 => decide | 3 => decide | 4 => decide | 5 => decide | _ + 6 => intro h; simp at h) hl_law_due_round h_law_due_round, hm, F.kp, F.binds fun _ _ _ _ _ _ us hl => match us, hl with | [_], _ => rfl⟩

theorem d_law_near_rule (B : Free mg bl) {f_law_any : Addr} {fd_law_any : FuncData} (D_law_any : Df P w K mg base "_law_any" ["deal", "bound"] 1 io_law_any fs_law_any f_law_any fd_law_any) {f_law_joined : Addr} {fd_law_joined : FuncData} (D_law_joined : Df P w K mg base "_law_joined" ["many", "pairs"] 1 io_law_joined fs_law_joined f_law_joined fd_law_joined) {f_law_of : Addr} {fd_law_of : FuncData} (D_law_of : Df P w K mg base "_law_of" ["deal", "some"] 2 io_law_of fs_law_of f_law_of fd_law_of) {f_law_renamed : Addr} {fd_law_renamed : FuncData} (D_law_renamed : Df P w K mg base "_law_renamed" ["deal", "rows"] 3 io_law_renamed fs_law_renamed f_law_renamed fd_law_renamed) {f_law_round_rule : Addr} {fd_law_round_rule : FuncData} (D_law_round_rule : Df P w K mg base "_law_round_rule" ["deal"] 4 io_law_round_rule fs_law_round_rule f_law_round_rule fd_law_round_rule) {f_law_rule : Addr} {fd_law_rule : FuncData} (D_law_rule : Df P w K mg base "_law_rule" ["deal", "most"] 5 io_law_rule fs_law_rule f_law_rule fd_law_rule) : DSs (scOf P w K mg base N_law_near_rule s_law_near_rule 5) [1, 2, 3, 4, 5, 6, 7, 8, 6, 7, 9, 7, 9, 11, 12, 13, 14, 15, 16] (defBody s_law_near_rule) w_law_near_rule := by
  have nd : (scOf P w K mg base N_law_near_rule s_law_near_rule 5).N.Nodup := sc_law_near_rule.nd
  exact (dss_cons (ds_asg 1 nd (de_callD D_law_any (da_cons (de_name 0) (da_cons de_int da_nil))))
    (dss_cons (ds_tgF (de_callD D_law_round_rule (da_cons (de_name 0) da_nil)) (dg_tup (dgs_cons (dg_name (i := 2) nd) (dgs_cons (dg_name (i := 3) nd) (dgs_cons (dg_name (i := 4) nd) dgs_nil)))))
    (dss_cons (ds_asg 5 nd (b_len B (da_cons (de_name 3) da_nil)))
    (dss_cons (ds_asg 6 nd (de_lstO da_nil))
    (dss_cons (ds_for (i_enum B (da_cons (de_name 3) da_nil)) (dg_tup (dgs_cons (dg_name (i := 7) nd) (dgs_cons (dg_name (i := 8) nd) dgs_nil))) (dss_one (ds_asg 6 nd (de_add (de_name 6) (de_lc (own := [("y", 9)]) nd (blkOk_by (by kernel_rfl)) (di_seq (de_name 8)) (dg_name (i := 9) nd) (by decide) dts_nil (de_tupQ (da_cons (de_name 7) (da_cons (de_name 9) da_nil))))))))
    (dss_cons (ds_ifS (dt_lt (de_name 1) de_int) (dss_one (ds_ret (de_name 3))) dss_nil)
    (dss_cons (ds_ifS (dt_eq (de_name 1) de_int) (dss_cons (ds_parC (is := [7, 9]) (da_cons (de_callD D_law_any (da_cons (de_name 0) (da_cons (de_name 5) da_nil))) (da_cons (de_callD D_law_any (da_cons (de_name 0) (da_cons (de_name 5) da_nil))) da_nil)) (dnm_cons (i := 7) nd (dnm_cons (i := 9) nd dnm_nil)) (hw := fun env h => by obtain ⟨⟩ := env; cases h; rfl))
    (dss_one (ds_ret (de_callD D_law_joined (da_cons (de_name 5) (da_cons (de_add (de_name 6) (de_lstO (da_cons (de_tupQ (da_cons (de_name 7) (da_cons (de_name 9) da_nil))) da_nil))) da_nil)))))) dss_nil)
    (dss_cons (ds_ifS (dt_eq (de_name 1) de_int) (dss_cons (ds_tgF (de_callD D_law_of (da_cons (de_name 0) (da_cons (de_name 6) da_nil))) (dg_tup (dgs_cons (dg_name (i := 7) nd) (dgs_cons (dg_name (i := 9) nd) dgs_nil))))
    (dss_one (ds_ret (de_callD D_law_joined (da_cons (de_name 5) (da_cons (de_lc (own := [("pair", 10)]) nd (blkOk_by (by kernel_rfl)) (di_seq (de_name 6)) (dg_name (i := 10) nd) (by decide) (dts_one (dt_notin (de_name 10) (de_lstO (da_cons (de_tupQ (da_cons (de_name 7) (da_cons (de_name 9) da_nil))) (da_cons (de_tupQ (da_cons (de_name 9) (da_cons (de_name 7) da_nil))) da_nil))))) (de_name 10)) da_nil)))))) dss_nil)
    (dss_cons (ds_ifS (dt_eq (de_name 1) de_int) (dss_cons (ds_asg 11 nd (de_callD D_law_of (da_cons (de_name 0) (da_cons (de_lstO (da_cons de_int (da_cons de_int (da_cons de_int (da_cons de_int (da_cons de_int da_nil)))))) da_nil))))
    (dss_cons (ds_setLc 12 (own := [("x", 7)]) nd rfl (blkOk_by (by kernel_rfl)) (i_range1 B (da_cons (de_name 11) da_nil)) (dg_name (i := 7) nd) (by decide) (dts_one (dt_eq (de_callD D_law_any (da_cons (de_name 0) (da_cons de_int da_nil))) de_int)) (de_tupQ (da_cons (de_name 7) (da_cons (de_name 7) da_nil))))
    (dss_one (ds_ret (de_callD D_law_joined (da_cons (de_name 11) (da_cons (de_add (de_lc (own := [("x", 7)]) nd (blkOk_by (by kernel_rfl)) (i_range1 B (da_cons (de_name 11) da_nil)) (dg_name (i := 7) nd) (by decide) (dts_one (dt_gt (de_name 11) de_int)) (de_tupQ (da_cons (de_name 7) (da_cons (de_mod (b_int B (da_cons (de_add (de_name 7) de_int) da_nil)) (de_name 11)) da_nil)))) (de_name 12)) da_nil))))))) dss_nil)
    (dss_cons (ds_ifS (dt_eq (de_name 1) de_int) (dss_cons (ds_parC (is := [13, 14]) (da_cons (de_add de_int (de_callD D_law_any (da_cons (de_name 0) (da_cons de_int da_nil)))) (da_cons (de_add de_int (de_callD D_law_any (da_cons (de_name 0) (da_cons de_int da_nil)))) da_nil)) (dnm_cons (i := 13) nd (dnm_cons (i := 14) nd dnm_nil)) (hw := fun env h => by obtain ⟨⟩ := env; cases h; rfl))
    (dss_cons (ds_asg 15 nd (de_if (dt_eq (de_callD D_law_any (da_cons (de_name 0) (da_cons de_int da_nil))) de_int) (de_lc (own := [("x", 7)]) nd (blkOk_by (by kernel_rfl)) (i_range1 B (da_cons (de_add (de_name 13) (de_name 14)) da_nil)) (dg_name (i := 7) nd) (by decide) dts_nil (de_tupQ (da_cons (de_name 7) (da_cons (de_name 7) da_nil)))) (de_lstO da_nil)))
    (dss_cons (ds_asg 16 nd (de_add (de_lc (own := [("x", 7)]) nd (blkOk_by (by kernel_rfl)) (i_range1 B (da_cons (de_name 13) da_nil)) (dg_name (i := 7) nd) (by decide) dts_nil (de_tupQ (da_cons (de_name 7) (da_cons (de_mod (b_int B (da_cons (de_add (de_name 7) de_int) da_nil)) (de_name 13)) da_nil)))) (de_lc (own := [("x", 7)]) nd (blkOk_by (by kernel_rfl)) (i_range1 B (da_cons (de_name 14) da_nil)) (dg_name (i := 7) nd) (by decide) dts_nil (de_tupQ (da_cons (de_add (de_name 13) (de_name 7)) (da_cons (de_add (de_name 13) (de_mod (b_int B (da_cons (de_add (de_name 7) de_int) da_nil)) (de_name 14))) da_nil))))))
    (dss_one (ds_ret (de_callD D_law_renamed (da_cons (de_name 0) (da_cons (de_callD D_law_joined (da_cons (de_add (de_name 13) (de_name 14)) (da_cons (de_add (de_name 16) (de_name 15)) da_nil))) da_nil)))))))) dss_nil)
    (dss_one (ds_ret (de_callD D_law_rule (da_cons (de_name 0) (da_cons de_int da_nil)))))))))))))))
theorem ok_law_near_rule {f : Addr} {fd : FuncData} (F : Fun K "_law_near_rule" "_law_near_rule" s_law_near_rule f fd) (hm : mg "_law_near_rule" = some (.ref f)) (B : Free mg bl) {f_law_any : Addr} {fd_law_any : FuncData} (D_law_any : Df P w K mg base "_law_any" ["deal", "bound"] 1 io_law_any fs_law_any f_law_any fd_law_any) {f_law_joined : Addr} {fd_law_joined : FuncData} (D_law_joined : Df P w K mg base "_law_joined" ["many", "pairs"] 1 io_law_joined fs_law_joined f_law_joined fd_law_joined) {f_law_of : Addr} {fd_law_of : FuncData} (D_law_of : Df P w K mg base "_law_of" ["deal", "some"] 2 io_law_of fs_law_of f_law_of fd_law_of) {f_law_renamed : Addr} {fd_law_renamed : FuncData} (D_law_renamed : Df P w K mg base "_law_renamed" ["deal", "rows"] 3 io_law_renamed fs_law_renamed f_law_renamed fd_law_renamed) {f_law_round_rule : Addr} {fd_law_round_rule : FuncData} (D_law_round_rule : Df P w K mg base "_law_round_rule" ["deal"] 4 io_law_round_rule fs_law_round_rule f_law_round_rule fd_law_round_rule) {f_law_rule : Addr} {fd_law_rule : FuncData} (D_law_rule : Df P w K mg base "_law_rule" ["deal", "most"] 5 io_law_rule fs_law_rule f_law_rule fd_law_rule) : Df P w K mg base "_law_near_rule" ["deal"] 6 io_law_near_rule fs_law_near_rule f fd :=
  ⟨fnD_of F sc_law_near_rule (d_law_near_rule B D_law_any D_law_joined D_law_of D_law_renamed D_law_round_rule D_law_rule) (by intro j h; revert h; match j with | 0 => decide | 1 => decide | 2 => decide | 3 => decide | 4 => decide | 5 => decide | _ + 6 => intro h; simp at h) hl_law_near_rule h_law_near_rule, hm, F.kp, F.binds fun _ _ _ _ _ _ us hl => match us, hl with | [_], _ => rfl⟩

theorem d_law_made {f_p_round_rule : Addr} {fd_p_round_rule : FuncData} (D_p_round_rule : Df P w K mg base "round_rule" ["many", "loose"] 3 io_p_round_rule fs_p_round_rule f_p_round_rule fd_p_round_rule) (H_InvalidRule : ExnH K mg "InvalidRule") : DSs (scOf P w K mg base N_law_made s_law_made 3) [] (defBody s_law_made) w_law_made := by
  have nd : (scOf P w K mg base N_law_made s_law_made 3).N.Nodup := sc_law_made.nd
  exact (dss_one (ds_tryAt 2 H_InvalidRule (dss_one (ds_ret (de_tup (da_cons de_str (da_cons (de_callD D_p_round_rule (da_cons (de_name 0) (da_cons (de_name 1) da_nil))) da_nil))))) nd))
theorem ok_law_made {f : Addr} {fd : FuncData} (F : Fun K "_law_made" "_law_made" s_law_made f fd) (hm : mg "_law_made" = some (.ref f)) {f_p_round_rule : Addr} {fd_p_round_rule : FuncData} (D_p_round_rule : Df P w K mg base "round_rule" ["many", "loose"] 3 io_p_round_rule fs_p_round_rule f_p_round_rule fd_p_round_rule) (H_InvalidRule : ExnH K mg "InvalidRule") : Df P w K mg base "_law_made" ["many", "loose"] 4 io_law_made fs_law_made f fd :=
  ⟨fnD_of F sc_law_made (d_law_made D_p_round_rule H_InvalidRule) (by intro j h; revert h; match j with | 0 => decide | 1 => decide | 2 => decide | 3 => decide | 4 => decide | 5 => decide | _ + 6 => intro h; simp at h) hl_law_made h_law_made, hm, F.kp, F.binds fun _ _ _ _ _ _ us hl => match us, hl with | [_, _], _ => rfl⟩

theorem d_p_law (B : Free mg bl) {f_law_any : Addr} {fd_law_any : FuncData} (D_law_any : Df P w K mg base "_law_any" ["deal", "bound"] 1 io_law_any fs_law_any f_law_any fd_law_any) {f_law_draw : Addr} {fd_law_draw : FuncData} (D_law_draw : Df P w K mg base "_law_draw" ["script", "salt"] 1 io_law_draw fs_law_draw f_law_draw fd_law_draw) {f_law_due_round : Addr} {fd_law_due_round : FuncData} (D_law_due_round : Df P w K mg base "_law_due_round" ["rule"] 1 io_law_due_round fs_law_due_round f_law_due_round fd_law_due_round) {f_law_great : Addr} {fd_law_great : FuncData} (D_law_great : Df P w K mg base "_law_great" ["deal"] 3 io_law_great fs_law_great f_law_great fd_law_great) {f_law_joined : Addr} {fd_law_joined : FuncData} (D_law_joined : Df P w K mg base "_law_joined" ["many", "pairs"] 1 io_law_joined fs_law_joined f_law_joined fd_law_joined) {f_law_made : Addr} {fd_law_made : FuncData} (D_law_made : Df P w K mg base "_law_made" ["many", "loose"] 4 io_law_made fs_law_made f_law_made fd_law_made) {f_law_near_rule : Addr} {fd_law_near_rule : FuncData} (D_law_near_rule : Df P w K mg base "_law_near_rule" ["deal"] 6 io_law_near_rule fs_law_near_rule f_law_near_rule fd_law_near_rule) {f_law_of : Addr} {fd_law_of : FuncData} (D_law_of : Df P w K mg base "_law_of" ["deal", "some"] 2 io_law_of fs_law_of f_law_of fd_law_of) {f_law_round_rule : Addr} {fd_law_round_rule : FuncData} (D_law_round_rule : Df P w K mg base "_law_round_rule" ["deal"] 4 io_law_round_rule fs_law_round_rule f_law_round_rule fd_law_round_rule) {f_law_same : Addr} {fd_law_same : FuncData} (D_law_same : Df P w K mg base "_law_same" ["value", "due"] 6 io_law_same fs_law_same f_law_same fd_law_same) {f_law_turned37 : Addr} {fd_law_turned37 : FuncData} (D_law_turned37 : Df P w K mg base "_law_turned" ["many", "x", "y"] 1 io_law_turned37 fs_law_turned37 f_law_turned37 fd_law_turned37) {f_p_is_loose : Addr} {fd_p_is_loose : FuncData} (D_p_is_loose : Df P w K mg base "is_loose" ["rule"] 1 io_p_is_loose fs_p_is_loose f_p_is_loose fd_p_is_loose) {f_p_round_of : Addr} {fd_p_round_of : FuncData} (D_p_round_of : Df P w K mg base "round_of" ["rule"] 2 io_p_round_of fs_p_round_of f_p_round_of fd_p_round_of) {f_p_round_rule : Addr} {fd_p_round_rule : FuncData} (D_p_round_rule : Df P w K mg base "round_rule" ["many", "loose"] 3 io_p_round_rule fs_p_round_rule f_p_round_rule fd_p_round_rule) {f_p_turn : Addr} {fd_p_turn : FuncData} (D_p_turn : Df P w K mg base "turn" ["rule", "x", "y"] 4 io_p_turn fs_p_turn f_p_turn fd_p_turn) (kw_0 : KwOk fd_p_round_of ["rule"] 0 ["rule"] [0]) (kw_1 : KwOk fd_p_is_loose ["rule"] 0 ["rule"] [0]) (kw_2 : KwOk fd_p_round_rule ["many", "loose"] 0 ["loose", "many"] [1, 0]) (kw_3 : KwOk fd_p_turn ["rule", "x", "y"] 0 ["rule", "x", "y"] [0, 1, 2]) : DSs (scOf P w K mg base N_p_law s_p_law 6) [1, 2, 3, 4, 5, 6, 4, 7, 4, 10, 3, 6, 8, 9, 11] (defBody s_p_law) w_p_law := by
  have nd : (scOf P w K mg base N_p_law s_p_law 6).N.Nodup := sc_p_law.nd
  exact (dss_cons (ds_asg 1 nd (de_callD D_law_draw (da_cons (de_name 0) (da_cons de_int da_nil))))
    (dss_cons (ds_for (i_range1 B (da_cons de_int da_nil)) (dg_name (i := 2) nd) (dss_cons (ds_asg 3 nd (de_callD D_law_near_rule (da_cons (de_name 1) da_nil)))
    (dss_cons (ds_asg 4 nd (de_callD D_law_due_round (da_cons (de_name 3) da_nil)))
    (dss_cons (ds_ifS (dt_not (dt_val (de_callD D_law_same (da_cons (de_callD D_p_round_of (da_cons (de_name 3) da_nil)) (da_cons (de_name 4) da_nil))))) (dss_one (ds_ret de_bl)) dss_nil)
    (dss_one (ds_ifS (DW.dt (dw_and (dt_isnot (de_name 4) de_non) (dw_and1 (dt_not (dt_val (de_callD D_law_same (da_cons (de_callD D_p_is_loose (da_cons (de_name 3) da_nil)) (da_cons (de_in de_int (de_ix (de_name 3) de_int)) da_nil)))))))) (dss_one (ds_ret de_bl)) dss_nil))))))
    (dss_cons (ds_parC (is := [5, 6]) (da_cons (de_callD D_law_of (da_cons (de_name 1) (da_cons (de_lstO (da_cons (de_sub (de_neg de_int) (de_callD D_law_any (da_cons (de_name 1) (da_cons de_int da_nil)))) (da_cons (de_callD D_law_any (da_cons (de_name 1) (da_cons de_int da_nil))) (da_cons (de_callD D_law_any (da_cons (de_name 1) (da_cons de_int da_nil))) (da_cons (de_add de_int (de_callD D_law_any (da_cons (de_name 1) (da_cons de_int da_nil)))) (da_cons (de_callD D_law_great (da_cons (de_name 1) da_nil)) da_nil)))))) da_nil))) (da_cons (de_eq (de_callD D_law_any (da_cons (de_name 1) (da_cons de_int da_nil))) de_int) da_nil)) (dnm_cons (i := 5) nd (dnm_cons (i := 6) nd dnm_nil)) (hw := fun env h => by obtain ⟨⟩ := env; cases h; rfl))
    (dss_cons (ds_asg 4 nd (de_tupQ (da_cons de_str (da_cons de_int da_nil))))
    (dss_cons (ds_ifS (DW.dt (dw_and (dt_le_le de_int (de_name 5) de_int) (dw_and (dt_ne (de_name 5) de_int) (dw_and1 (DW.dt (dw_or (dt_gt (de_name 5) de_int) (dw_or1 (dt_not (dt_val (de_name 6)))))))))) (dss_cons (ds_setLc 7 (own := [("x", 8)]) nd rfl (blkOk_by (by kernel_rfl)) (i_range1 B (da_cons (de_name 5) da_nil)) (dg_name (i := 8) nd) (by decide) dts_nil (de_add (de_lstO (da_cons (de_mod (b_int B (da_cons (de_add (de_name 8) de_int) da_nil)) (de_name 5)) (da_cons (de_mod (b_int B (da_cons (de_sub (de_add (de_name 8) (de_name 5)) de_int) da_nil)) (de_name 5)) da_nil))) (de_if (dt_val (de_name 6)) (de_lstO (da_cons (de_name 8) da_nil)) (de_lstO da_nil))))
    (dss_one (ds_asg 4 nd (de_tupQ (da_cons de_str (da_cons (b_tuple B (da_cons (de_lc (own := [("row", 9)]) nd (blkOk_by (by kernel_rfl)) (di_seq (de_name 7)) (dg_name (i := 9) nd) (by decide) dts_nil (b_tuple B (da_cons (b_sorted B (da_cons (de_name 9) da_nil)) da_nil))) da_nil)) da_nil)))))) dss_nil)
    (dss_cons (ds_ifS (dt_not (dt_val (de_callD D_law_same (da_cons (de_callD D_law_made (da_cons (de_name 5) (da_cons (de_name 6) da_nil))) (da_cons (de_name 4) da_nil))))) (dss_one (ds_ret de_bl)) dss_nil)
    (dss_cons (ds_tgF (de_callD D_law_round_rule (da_cons (de_name 1) da_nil)) (dg_tup (dgs_cons (dg_name (i := 10) nd) (dgs_cons (dg_name (i := 3) nd) (dgs_cons (dg_name (i := 6) nd) dgs_nil)))))
    (dss_cons (ds_ifS (DW.dt (dw_or (dt_not (dt_val (de_callD D_law_same (da_cons (de_callK0 D_p_round_of.ok (Nat.le_of_ble_eq_true rfl) D_p_round_of.mg D_p_round_of.kp kw_0 (dk_cons (de_name 3) dk_nil)) (da_cons (b_tuple B (da_cons (de_name 10) da_nil)) da_nil))))) (dw_or1 (dt_not (dt_val (de_callD D_law_same (da_cons (de_callK0 D_p_is_loose.ok (Nat.le_of_ble_eq_true rfl) D_p_is_loose.mg D_p_is_loose.kp kw_1 (dk_cons (de_name 3) dk_nil)) (da_cons (de_name 6) da_nil)))))))) (dss_one (ds_ret de_bl)) dss_nil)
    (dss_cons (ds_ifS (dt_not (dt_val (de_callD D_law_same (da_cons (de_callK0 D_p_round_rule.ok (Nat.le_of_ble_eq_true rfl) D_p_round_rule.mg D_p_round_rule.kp kw_2 (dk_cons (de_name 6) (dk_cons (b_len B (da_cons (de_name 3) da_nil)) dk_nil))) (da_cons (de_callD D_law_joined (da_cons (b_len B (da_cons (de_name 3) da_nil)) (da_cons (de_add (de_lc (own := [("x", 8)]) nd (blkOk_by (by kernel_rfl)) (i_range1 B (da_cons (b_len B (da_cons (de_name 3) da_nil)) da_nil)) (dg_name (i := 8) nd) (by decide) dts_nil (de_tupQ (da_cons (de_name 8) (da_cons (de_mod (b_int B (da_cons (de_add (de_name 8) de_int) da_nil)) (b_len B (da_cons (de_name 3) da_nil))) da_nil)))) (de_lc (own := [("x", 8)]) nd (blkOk_by (by kernel_rfl)) (i_range1 B (da_cons (b_len B (da_cons (de_name 3) da_nil)) da_nil)) (dg_name (i := 8) nd) (by decide) (dts_one (dt_val (de_name 6))) (de_tupQ (da_cons (de_name 8) (da_cons (de_name 8) da_nil))))) da_nil))) da_nil))))) (dss_one (ds_ret de_bl)) dss_nil)
    (dss_cons (ds_for (i_enum B (da_cons (de_name 3) da_nil)) (dg_tup (dgs_cons (dg_name (i := 8) nd) (dgs_cons (dg_name (i := 9) nd) dgs_nil))) (dss_one (ds_for (di_seq (de_name 9)) (dg_name (i := 11) nd) (dss_one (ds_ifS (dt_not (dt_val (de_callD D_law_same (da_cons (de_callK0 D_p_turn.ok (Nat.le_of_ble_eq_true rfl) D_p_turn.mg D_p_turn.kp kw_3 (dk_cons (de_name 3) (dk_cons (de_name 8) (dk_cons (de_name 11) dk_nil)))) (da_cons (de_callD D_law_turned37 (da_cons (b_len B (da_cons (de_name 3) da_nil)) (da_cons (de_index (de_name 10) (da_cons (de_name 8) da_nil)) (da_cons (de_index (de_name 10) (da_cons (de_name 11) da_nil)) da_nil)))) da_nil))))) (dss_one (ds_ret de_bl)) dss_nil)))))
    (dss_one (ds_ret de_bl))))))))))))
theorem ok_p_law {f : Addr} {fd : FuncData} (F : Fun K "law" "law" s_p_law f fd) (hm : mg "law" = some (.ref f)) (B : Free mg bl) {f_law_any : Addr} {fd_law_any : FuncData} (D_law_any : Df P w K mg base "_law_any" ["deal", "bound"] 1 io_law_any fs_law_any f_law_any fd_law_any) {f_law_draw : Addr} {fd_law_draw : FuncData} (D_law_draw : Df P w K mg base "_law_draw" ["script", "salt"] 1 io_law_draw fs_law_draw f_law_draw fd_law_draw) {f_law_due_round : Addr} {fd_law_due_round : FuncData} (D_law_due_round : Df P w K mg base "_law_due_round" ["rule"] 1 io_law_due_round fs_law_due_round f_law_due_round fd_law_due_round) {f_law_great : Addr} {fd_law_great : FuncData} (D_law_great : Df P w K mg base "_law_great" ["deal"] 3 io_law_great fs_law_great f_law_great fd_law_great) {f_law_joined : Addr} {fd_law_joined : FuncData} (D_law_joined : Df P w K mg base "_law_joined" ["many", "pairs"] 1 io_law_joined fs_law_joined f_law_joined fd_law_joined) {f_law_made : Addr} {fd_law_made : FuncData} (D_law_made : Df P w K mg base "_law_made" ["many", "loose"] 4 io_law_made fs_law_made f_law_made fd_law_made) {f_law_near_rule : Addr} {fd_law_near_rule : FuncData} (D_law_near_rule : Df P w K mg base "_law_near_rule" ["deal"] 6 io_law_near_rule fs_law_near_rule f_law_near_rule fd_law_near_rule) {f_law_of : Addr} {fd_law_of : FuncData} (D_law_of : Df P w K mg base "_law_of" ["deal", "some"] 2 io_law_of fs_law_of f_law_of fd_law_of) {f_law_round_rule : Addr} {fd_law_round_rule : FuncData} (D_law_round_rule : Df P w K mg base "_law_round_rule" ["deal"] 4 io_law_round_rule fs_law_round_rule f_law_round_rule fd_law_round_rule) {f_law_same : Addr} {fd_law_same : FuncData} (D_law_same : Df P w K mg base "_law_same" ["value", "due"] 6 io_law_same fs_law_same f_law_same fd_law_same) {f_law_turned37 : Addr} {fd_law_turned37 : FuncData} (D_law_turned37 : Df P w K mg base "_law_turned" ["many", "x", "y"] 1 io_law_turned37 fs_law_turned37 f_law_turned37 fd_law_turned37) {f_p_is_loose : Addr} {fd_p_is_loose : FuncData} (D_p_is_loose : Df P w K mg base "is_loose" ["rule"] 1 io_p_is_loose fs_p_is_loose f_p_is_loose fd_p_is_loose) {f_p_round_of : Addr} {fd_p_round_of : FuncData} (D_p_round_of : Df P w K mg base "round_of" ["rule"] 2 io_p_round_of fs_p_round_of f_p_round_of fd_p_round_of) {f_p_round_rule : Addr} {fd_p_round_rule : FuncData} (D_p_round_rule : Df P w K mg base "round_rule" ["many", "loose"] 3 io_p_round_rule fs_p_round_rule f_p_round_rule fd_p_round_rule) {f_p_turn : Addr} {fd_p_turn : FuncData} (D_p_turn : Df P w K mg base "turn" ["rule", "x", "y"] 4 io_p_turn fs_p_turn f_p_turn fd_p_turn) (kw_0 : KwOk fd_p_round_of ["rule"] 0 ["rule"] [0]) (kw_1 : KwOk fd_p_is_loose ["rule"] 0 ["rule"] [0]) (kw_2 : KwOk fd_p_round_rule ["many", "loose"] 0 ["loose", "many"] [1, 0]) (kw_3 : KwOk fd_p_turn ["rule", "x", "y"] 0 ["rule", "x", "y"] [0, 1, 2]) : Df P w K mg base "law" ["script"] 7 io_p_law fs_p_law f fd :=
  ⟨fnD_of F sc_p_law (d_p_law B D_law_any D_law_draw D_law_due_round D_law_great D_law_joined D_law_made D_law_near_rule D_law_of D_law_round_rule D_law_same D_law_turned37 D_p_is_loose D_p_round_of D_p_round_rule D_p_turn kw_0 kw_1 kw_2 kw_3) (by intro j h; revert h; match j with | 0 => decide | 1 => decide | 2 => decide | 3 => decide | 4 => decide | 5 => decide | _ + 6 => intro h; simp at h) hl_p_law h_p_law, hm, F.kp, F.binds fun _ _ _ _ _ _ us hl => match us, hl with | [_], _ => rfl⟩

theorem kwok_0 {f : Addr} {fd : FuncData} (F : Fun K "round_of" "round_of" s_p_round_of f fd) : KwOk fd ["rule"] 0 ["rule"] [0] := by
  obtain ⟨oc, od, kV, doc, pm, an, cdv, ct, osl, rfl, lk, hcd⟩ := F.ex
  intro us ws h1 h2
  match us, ws, h1, h2 with
  | [], [_], _, _ => rfl

theorem kwok_1 {f : Addr} {fd : FuncData} (F : Fun K "is_loose" "is_loose" s_p_is_loose f fd) : KwOk fd ["rule"] 0 ["rule"] [0] := by
  obtain ⟨oc, od, kV, doc, pm, an, cdv, ct, osl, rfl, lk, hcd⟩ := F.ex
  intro us ws h1 h2
  match us, ws, h1, h2 with
  | [], [_], _, _ => rfl

theorem kwok_2 {f : Addr} {fd : FuncData} (F : Fun K "round_rule" "round_rule" s_p_round_rule f fd) : KwOk fd ["many", "loose"] 0 ["loose", "many"] [1, 0] := by
  obtain ⟨oc, od, kV, doc, pm, an, cdv, ct, osl, rfl, lk, hcd⟩ := F.ex
  intro us ws h1 h2
  match us, ws, h1, h2 with
  | [], [_, _], _, _ => rfl

theorem kwok_3 {f : Addr} {fd : FuncData} (F : Fun K "turn" "turn" s_p_turn f fd) : KwOk fd ["rule", "x", "y"] 0 ["rule", "x", "y"] [0, 1, 2] := by
  obtain ⟨oc, od, kV, doc, pm, an, cdv, ct, osl, rfl, lk, hcd⟩ := F.ex
  intro us ws h1 h2
  match us, ws, h1, h2 with
  | [], [_, _, _], _, _ => rfl

end
end LX

set_option maxHeartbeats 0
namespace LX
open PySem PySem.Spec PyProof.Rows L2 DL
theorem fnOk_mono {P : Program} {w : World} {K : PySem.W.Frag} {mg : Str → Option Value} {base : Heap} {CX : CXT} {k : Nat} {f : Addr} {fd : FuncData} {ps : List Str} {sp sp' : Sp} (h : ∀ vs H Q E, sp' vs H Q E → sp vs H Q E) (F : FnOk P w K mg base CX k f fd ps sp) : FnOk P w K mg base CX k f fd ps sp' :=
  ⟨fun vs H Q E x => F.len vs H Q E (h _ _ _ _ x), fun A st s H args us vs Q E a b c d x => F.run A st s H args us vs Q E a b c d (h _ _ _ _ x)⟩
def spLaw (K : PySem.W.Frag) : Sp := fun vs H Q _ => ∃ (a : Addr) (ns : List Int), vs = [.ref a] ∧ SqL K H a (ns.map V.int) ∧ ns.length ≤ 63 ∧ ∀ v H', v = .bl true → Q v H'
theorem ints_reps {K : PySem.W.Frag} {F H : Hp} : ∀ ns : List Int, Reps K F H (ns.map D.int) (ns.map V.int) []
  | [] => .nil
  | n :: ns => .cons (.int n) (ints_reps ns) rfl
theorem spLaw_of {K : PySem.W.Frag} {mg : Str → Option Value} (vs : List V) (H : Hp) (Q : VK) (E : XK) (h : spLaw K vs H Q E) : spOf K mg io_p_law fs_p_law vs H Q E := by
  obtain ⟨a, ns, rfl, hS, hl, hQ⟩ := h
  refine ⟨H, [.ro (ns.map D.int)], [], fun d _ => d = .bl true, fun _ _ => False, Le.refl H, .cons (.ro hS (ints_reps ns)) .nil rfl, List.nodup_nil, rfl, ⟨ns, rfl, hl, rfl⟩, ?_, fun _ _ _ _ _ _ _ h => h.elim⟩
  intro d ds' v F' H' B A' hd rd _ _ _ _
  subst hd
  exact hQ v H' rd.bl_inv.1
theorem all_mk {P : Program} {w : World} {K : PySem.W.Frag} {h : Heap} {mg : Str → Option Value} {fa : Addr} (X : K.In h) (G : h.Ns mainGlobals mg) (hfa : mg "law" = some (.ref fa))
    {od0 an0 : Option Addr} {sl0 : Array (Option Value)} {oc0 kV0 dc0 pm0 cd0 ct0 : Value} {f0 : Addr} (a0 : PySem.W.nsIn K mainGlobals "steps_aside" = some (some (.ref f0))) (l0 : K.lookup f0 = some ⟨oc0, od0, .func (PySem.W.fnOf "steps_aside" "steps_aside" (defArgs s_p_steps_aside) (defBody s_p_steps_aside) (defScope s_p_steps_aside) .none kV0 dc0 pm0 an0 cd0 ct0), sl0⟩) (c0 : PySem.W.codeIn K cd0 "steps_aside" = true) (k0 : PySem.W.keepIn K (.ref f0) = true)
    {od1 an1 : Option Addr} {sl1 : Array (Option Value)} {oc1 kV1 dc1 pm1 cd1 ct1 : Value} {f1 : Addr} (a1 : PySem.W.nsIn K mainGlobals "round_of" = some (some (.ref f1))) (l1 : K.lookup f1 = some ⟨oc1, od1, .func (PySem.W.fnOf "round_of" "round_of" (defArgs s_p_round_of) (defBody s_p_round_of) (defScope s_p_round_of) .none kV1 dc1 pm1 an1 cd1 ct1), sl1⟩) (c1 : PySem.W.codeIn K cd1 "round_of" = true) (k1 : PySem.W.keepIn K (.ref f1) = true)
    {od2 an2 : Option Addr} {sl2 : Array (Option Value)} {oc2 kV2 dc2 pm2 cd2 ct2 : Value} {f2 : Addr} (a2 : PySem.W.nsIn K mainGlobals "is_loose" = some (some (.ref f2))) (l2 : K.lookup f2 = some ⟨oc2, od2, .func (PySem.W.fnOf "is_loose" "is_loose" (defArgs s_p_is_loose) (defBody s_p_is_loose) (defScope s_p_is_loose) .none kV2 dc2 pm2 an2 cd2 ct2), sl2⟩) (c2 : PySem.W.codeIn K cd2 "is_loose" = true) (k2 : PySem.W.keepIn K (.ref f2) = true)
    {od3 an3 : Option Addr} {sl3 : Array (Option Value)} {oc3 kV3 dc3 pm3 cd3 ct3 : Value} {f3 : Addr} (a3 : PySem.W.nsIn K mainGlobals "round_rule" = some (some (.ref f3))) (l3 : K.lookup f3 = some ⟨oc3, od3, .func (PySem.W.fnOf "round_rule" "round_rule" (defArgs s_p_round_rule) (defBody s_p_round_rule) (defScope s_p_round_rule) .none kV3 dc3 pm3 an3 cd3 ct3), sl3⟩) (c3 : PySem.W.codeIn K cd3 "round_rule" = true) (k3 : PySem.W.keepIn K (.ref f3) = true)
    {od4 an4 : Option Addr} {sl4 : Array (Option Value)} {oc4 kV4 dc4 pm4 cd4 ct4 : Value} {f4 : Addr} (a4 : PySem.W.nsIn K mainGlobals "spots" = some (some (.ref f4))) (l4 : K.lookup f4 = some ⟨oc4, od4, .func (PySem.W.fnOf "spots" "spots" (defArgs s_p_spots) (defBody s_p_spots) (defScope s_p_spots) .none kV4 dc4 pm4 an4 cd4 ct4), sl4⟩) (c4 : PySem.W.codeIn K cd4 "spots" = true) (k4 : PySem.W.keepIn K (.ref f4) = true)
    {od5 an5 : Option Addr} {sl5 : Array (Option Value)} {oc5 kV5 dc5 pm5 cd5 ct5 : Value} {f5 : Addr} (a5 : PySem.W.nsIn K mainGlobals "rest" = some (some (.ref f5))) (l5 : K.lookup f5 = some ⟨oc5, od5, .func (PySem.W.fnOf "rest" "rest" (defArgs s_p_rest) (defBody s_p_rest) (defScope s_p_rest) .none kV5 dc5 pm5 an5 cd5 ct5), sl5⟩) (c5 : PySem.W.codeIn K cd5 "rest" = true) (k5 : PySem.W.keepIn K (.ref f5) = true)
    {od6 an6 : Option Addr} {sl6 : Array (Option Value)} {oc6 kV6 dc6 pm6 cd6 ct6 : Value} {f6 : Addr} (a6 : PySem.W.nsIn K mainGlobals "turned" = some (some (.ref f6))) (l6 : K.lookup f6 = some ⟨oc6, od6, .func (PySem.W.fnOf "turned" "turned" (defArgs s_p_turned) (defBody s_p_turned) (defScope s_p_turned) .none kV6 dc6 pm6 an6 cd6 ct6), sl6⟩) (c6 : PySem.W.codeIn K cd6 "turned" = true) (k6 : PySem.W.keepIn K (.ref f6) = true)
    {od7 an7 : Option Addr} {sl7 : Array (Option Value)} {oc7 kV7 dc7 pm7 cd7 ct7 : Value} {f7 : Addr} (a7 : PySem.W.nsIn K mainGlobals "turn" = some (some (.ref f7))) (l7 : K.lookup f7 = some ⟨oc7, od7, .func (PySem.W.fnOf "turn" "turn" (defArgs s_p_turn) (defBody s_p_turn) (defScope s_p_turn) .none kV7 dc7 pm7 an7 cd7 ct7), sl7⟩) (c7 : PySem.W.codeIn K cd7 "turn" = true) (k7 : PySem.W.keepIn K (.ref f7) = true)
    {od8 an8 : Option Addr} {sl8 : Array (Option Value)} {oc8 kV8 dc8 pm8 cd8 ct8 : Value} {f8 : Addr} (a8 : PySem.W.nsIn K mainGlobals "_law_draw" = some (some (.ref f8))) (l8 : K.lookup f8 = some ⟨oc8, od8, .func (PySem.W.fnOf "_law_draw" "_law_draw" (defArgs s_law_draw) (defBody s_law_draw) (defScope s_law_draw) .none kV8 dc8 pm8 an8 cd8 ct8), sl8⟩) (c8 : PySem.W.codeIn K cd8 "_law_draw" = true) (k8 : PySem.W.keepIn K (.ref f8) = true)
    {od9 an9 : Option Addr} {sl9 : Array (Option Value)} {oc9 kV9 dc9 pm9 cd9 ct9 : Value} {f9 : Addr} (a9 : PySem.W.nsIn K mainGlobals "_law_any" = some (some (.ref f9))) (l9 : K.lookup f9 = some ⟨oc9, od9, .func (PySem.W.fnOf "_law_any" "_law_any" (defArgs s_law_any) (defBody s_law_any) (defScope s_law_any) .none kV9 dc9 pm9 an9 cd9 ct9), sl9⟩) (c9 : PySem.W.codeIn K cd9 "_law_any" = true) (k9 : PySem.W.keepIn K (.ref f9) = true)
    {od10 an10 : Option Addr} {sl10 : Array (Option Value)} {oc10 kV10 dc10 pm10 cd10 ct10 : Value} {f10 : Addr} (a10 : PySem.W.nsIn K mainGlobals "_law_of" = some (some (.ref f10))) (l10 : K.lookup f10 = some ⟨oc10, od10, .func (PySem.W.fnOf "_law_of" "_law_of" (defArgs s_law_of) (defBody s_law_of) (defScope s_law_of) .none kV10 dc10 pm10 an10 cd10 ct10), sl10⟩) (c10 : PySem.W.codeIn K cd10 "_law_of" = true) (k10 : PySem.W.keepIn K (.ref f10) = true)
    {od11 an11 : Option Addr} {sl11 : Array (Option Value)} {oc11 kV11 dc11 pm11 cd11 ct11 : Value} {f11 : Addr} (a11 : PySem.W.nsIn K mainGlobals "_law_mixed" = some (some (.ref f11))) (l11 : K.lookup f11 = some ⟨oc11, od11, .func (PySem.W.fnOf "_law_mixed" "_law_mixed" (defArgs s_law_mixed) (defBody s_law_mixed) (defScope s_law_mixed) .none kV11 dc11 pm11 an11 cd11 ct11), sl11⟩) (c11 : PySem.W.codeIn K cd11 "_law_mixed" = true) (k11 : PySem.W.keepIn K (.ref f11) = true)
    {od12 an12 : Option Addr} {sl12 : Array (Option Value)} {oc12 kV12 dc12 pm12 cd12 ct12 : Value} {f12 : Addr} (a12 : PySem.W.nsIn K mainGlobals "_law_same" = some (some (.ref f12))) (l12 : K.lookup f12 = some ⟨oc12, od12, .func (PySem.W.fnOf "_law_same" "_law_same" (defArgs s_law_same) (defBody s_law_same) (defScope s_law_same) .none kV12 dc12 pm12 an12 cd12 ct12), sl12⟩) (c12 : PySem.W.codeIn K cd12 "_law_same" = true) (k12 : PySem.W.keepIn K (.ref f12) = true)
    {od13 an13 : Option Addr} {sl13 : Array (Option Value)} {oc13 kV13 dc13 pm13 cd13 ct13 : Value} {f13 : Addr} (a13 : PySem.W.nsIn K mainGlobals "_law_great" = some (some (.ref f13))) (l13 : K.lookup f13 = some ⟨oc13, od13, .func (PySem.W.fnOf "_law_great" "_law_great" (defArgs s_law_great) (defBody s_law_great) (defScope s_law_great) .none kV13 dc13 pm13 an13 cd13 ct13), sl13⟩) (c13 : PySem.W.codeIn K cd13 "_law_great" = true) (k13 : PySem.W.keepIn K (.ref f13) = true)
    {od14 an14 : Option Addr} {sl14 : Array (Option Value)} {oc14 kV14 dc14 pm14 cd14 ct14 : Value} {f14 : Addr} (a14 : PySem.W.nsIn K mainGlobals "_law_both" = some (some (.ref f14))) (l14 : K.lookup f14 = some ⟨oc14, od14, .func (PySem.W.fnOf "_law_both" "_law_both" (defArgs s_law_both) (defBody s_law_both) (defScope s_law_both) .none kV14 dc14 pm14 an14 cd14 ct14), sl14⟩) (c14 : PySem.W.codeIn K cd14 "_law_both" = true) (k14 : PySem.W.keepIn K (.ref f14) = true)
    {od15 an15 : Option Addr} {sl15 : Array (Option Value)} {oc15 kV15 dc15 pm15 cd15 ct15 : Value} {f15 : Addr} (a15 : PySem.W.nsIn K mainGlobals "_law_under" = some (some (.ref f15))) (l15 : K.lookup f15 = some ⟨oc15, od15, .func (PySem.W.fnOf "_law_under" "_law_under" (defArgs s_law_under) (defBody s_law_under) (defScope s_law_under) .none kV15 dc15 pm15 an15 cd15 ct15), sl15⟩) (c15 : PySem.W.codeIn K cd15 "_law_under" = true) (k15 : PySem.W.keepIn K (.ref f15) = true)
    {od16 an16 : Option Addr} {sl16 : Array (Option Value)} {oc16 kV16 dc16 pm16 cd16 ct16 : Value} {f16 : Addr} (a16 : PySem.W.nsIn K mainGlobals "_law_joined" = some (some (.ref f16))) (l16 : K.lookup f16 = some ⟨oc16, od16, .func (PySem.W.fnOf "_law_joined" "_law_joined" (defArgs s_law_joined) (defBody s_law_joined) (defScope s_law_joined) .none kV16 dc16 pm16 an16 cd16 ct16), sl16⟩) (c16 : PySem.W.codeIn K cd16 "_law_joined" = true) (k16 : PySem.W.keepIn K (.ref f16) = true)
    {od17 an17 : Option Addr} {sl17 : Array (Option Value)} {oc17 kV17 dc17 pm17 cd17 ct17 : Value} {f17 : Addr} (a17 : PySem.W.nsIn K mainGlobals "_law_renamed" = some (some (.ref f17))) (l17 : K.lookup f17 = some ⟨oc17, od17, .func (PySem.W.fnOf "_law_renamed" "_law_renamed" (defArgs s_law_renamed) (defBody s_law_renamed) (defScope s_law_renamed) .none kV17 dc17 pm17 an17 cd17 ct17), sl17⟩) (c17 : PySem.W.codeIn K cd17 "_law_renamed" = true) (k17 : PySem.W.keepIn K (.ref f17) = true)
    {od18 an18 : Option Addr} {sl18 : Array (Option Value)} {oc18 kV18 dc18 pm18 cd18 ct18 : Value} {f18 : Addr} (a18 : PySem.W.nsIn K mainGlobals "_law_folding" = some (some (.ref f18))) (l18 : K.lookup f18 = some ⟨oc18, od18, .func (PySem.W.fnOf "_law_folding" "_law_folding" (defArgs s_law_folding) (defBody s_law_folding) (defScope s_law_folding) .none kV18 dc18 pm18 an18 cd18 ct18), sl18⟩) (c18 : PySem.W.codeIn K cd18 "_law_folding" = true) (k18 : PySem.W.keepIn K (.ref f18) = true)
    {od19 an19 : Option Addr} {sl19 : Array (Option Value)} {oc19 kV19 dc19 pm19 cd19 ct19 : Value} {f19 : Addr} (a19 : PySem.W.nsIn K mainGlobals "_law_rule" = some (some (.ref f19))) (l19 : K.lookup f19 = some ⟨oc19, od19, .func (PySem.W.fnOf "_law_rule" "_law_rule" (defArgs s_law_rule) (defBody s_law_rule) (defScope s_law_rule) .none kV19 dc19 pm19 an19 cd19 ct19), sl19⟩) (c19 : PySem.W.codeIn K cd19 "_law_rule" = true) (k19 : PySem.W.keepIn K (.ref f19) = true)
    {od20 an20 : Option Addr} {sl20 : Array (Option Value)} {oc20 kV20 dc20 pm20 cd20 ct20 : Value} {f20 : Addr} (a20 : PySem.W.nsIn K mainGlobals "_law_least_round" = some (some (.ref f20))) (l20 : K.lookup f20 = some ⟨oc20, od20, .func (PySem.W.fnOf "_law_least_round" "_law_least_round" (defArgs s_law_least_round) (defBody s_law_least_round) (defScope s_law_least_round) .none kV20 dc20 pm20 an20 cd20 ct20), sl20⟩) (c20 : PySem.W.codeIn K cd20 "_law_least_round" = true) (k20 : PySem.W.keepIn K (.ref f20) = true)
    {od21 an21 : Option Addr} {sl21 : Array (Option Value)} {oc21 kV21 dc21 pm21 cd21 ct21 : Value} {f21 : Addr} (a21 : PySem.W.nsIn K mainGlobals "_law_round_of_marks" = some (some (.ref f21))) (l21 : K.lookup f21 = some ⟨oc21, od21, .func (PySem.W.fnOf "_law_round_of_marks" "_law_round_of_marks" (defArgs s_law_round_of_marks) (defBody s_law_round_of_marks) (defScope s_law_round_of_marks) .none kV21 dc21 pm21 an21 cd21 ct21), sl21⟩) (c21 : PySem.W.codeIn K cd21 "_law_round_of_marks" = true) (k21 : PySem.W.keepIn K (.ref f21) = true)
    {od22 an22 : Option Addr} {sl22 : Array (Option Value)} {oc22 kV22 dc22 pm22 cd22 ct22 : Value} {f22 : Addr} (a22 : PySem.W.nsIn K mainGlobals "_law_round_rule" = some (some (.ref f22))) (l22 : K.lookup f22 = some ⟨oc22, od22, .func (PySem.W.fnOf "_law_round_rule" "_law_round_rule" (defArgs s_law_round_rule) (defBody s_law_round_rule) (defScope s_law_round_rule) .none kV22 dc22 pm22 an22 cd22 ct22), sl22⟩) (c22 : PySem.W.codeIn K cd22 "_law_round_rule" = true) (k22 : PySem.W.keepIn K (.ref f22) = true)
    {od23 an23 : Option Addr} {sl23 : Array (Option Value)} {oc23 kV23 dc23 pm23 cd23 ct23 : Value} {f23 : Addr} (a23 : PySem.W.nsIn K mainGlobals "_law_turned" = some (some (.ref f23))) (l23 : K.lookup f23 = some ⟨oc23, od23, .func (PySem.W.fnOf "_law_turned" "_law_turned" (defArgs s_law_turned37) (defBody s_law_turned37) (defScope s_law_turned37) .none kV23 dc23 pm23 an23 cd23 ct23), sl23⟩) (c23 : PySem.W.codeIn K cd23 "_law_turned" = true) (k23 : PySem.W.keepIn K (.ref f23) = true)
    {od24 an24 : Option Addr} {sl24 : Array (Option Value)} {oc24 kV24 dc24 pm24 cd24 ct24 : Value} {f24 : Addr} (a24 : PySem.W.nsIn K mainGlobals "_law_due_round" = some (some (.ref f24))) (l24 : K.lookup f24 = some ⟨oc24, od24, .func (PySem.W.fnOf "_law_due_round" "_law_due_round" (defArgs s_law_due_round) (defBody s_law_due_round) (defScope s_law_due_round) .none kV24 dc24 pm24 an24 cd24 ct24), sl24⟩) (c24 : PySem.W.codeIn K cd24 "_law_due_round" = true) (k24 : PySem.W.keepIn K (.ref f24) = true)
    {od25 an25 : Option Addr} {sl25 : Array (Option Value)} {oc25 kV25 dc25 pm25 cd25 ct25 : Value} {f25 : Addr} (a25 : PySem.W.nsIn K mainGlobals "_law_near_rule" = some (some (.ref f25))) (l25 : K.lookup f25 = some ⟨oc25, od25, .func (PySem.W.fnOf "_law_near_rule" "_law_near_rule" (defArgs s_law_near_rule) (defBody s_law_near_rule) (defScope s_law_near_rule) .none kV25 dc25 pm25 an25 cd25 ct25), sl25⟩) (c25 : PySem.W.codeIn K cd25 "_law_near_rule" = true) (k25 : PySem.W.keepIn K (.ref f25) = true)
    {od26 an26 : Option Addr} {sl26 : Array (Option Value)} {oc26 kV26 dc26 pm26 cd26 ct26 : Value} {f26 : Addr} (a26 : PySem.W.nsIn K mainGlobals "_law_made" = some (some (.ref f26))) (l26 : K.lookup f26 = some ⟨oc26, od26, .func (PySem.W.fnOf "_law_made" "_law_made" (defArgs s_law_made) (defBody s_law_made) (defScope s_law_made) .none kV26 dc26 pm26 an26 cd26 ct26), sl26⟩) (c26 : PySem.W.codeIn K cd26 "_law_made" = true) (k26 : PySem.W.keepIn K (.ref f26) = true)
    {od27 an27 : Option Addr} {sl27 : Array (Option Value)} {oc27 kV27 dc27 pm27 cd27 ct27 : Value} {f27 : Addr} (a27 : PySem.W.nsIn K mainGlobals "law" = some (some (.ref f27))) (l27 : K.lookup f27 = some ⟨oc27, od27, .func (PySem.W.fnOf "law" "law" (defArgs s_p_law) (defBody s_p_law) (defScope s_p_law) .none kV27 dc27 pm27 an27 cd27 ct27), sl27⟩) (c27 : PySem.W.codeIn K cd27 "law" = true) (k27 : PySem.W.keepIn K (.ref f27) = true)
    {tq_MOST_MARKS : Tok} (q_MOST_MARKS : PySem.W.nsIn K mainGlobals "MOST_MARKS" = some (some (.int 12 tq_MOST_MARKS)))
    (z0 : PySem.W.nsIn K mainGlobals "abs" = some none)
    (z1 : PySem.W.nsIn K mainGlobals "all" = some none)
    (z2 : PySem.W.nsIn K mainGlobals "any" = some none)
    (z3 : PySem.W.nsIn K mainGlobals "bool" = some none)
    (z4 : PySem.W.nsIn K mainGlobals "enumerate" = some none)
    (z5 : PySem.W.nsIn K mainGlobals "int" = some none)
    (z6 : PySem.W.nsIn K mainGlobals "isinstance" = some none)
    (z7 : PySem.W.nsIn K mainGlobals "len" = some none)
    (z8 : PySem.W.nsIn K mainGlobals "list" = some none)
    (z9 : PySem.W.nsIn K mainGlobals "max" = some none)
    (z10 : PySem.W.nsIn K mainGlobals "range" = some none)
    (z11 : PySem.W.nsIn K mainGlobals "sorted" = some none)
    (z12 : PySem.W.nsIn K mainGlobals "str" = some none)
    (z13 : PySem.W.nsIn K mainGlobals "tuple" = some none)
    (z14 : PySem.W.nsIn K mainGlobals "zip" = some none)
    (hx_InvalidRule : ExnC P K mg "InvalidRule" ∧ ExnH K mg "InvalidRule") :
    ∃ fd : FuncData, (∀ (s : Shared) (v : Value), BindsTo s fd ⟨[v], []⟩ [("script", v)]) ∧ ∀ base : Heap, K.In base → base.Ns mainGlobals mg → FnOk P w K mg base (L2.CX P w) 7 fa fd ["script"] (spLaw K) := by
  have e := hfa.symm.trans (PySem.W.mg_of X G a27)
  cases e
  have F0 := fun_mk (st := s_p_steps_aside) l0 c0 k0
  have m0 := PySem.W.mg_of X G a0
  have F1 := fun_mk (st := s_p_round_of) l1 c1 k1
  have m1 := PySem.W.mg_of X G a1
  have F2 := fun_mk (st := s_p_is_loose) l2 c2 k2
  have m2 := PySem.W.mg_of X G a2
  have F3 := fun_mk (st := s_p_round_rule) l3 c3 k3
  have m3 := PySem.W.mg_of X G a3
  have F4 := fun_mk (st := s_p_spots) l4 c4 k4
  have m4 := PySem.W.mg_of X G a4
  have F5 := fun_mk (st := s_p_rest) l5 c5 k5
  have m5 := PySem.W.mg_of X G a5
  have F6 := fun_mk (st := s_p_turned) l6 c6 k6
  have m6 := PySem.W.mg_of X G a6
  have F7 := fun_mk (st := s_p_turn) l7 c7 k7
  have m7 := PySem.W.mg_of X G a7
  have F8 := fun_mk (st := s_law_draw) l8 c8 k8
  have m8 := PySem.W.mg_of X G a8
  have F9 := fun_mk (st := s_law_any) l9 c9 k9
  have m9 := PySem.W.mg_of X G a9
  have F10 := fun_mk (st := s_law_of) l10 c10 k10
  have m10 := PySem.W.mg_of X G a10
  have F11 := fun_mk (st := s_law_mixed) l11 c11 k11
  have m11 := PySem.W.mg_of X G a11
  have F12 := fun_mk (st := s_law_same) l12 c12 k12
  have m12 := PySem.W.mg_of X G a12
  have F13 := fun_mk (st := s_law_great) l13 c13 k13
  have m13 := PySem.W.mg_of X G a13
  have F14 := fun_mk (st := s_law_both) l14 c14 k14
  have m14 := PySem.W.mg_of X G a14
  have F15 := fun_mk (st := s_law_under) l15 c15 k15
  have m15 := PySem.W.mg_of X G a15
  have F16 := fun_mk (st := s_law_joined) l16 c16 k16
  have m16 := PySem.W.mg_of X G a16
  have F17 := fun_mk (st := s_law_renamed) l17 c17 k17
  have m17 := PySem.W.mg_of X G a17
  have F18 := fun_mk (st := s_law_folding) l18 c18 k18
  have m18 := PySem.W.mg_of X G a18
  have F19 := fun_mk (st := s_law_rule) l19 c19 k19
  have m19 := PySem.W.mg_of X G a19
  have F20 := fun_mk (st := s_law_least_round) l20 c20 k20
  have m20 := PySem.W.mg_of X G a20
  have F21 := fun_mk (st := s_law_round_of_marks) l21 c21 k21
  have m21 := PySem.W.mg_of X G a21
  have F22 := fun_mk (st := s_law_round_rule) l22 c22 k22
  have m22 := PySem.W.mg_of X G a22
  have F23 := fun_mk (st := s_law_turned37) l23 c23 k23
  have m23 := PySem.W.mg_of X G a23
  have F24 := fun_mk (st := s_law_due_round) l24 c24 k24
  have m24 := PySem.W.mg_of X G a24
  have F25 := fun_mk (st := s_law_near_rule) l25 c25 k25
  have m25 := PySem.W.mg_of X G a25
  have F26 := fun_mk (st := s_law_made) l26 c26 k26
  have m26 := PySem.W.mg_of X G a26
  have F27 := fun_mk (st := s_p_law) l27 c27 k27
  have m27 := PySem.W.mg_of X G a27
  have B : Free mg bl := by
    intro x hx
    simp only [bl, List.mem_cons, List.not_mem_nil, or_false] at hx
    rcases hx with rfl | rfl | rfl | rfl | rfl | rfl | rfl | rfl | rfl | rfl | rfl | rfl | rfl | rfl | rfl
    · exact PySem.W.mg_none_of X G z0
    · exact PySem.W.mg_none_of X G z1
    · exact PySem.W.mg_none_of X G z2
    · exact PySem.W.mg_none_of X G z3
    · exact PySem.W.mg_none_of X G z4
    · exact PySem.W.mg_none_of X G z5
    · exact PySem.W.mg_none_of X G z6
    · exact PySem.W.mg_none_of X G z7
    · exact PySem.W.mg_none_of X G z8
    · exact PySem.W.mg_none_of X G z9
    · exact PySem.W.mg_none_of X G z10
    · exact PySem.W.mg_none_of X G z11
    · exact PySem.W.mg_none_of X G z12
    · exact PySem.W.mg_none_of X G z13
    · exact PySem.W.mg_none_of X G z14
  refine ⟨PySem.W.fnOf "law" "law" (defArgs s_p_law) (defBody s_p_law) (defScope s_p_law) .none kV27 dc27 pm27 an27 cd27 ct27, fun s v => .of_eq rfl, fun base _ _ => ?_⟩
  have D0 := ok_p_steps_aside (P := P) (w := w) (base := base) F0 m0
  have D1 := ok_p_round_of (P := P) (w := w) (base := base) F1 m1 B D0
  have D2 := ok_p_is_loose (P := P) (w := w) (base := base) F2 m2
  have D3 := ok_p_round_rule (P := P) (w := w) (base := base) F3 m3 B (PySem.W.mg_of X G q_MOST_MARKS) hx_InvalidRule.1
  have D4 := ok_p_spots (P := P) (w := w) (base := base) F4 m4 B D1
  have D5 := ok_p_rest (P := P) (w := w) (base := base) F5 m5 B
  have D6 := ok_p_turned (P := P) (w := w) (base := base) F6 m6 D5
  have D7 := ok_p_turn (P := P) (w := w) (base := base) F7 m7 B D4 D6
  have D8 := ok_law_draw (P := P) (w := w) (base := base) F8 m8 B
  have D9 := ok_law_any (P := P) (w := w) (base := base) F9 m9 B
  have D10 := ok_law_of (P := P) (w := w) (base := base) F10 m10 B D9
  have D11 := ok_law_mixed (P := P) (w := w) (base := base) F11 m11 B D9
  have D12 := ok_law_same (P := P) (w := w) (base := base) F12 m12 B
  have D13 := ok_law_great (P := P) (w := w) (base := base) F13 m13 D9 D10
  have D14 := ok_law_both (P := P) (w := w) (base := base) F14 m14 B
  have D15 := ok_law_under (P := P) (w := w) (base := base) F15 m15 B
  have D16 := ok_law_joined (P := P) (w := w) (base := base) F16 m16 B
  have D17 := ok_law_renamed (P := P) (w := w) (base := base) F17 m17 B D14 D16 D11
  have D18 := ok_law_folding (P := P) (w := w) (base := base) F18 m18 B D9 D16 D17
  have D19 := ok_law_rule (P := P) (w := w) (base := base) F19 m19 B D9 D18 D16 D10 D17 D15
  have D20 := ok_law_least_round (P := P) (w := w) (base := base) F20 m20
  have D21 := ok_law_round_of_marks (P := P) (w := w) (base := base) F21 m21 B D16 D20 D11
  have D22 := ok_law_round_rule (P := P) (w := w) (base := base) F22 m22 D9 D10 D21
  have D23 := ok_law_turned37 (P := P) (w := w) (base := base) F23 m23 B
  have D24 := ok_law_due_round (P := P) (w := w) (base := base) F24 m24 B
  have D25 := ok_law_near_rule (P := P) (w := w) (base := base) F25 m25 B D9 D16 D10 D17 D22 D19
  have D26 := ok_law_made (P := P) (w := w) (base := base) F26 m26 D3 hx_InvalidRule.2
  have D27 := ok_p_law (P := P) (w := w) (base := base) F27 m27 B D9 D8 D24 D13 D16 D26 D25 D10 D22 D12 D23 D2 D1 D3 D7 (kwok_0 F1) (kwok_1 F2) (kwok_2 F3) (kwok_3 F7)
  exact fnOk_mono spLaw_of D27.ok
end LX
open PySem PySem.W PyProof.Rows
set_option maxHeartbeats 0 in
theorem PySem.Challenge.cw_foldaway_k37_whole_round_rules_holds : PySem.Challenge.rw_foldaway_k37_whole_round_rules.Holds := by
  w_on; o_law; k_head; (case hw => w_witness2)
  k_fill
  refine L2.walk_of (l := PySem.Challenge.rw_foldaway_k37_whole_round_rules) (n := 63) (k := 7) (x := "script") (CX := fun w => L2.CX PySem.Challenge.rw_foldaway_k37_whole_round_rules.prog w) (sp := fun w => LX.spLaw _) rfl (by decide) rfl ⟨rfl, by decide, by decide⟩ (fun w h Y => PySem.W.kIn_of Y) ?F (fun _ _ a ns hl _ hS => ⟨a, ns, rfl, hS, hl, fun _ _ h => h⟩) (fun _ _ _ _ _ h => by obtain ⟨_, _, _, _, _, _, _, _, _, _, _, _, z⟩ := h; exact z.elim)
  case F =>
    intro w mg fa h KX G hmg
    refine' And.elim (fun hx1 hx2 => ?rest_InvalidRule) (DL.exn_mk (P := PySem.Challenge.rw_foldaway_k37_whole_round_rules.prog) (mg := mg) (x := "InvalidRule") (text := "invalid rule") (qual := "InvalidRule.__init__") KX G ?aC ?xL ?hbm ?sa ?ga ?gg ?nb ?a1 ?t1 ?l1 ?eA ?eB ?eS ?c1 ?cd ?hvs ?hf ?lc ?kC ?eC ?tC ?hC ?iC ?sC ?sp ?op ?sv ?mc ?gs ?tp)
    (case aC => k_is); (case xL => k_is); (case sa => k_is); (case ga => k_is); (case gg => k_is); (case nb => k_is); (case a1 => k_is); (case t1 => k_is); (case l1 => k_is)
    (case hbm => decide +kernel); (case eA => exact ⟨_, _, rfl⟩); (case eB => exact ⟨_, _, _, _, _, _, _, _, _, _, rfl, rfl⟩); (case eS => rfl)
    (case c1 => k_is); (case cd => k_is); (case hvs => rfl); (case hf => decide +kernel); (case lc => k_is)
    (case kC => k_is); (case eC => k_is); (case tC => k_is); (case hC => k_is); (case iC => k_is); (case sC => first | rfl | k_is)
    (case sp => ks_is); (case op => k_is); (case sv => k_is); (case mc => k_is); (case gs => k_is); (case tp => decide +kernel)
    have hx_InvalidRule : DL.ExnC _ _ _ "InvalidRule" ∧ DL.ExnH _ _ "InvalidRule" := ⟨hx1, hx2⟩
    refine' LX.all_mk KX G hmg ?a0 ?l0 ?c0 ?k0 ?a1 ?l1 ?c1 ?k1 ?a2 ?l2 ?c2 ?k2 ?a3 ?l3 ?c3 ?k3 ?a4 ?l4 ?c4 ?k4 ?a5 ?l5 ?c5 ?k5 ?a6 ?l6 ?c6 ?k6 ?a7 ?l7 ?c7 ?k7 ?a8 ?l8 ?c8 ?k8 ?a9 ?l9 ?c9 ?k9 ?a10 ?l10 ?c10 ?k10 ?a11 ?l11 ?c11 ?k11 ?a12 ?l12 ?c12 ?k12 ?a13 ?l13 ?c13 ?k13 ?a14 ?l14 ?c14 ?k14 ?a15 ?l15 ?c15 ?k15 ?a16 ?l16 ?c16 ?k16 ?a17 ?l17 ?c17 ?k17 ?a18 ?l18 ?c18 ?k18 ?a19 ?l19 ?c19 ?k19 ?a20 ?l20 ?c20 ?k20 ?a21 ?l21 ?c21 ?k21 ?a22 ?l22 ?c22 ?k22 ?a23 ?l23 ?c23 ?k23 ?a24 ?l24 ?c24 ?k24 ?a25 ?l25 ?c25 ?k25 ?a26 ?l26 ?c26 ?k26 ?a27 ?l27 ?c27 ?k27 ?q_MOST_MARKS ?z0 ?z1 ?z2 ?z3 ?z4 ?z5 ?z6 ?z7 ?z8 ?z9 ?z10 ?z11 ?z12 ?z13 ?z14 hx_InvalidRule
    (case a0 => k_is); (case l0 => k_is); (case c0 => k_is); (case k0 => k_is); (case a1 => k_is); (case l1 => k_is); (case c1 => k_is); (case k1 => k_is); (case a2 => k_is); (case l2 => k_is); (case c2 => k_is); (case k2 => k_is); (case a3 => k_is); (case l3 => k_is); (case c3 => k_is); (case k3 => k_is); (case a4 => k_is); (case l4 => k_is); (case c4 => k_is); (case k4 => k_is); (case a5 => k_is); (case l5 => k_is); (case c5 => k_is); (case k5 => k_is); (case a6 => k_is); (case l6 => k_is); (case c6 => k_is); (case k6 => k_is); (case a7 => k_is); (case l7 => k_is); (case c7 => k_is); (case k7 => k_is); (case a8 => k_is); (case l8 => k_is); (case c8 => k_is); (case k8 => k_is); (case a9 => k_is); (case l9 => k_is); (case c9 => k_is); (case k9 => k_is); (case a10 => k_is); (case l10 => k_is); (case c10 => k_is); (case k10 => k_is); (case a11 => k_is); (case l11 => k_is); (case c11 => k_is); (case k11 => k_is); (case a12 => k_is); (case l12 => k_is); (case c12 => k_is); (case k12 => k_is); (case a13 => k_is); (case l13 => k_is); (case c13 => k_is); (case k13 => k_is); (case a14 => k_is); (case l14 => k_is); (case c14 => k_is); (case k14 => k_is); (case a15 => k_is); (case l15 => k_is); (case c15 => k_is); (case k15 => k_is); (case a16 => k_is); (case l16 => k_is); (case c16 => k_is); (case k16 => k_is); (case a17 => k_is); (case l17 => k_is); (case c17 => k_is); (case k17 => k_is); (case a18 => k_is); (case l18 => k_is); (case c18 => k_is); (case k18 => k_is); (case a19 => k_is); (case l19 => k_is); (case c19 => k_is); (case k19 => k_is); (case a20 => k_is); (case l20 => k_is); (case c20 => k_is); (case k20 => k_is); (case a21 => k_is); (case l21 => k_is); (case c21 => k_is); (case k21 => k_is); (case a22 => k_is); (case l22 => k_is); (case c22 => k_is); (case k22 => k_is); (case a23 => k_is); (case l23 => k_is); (case c23 => k_is); (case k23 => k_is); (case a24 => k_is); (case l24 => k_is); (case c24 => k_is); (case k24 => k_is); (case a25 => k_is); (case l25 => k_is); (case c25 => k_is); (case k25 => k_is); (case a26 => k_is); (case l26 => k_is); (case c26 => k_is); (case k26 => k_is); (case a27 => k_is); (case l27 => k_is); (case c27 => k_is); (case k27 => k_is); (case q_MOST_MARKS => k_is); (case z0 => k_is); (case z1 => k_is); (case z2 => k_is); (case z3 => k_is); (case z4 => k_is); (case z5 => k_is); (case z6 => k_is); (case z7 => k_is); (case z8 => k_is); (case z9 => k_is); (case z10 => k_is); (case z11 => k_is); (case z12 => k_is); (case z13 => k_is); (case z14 => k_is)
