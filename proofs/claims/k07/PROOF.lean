import PyProof.Rows.All
import Wide.All
import OpenK.AllK
import Wide.FinOn
import HandS.ForMost
import HandS.Exc
import HandS.WordsExc
import HandS.CallSlots
import KE.KExcSuper
import HandS.ExcOwn
import KE.KExcIs
import HandS.ExcIs
import HandS.Strs
import PyProof.StrWalks
import HandS.RaiseMore
import HandS.AnyAll
import HandS.Ends
import HandS.StrMore
import HandS.Conv
import HandS.Text
import HandS.TryOnly
import HandS.Dict
import KE.KDictDisplayH
import KE.KxIndex
import HandS.Style
import HandS.SetFor
import HandS.SortInts
import PySem.Challenge.RW_anytext_k07_machines
set_option Elab.async false
set_option linter.all false
set_option maxRecDepth 100000
set_option maxHeartbeats 8000000
/-! Vi1: data without a heap, and how they lie in the tracked heap: frozen parts F, owned parts named by paths. -/
namespace Vi
open PySem L2

/-- a dict's keys: ints and texts, or tuples of them -/
inductive DKs where
  | one (ks : List Key) | tup (ks : List (List Key))
def DKs.len : DKs → Nat
  | .one ks => ks.length
  | .tup ks => ks.length
def DKs.ho : DKs → List V → HO
  | .one ks, vs => .dK (ks.zip vs)
  | .tup ks, vs => .dT (ks.zip vs)
inductive D where
  | und | non | bl (b : Bool) | int (i : Int) | str (s : List Nat) | tup (xs : List D) | lst (o : Bool) (xs : List D) | klst (xs : List D)
  | dic (o : Bool) (ks : DKs) (vs : List D) | ins (o : Bool) (C : Nat) (vs : List D) | exo (a cd : Addr) (C : Nat) (w : D) | fn (k : Nat)

/-- what is fixed: the written part, the classes' places, their attributes in order -/
structure Ct where
  K : PySem.W.Frag
  cls : Nat → Addr
  flds : Nat → List Str
  fnA : Nat → Addr

abbrev Nm := Addr → Option (List Nat)
def Sub (F F' : Hp) : Prop := ∀ b o, F b = some o → F' b = some o
theorem Sub.refl (F : Hp) : Sub F F := fun _ _ h => h
theorem Sub.trans {F G H : Hp} (a : Sub F G) (b : Sub G H) : Sub F H := fun x o h => b x o (a x o h)

mutual
/-- d stands at v, all of it in F -/
def Fz (c : Ct) (F : Hp) : D → V → Prop
  | .und, _ => False
  | .non, v => v = .non
  | .bl b, v => v = .bl b
  | .int i, v => v = .int i
  | .str s, v => v = .str ⟨s.toArray⟩
  | .tup ds, v => ∃ a vs, v = .ref a ∧ F a = some (.tup vs) ∧ FzL c F ds vs
  | .lst _ ds, v => ∃ a vs, v = .ref a ∧ F a = some (.lst vs) ∧ FzL c F ds vs
  | .klst ds, v => ∃ a vs, v = .ref a ∧ SqL c.K F a vs ∧ FzL c F ds vs
  | .dic _ ks ds, v => ∃ a vs, v = .ref a ∧ Rd F a (ks.ho vs) ∧ ks.len = ds.length ∧ FzL c F ds vs
  | .ins _ C ds, v => ∃ a dx vs, v = .ref a ∧ F a = some (.ins (c.cls C) dx ((c.flds C).zip vs)) ∧ ds.length ≤ (c.flds C).length ∧ FzL c F ds vs
  | .exo a cd _ w, v => v = .ref a ∧ ∃ vw, F cd = some (.xd [("what", vw)]) ∧ Fz c F w vw
  | .fn k, v => v = .ref (c.fnA k)
def FzL (c : Ct) (F : Hp) : List D → List V → Prop
  | [], vs => vs = []
  | d :: ds, vs => ∃ v r, vs = v :: r ∧ Fz c F d v ∧ FzL c F ds r
end

mutual
/-- d stands at v: the owned lists, dicts, instances by their names' paths, the rest in F -/
def Rv (c : Ct) (F H : Hp) (Θ : Nm) : D → List Nat → V → Prop
  | .lst true ds, π, v => ∃ a vs, v = .ref a ∧ Θ a = some π ∧ H a = some (.lst vs) ∧ RvL c F H Θ ds π 0 vs
  | .dic true ks ds, π, v => ∃ a vs, v = .ref a ∧ Θ a = some π ∧ H a = some (ks.ho vs) ∧ ks.len = ds.length ∧ RvL c F H Θ ds π 0 vs
  | .ins true C ds, π, v => ∃ a dx vs, v = .ref a ∧ Θ a = some π ∧ H a = some (.ins (c.cls C) dx ((c.flds C).zip vs)) ∧ ds.length ≤ (c.flds C).length ∧ RvL c F H Θ ds π 0 vs
  | .lst false ds, _, v => ∃ a vs, v = .ref a ∧ F a = some (.lst vs) ∧ FzL c F ds vs
  | .klst ds, _, v => ∃ a vs, v = .ref a ∧ SqL c.K F a vs ∧ FzL c F ds vs
  | .dic false ks ds, _, v => ∃ a vs, v = .ref a ∧ Rd F a (ks.ho vs) ∧ ks.len = ds.length ∧ FzL c F ds vs
  | .ins false C ds, _, v => ∃ a dx vs, v = .ref a ∧ F a = some (.ins (c.cls C) dx ((c.flds C).zip vs)) ∧ ds.length ≤ (c.flds C).length ∧ FzL c F ds vs
  | .und, _, _ => False
  | .non, _, v => v = .non
  | .bl b, _, v => v = .bl b
  | .int i, _, v => v = .int i
  | .str s, _, v => v = .str ⟨s.toArray⟩
  | .tup ds, _, v => ∃ a vs, v = .ref a ∧ F a = some (.tup vs) ∧ FzL c F ds vs
  | .exo a cd _ w, _, v => v = .ref a ∧ ∃ vw, F cd = some (.xd [("what", vw)]) ∧ Fz c F w vw
  | .fn k, _, v => v = .ref (c.fnA k)
def RvL (c : Ct) (F H : Hp) (Θ : Nm) : List D → List Nat → Nat → List V → Prop
  | [], _, _, vs => vs = []
  | d :: ds, π, k, vs => ∃ v r, vs = v :: r ∧ Rv c F H Θ d (π ++ [k]) v ∧ RvL c F H Θ ds π (k + 1) r
end

/-- an owned list, dict, instance -/
def own : D → Bool
  | .lst o _ => o
  | .dic o _ _ => o
  | .ins o _ _ => o
  | _ => false
def fr : D → D
  | .lst _ xs => .lst false xs
  | .dic _ ks vs => .dic false ks vs
  | .ins _ C vs => .ins false C vs
  | d => d
theorem own_fr (d : D) : own (fr d) = false := by cases d <;> rfl
theorem fr_of {d : D} (h : own d = false) : fr d = d := by
  cases d <;> first | rfl | (simp only [own] at h; subst h; rfl)
theorem Fz_fr (c : Ct) (F : Hp) (d : D) (v : V) : Fz c F (fr d) v ↔ Fz c F d v := by cases d <;> (simp only [fr, Fz])
theorem Rv_of_own {c : Ct} {F H : Hp} {Θ : Nm} {π : List Nat} {d : D} {v : V} (h : own d = false) : Rv c F H Θ d π v ↔ Fz c F d v := by
  cases d with
  | lst o xs => cases o <;> first | (cases h; done) | (simp only [Rv, Fz])
  | dic o ks xs => cases o <;> first | (cases h; done) | (simp only [Rv, Fz])
  | ins o C xs => cases o <;> first | (cases h; done) | (simp only [Rv, Fz])
  | _ => simp only [Rv, Fz]

section
variable {c : Ct} {F F' H H' : Hp} {Θ Θ' : Nm}
theorem rd_sub {u : HO} {a : Addr} (e : Sub F F') (h : Rd F a u) : Rd F' a u := by
  rcases h with h | ⟨o, h⟩
  · exact Or.inl (e a _ h)
  · exact Or.inr ⟨o, e a _ h⟩
theorem sql_sub {a : Addr} {xs : List V} (e : Sub F F') (h : SqL c.K F a xs) : SqL c.K F' a xs := h.elim (fun h => .inl (rd_sub e h)) .inr
theorem sqt_sub {a : Addr} {xs : List V} (e : Sub F F') (h : SqT c.K F a xs) : SqT c.K F' a xs := h.elim (fun h => .inl (rd_sub e h)) .inr
mutual
theorem Fz.mono (e : Sub F F') : ∀ (d : D) (v : V), Fz c F d v → Fz c F' d v
  | .und, _, h => h
  | .non, _, h => h
  | .bl _, _, h => h
  | .int _, _, h => h
  | .str _, _, h => h
  | .fn _, _, h => h
  | .tup ds, v, h => by
    simp only [Fz] at h ⊢
    obtain ⟨a, vs, e1, h1, h2⟩ := h
    exact ⟨a, vs, e1, e _ _ h1, FzL.mono e ds vs h2⟩
  | .lst _ ds, v, h => by
    simp only [Fz] at h ⊢
    obtain ⟨a, vs, e1, h1, h2⟩ := h
    exact ⟨a, vs, e1, e _ _ h1, FzL.mono e ds vs h2⟩
  | .klst ds, v, h => by
    simp only [Fz] at h ⊢
    obtain ⟨a, vs, e1, h1, h2⟩ := h
    exact ⟨a, vs, e1, sql_sub e h1, FzL.mono e ds vs h2⟩
  | .dic _ ks ds, v, h => by
    simp only [Fz] at h ⊢
    obtain ⟨a, vs, e1, h1, h3, h2⟩ := h
    exact ⟨a, vs, e1, rd_sub e h1, h3, FzL.mono e ds vs h2⟩
  | .ins _ C ds, v, h => by
    simp only [Fz] at h ⊢
    obtain ⟨a, dx, vs, e1, h1, h3, h2⟩ := h
    exact ⟨a, dx, vs, e1, e _ _ h1, h3, FzL.mono e ds vs h2⟩
  | .exo a cd C w, v, h => by
    simp only [Fz] at h ⊢
    obtain ⟨e1, vw, h1, h2⟩ := h
    exact ⟨e1, vw, e _ _ h1, Fz.mono e w vw h2⟩
theorem FzL.mono (e : Sub F F') : ∀ (ds : List D) (vs : List V), FzL c F ds vs → FzL c F' ds vs
  | [], _, h => h
  | d :: ds, vs, h => by
    simp only [FzL] at h ⊢
    obtain ⟨v, r, e1, h1, h2⟩ := h
    exact ⟨v, r, e1, Fz.mono e d v h1, FzL.mono e ds r h2⟩
end
mutual
theorem Rv.move (e : Sub F F') : ∀ (d : D) (π π' : List Nat) (v : V), (∀ b ρ, Θ b = some (π ++ ρ) → Θ' b = some (π' ++ ρ) ∧ H' b = H b) → Rv c F H Θ d π v → Rv c F' H' Θ' d π' v
  | .lst true ds, π, π', v, k, h => by
    simp only [Rv] at h ⊢
    obtain ⟨a, vs, e1, h1, h2, h3⟩ := h
    have q := k a [] (by simpa using h1)
    exact ⟨a, vs, e1, by simpa using q.1, by rw [q.2]; exact h2, RvL.move e ds π π' 0 vs (fun b i ρ z => k b (i :: ρ) z) h3⟩
  | .dic true ks ds, π, π', v, k, h => by
    simp only [Rv] at h ⊢
    obtain ⟨a, vs, e1, h1, h2, h4, h3⟩ := h
    have q := k a [] (by simpa using h1)
    exact ⟨a, vs, e1, by simpa using q.1, by rw [q.2]; exact h2, h4, RvL.move e ds π π' 0 vs (fun b i ρ z => k b (i :: ρ) z) h3⟩
  | .ins true C ds, π, π', v, k, h => by
    simp only [Rv] at h ⊢
    obtain ⟨a, dx, vs, e1, h1, h2, h4, h3⟩ := h
    have q := k a [] (by simpa using h1)
    exact ⟨a, dx, vs, e1, by simpa using q.1, by rw [q.2]; exact h2, h4, RvL.move e ds π π' 0 vs (fun b i ρ z => k b (i :: ρ) z) h3⟩
  | .lst false ds, π, π', v, k, h => (Rv_of_own rfl).mpr (Fz.mono e _ _ ((Rv_of_own rfl).mp h))
  | .dic false ks ds, π, π', v, k, h => (Rv_of_own rfl).mpr (Fz.mono e _ _ ((Rv_of_own rfl).mp h))
  | .ins false C ds, π, π', v, k, h => (Rv_of_own rfl).mpr (Fz.mono e _ _ ((Rv_of_own rfl).mp h))
  | .und, π, π', v, k, h => (Rv_of_own rfl).mpr (Fz.mono e _ _ ((Rv_of_own rfl).mp h))
  | .non, π, π', v, k, h => (Rv_of_own rfl).mpr (Fz.mono e _ _ ((Rv_of_own rfl).mp h))
  | .bl b, π, π', v, k, h => (Rv_of_own rfl).mpr (Fz.mono e _ _ ((Rv_of_own rfl).mp h))
  | .int b, π, π', v, k, h => (Rv_of_own rfl).mpr (Fz.mono e _ _ ((Rv_of_own rfl).mp h))
  | .str b, π, π', v, k, h => (Rv_of_own rfl).mpr (Fz.mono e _ _ ((Rv_of_own rfl).mp h))
  | .klst b, π, π', v, k, h => (Rv_of_own rfl).mpr (Fz.mono e _ _ ((Rv_of_own rfl).mp h))
  | .tup b, π, π', v, k, h => (Rv_of_own rfl).mpr (Fz.mono e _ _ ((Rv_of_own rfl).mp h))
  | .exo .., π, π', v, k, h => (Rv_of_own rfl).mpr (Fz.mono e _ _ ((Rv_of_own rfl).mp h))
  | .fn b, π, π', v, k, h => (Rv_of_own rfl).mpr (Fz.mono e _ _ ((Rv_of_own rfl).mp h))
theorem RvL.move (e : Sub F F') : ∀ (ds : List D) (π π' : List Nat) (j : Nat) (vs : List V), (∀ b i ρ, Θ b = some (π ++ i :: ρ) → Θ' b = some (π' ++ i :: ρ) ∧ H' b = H b) → RvL c F H Θ ds π j vs → RvL c F' H' Θ' ds π' j vs
  | [], _, _, _, _, _, h => by simp only [RvL] at h ⊢; exact h
  | d :: ds, π, π', j, vs, k, h => by
    simp only [RvL] at h ⊢
    obtain ⟨v, r, e1, h1, h2⟩ := h
    refine ⟨v, r, e1, Rv.move e d (π ++ [j]) (π' ++ [j]) v (fun b ρ z => ?_) h1, RvL.move e ds π π' (j + 1) r k h2⟩
    have q := k b j ρ (by rw [z, List.append_assoc]; rfl)
    exact ⟨by rw [q.1, List.append_assoc]; rfl, q.2⟩
end
mutual
/-- all of it into F' -/
theorem Rv.frz (e : Sub F F') : ∀ (d : D) (π : List Nat) (v : V), (∀ b ρ o, Θ b = some (π ++ ρ) → H b = some o → F' b = some o) → Rv c F H Θ d π v → Fz c F' d v
  | .lst true ds, π, v, k, h => by
    simp only [Rv] at h
    simp only [Fz]
    obtain ⟨a, vs, e1, h1, h2, h3⟩ := h
    exact ⟨a, vs, e1, k a [] _ (by simpa using h1) h2, RvL.frz e ds π 0 vs k h3⟩
  | .dic true ks ds, π, v, k, h => by
    simp only [Rv] at h
    simp only [Fz]
    obtain ⟨a, vs, e1, h1, h2, h4, h3⟩ := h
    exact ⟨a, vs, e1, Rd.of (k a [] _ (by simpa using h1) h2), h4, RvL.frz e ds π 0 vs k h3⟩
  | .ins true C ds, π, v, k, h => by
    simp only [Rv] at h
    simp only [Fz]
    obtain ⟨a, dx, vs, e1, h1, h2, h4, h3⟩ := h
    exact ⟨a, dx, vs, e1, k a [] _ (by simpa using h1) h2, h4, RvL.frz e ds π 0 vs k h3⟩
  | .lst false ds, π, v, k, h => Fz.mono e _ _ ((Rv_of_own rfl).mp h)
  | .dic false ks ds, π, v, k, h => Fz.mono e _ _ ((Rv_of_own rfl).mp h)
  | .ins false C ds, π, v, k, h => Fz.mono e _ _ ((Rv_of_own rfl).mp h)
  | .und, π, v, k, h => Fz.mono e _ _ ((Rv_of_own rfl).mp h)
  | .non, π, v, k, h => Fz.mono e _ _ ((Rv_of_own rfl).mp h)
  | .bl b, π, v, k, h => Fz.mono e _ _ ((Rv_of_own rfl).mp h)
  | .int b, π, v, k, h => Fz.mono e _ _ ((Rv_of_own rfl).mp h)
  | .str b, π, v, k, h => Fz.mono e _ _ ((Rv_of_own rfl).mp h)
  | .klst b, π, v, k, h => Fz.mono e _ _ ((Rv_of_own rfl).mp h)
  | .tup b, π, v, k, h => Fz.mono e _ _ ((Rv_of_own rfl).mp h)
  | .exo .., π, v, k, h => Fz.mono e _ _ ((Rv_of_own rfl).mp h)
  | .fn b, π, v, k, h => Fz.mono e _ _ ((Rv_of_own rfl).mp h)
theorem RvL.frz (e : Sub F F') : ∀ (ds : List D) (π : List Nat) (j : Nat) (vs : List V), (∀ b ρ o, Θ b = some (π ++ ρ) → H b = some o → F' b = some o) → RvL c F H Θ ds π j vs → FzL c F' ds vs
  | [], _, _, _, _, h => by simp only [RvL] at h; simp only [FzL]; exact h
  | d :: ds, π, j, vs, k, h => by
    simp only [RvL] at h
    simp only [FzL]
    obtain ⟨v, r, e1, h1, h2⟩ := h
    refine ⟨v, r, e1, Rv.frz e d (π ++ [j]) v (fun b ρ o z q => ?_) h1, RvL.frz e ds π (j + 1) r k h2⟩
    exact k b ([j] ++ ρ) o (by rw [z, List.append_assoc]) q
end
theorem FzL.length : ∀ {ds : List D} {vs : List V}, FzL c F ds vs → ds.length = vs.length
  | [], _, h => by simp only [FzL] at h; rw [h]; rfl
  | d :: ds, vs, h => by
    simp only [FzL] at h
    obtain ⟨v, r, e1, _, h2⟩ := h
    rw [e1, List.length_cons, List.length_cons, FzL.length h2]
theorem RvL.length : ∀ {ds : List D} {π : List Nat} {j : Nat} {vs : List V}, RvL c F H Θ ds π j vs → ds.length = vs.length
  | [], _, _, _, h => by simp only [RvL] at h; rw [h]; rfl
  | d :: ds, _, _, vs, h => by
    simp only [RvL] at h
    obtain ⟨v, r, e1, _, h2⟩ := h
    rw [e1, List.length_cons, List.length_cons, RvL.length h2]
theorem FzL.get : ∀ {ds : List D} {vs : List V} {i : Nat} {d : D}, FzL c F ds vs → ds[i]? = some d → ∃ v, vs[i]? = some v ∧ Fz c F d v
  | [], _, _, _, _, e => by simp at e
  | d :: ds, vs, i, x, h, e => by
    simp only [FzL] at h
    obtain ⟨v, r, e1, h1, h2⟩ := h
    subst e1
    cases i with
    | zero => simp at e; subst e; exact ⟨v, rfl, h1⟩
    | succ i =>
      obtain ⟨u, q1, q2⟩ := FzL.get (i := i) h2 (by simpa using e)
      exact ⟨u, by simpa using q1, q2⟩
theorem RvL.get : ∀ {ds : List D} {π : List Nat} {j : Nat} {vs : List V} {i : Nat} {d : D}, RvL c F H Θ ds π j vs → ds[i]? = some d → ∃ v, vs[i]? = some v ∧ Rv c F H Θ d (π ++ [j + i]) v
  | [], _, _, _, _, _, _, e => by simp at e
  | d :: ds, π, j, vs, i, x, h, e => by
    simp only [RvL] at h
    obtain ⟨v, r, e1, h1, h2⟩ := h
    subst e1
    cases i with
    | zero => simp at e; subst e; exact ⟨v, rfl, h1⟩
    | succ i =>
      obtain ⟨u, q1, q2⟩ := RvL.get (i := i) h2 (by simpa using e)
      exact ⟨u, by simpa using q1, by rw [Nat.add_right_comm] at q2; exact q2⟩
theorem FzL.append : ∀ {ds es : List D} {vs ws : List V}, FzL c F ds vs → FzL c F es ws → FzL c F (ds ++ es) (vs ++ ws)
  | [], _, _, _, h, g => by simp only [FzL] at h; subst h; exact g
  | d :: ds, es, vs, ws, h, g => by
    simp only [FzL] at h
    obtain ⟨v, r, e1, h1, h2⟩ := h
    subst e1
    simp only [List.cons_append, FzL]
    exact ⟨v, r ++ ws, rfl, h1, FzL.append h2 g⟩
theorem FzL.nil : FzL c F [] [] := by simp only [FzL]
theorem FzL.cons {d : D} {ds : List D} {v : V} {vs : List V} (h : Fz c F d v) (g : FzL c F ds vs) : FzL c F (d :: ds) (v :: vs) := by
  simp only [FzL]
  exact ⟨v, vs, rfl, h, g⟩
end

/-! ### states -/
abbrev Env := List D
/-- F lies in H; what is owned lies in H, not in F -/
structure Wf (F H : Hp) (Ω : Nm) : Prop where
  sub : Sub F H
  own : ∀ b π, Ω b = some π → F b = none ∧ ∃ o, H b = some o
/-- from one state to a later one: F grows; what is neither frozen nor owned stays so, and as it is -/
structure Stp (F H : Hp) (Ω : Nm) (F' H' : Hp) (Ω' : Nm) : Prop where
  ef : Sub F F'
  ou : ∀ b o, H b = some o → F b = none → Ω b = none → H' b = some o ∧ F' b = none ∧ Ω' b = none
theorem Stp.refl (F H : Hp) (Ω : Nm) : Stp F H Ω F H Ω := ⟨Sub.refl F, fun _ _ h h1 h2 => ⟨h, h1, h2⟩⟩
theorem Stp.trans {F H F1 H1 F2 H2 : Hp} {Ω Ω1 Ω2 : Nm} (a : Stp F H Ω F1 H1 Ω1) (b : Stp F1 H1 Ω1 F2 H2 Ω2) : Stp F H Ω F2 H2 Ω2 :=
  ⟨a.ef.trans b.ef, fun x o h h1 h2 => let ⟨q1, q2, q3⟩ := a.ou x o h h1 h2; b.ou x o q1 q2 q3⟩
/-- the slots -/
def Sl (c : Ct) (F H : Hp) (Ω : Nm) (ρ : Env) (σ : L2.St) : Prop := ∀ i d, ρ[i]? = some d → d ≠ .und → ∃ v, σ[i]? = some (some v) ∧ Rv c F H Ω d [i] v
structure Rel (c : Ct) (F H : Hp) (Ω : Nm) (ρ : Env) (σ : L2.St) : Prop where
  wf : Wf F H Ω
  sl : Sl c F H Ω ρ σ
  len : ρ.length = σ.length
end Vi
/-! Vi2: the judgements over data: expressions, operands, tests, arguments, blocks. -/
namespace Vi
open PySem L2

/-- only new things -/
structure Ext (F H : Hp) (Ω : Nm) (F' H' : Hp) : Prop where
  ef : Sub F F'
  eh : Sub H H'
  wf : Wf F' H' Ω
  nf : ∀ b o, H b = some o → F b = none → F' b = none
theorem Ext.refl {F H : Hp} {Ω : Nm} (w : Wf F H Ω) : Ext F H Ω F H := ⟨Sub.refl _, Sub.refl _, w, fun _ _ _ h => h⟩
theorem Ext.stp {F H F' H' : Hp} {Ω : Nm} (e : Ext F H Ω F' H') : Stp F H Ω F' H' Ω := ⟨e.ef, fun b o h1 h2 h3 => ⟨e.eh b o h1, e.nf b o h1 h2, h3⟩⟩
theorem Ext.trans {F H F1 H1 F2 H2 : Hp} {Ω : Nm} (a : Ext F H Ω F1 H1) (b : Ext F1 H1 Ω F2 H2) : Ext F H Ω F2 H2 :=
  ⟨a.ef.trans b.ef, a.eh.trans b.eh, b.wf, fun x o h1 h2 => b.nf x o (a.eh x o h1) (a.nf x o h1 h2)⟩
/-- a new object, frozen at once -/
theorem Ext.new {F H : Hp} {Ω : Nm} (w : Wf F H Ω) {p : Addr} {o : HO} (hp : H p = none) : Ext F H Ω (upd F p o) (upd H p o) := by
  have hF : F p = none := by
    cases q : F p with
    | none => rfl
    | some u => rw [w.sub p u q] at hp; cases hp
  have eF : Sub F (upd F p o) := fun b u e => by rw [upd_ne (ne_of_none e hF)]; exact e
  have eH : Sub H (upd H p o) := fun b u e => by rw [upd_ne (ne_of_none e hp)]; exact e
  refine ⟨eF, eH, ⟨fun b u e => ?_, fun b π e => ?_⟩, fun b u e1 e2 => ?_⟩
  · by_cases hb : b = p
    · subst hb; rw [upd_same] at e ⊢; exact e
    · rw [upd_ne hb] at e ⊢; exact w.sub b u e
  · obtain ⟨h1, u, h2⟩ := w.own b π e
    have hb : b ≠ p := ne_of_none h2 hp
    exact ⟨by rw [upd_ne hb]; exact h1, u, by rw [upd_ne hb]; exact h2⟩
  · rw [upd_ne (ne_of_none e1 hp)]; exact e2
theorem Rel.ext {c : Ct} {F H F' H' : Hp} {Ω : Nm} {ρ : Env} {σ : L2.St} (r : Rel c F H Ω ρ σ) (e : Ext F H Ω F' H') : Rel c F' H' Ω ρ σ := by
  refine ⟨e.wf, fun i d h1 h2 => ?_, r.len⟩
  obtain ⟨v, q1, q2⟩ := r.sl i d h1 h2
  refine ⟨v, q1, Rv.move e.ef d _ _ v (fun b ρ z => ⟨z, ?_⟩) q2⟩
  obtain ⟨_, o, ho⟩ := r.wf.own b _ z
  rw [ho, e.eh b o ho]

/-! ### what may be read -/
def Vw (c : Ct) (F H : Hp) (d : D) (v : V) : Prop := Fz c F d v ∨ ∃ Θ π, Rv c F H Θ d π v
def VwL (c : Ct) (F H : Hp) (ds : List D) (vs : List V) : Prop := ds.length = vs.length ∧ ∀ (i : Nat) (d : D), ds[i]? = some d → ∃ v, vs[i]? = some v ∧ Vw c F H d v
section
variable {c : Ct} {F H : Hp} {Ω : Nm} {d : D} {v : V}
theorem Vw.fz (h : Vw c F H d v) (ho : own d = false) : Fz c F d v := h.elim id fun ⟨_, _, q⟩ => (Rv_of_own ho).mp q
theorem FzL.vw {ds : List D} {vs : List V} (h : FzL c F ds vs) : VwL c F H ds vs := ⟨h.length, fun _ _ e => let ⟨v, q1, q2⟩ := h.get e; ⟨v, q1, .inl q2⟩⟩
theorem RvL.vw {Θ : Nm} {π : List Nat} {j : Nat} {ds : List D} {vs : List V} (h : RvL c F H Θ ds π j vs) : VwL c F H ds vs := ⟨h.length, fun _ _ e => let ⟨v, q1, q2⟩ := h.get e; ⟨v, q1, .inr ⟨_, _, q2⟩⟩⟩
theorem VwL.fz {ds : List D} {vs : List V} (h : VwL c F H ds vs) (ho : ds.all (fun d => !own d) = true) : FzL c F ds vs := by
  induction ds generalizing vs with
  | nil =>
    cases vs with
    | nil => exact FzL.nil
    | cons a b => cases h.1
  | cons d ds ih =>
    cases vs with
    | nil => cases h.1
    | cons v vs =>
      simp only [List.all_cons, Bool.and_eq_true, Bool.not_eq_true'] at ho
      obtain ⟨v', q1, q2⟩ := h.2 0 d rfl
      cases q1
      exact FzL.cons (q2.fz ho.1) (ih ⟨by simpa using h.1, fun i x e => h.2 (i + 1) x (by simpa using e)⟩ ho.2)
theorem Vw.lst {o : Bool} {ds : List D} (w : Wf F H Ω) (h : Vw c F H (.lst o ds) v) : ∃ a vs, v = .ref a ∧ H a = some (.lst vs) ∧ VwL c F H ds vs := by
  rcases h with h | ⟨Θ, π, h⟩
  · simp only [Fz] at h
    obtain ⟨a, vs, e, h1, h2⟩ := h
    exact ⟨a, vs, e, w.sub _ _ h1, h2.vw⟩
  · cases o with
    | true =>
      simp only [Rv] at h
      obtain ⟨a, vs, e, _, h1, h2⟩ := h
      exact ⟨a, vs, e, h1, h2.vw⟩
    | false =>
      simp only [Rv] at h
      obtain ⟨a, vs, e, h1, h2⟩ := h
      exact ⟨a, vs, e, w.sub _ _ h1, h2.vw⟩
theorem Vw.klst {ds : List D} (w : Wf F H Ω) (h : Vw c F H (.klst ds) v) : ∃ a vs, v = .ref a ∧ SqL c.K H a vs ∧ FzL c F ds vs := by
  have h := h.fz rfl
  simp only [Fz] at h
  obtain ⟨a, vs, e, h1, h2⟩ := h
  exact ⟨a, vs, e, sql_sub w.sub h1, h2⟩
theorem Vw.tup {ds : List D} (w : Wf F H Ω) (h : Vw c F H (.tup ds) v) : ∃ a vs, v = .ref a ∧ F a = some (.tup vs) ∧ SqT c.K H a vs ∧ FzL c F ds vs := by
  have h := h.fz rfl
  simp only [Fz] at h
  obtain ⟨a, vs, e, h1, h2⟩ := h
  exact ⟨a, vs, e, h1, SqT.of (w.sub _ _ h1), h2⟩
theorem Vw.dic {o : Bool} {ks : DKs} {ds : List D} (w : Wf F H Ω) (h : Vw c F H (.dic o ks ds) v) : ∃ a vs, v = .ref a ∧ Rd H a (ks.ho vs) ∧ ks.len = ds.length ∧ VwL c F H ds vs := by
  rcases h with h | ⟨Θ, π, h⟩
  · simp only [Fz] at h
    obtain ⟨a, vs, e, h1, h3, h2⟩ := h
    exact ⟨a, vs, e, rd_sub w.sub h1, h3, h2.vw⟩
  · cases o with
    | true =>
      simp only [Rv] at h
      obtain ⟨a, vs, e, _, h1, h3, h2⟩ := h
      exact ⟨a, vs, e, Rd.of h1, h3, h2.vw⟩
    | false =>
      simp only [Rv] at h
      obtain ⟨a, vs, e, h1, h3, h2⟩ := h
      exact ⟨a, vs, e, rd_sub w.sub h1, h3, h2.vw⟩
theorem Vw.ins {o : Bool} {C : Nat} {ds : List D} (w : Wf F H Ω) (h : Vw c F H (.ins o C ds) v) : ∃ a dx vs, v = .ref a ∧ H a = some (.ins (c.cls C) dx ((c.flds C).zip vs)) ∧ ds.length ≤ (c.flds C).length ∧ VwL c F H ds vs := by
  rcases h with h | ⟨Θ, π, h⟩
  · simp only [Fz] at h
    obtain ⟨a, dx, vs, e, h1, h3, h2⟩ := h
    exact ⟨a, dx, vs, e, w.sub _ _ h1, h3, h2.vw⟩
  · cases o with
    | true =>
      simp only [Rv] at h
      obtain ⟨a, dx, vs, e, _, h1, h3, h2⟩ := h
      exact ⟨a, dx, vs, e, h1, h3, h2.vw⟩
    | false =>
      simp only [Rv] at h
      obtain ⟨a, dx, vs, e, h1, h3, h2⟩ := h
      exact ⟨a, dx, vs, e, w.sub _ _ h1, h3, h2.vw⟩
end

/-! ### results, judgements -/
inductive R (α : Type) where
  | ok (a : α)
  | exc (C : Nat) (w : D)
def onOk {α β : Type} (K : R β → Env → Prop) (f : α → Env → Prop) : R α → Env → Prop
  | .ok a, ρ => f a ρ
  | .exc C w, ρ => K (.exc C w) ρ
@[simp] theorem onOk_ok {α β : Type} (K : R β → Env → Prop) (f : α → Env → Prop) (a : α) (ρ : Env) : onOk K f (.ok a) ρ = f a ρ := rfl
@[simp] theorem onOk_exc {α β : Type} (K : R β → Env → Prop) (f : α → Env → Prop) (C : Nat) (w : D) (ρ : Env) : onOk K f (.exc C w) ρ = K (.exc C w) ρ := rfl
/-- an operand: a value, or the slot where it stands -/
inductive Opd where
  | vl (d : D)
  | sl (i : Nat)
def gt (ρ : Env) (i : Nat) : D := ρ.getD i .und
def see (ρ : Env) : Opd → D
  | .vl d => d
  | .sl i => gt ρ i
def nz : D → Bool
  | .und => false
  | _ => true
theorem nz_ne {d : D} (h : nz d = true) : d ≠ .und := fun e => by subst e; cases h
theorem gt_some {ρ : Env} {i : Nat} (h : nz (gt ρ i) = true) : ρ[i]? = some (gt ρ i) := by
  unfold gt at h ⊢
  rw [List.getD_eq_getElem?_getD] at h ⊢
  cases e : ρ[i]? with
  | none => rw [e] at h; cases h
  | some d => rfl
abbrev DE := Env → (R D → Env → Prop) → Prop
abbrev DO := Env → (R Opd → Env → Prop) → Prop
abbrev DT := Env → (R Bool → Env → Prop) → Prop
abbrev DA := Env → (R (List Opd) → Env → Prop) → Prop
inductive Fl where
  | nx | bk | ct
  | rt (d : D)
  | exc (C : Nat) (w : D)
abbrev DS := Env → (Fl → Env → Prop) → Prop

def OpP (c : Ct) (F : Hp) (σ : L2.St) : Opd → V → Prop
  | .vl d, v => Fz c F d v
  | .sl i, v => σ[i]? = some (some v)
def OpPs (c : Ct) (F : Hp) (σ : L2.St) : List Opd → List V → Prop
  | [], vs => vs = []
  | o :: os, vs => ∃ v r, vs = v :: r ∧ OpP c F σ o v ∧ OpPs c F σ os r
theorem OpP.mono {c : Ct} {F F' : Hp} {σ : L2.St} (e : Sub F F') {o : Opd} {v : V} (h : OpP c F σ o v) : OpP c F' σ o v := by
  cases o with
  | vl d => exact Fz.mono e d v h
  | sl i => exact h
theorem OpPs.mono {c : Ct} {F F' : Hp} {σ : L2.St} (e : Sub F F') : ∀ {os : List Opd} {vs : List V}, OpPs c F σ os vs → OpPs c F' σ os vs
  | [], _, h => h
  | o :: os, vs, ⟨v, r, e1, h1, h2⟩ => ⟨v, r, e1, h1.mono e, OpPs.mono e h2⟩
theorem OpP.vw {c : Ct} {F H : Hp} {Ω : Nm} {ρ : Env} {σ : L2.St} (r : Rel c F H Ω ρ σ) {o : Opd} {v : V} (h : OpP c F σ o v) (hn : nz (see ρ o) = true) : Vw c F H (see ρ o) v := by
  cases o with
  | vl d => exact .inl h
  | sl i =>
    obtain ⟨u, q1, q2⟩ := r.sl i _ (gt_some hn) (nz_ne hn)
    have e : σ[i]? = some (some v) := h
    rw [q1] at e
    cases e
    exact .inr ⟨_, _, q2⟩

/-- what is wanted where an own error flies: its class, its dict with the field what -/
def ExW (c : Ct) (W : WX) (F H : Hp) (Ω : Nm) (σ : L2.St) (K : Nat → D → Env → Prop) : Prop :=
  ∀ C w ρ', K C w ρ' → ∀ cd vw F' H' Ω', Stp F H Ω F' H' Ω' → Rel c F' H' Ω' ρ' σ → F' cd = some (.xd [("what", vw)]) → Fz c F' w vw → W (.ref (c.cls C)) (some cd) σ H'
def exK {α : Type} (K : R α → Env → Prop) : Nat → D → Env → Prop := fun C w ρ => K (.exc C w) ρ
theorem ExW.imp {c : Ct} {W : WX} {F H F1 H1 : Hp} {Ω Ω1 : Nm} {σ : L2.St} {K K1 : Nat → D → Env → Prop} (h : ExW c W F H Ω σ K) (s : Stp F H Ω F1 H1 Ω1) (k : ∀ C w ρ, K1 C w ρ → K C w ρ) : ExW c W F1 H1 Ω1 σ K1 :=
  fun C w ρ' q cd vw F' H' Ω' s' r e f => h C w ρ' (k C w ρ' q) cd vw F' H' Ω' (s.trans s') r e f

def tOfE (c : Ct) (W : WX) (T : DE) : TE := fun σ H Q => ∃ F Ω ρ K, Rel c F H Ω ρ σ ∧ T ρ K ∧
  (∀ d ρ', K (.ok d) ρ' → ∀ v F' H' Ω', Stp F H Ω F' H' Ω' → Rel c F' H' Ω' ρ' σ → Fz c F' d v → Q v H') ∧ ExW c W F H Ω σ (exK K)
def tOfO (c : Ct) (W : WX) (T : DO) : TE := fun σ H Q => ∃ F Ω ρ K, Rel c F H Ω ρ σ ∧ T ρ K ∧
  (∀ o ρ', K (.ok o) ρ' → ∀ v F' H' Ω', Stp F H Ω F' H' Ω' → Rel c F' H' Ω' ρ' σ → OpP c F' σ o v → Q v H') ∧ ExW c W F H Ω σ (exK K)
def tOfT (c : Ct) (W : WX) (T : DT) : TT := fun σ H Q => ∃ F Ω ρ K, Rel c F H Ω ρ σ ∧ T ρ K ∧
  (∀ b ρ', K (.ok b) ρ' → ∀ F' H' Ω', Stp F H Ω F' H' Ω' → Rel c F' H' Ω' ρ' σ → Q b H') ∧ ExW c W F H Ω σ (exK K)
def tOfA (c : Ct) (W : WX) (T : DA) : TA := fun σ H Q => ∃ F Ω ρ K, Rel c F H Ω ρ σ ∧ T ρ K ∧
  (∀ os ρ', K (.ok os) ρ' → ∀ vs F' H' Ω', Stp F H Ω F' H' Ω' → Rel c F' H' Ω' ρ' σ → OpPs c F' σ os vs → Q vs H') ∧ ExW c W F H Ω σ (exK K)
/-- a new value of one's own, in the air -/
structure Air (c : Ct) (F H : Hp) (Ω : Nm) (d : D) (v : V) (Θ : Nm) : Prop where
  rv : Rv c F H Θ d [] v
  nm : ∀ b π, Θ b = some π → F b = none ∧ Ω b = none ∧ ∃ o, H b = some o
/-- of what stood free before, nothing is in it -/
def New (F H : Hp) (Ω Θ : Nm) : Prop := ∀ b o, H b = some o → F b = none → Ω b = none → Θ b = none
def tOfN (c : Ct) (W : WX) (T : DE) : TE := fun σ H Q => ∃ F Ω ρ K, Rel c F H Ω ρ σ ∧ T ρ K ∧
  (∀ d ρ', K (.ok d) ρ' → ∀ v F' H' Ω' Θ, Stp F H Ω F' H' Ω' → Rel c F' H' Ω' ρ' σ → Air c F' H' Ω' d v Θ → New F H Ω Θ → Q v H') ∧ ExW c W F H Ω σ (exK K)
/-- the io slots stay the same objects -/
def Io (io : List Nat) (σ σ' : L2.St) : Prop := σ'.length = σ.length ∧ ∀ i ∈ io, σ'[i]? = σ[i]?
structure Ct2 where
  c : Ct
  io : List Nat
def PostS (x : Ct2) (F H : Hp) (Ω : Nm) (σ : L2.St) (F' H' : Hp) (Ω' : Nm) (ρ' : Env) (σ' : L2.St) : Prop := Stp F H Ω F' H' Ω' ∧ Rel x.c F' H' Ω' ρ' σ' ∧ Io x.io σ σ'
def tOfS (x : Ct2) (W : WX) (T : DS) : TS := fun De σ H => ∃ F Ω ρ K, Rel x.c F H Ω ρ σ ∧ T ρ K ∧
  (∀ ρ', K .nx ρ' → ∀ σ' F' H' Ω', PostS x F H Ω σ F' H' Ω' ρ' σ' → De.nx σ' H') ∧
  (∀ ρ', K .bk ρ' → ∀ σ' F' H' Ω', PostS x F H Ω σ F' H' Ω' ρ' σ' → De.bk σ' H') ∧
  (∀ ρ', K .ct ρ' → ∀ σ' F' H' Ω', PostS x F H Ω σ F' H' Ω' ρ' σ' → De.ct σ' H') ∧
  (∀ d ρ', K (.rt d) ρ' → ∀ σ' v F' H' Ω' Θ, PostS x F H Ω σ F' H' Ω' ρ' σ' → Air x.c F' H' Ω' d v Θ → New F H Ω Θ → De.rt v H') ∧
  (∀ C w ρ', K (.exc C w) ρ' → ∀ cd vw σ' F' H' Ω', PostS x F H Ω σ F' H' Ω' ρ' σ' → F' cd = some (.xd [("what", vw)]) → Fz x.c F' w vw → W (.ref (x.c.cls C)) (some cd) σ' H')
theorem Io.refl (io : List Nat) (σ : L2.St) : Io io σ σ := ⟨rfl, fun _ _ => rfl⟩
theorem Io.trans {io : List Nat} {a b d : L2.St} (h : Io io a b) (g : Io io b d) : Io io a d := ⟨g.1.trans h.1, fun i hi => (g.2 i hi).trans (h.2 i hi)⟩
theorem PostS.trans {x : Ct2} {F H F1 H1 F2 H2 : Hp} {Ω Ω1 Ω2 : Nm} {σ σ1 σ2 : L2.St} {ρ1 ρ2 : Env} (a : PostS x F H Ω σ F1 H1 Ω1 ρ1 σ1) (b : PostS x F1 H1 Ω1 σ1 F2 H2 Ω2 ρ2 σ2) : PostS x F H Ω σ F2 H2 Ω2 ρ2 σ2 :=
  ⟨a.1.trans b.1, b.2.1, a.2.2.trans b.2.2⟩
theorem New.step {F H F1 H1 : Hp} {Ω Ω1 Θ : Nm} (s : Stp F H Ω F1 H1 Ω1) (n : New F1 H1 Ω1 Θ) : New F H Ω Θ := fun b o h1 h2 h3 => let ⟨q1, q2, q3⟩ := s.ou b o h1 h2 h3; n b o q1 q2 q3
theorem Air.fz {c : Ct} {F H : Hp} {Ω : Nm} {d : D} {v : V} (h : Fz c F d v) (ho : own d = false) : Air c F H Ω d v (fun _ => none) := ⟨(Rv_of_own ho).mpr h, fun _ _ z => nomatch z⟩
theorem New.none {F H : Hp} {Ω : Nm} : New F H Ω (fun _ => none) := fun _ _ _ _ _ => rfl

theorem _root_.L2.PE.imp {X : Cx} {e : Expr} {t t' : TE} (h : PE X e t) (k : ∀ σ H Q, t' σ H Q → t σ H Q) : PE X e t' := ⟨fun pins s σ H Q I q => h.run pins s σ H Q I (k σ H Q q)⟩
theorem _root_.L2.PT.imp {X : Cx} {e : Expr} {t t' : TT} (h : PT X e t) (k : ∀ σ H Q, t' σ H Q → t σ H Q) : PT X e t' := ⟨fun pins s σ H Q I q => h.run pins s σ H Q I (k σ H Q q)⟩
theorem _root_.L2.PW.imp {X : Cx} {e : Expr} {t t' : TT} (h : PW X e t) (k : ∀ σ H Q, t' σ H Q → t σ H Q) : PW X e t' := ⟨fun wh pins s σ H Q I q => h.run wh pins s σ H Q I (k σ H Q q)⟩
theorem _root_.L2.PA.imp {X : Cx} {e : List Expr} {t t' : TA} (h : PA X e t) (k : ∀ σ H Q, t' σ H Q → t σ H Q) : PA X e t' := ⟨fun pos pins s σ H Q I q => h.run pos pins s σ H Q I (k σ H Q q)⟩
theorem _root_.L2.PS.imp {X : Cx} {e : Stmt} {t t' : TS} (h : PS X e t) (k : ∀ De σ H, t' De σ H → t De σ H) : PS X e t' := ⟨fun pins s σ H De I q => h.run pins s σ H De I (k De σ H q)⟩
theorem _root_.L2.PSs.imp {X : Cx} {e : List Stmt} {t t' : TS} (h : PSs X e t) (k : ∀ De σ H, t' De σ H → t De σ H) : PSs X e t' := ⟨fun pins s σ H De I q => h.run pins s σ H De I (k De σ H q)⟩
end Vi
/-! Vi3: rules for expressions, tests, arguments. -/
namespace Vi
open PySem L2

/-! ### a slot's owned value is frozen -/
def pre (i : Nat) : Option (List Nat) → Bool
  | some (j :: _) => j == i
  | _ => false
def frzF (i : Nat) (Ω : Nm) (F H : Hp) : Hp := fun b => if pre i (Ω b) = true then H b else F b
def drp (i : Nat) (Ω : Nm) : Nm := fun b => if pre i (Ω b) = true then none else Ω b
theorem pre_of {i : Nat} {ρ : List Nat} : pre i (some ([i] ++ ρ)) = true := by simp [pre]
theorem pre_ne {i j : Nat} {ρ : List Nat} (h : j ≠ i) : pre i (some ([j] ++ ρ)) = false := by simp [pre, h]
section
variable {c : Ct} {F H : Hp} {Ω : Nm} {ρ : Env} {σ : L2.St} {i : Nat}
theorem frz_stp (w : Wf F H Ω) : Stp F H Ω (frzF i Ω F H) H (drp i Ω) := by
  refine ⟨fun b o e => ?_, fun b o h1 h2 h3 => ⟨h1, ?_, ?_⟩⟩
  · unfold frzF
    split
    · rename_i h
      cases q : Ω b with
      | none => rw [q] at h; cases h
      | some π => have z := (w.own b π q).1; rw [e] at z; cases z
    · exact e
  · unfold frzF
    rw [h3]
    exact h2
  · unfold drp
    rw [h3]
    rfl
theorem frz_wf (w : Wf F H Ω) : Wf (frzF i Ω F H) H (drp i Ω) := by
  refine ⟨fun b o e => ?_, fun b π e => ?_⟩
  · unfold frzF at e
    split at e
    · exact e
    · exact w.sub b o e
  · unfold drp at e
    unfold frzF
    split at e
    · cases e
    · rename_i h
      rw [if_neg h]
      exact w.own b π e
theorem frz_slot (r : Rel c F H Ω ρ σ) (hn : nz (gt ρ i) = true) : Rel c (frzF i Ω F H) H (drp i Ω) (ρ.set i (fr (gt ρ i))) σ := by
  have hs := gt_some hn
  have hi : i < ρ.length := (List.getElem?_eq_some_iff.mp hs).1
  refine ⟨frz_wf r.wf, fun j d h1 h2 => ?_, by rw [List.length_set]; exact r.len⟩
  by_cases hj : j = i
  · subst hj
    rw [List.getElem?_set_self hi] at h1
    cases h1
    obtain ⟨v, q1, q2⟩ := r.sl j _ hs (nz_ne hn)
    refine ⟨v, q1, (Rv_of_own (own_fr _)).mpr ((Fz_fr _ _ _ _).mpr ?_)⟩
    refine Rv.frz (frz_stp (i := j) r.wf).ef _ _ v (fun b π o z q => ?_) q2
    unfold frzF
    rw [z, if_pos pre_of]
    exact q
  · rw [List.getElem?_set_ne (Ne.symm hj)] at h1
    obtain ⟨v, q1, q2⟩ := r.sl j d h1 h2
    refine ⟨v, q1, Rv.move (frz_stp (i := i) r.wf).ef d _ _ v (fun b π z => ⟨?_, rfl⟩) q2⟩
    unfold drp
    rw [z, if_neg (by rw [pre_ne hj]; exact Bool.false_ne_true)]
end
def frs (ρ : Env) (i : Nat) : Env := if own (gt ρ i) = true then ρ.set i (fr (gt ρ i)) else ρ

/-! ### names, constants -/
def dVar (i : Nat) : DE := fun ρ K => nz (gt ρ i) = true ∧ K (.ok (fr (gt ρ i))) (frs ρ i)
def dPk (i : Nat) : DO := fun ρ K => nz (gt ρ i) = true ∧ K (.ok (.sl i)) ρ
def dC (d : D) : DE := fun ρ K => K (.ok d) ρ
def dO (T : DE) : DO := fun ρ K => T ρ (onOk K fun d ρ' => K (.ok (.vl d)) ρ')
section
variable {X : Cx} {c : Ct} {W : WX}
theorem E_var (i : Nat) {x : Str} {pos : Pos} (hN : X.N[i]? = some x := by rfl) (hv : Vis X.env.scope x := by first | exact Or.inl rfl | exact Or.inr (Or.inl rfl) | exact Or.inr (Or.inr rfl)) (hd : (x == ("__debug__" : Str)) = false := by decide)
    (hcd : (x == ("__classdict__" : Str)) = false := by decide) : PE X (.Name x pos) (tOfE c W (dVar i)) := by
  refine (pe_var hN hv hd hcd).imp fun σ H Q h => ?_
  obtain ⟨F, Ω, ρ, K, r, ⟨hn, hk⟩, k, _⟩ := h
  obtain ⟨v, q1, q2⟩ := r.sl i _ (gt_some hn) (nz_ne hn)
  refine ⟨v, q1, ?_⟩
  unfold frs at hk
  split at hk
  · refine k _ _ hk v _ H _ (frz_stp (i := i) r.wf) (frz_slot r hn) ?_
    rw [Fz_fr]
    refine Rv.frz (frz_stp (i := i) r.wf).ef _ _ v (fun b π o z q => ?_) q2
    unfold frzF
    rw [z, if_pos pre_of]
    exact q
  · rename_i ho
    have ho : own (gt ρ i) = false := by simpa using ho
    refine k _ _ hk v F H Ω (Stp.refl _ _ _) r ?_
    rw [Fz_fr]
    exact (Rv_of_own ho).mp q2
theorem O_pk (i : Nat) {x : Str} {pos : Pos} (hN : X.N[i]? = some x := by rfl) (hv : Vis X.env.scope x := by first | exact Or.inl rfl | exact Or.inr (Or.inl rfl) | exact Or.inr (Or.inr rfl)) (hd : (x == ("__debug__" : Str)) = false := by decide)
    (hcd : (x == ("__classdict__" : Str)) = false := by decide) : PE X (.Name x pos) (tOfO c W (dPk i)) := by
  refine (pe_var hN hv hd hcd).imp fun σ H Q h => ?_
  obtain ⟨F, Ω, ρ, K, r, ⟨hn, hk⟩, k, _⟩ := h
  obtain ⟨v, q1, q2⟩ := r.sl i _ (gt_some hn) (nz_ne hn)
  exact ⟨v, q1, k _ _ hk v F H Ω (Stp.refl _ _ _) r q1⟩
theorem O_of {e : Expr} {T : DE} (h : PE X e (tOfE c W T)) : PE X e (tOfO c W (dO T)) := by
  refine h.imp fun σ H Q h => ?_
  obtain ⟨F, Ω, ρ, K, r, ht, k, kx⟩ := h
  exact ⟨F, Ω, ρ, _, r, ht, fun d ρ' q v F' H' Ω' s r' f => k _ _ q v F' H' Ω' s r' f, kx.imp (Stp.refl _ _ _) fun _ _ _ q => q⟩
theorem E_const {e : Expr} {d : D} {v : V} (h : PE X e (tC v)) (hf : ∀ F, Fz c F d v) : PE X e (tOfE c W (dC d)) := by
  refine h.imp fun σ H Q h => ?_
  obtain ⟨F, Ω, ρ, K, r, ht, k, _⟩ := h
  exact k _ _ ht v F H Ω (Stp.refl _ _ _) r (hf F)
theorem E_int {i : Int} {j pos} : PE X (.Constant (.int i) j pos) (tOfE c W (dC (.int i))) := E_const pe_int fun _ => by simp only [Fz]
theorem E_bl {b : Bool} {j pos} : PE X (.Constant (.bool b) j pos) (tOfE c W (dC (.bl b))) := E_const pe_bl fun _ => by simp only [Fz]
theorem E_non {j pos} : PE X (.Constant .none j pos) (tOfE c W (dC .non)) := E_const pe_non fun _ => by simp only [Fz]
theorem E_str {x : Str} {l : List Nat} {j pos} (hx : x.cps.toList = l) : PE X (.Constant (.str x) j pos) (tOfE c W (dC (.str l))) := E_const pe_str fun _ => by
  simp only [Fz]
  subst hx
  rfl
/-- a module's constant, by its value in the written part -/
theorem E_glob {x : Str} {d : D} {v : V} {u : Value} {pos : Pos} (hg : Gl X x) (hm : X.mg x = some u) (r : RelV v u) (hf : ∀ F, Fz c F d v) (hd : (x == ("__debug__" : Str)) = false := by decide) : PE X (.Name x pos) (tOfE c W (dC d)) :=
  E_const (pe_glob hg hm r hd) hf

/-! ### two operands -/
structure B2 (c : Ct) (r : R2) (o : D → D → (D → Prop) → Prop) : Prop where
  run : ∀ F H Ω, Wf F H Ω → ∀ d e v w, Vw c F H d v → Vw c F H e w → ∀ K : D → Prop, o d e K → ∀ Q : VK, (∀ z, K z → ∀ u F' H', Ext F H Ω F' H' → Fz c F' z u → Q u H') → r v w H Q
def d2 (o : D → D → (D → Prop) → Prop) (A B : DO) : DE := fun ρ K => A ρ (onOk K fun x ρ1 => B ρ1 (onOk K fun y ρ2 => nz (see ρ2 x) = true ∧ nz (see ρ2 y) = true ∧ o (see ρ2 x) (see ρ2 y) fun z => K (.ok z) ρ2))
theorem run2 {r : R2} {o : D → D → (D → Prop) → Prop} {A B : DO} (b : B2 c r o) {σ : L2.St} {H : Hp} {Q : VK} (h : tOfE c W (d2 o A B) σ H Q) : tOp r (tOfO c W A) (tOfO c W B) σ H Q := by
  obtain ⟨F, Ω, ρ, K, r0, ht, k, kx⟩ := h
  refine ⟨F, Ω, ρ, _, r0, ht, fun x ρ1 q1 v F1 H1 Ω1 s1 r1 f1 => ?_, kx.imp (Stp.refl _ _ _) fun _ _ _ q => q⟩
  refine ⟨F1, Ω1, ρ1, _, r1, q1, fun y ρ2 q2 w F2 H2 Ω2 s2 r2 f2 => ?_, kx.imp s1 fun _ _ _ q => q⟩
  obtain ⟨n1, n2, q3⟩ := q2
  refine b.run F2 H2 Ω2 r2.wf _ _ v w ((f1.mono s2.ef).vw r2 n1) (f2.vw r2 n2) _ q3 Q fun z kz u F3 H3 e3 f3 => ?_
  exact k z ρ2 kz u F3 H3 Ω2 ((s1.trans s2).trans e3.stp) (r2.ext e3) f3
theorem E_op {a b : Expr} {op : Operator} {pos : Pos} {r : R2} {o : D → D → (D → Prop) → Prop} {A B : DO} (ho : OpR X (binaryOp op) r) (hb : B2 c r o) (h1 : PE X a (tOfO c W A)) (h2 : PE X b (tOfO c W B)) : PE X (.BinOp a op b pos) (tOfE c W (d2 o A B)) :=
  (pe_op ho h1 h2).imp fun _ _ _ h => run2 hb h
theorem E_cmp {a b : Expr} {op : CmpOp} {pos : Pos} {r : R2} {o : D → D → (D → Prop) → Prop} {A B : DO} (ho : OpR X (compareOp op) r) (hb : B2 c r o) (h1 : PE X a (tOfO c W A)) (h2 : PE X b (tOfO c W B)) (hm : behindInMarks op b = false) : PE X (.Compare a [op] [b] pos) (tOfE c W (d2 o A B)) :=
  (pe_cmpR ho h1 h2 hm).imp fun _ _ _ h => run2 hb h
theorem E_ix {a b : Expr} {pos : Pos} {r : R2} {o : D → D → (D → Prop) → Prop} {A B : DO} (ho : IxR X r) (hb : B2 c r o) (h1 : PE X a (tOfO c W A)) (h2 : PE X b (tOfO c W B)) (hs : PlainIx b) : PE X (.Subscript a b pos) (tOfE c W (d2 o A B)) :=
  (pe_ix ho h1 h2 hs).imp fun _ _ _ h => run2 hb h
theorem B2.imp {r : R2} {o o' : D → D → (D → Prop) → Prop} (b : B2 c r o) (h : ∀ d e K, o' d e K → o d e K) : B2 c r o' := ⟨fun F H Ω w d e v u h1 h2 K q => b.run F H Ω w d e v u h1 h2 K (h _ _ _ q)⟩
theorem B2.or {r r' : R2} {o o' : D → D → (D → Prop) → Prop} (b : B2 c r o) (b' : B2 c r' o') : B2 c (fun x y H Q => r x y H Q ∨ r' x y H Q) (fun d e K => o d e K ∨ o' d e K) :=
  ⟨fun F H Ω w d e v u h1 h2 K q Q k => q.elim (fun q => .inl (b.run F H Ω w d e v u h1 h2 K q Q k)) fun q => .inr (b'.run F H Ω w d e v u h1 h2 K q Q k)⟩

/-! ### tests -/
def dB (T : DE) : DT := fun ρ K => T ρ (onOk K fun d ρ' => match d with | .bl b => K (.ok b) ρ' | _ => False)
theorem tB_of {T : DE} {σ : L2.St} {H : Hp} {Q : Bool → Hp → Prop} (h : tOfT c W (dB T) σ H Q) : tOfE c W T σ H fun x H1 => ∃ k, x = .bl k ∧ Q k H1 := by
  obtain ⟨F, Ω, ρ, K, r0, ht, k, kx⟩ := h
  refine ⟨F, Ω, ρ, _, r0, ht, fun d ρ1 q v F1 H1 Ω1 s1 r1 f1 => ?_, kx.imp (Stp.refl _ _ _) fun _ _ _ q => q⟩
  cases d with
  | bl b =>
    simp only [Fz] at f1
    exact ⟨b, f1, k b ρ1 q F1 H1 Ω1 s1 r1⟩
  | _ => exact q.elim
theorem T_val {e : Expr} {T : DE} (h : PE X e (tOfE c W T)) (he : ∀ whole, isTrue e X.env whole = (do let v ← whole; standAt e.pos; holding [v] (truthy v)) := by intro _; rfl) : PT X e (tOfT c W (dB T)) :=
  (pt_val h he).imp fun _ _ _ h => tB_of h
theorem T_cmp {a b : Expr} {op : CmpOp} {pos : Pos} {r : R2} {o : D → D → (D → Prop) → Prop} {A B : DO} (ho : OpR X (compareOp op) r) (hb : B2 c r o) (h1 : PE X a (tOfO c W A)) (h2 : PE X b (tOfO c W B)) (hm : behindInMarks op b = false) : PT X (.Compare a [op] [b] pos) (tOfT c W (dB (d2 o A B))) :=
  (pt_cmpR ho h1 h2 hm).imp fun σ H Q h => by
    obtain ⟨F, Ω, ρ, K, r0, ht, k, kx⟩ := tB_of h
    exact run2 hb ⟨F, Ω, ρ, K, r0, ht, k, kx⟩
def dNotT (T : DT) : DT := fun ρ K => T ρ (onOk K fun b ρ' => K (.ok (!b)) ρ')
theorem T_not {e : Expr} {pos : Pos} {T : DT} (h : PT X e (tOfT c W T)) : PT X (.UnaryOp .Not e pos) (tOfT c W (dNotT T)) := by
  refine (pt_not h).imp fun σ H Q h => ?_
  obtain ⟨F, Ω, ρ, K, r0, ht, k, kx⟩ := h
  exact ⟨F, Ω, ρ, _, r0, ht, fun b ρ1 q F1 H1 Ω1 s1 r1 => k _ ρ1 q F1 H1 Ω1 s1 r1, kx.imp (Stp.refl _ _ _) fun _ _ _ q => q⟩
def dAndT (T U : DT) : DT := fun ρ K => T ρ (onOk K fun b ρ' => if b = true then U ρ' K else K (.ok false) ρ')
def dOrT (T U : DT) : DT := fun ρ K => T ρ (onOk K fun b ρ' => if b = true then K (.ok true) ρ' else U ρ' K)
theorem W_and1 {a : Expr} {pos : Pos} {T : DT} (h : PT X a (tOfT c W T)) : PW X (.BoolOp .And [a] pos) (tOfT c W T) := pw_and1 h
theorem W_or1 {a : Expr} {pos : Pos} {T : DT} (h : PT X a (tOfT c W T)) : PW X (.BoolOp .Or [a] pos) (tOfT c W T) := pw_or1 h
theorem W_and {a b : Expr} {rest : List Expr} {pos : Pos} {T U : DT} (h : PT X a (tOfT c W T)) (g : PW X (.BoolOp .And (b :: rest) pos) (tOfT c W U)) : PW X (.BoolOp .And (a :: b :: rest) pos) (tOfT c W (dAndT T U)) := by
  refine (pw_and h g).imp fun σ H Q h => ?_
  obtain ⟨F, Ω, ρ, K, r0, ht, k, kx⟩ := h
  refine ⟨F, Ω, ρ, _, r0, ht, fun b ρ1 q F1 H1 Ω1 s1 r1 => ?_, kx.imp (Stp.refl _ _ _) fun _ _ _ q => q⟩
  cases b with
  | true =>
    rw [if_pos rfl]
    exact ⟨F1, Ω1, ρ1, K, r1, by simpa using q, fun b ρ2 q F2 H2 Ω2 s2 r2 => k b ρ2 q F2 H2 Ω2 (s1.trans s2) r2, kx.imp s1 fun _ _ _ q => q⟩
  | false =>
    rw [if_neg Bool.false_ne_true]
    exact k _ ρ1 (by simpa using q) F1 H1 Ω1 s1 r1
theorem W_or {a b : Expr} {rest : List Expr} {pos : Pos} {T U : DT} (h : PT X a (tOfT c W T)) (g : PW X (.BoolOp .Or (b :: rest) pos) (tOfT c W U)) : PW X (.BoolOp .Or (a :: b :: rest) pos) (tOfT c W (dOrT T U)) := by
  refine (pw_or h g).imp fun σ H Q h => ?_
  obtain ⟨F, Ω, ρ, K, r0, ht, k, kx⟩ := h
  refine ⟨F, Ω, ρ, _, r0, ht, fun b ρ1 q F1 H1 Ω1 s1 r1 => ?_, kx.imp (Stp.refl _ _ _) fun _ _ _ q => q⟩
  cases b with
  | false =>
    rw [if_neg Bool.false_ne_true]
    exact ⟨F1, Ω1, ρ1, K, r1, by simpa using q, fun b ρ2 q F2 H2 Ω2 s2 r2 => k b ρ2 q F2 H2 Ω2 (s1.trans s2) r2, kx.imp s1 fun _ _ _ q => q⟩
  | true =>
    rw [if_pos rfl]
    exact k _ ρ1 (by simpa using q) F1 H1 Ω1 s1 r1
/-! .. as values -/
def dBV (f : DE) (k : Bool → Env → (R D → Env → Prop) → Prop) : DE := fun ρ K => f ρ (onOk K fun d ρ' => match d with | .bl b => k b ρ' K | _ => False)
def dAndV (A B : DE) : DE := dBV A fun b ρ' K => if b = true then B ρ' K else K (.ok (.bl false)) ρ'
def dOrV (A B : DE) : DE := dBV A fun b ρ' K => if b = true then K (.ok (.bl true)) ρ' else B ρ' K
def dNotV (A : DE) : DE := dBV A fun b ρ' K => K (.ok (.bl (!b))) ρ'
theorem bv_of {f : DE} {k : Bool → Env → (R D → Env → Prop) → Prop} {σ : L2.St} {H : Hp} {Q : VK} {g : Bool → Hp → Prop} (h : tOfE c W (dBV f k) σ H Q)
    (hg : ∀ b H', tOfE c W (k b) σ H' Q → g b H') : tOfE c W f σ H fun x H1 => ∃ b, x = .bl b ∧ g b H1 := by
  obtain ⟨F, Ω, ρ, K, r0, ht, k', kx⟩ := h
  refine ⟨F, Ω, ρ, _, r0, ht, fun d ρ1 q v F1 H1 Ω1 s1 r1 f1 => ?_, kx.imp (Stp.refl _ _ _) fun _ _ _ q => q⟩
  cases d with
  | bl b =>
    simp only [Fz] at f1
    refine ⟨b, f1, hg b H1 ⟨F1, Ω1, ρ1, K, r1, q, fun d ρ2 q v F2 H2 Ω2 s2 r2 => k' d ρ2 q v F2 H2 Ω2 (s1.trans s2) r2, kx.imp s1 fun _ _ _ q => q⟩⟩
  | _ => exact q.elim
theorem tOfE_ok {d : D} {v : V} {σ : L2.St} {H : Hp} {Q : VK} (h : tOfE c W (fun ρ K => K (.ok d) ρ) σ H Q) (hf : ∀ F, Fz c F d v) : Q v H := by
  obtain ⟨F, Ω, ρ, K, r0, ht, k', kx⟩ := h
  exact k' d ρ ht v F H Ω (Stp.refl _ _ _) r0 (hf F)
theorem E_one {op} {a : Expr} {pos : Pos} {A : DE} (h : PE X a (tOfE c W A)) : PE X (.BoolOp op [a] pos) (tOfE c W A) := pe_one h
theorem E_and {a b : Expr} {rest : List Expr} {pos : Pos} {A B : DE} (h : PE X a (tOfE c W A)) (g : PE X (.BoolOp .And (b :: rest) pos) (tOfE c W B)) : PE X (.BoolOp .And (a :: b :: rest) pos) (tOfE c W (dAndV A B)) :=
  (pe_and h g).imp fun σ H Q h => bv_of h fun b H' z => by
    cases b with
    | true => rw [if_pos rfl]; simpa using z
    | false => rw [if_neg Bool.false_ne_true]; exact tOfE_ok (d := .bl false) (by simpa using z) fun _ => by simp only [Fz]
theorem E_or {a b : Expr} {rest : List Expr} {pos : Pos} {A B : DE} (h : PE X a (tOfE c W A)) (g : PE X (.BoolOp .Or (b :: rest) pos) (tOfE c W B)) : PE X (.BoolOp .Or (a :: b :: rest) pos) (tOfE c W (dOrV A B)) :=
  (pe_or h g).imp fun σ H Q h => bv_of h fun b H' z => by
    cases b with
    | false => rw [if_neg Bool.false_ne_true]; simpa using z
    | true => rw [if_pos rfl]; exact tOfE_ok (d := .bl true) (by simpa using z) fun _ => by simp only [Fz]
theorem E_not {a : Expr} {pos : Pos} {A : DE} (h : PE X a (tOfE c W A)) : PE X (.UnaryOp .Not a pos) (tOfE c W (dNotV A)) :=
  (pe_not h).imp fun σ H Q h => bv_of h fun b H' z => tOfE_ok (d := .bl (!b)) z fun _ => by simp only [Fz]
def dIf (T : DT) (A B : DE) : DE := fun ρ K => T ρ (onOk K fun b ρ' => if b = true then A ρ' K else B ρ' K)
theorem E_if {t a b : Expr} {pos : Pos} {T : DT} {A B : DE} (ht : PT X t (tOfT c W T)) (ha : PE X a (tOfE c W A)) (hb : PE X b (tOfE c W B)) : PE X (.IfExp t a b pos) (tOfE c W (dIf T A B)) := by
  refine (pe_ifExp ht ha hb).imp fun σ H Q h => ?_
  obtain ⟨F, Ω, ρ, K, r0, ht, k, kx⟩ := h
  refine ⟨F, Ω, ρ, _, r0, ht, fun b ρ1 q F1 H1 Ω1 s1 r1 => ?_, kx.imp (Stp.refl _ _ _) fun _ _ _ q => q⟩
  cases b with
  | true =>
    rw [if_pos rfl]
    exact ⟨F1, Ω1, ρ1, K, r1, by simpa using q, fun d ρ2 q v F2 H2 Ω2 s2 r2 => k d ρ2 q v F2 H2 Ω2 (s1.trans s2) r2, kx.imp s1 fun _ _ _ q => q⟩
  | false =>
    rw [if_neg Bool.false_ne_true]
    exact ⟨F1, Ω1, ρ1, K, r1, by simpa using q, fun d ρ2 q v F2 H2 Ω2 s2 r2 => k d ρ2 q v F2 H2 Ω2 (s1.trans s2) r2, kx.imp s1 fun _ _ _ q => q⟩

/-! ### arguments: operands; values -/
def dNil : DA := fun ρ K => K (.ok []) ρ
def dCons (O : DO) (A : DA) : DA := fun ρ K => O ρ (onOk K fun o ρ1 => A ρ1 (onOk K fun os ρ2 => K (.ok (o :: os)) ρ2))
theorem A_nil : PA X [] (tOfA c W dNil) := (pa_nil).imp fun σ H Q h => by
  obtain ⟨F, Ω, ρ, K, r0, ht, k, kx⟩ := h
  exact k [] ρ ht [] F H Ω (Stp.refl _ _ _) r0 rfl
theorem A_cons {e : Expr} {es : List Expr} {O : DO} {A : DA} (h : PE X e (tOfO c W O)) (g : PA X es (tOfA c W A)) (hs : starEach (e :: es) X.env = (false, eval e X.env) :: starEach es X.env := by rfl) : PA X (e :: es) (tOfA c W (dCons O A)) := by
  refine (pa_cons h g hs).imp fun σ H Q h => ?_
  obtain ⟨F, Ω, ρ, K, r0, ht, k, kx⟩ := h
  refine ⟨F, Ω, ρ, _, r0, ht, fun x ρ1 q1 v F1 H1 Ω1 s1 r1 f1 => ?_, kx.imp (Stp.refl _ _ _) fun _ _ _ q => q⟩
  refine ⟨F1, Ω1, ρ1, _, r1, q1, fun y ρ2 q2 w F2 H2 Ω2 s2 r2 f2 => ?_, kx.imp s1 fun _ _ _ q => q⟩
  exact k _ ρ2 q2 (v :: w) F2 H2 Ω2 (s1.trans s2) r2 ⟨v, w, rfl, f1.mono s2.ef, f2⟩
abbrev DL := Env → (R (List D) → Env → Prop) → Prop
def tOfL (c : Ct) (W : WX) (T : DL) : TA := fun σ H Q => ∃ F Ω ρ K, Rel c F H Ω ρ σ ∧ T ρ K ∧
  (∀ ds ρ', K (.ok ds) ρ' → ∀ vs F' H' Ω', Stp F H Ω F' H' Ω' → Rel c F' H' Ω' ρ' σ → FzL c F' ds vs → Q vs H') ∧ ExW c W F H Ω σ (exK K)
def dNilL : DL := fun ρ K => K (.ok []) ρ
def dConsL (O : DE) (A : DL) : DL := fun ρ K => O ρ (onOk K fun o ρ1 => A ρ1 (onOk K fun os ρ2 => K (.ok (o :: os)) ρ2))
theorem L_nil : PA X [] (tOfL c W dNilL) := (pa_nil).imp fun σ H Q h => by
  obtain ⟨F, Ω, ρ, K, r0, ht, k, kx⟩ := h
  exact k [] ρ ht [] F H Ω (Stp.refl _ _ _) r0 FzL.nil
theorem L_cons {e : Expr} {es : List Expr} {O : DE} {A : DL} (h : PE X e (tOfE c W O)) (g : PA X es (tOfL c W A)) (hs : starEach (e :: es) X.env = (false, eval e X.env) :: starEach es X.env := by rfl) : PA X (e :: es) (tOfL c W (dConsL O A)) := by
  refine (pa_cons h g hs).imp fun σ H Q h => ?_
  obtain ⟨F, Ω, ρ, K, r0, ht, k, kx⟩ := h
  refine ⟨F, Ω, ρ, _, r0, ht, fun x ρ1 q1 v F1 H1 Ω1 s1 r1 f1 => ?_, kx.imp (Stp.refl _ _ _) fun _ _ _ q => q⟩
  refine ⟨F1, Ω1, ρ1, _, r1, q1, fun y ρ2 q2 w F2 H2 Ω2 s2 r2 f2 => ?_, kx.imp s1 fun _ _ _ q => q⟩
  exact k _ ρ2 q2 (v :: w) F2 H2 Ω2 (s1.trans s2) r2 (FzL.cons (Fz.mono s2.ef _ _ f1) f2)
theorem sz_ok {n : Nat} (h : n ≤ 1000000) : n ≤ sizeLine := Nat.le_trans h (by decide)
def dTup (L : DL) : DE := fun ρ K => L ρ (onOk K fun ds ρ' => ds.length ≤ 1000000 ∧ K (.ok (.tup ds)) ρ')
def dLst (L : DL) : DE := fun ρ K => L ρ (onOk K fun ds ρ' => ds.length ≤ 1000000 ∧ K (.ok (.lst false ds)) ρ')
theorem E_tup {es : List Expr} {x1} {pos : Pos} {L : DL} (h : PA X es (tOfL c W L)) : PE X (.Tuple es x1 pos) (tOfE c W (dTup L)) := by
  refine (pe_tup h).imp fun σ H Q h => ?_
  obtain ⟨F, Ω, ρ, K, r0, ht, k, kx⟩ := h
  refine ⟨F, Ω, ρ, _, r0, ht, fun ds ρ1 q1 vs F1 H1 Ω1 s1 r1 f1 => ⟨sz_ok (by rw [← f1.length]; exact q1.1), fun p hp => ?_⟩, kx.imp (Stp.refl _ _ _) fun _ _ _ q => q⟩
  have e := Ext.new (o := .tup vs) r1.wf hp
  refine k _ ρ1 q1.2 (.ref p) _ _ Ω1 (s1.trans e.stp) (r1.ext e) ?_
  simp only [Fz]
  exact ⟨p, vs, rfl, upd_same, FzL.mono e.ef _ _ f1⟩
theorem E_lst {es : List Expr} {pos : Pos} {L : DL} (h : PA X es (tOfL c W L)) : PE X (.List es pos) (tOfE c W (dLst L)) := by
  refine (pe_lst h).imp fun σ H Q h => ?_
  obtain ⟨F, Ω, ρ, K, r0, ht, k, kx⟩ := h
  refine ⟨F, Ω, ρ, _, r0, ht, fun ds ρ1 q1 vs F1 H1 Ω1 s1 r1 f1 => ⟨sz_ok (by rw [← f1.length]; exact q1.1), fun p hp => ?_⟩, kx.imp (Stp.refl _ _ _) fun _ _ _ q => q⟩
  have e := Ext.new (o := .lst vs) r1.wf hp
  refine k _ ρ1 q1.2 (.ref p) _ _ Ω1 (s1.trans e.stp) (r1.ext e) ?_
  simp only [Fz]
  exact ⟨p, vs, rfl, upd_same, FzL.mono e.ef _ _ f1⟩

/-! ### built-ins by name: operands in, a value out -/
structure BA (c : Ct) (r : List V → Hp → VK → Prop) (o : List D → (D → Prop) → Prop) : Prop where
  run : ∀ F H Ω, Wf F H Ω → ∀ ds vs, ds.length = vs.length → (∀ (i : Nat) d v, ds[i]? = some d → vs[i]? = some v → Vw c F H d v) → ∀ K : D → Prop, o ds K → ∀ Q : VK, (∀ z, K z → ∀ u F' H', Ext F H Ω F' H' → Fz c F' z u → Q u H') → r vs H Q
def dBI (o : List D → (D → Prop) → Prop) (A : DA) : DE := fun ρ K => A ρ (onOk K fun os ρ' => (os.all fun x => nz (see ρ' x)) = true ∧ o (os.map (see ρ')) fun z => K (.ok z) ρ')
theorem OpPs.vws {F H : Hp} {Ω : Nm} {ρ : Env} {σ : L2.St} (r : Rel c F H Ω ρ σ) : ∀ {os : List Opd} {vs : List V}, OpPs c F σ os vs → (os.all fun x => nz (see ρ x)) = true →
    (os.map (see ρ)).length = vs.length ∧ ∀ (i : Nat) d v, (os.map (see ρ))[i]? = some d → vs[i]? = some v → Vw c F H d v
  | [], vs, h, _ => by
    have e : vs = [] := h
    subst e
    exact ⟨rfl, fun i d v q => by simp at q⟩
  | o :: os, vs, ⟨v, r', e, h1, h2⟩, hn => by
    subst e
    simp only [List.all_cons, Bool.and_eq_true] at hn
    obtain ⟨l, g⟩ := OpPs.vws r h2 hn.2
    refine ⟨by simp only [List.map_cons, List.length_cons, l], fun i d w q1 q2 => ?_⟩
    cases i with
    | zero =>
      simp at q1 q2
      subst q1; subst q2
      exact h1.vw r hn.1
    | succ i => exact g i d w (by simpa using q1) (by simpa using q2)
theorem runA {r : List V → Hp → VK → Prop} {o : List D → (D → Prop) → Prop} {A : DA} (b : BA c r o) {σ : L2.St} {H : Hp} {Q : VK} (h : tOfE c W (dBI o A) σ H Q) : tCB r (tOfA c W A) σ H Q := by
  obtain ⟨F, Ω, ρ, K, r0, ht, k, kx⟩ := h
  refine ⟨F, Ω, ρ, _, r0, ht, fun os ρ1 q1 vs F1 H1 Ω1 s1 r1 f1 => ?_, kx.imp (Stp.refl _ _ _) fun _ _ _ q => q⟩
  obtain ⟨hn, q⟩ := q1
  obtain ⟨l, g⟩ := OpPs.vws r1 f1 hn
  exact b.run F1 H1 Ω1 r1.wf _ _ l g _ q Q fun z kz u F3 H3 e3 f3 => k z ρ1 kz u F3 H3 Ω1 (s1.trans e3.stp) (r1.ext e3) f3
theorem E_bi {x : Str} {id : String} {e : Expr} {es : List Expr} {p pos : Pos} {r : List V → Hp → VK → Prop} {o : List D → (D → Prop) → Prop} {A : DA} (hc : CallR X (.builtin id) r) (hb : BA c r o) (hg : Gl X x) (hm : X.mg x = none) (hv : bootBuiltins x = some (.builtin id)) (ha : PA X (e :: es) (tOfA c W A)) (hn : x ≠ "__name__" := by decide) (hdb : (x == ("__debug__" : Str)) = false := by decide)
    (he : starEach (e :: es) X.env = (false, eval e X.env) :: starEach es X.env := by rfl) (hpl : (backTo pos (starEach es X.env)).any (·.1) = false := by rfl) : PE X (.Call (.Name x p) (e :: es) [] pos) (tOfE c W (dBI o A)) :=
  (pe_callB hc hg hm hv ha hn hdb he hpl).imp fun _ _ _ h => runA hb h
theorem E_ty {x : Str} {T : String} {e : Expr} {es : List Expr} {p pos : Pos} {r : List V → Hp → VK → Prop} {o : List D → (D → Prop) → Prop} {A : DA} (hc : CallR X (.type T) r) (hb : BA c r o) (hg : Gl X x) (hm : X.mg x = none) (hv : bootBuiltins x = some (.type T)) (ha : PA X (e :: es) (tOfA c W A)) (hn : x ≠ "__name__" := by decide) (hdb : (x == ("__debug__" : Str)) = false := by decide)
    (he : starEach (e :: es) X.env = (false, eval e X.env) :: starEach es X.env := by rfl) (hpl : (backTo pos (starEach es X.env)).any (·.1) = false := by rfl) : PE X (.Call (.Name x p) (e :: es) [] pos) (tOfE c W (dBI o A)) :=
  (pe_callTy hc hg hm hv ha hn hdb he hpl).imp fun _ _ _ h => runA hb h
end
end Vi
/-! Vi4: rules for statements. -/
namespace Vi
open PySem L2

def onFl {α : Type} (K : Fl → Env → Prop) (f : α → Env → Prop) : R α → Env → Prop
  | .ok a, ρ => f a ρ
  | .exc C w, ρ => K (.exc C w) ρ
@[simp] theorem onFl_ok {α : Type} (K : Fl → Env → Prop) (f : α → Env → Prop) (a : α) (ρ : Env) : onFl K f (.ok a) ρ = f a ρ := rfl
@[simp] theorem onFl_exc {α : Type} (K : Fl → Env → Prop) (f : α → Env → Prop) (C : Nat) (w : D) (ρ : Env) : onFl K f (.exc C w) ρ = K (.exc C w) ρ := rfl

section
variable {X : Cx} {x : Ct2} {W : WX}
/-- what a block wants, at a later state -/
structure Wants (x : Ct2) (W : WX) (F H : Hp) (Ω : Nm) (σ : L2.St) (K : Fl → Env → Prop) (De : Ends) : Prop where
  nx : ∀ ρ', K .nx ρ' → ∀ σ' F' H' Ω', PostS x F H Ω σ F' H' Ω' ρ' σ' → De.nx σ' H'
  bk : ∀ ρ', K .bk ρ' → ∀ σ' F' H' Ω', PostS x F H Ω σ F' H' Ω' ρ' σ' → De.bk σ' H'
  ct : ∀ ρ', K .ct ρ' → ∀ σ' F' H' Ω', PostS x F H Ω σ F' H' Ω' ρ' σ' → De.ct σ' H'
  rt : ∀ d ρ', K (.rt d) ρ' → ∀ σ' v F' H' Ω' Θ, PostS x F H Ω σ F' H' Ω' ρ' σ' → Air x.c F' H' Ω' d v Θ → New F H Ω Θ → De.rt v H'
  ex : ∀ C w ρ', K (.exc C w) ρ' → ∀ cd vw σ' F' H' Ω', PostS x F H Ω σ F' H' Ω' ρ' σ' → F' cd = some (.xd [("what", vw)]) → Fz x.c F' w vw → W (.ref (x.c.cls C)) (some cd) σ' H'
theorem tOfS_iff {T : DS} {De : Ends} {σ : L2.St} {H : Hp} : tOfS x W T De σ H ↔ ∃ F Ω ρ K, Rel x.c F H Ω ρ σ ∧ T ρ K ∧ Wants x W F H Ω σ K De :=
  ⟨fun ⟨F, Ω, ρ, K, r, t, a, b, c, d, e⟩ => ⟨F, Ω, ρ, K, r, t, ⟨a, b, c, d, e⟩⟩, fun ⟨F, Ω, ρ, K, r, t, ⟨a, b, c, d, e⟩⟩ => ⟨F, Ω, ρ, K, r, t, a, b, c, d, e⟩⟩
theorem Wants.later {F H F1 H1 : Hp} {Ω Ω1 : Nm} {σ σ1 : L2.St} {K : Fl → Env → Prop} {De : Ends} (w : Wants x W F H Ω σ K De) (s : Stp F H Ω F1 H1 Ω1) (io : Io x.io σ σ1) : Wants x W F1 H1 Ω1 σ1 K De where
  nx := fun ρ' q σ' F' H' Ω' p => w.nx ρ' q σ' F' H' Ω' ⟨s.trans p.1, p.2.1, io.trans p.2.2⟩
  bk := fun ρ' q σ' F' H' Ω' p => w.bk ρ' q σ' F' H' Ω' ⟨s.trans p.1, p.2.1, io.trans p.2.2⟩
  ct := fun ρ' q σ' F' H' Ω' p => w.ct ρ' q σ' F' H' Ω' ⟨s.trans p.1, p.2.1, io.trans p.2.2⟩
  rt := fun d ρ' q σ' v F' H' Ω' Θ p a n => w.rt d ρ' q σ' v F' H' Ω' Θ ⟨s.trans p.1, p.2.1, io.trans p.2.2⟩ a (n.step s)
  ex := fun C u ρ' q cd vw σ' F' H' Ω' p => w.ex C u ρ' q cd vw σ' F' H' Ω' ⟨s.trans p.1, p.2.1, io.trans p.2.2⟩
/-- the error's part, of an expression ahead of all -/
theorem Wants.exw {α : Type} {F H : Hp} {Ω : Nm} {σ : L2.St} {K : Fl → Env → Prop} {De : Ends} (w : Wants x W F H Ω σ K De) {f : α → Env → Prop} : ExW x.c W F H Ω σ (exK (onFl K f)) :=
  fun C u ρ' q cd vw F' H' Ω' s r e z => w.ex C u ρ' q cd vw σ F' H' Ω' ⟨s, r, Io.refl _ _⟩ e z

/-! ### blocks -/
def dSkip : DS := fun ρ K => K .nx ρ
def dSeq (A B : DS) : DS := fun ρ K => A ρ fun f ρ' => match f with | .nx => B ρ' K | g => K g ρ'
theorem SS_nil : PSs X [] (tOfS x W dSkip) := pss_nil.imp fun De σ H h => by
  obtain ⟨F, Ω, ρ, K, r, t, w⟩ := tOfS_iff.mp h
  exact w.nx ρ t σ F H Ω ⟨Stp.refl _ _ _, r, Io.refl _ _⟩
theorem SS_cons {st : Stmt} {rest : List Stmt} {A B : DS} (h : PS X st (tOfS x W A)) (g : PSs X rest (tOfS x W B)) : PSs X (st :: rest) (tOfS x W (dSeq A B)) := (pss_cons h g).imp fun De σ H h => by
  obtain ⟨F, Ω, ρ, K, r, t, w⟩ := tOfS_iff.mp h
  refine tOfS_iff.mpr ⟨F, Ω, ρ, _, r, t, ⟨fun ρ' q σ' F' H' Ω' p => ?_, fun ρ' q => w.bk ρ' q, fun ρ' q => w.ct ρ' q, fun d ρ' q => w.rt d ρ' q, fun C u ρ' q => w.ex C u ρ' q⟩⟩
  exact tOfS_iff.mpr ⟨F', Ω', ρ', K, p.2.1, q, w.later p.1 p.2.2⟩
theorem SS_one {st : Stmt} {A : DS} (h : PS X st (tOfS x W A)) : PSs X [st] (tOfS x W A) := pss_one h
theorem S_pass {pos : Pos} : PS X (.Pass pos) (tOfS x W dSkip) := ps_pass.imp fun De σ H h => by
  obtain ⟨F, Ω, ρ, K, r, t, w⟩ := tOfS_iff.mp h
  exact w.nx ρ t σ F H Ω ⟨Stp.refl _ _ _, r, Io.refl _ _⟩
def dBrk : DS := fun ρ K => K .bk ρ
def dCnt : DS := fun ρ K => K .ct ρ
theorem S_break {pos : Pos} : PS X (.Break pos) (tOfS x W dBrk) := ps_break.imp fun De σ H h => by
  obtain ⟨F, Ω, ρ, K, r, t, w⟩ := tOfS_iff.mp h
  exact w.bk ρ t σ F H Ω ⟨Stp.refl _ _ _, r, Io.refl _ _⟩
theorem S_continue {pos : Pos} : PS X (.Continue pos) (tOfS x W dCnt) := ps_continue.imp fun De σ H h => by
  obtain ⟨F, Ω, ρ, K, r, t, w⟩ := tOfS_iff.mp h
  exact w.ct ρ t σ F H Ω ⟨Stp.refl _ _ _, r, Io.refl _ _⟩
def dExp (T : DE) : DS := fun ρ K => T ρ (onFl K fun _ ρ' => K .nx ρ')
theorem S_expr {e : Expr} {pos : Pos} {T : DE} (h : PE X e (tOfE x.c W T)) (hs : swapsWith e none pos.line X.env = pure false := by rfl) : PS X (.Expr e pos) (tOfS x W (dExp T)) := (ps_expr h hs).imp fun De σ H h => by
  obtain ⟨F, Ω, ρ, K, r, t, w⟩ := tOfS_iff.mp h
  exact ⟨F, Ω, ρ, _, r, t, fun d ρ' q v F' H' Ω' s r' _ => w.nx ρ' q σ F' H' Ω' ⟨s, r', Io.refl _ _⟩, w.exw⟩

/-! ### values of one's own -/
def dFr (T : DE) : DE := fun ρ K => T ρ (onOk K fun d ρ' => K (.ok (fr d)) ρ')
/-- frozen -/
theorem N_of {e : Expr} {T : DE} {c : Ct} (h : PE X e (tOfE c W T)) : PE X e (tOfN c W (dFr T)) := h.imp fun σ H Q h => by
  obtain ⟨F, Ω, ρ, K, r, t, k, kx⟩ := h
  refine ⟨F, Ω, ρ, _, r, t, fun d ρ' q v F' H' Ω' s r' f => k _ ρ' q v F' H' Ω' _ s r' (Air.fz ((Fz_fr _ _ _ _).mpr f) (own_fr d)) New.none, kx.imp (Stp.refl _ _ _) fun _ _ _ q => q⟩
/-- a list that is one's own, of frozen things -/
def dOwnL (L : DL) : DE := fun ρ K => L ρ (onOk K fun ds ρ' => ds.length ≤ 1000000 ∧ K (.ok (.lst true (ds.map fr))) ρ')
theorem RvL.of_fz {c : Ct} {F H : Hp} {Θ : Nm} : ∀ {ds : List D} {vs : List V} {π : List Nat} {j : Nat}, FzL c F ds vs → RvL c F H Θ (ds.map fr) π j vs
  | [], vs, π, j, h => by simp only [FzL] at h; simp only [List.map_nil, RvL]; exact h
  | d :: ds, vs, π, j, h => by
    simp only [FzL] at h
    simp only [List.map_cons, RvL]
    obtain ⟨v, r, e, h1, h2⟩ := h
    exact ⟨v, r, e, (Rv_of_own (own_fr d)).mpr ((Fz_fr _ _ _ _).mpr h1), RvL.of_fz h2⟩
/-- a new object of one's own -/
theorem wf_new {F H : Hp} {Ω : Nm} (w : Wf F H Ω) {p : Addr} {o : HO} (hp : H p = none) : F p = none ∧ Ω p = none ∧ Sub H (upd H p o) ∧ Wf F (upd H p o) Ω := by
  have hF : F p = none := by
    cases q : F p with
    | none => rfl
    | some u => rw [w.sub p u q] at hp; cases hp
  have eH : Sub H (upd H p o) := fun b u e => by rw [upd_ne (ne_of_none e hp)]; exact e
  refine ⟨hF, ?_, eH, w.sub.trans eH, fun b π e => let ⟨h1, u, h2⟩ := w.own b π e; ⟨h1, u, eH b u h2⟩⟩
  cases q : Ω p with
  | none => rfl
  | some π => obtain ⟨_, u, z⟩ := w.own p π q; rw [z] at hp; cases hp
theorem rel_new {c : Ct} {F H : Hp} {Ω : Nm} {ρ : Env} {σ : L2.St} (r : Rel c F H Ω ρ σ) {p : Addr} {o : HO} (hp : H p = none) : Rel c F (upd H p o) Ω ρ σ ∧ Stp F H Ω F (upd H p o) Ω := by
  obtain ⟨h1, h2, h3, h4⟩ := wf_new (o := o) r.wf hp
  refine ⟨⟨h4, fun i d e1 e2 => ?_, r.len⟩, Sub.refl _, fun b u e1 e2 e3 => ⟨h3 b u e1, e2, e3⟩⟩
  obtain ⟨v, q1, q2⟩ := r.sl i d e1 e2
  refine ⟨v, q1, Rv.move (Sub.refl _) d _ _ v (fun b π z => ⟨z, ?_⟩) q2⟩
  obtain ⟨_, u, hu⟩ := r.wf.own b _ z
  rw [hu, h3 b u hu]
theorem N_lst {es : List Expr} {pos : Pos} {L : DL} {c : Ct} (h : PA X es (tOfL c W L)) : PE X (.List es pos) (tOfN c W (dOwnL L)) := by
  refine (pe_lst h).imp fun σ H Q h => ?_
  obtain ⟨F, Ω, ρ, K, r0, ht, k, kx⟩ := h
  refine ⟨F, Ω, ρ, _, r0, ht, fun ds ρ1 q1 vs F1 H1 Ω1 s1 r1 f1 => ⟨sz_ok (by rw [← f1.length]; exact q1.1), fun p hp => ?_⟩, kx.imp (Stp.refl _ _ _) fun _ _ _ q => q⟩
  obtain ⟨r2, s2⟩ := rel_new (o := .lst vs) r1 hp
  obtain ⟨hF, hΩ, hs, _⟩ := wf_new (o := .lst vs) r1.wf hp
  refine k _ ρ1 q1.2 (.ref p) F1 _ Ω1 (fun b => if b = p then some [] else none) (s1.trans s2) r2 ⟨?_, fun b π e => ?_⟩ fun b o e1 e2 e3 => ?_
  · simp only [Rv]
    exact ⟨p, vs, rfl, by simp, upd_same, RvL.of_fz f1⟩
  · have e' : (if b = p then some ([] : List Nat) else none) = some π := e
    split at e'
    · rename_i hb
      subst hb
      exact ⟨hF, hΩ, _, upd_same⟩
    · cases e'
  · have := (s1.ou b o e1 e2 e3).1
    exact if_neg (ne_of_none this hp)

/-! ### a name is stored -/
def putN (i : Nat) (Θ Ω : Nm) : Nm := fun b => match Θ b with
  | some π => some (i :: π)
  | none => Ω b
theorem set_slot {c : Ct} {F H : Hp} {Ω Θ : Nm} {ρ : Env} {σ : L2.St} {i : Nat} {d : D} {v : V} (r : Rel c F H Ω ρ σ) (hi : i < σ.length) (a : Air c F H Ω d v Θ) : Rel c F H (putN i Θ Ω) (ρ.set i d) (σ.set i (some v)) := by
  refine ⟨⟨r.wf.sub, fun b π e => ?_⟩, fun j x h1 h2 => ?_, by rw [List.length_set, List.length_set]; exact r.len⟩
  · unfold putN at e
    split at e
    · rename_i π' h
      obtain ⟨q1, _, q2⟩ := a.nm b π' h
      exact ⟨q1, q2⟩
    · exact r.wf.own b π e
  · by_cases hj : j = i
    · subst hj
      rw [List.getElem?_set_self (by rw [r.len]; exact hi)] at h1
      cases h1
      refine ⟨v, List.getElem?_set_self hi, Rv.move (Sub.refl _) d [] [j] v (fun b π z => ⟨?_, rfl⟩) a.rv⟩
      have z : Θ b = some π := by simpa using z
      show putN j Θ Ω b = some ([j] ++ π)
      unfold putN
      rw [z]
      rfl
    · rw [List.getElem?_set_ne (Ne.symm hj)] at h1
      obtain ⟨u, q1, q2⟩ := r.sl j x h1 h2
      refine ⟨u, by rw [List.getElem?_set_ne (Ne.symm hj)]; exact q1, Rv.move (Sub.refl _) x _ _ u (fun b π z => ⟨?_, rfl⟩) q2⟩
      unfold putN
      cases q : Θ b with
      | none => exact z
      | some π' => have y := (a.nm b π' q).2.1; rw [z] at y; cases y
theorem put_stp {F H F1 H1 : Hp} {Ω Ω1 Θ : Nm} {i : Nat} (s : Stp F H Ω F1 H1 Ω1) (n : New F H Ω Θ) : Stp F H Ω F1 H1 (putN i Θ Ω1) := ⟨s.ef, fun b o h1 h2 h3 => by
  obtain ⟨q1, q2, q3⟩ := s.ou b o h1 h2 h3
  refine ⟨q1, q2, ?_⟩
  unfold putN
  rw [n b o h1 h2 h3]
  exact q3⟩
theorem Io.set {io : List Nat} {σ : L2.St} {i : Nat} {v : Option V} (h : i ∉ io) : Io io σ (σ.set i v) := ⟨List.length_set, fun j hj => List.getElem?_set_ne fun e => h (by rw [e]; exact hj)⟩
def dSet (i : Nat) (T : DE) : DS := fun ρ K => T ρ (onFl K fun d ρ' => K .nx (ρ'.set i d))
theorem set_of {i : Nat} {T : DE} {De : Ends} {σ : L2.St} {H : Hp} (hi : i < σ.length) (hio : i ∉ x.io) (h : tOfS x W (dSet i T) De σ H) : tOfN x.c W T σ H fun v H1 => De.nx (σ.set i (some v)) H1 := by
  obtain ⟨F, Ω, ρ, K, r, t, w⟩ := tOfS_iff.mp h
  exact ⟨F, Ω, ρ, _, r, t, fun d ρ' q v F' H' Ω' Θ s r' a n => w.nx _ q _ F' H' _ ⟨put_stp s n, set_slot r' hi a, Io.set hio⟩, w.exw⟩
theorem S_set {i : Nat} {y : Str} {e : Expr} {T : DE} {pos' pos : Pos} (hN : X.N.Nodup) (hi : X.N[i]? = some y) (hx : Loc X.env.scope y) (hio : i ∉ x.io) (he : PE X e (tOfN x.c W T)) (hs : swapsWith e (some (.Name y pos')) pos.line X.env = pure false := by rfl) (hf : X.fn y = true ∨ X.env.scope.names.lookup y = some .local := by first | exact .inl rfl | exact .inr rfl | assumption) :
    PS X (.Assign [.Name y pos'] e pos) (tOfS x W (dSet i T)) := by
  refine ⟨fun pins s σ H De I h => (ps_set hN hi hx he hs hf).run pins s σ H De I ?_⟩
  exact set_of (by rw [I.len]; exact (List.getElem?_eq_some_iff.mp hi).1) hio h

/-! ### return, if, while, for -/
def dRet (T : DE) : DS := fun ρ K => T ρ (onFl K fun d ρ' => K (.rt d) ρ')
def dRetN : DS := fun ρ K => K (.rt .non) ρ
theorem S_ret {e : Expr} {pos : Pos} {T : DE} (he : PE X e (tOfN x.c W T)) : PS X (.Return (some e) pos) (tOfS x W (dRet T)) := (ps_ret he).imp fun De σ H h => by
  obtain ⟨F, Ω, ρ, K, r, t, w⟩ := tOfS_iff.mp h
  exact ⟨F, Ω, ρ, _, r, t, fun d ρ' q v F' H' Ω' Θ s r' a n => w.rt d ρ' q σ v F' H' Ω' Θ ⟨s, r', Io.refl _ _⟩ a n, w.exw⟩
theorem S_retN {pos : Pos} : PS X (.Return none pos) (tOfS x W dRetN) := ps_retN.imp fun De σ H h => by
  obtain ⟨F, Ω, ρ, K, r, t, w⟩ := tOfS_iff.mp h
  exact w.rt .non ρ t σ .non F H Ω _ ⟨Stp.refl _ _ _, r, Io.refl _ _⟩ (Air.fz (by simp only [Fz]) rfl) New.none
def dIfS (T : DT) (A B : DS) : DS := fun ρ K => T ρ (onFl K fun b ρ' => if b = true then A ρ' K else B ρ' K)
theorem S_if {t : Expr} {a b : List Stmt} {pos : Pos} {T : DT} {A B : DS} (ht : PT X t (tOfT x.c W T)) (ha : PSs X a (tOfS x W A)) (hb : PSs X b (tOfS x W B)) : PS X (.If t a b pos) (tOfS x W (dIfS T A B)) := (ps_if ht ha hb).imp fun De σ H h => by
  obtain ⟨F, Ω, ρ, K, r, t, w⟩ := tOfS_iff.mp h
  refine ⟨F, Ω, ρ, _, r, t, fun b ρ' q F' H' Ω' s r' => ?_, w.exw⟩
  cases b with
  | true =>
    rw [if_pos rfl]
    exact tOfS_iff.mpr ⟨F', Ω', ρ', K, r', by simpa using q, w.later s (Io.refl _ _)⟩
  | false =>
    rw [if_neg Bool.false_ne_true]
    exact tOfS_iff.mpr ⟨F', Ω', ρ', K, r', by simpa using q, w.later s (Io.refl _ _)⟩
/-- behind a turn -/
def turnK (K : Fl → Env → Prop) (again : Env → Prop) : Fl → Env → Prop := fun f ρ => match f with
  | .nx => again ρ
  | .ct => again ρ
  | .bk => K .nx ρ
  | g => K g ρ
def dWhile (T : DT) (B : DS) : DS := fun ρ K => ∃ (I : Env → Prop) (m : Env → Nat), I ρ ∧ ∀ ρ, I ρ → T ρ (onFl K fun b ρ1 => if b = true then B ρ1 (turnK K fun ρ2 => I ρ2 ∧ m ρ2 < m ρ) else K .nx ρ1)
theorem turn_wants {F H : Hp} {Ω : Nm} {σ : L2.St} {K : Fl → Env → Prop} {De : Ends} (w : Wants x W F H Ω σ K De) {again : Env → Prop} {N : L2.St → Hp → Prop} (k : ∀ ρ', again ρ' → ∀ σ' F' H' Ω', PostS x F H Ω σ F' H' Ω' ρ' σ' → N σ' H') :
    Wants x W F H Ω σ (turnK K again) { De with nx := N, ct := N, bk := De.nx } where
  nx := fun ρ' q => k ρ' q
  ct := fun ρ' q => k ρ' q
  bk := fun ρ' q => w.nx ρ' q
  rt := fun d ρ' q => w.rt d ρ' q
  ex := fun C u ρ' q => w.ex C u ρ' q
theorem S_while {t : Expr} {body : List Stmt} {pos : Pos} {T : DT} {B : DS} (hp : PassesOwn (model X.prog X.w) X.A X.env X.xe) (ht : PT X t (tOfT x.c W T)) (hb : PSs X body (tOfS x W B)) : PS X (.While t body [] pos) (tOfS x W (dWhile T B)) := (ps_while hp ht hb).imp fun De σ H h => by
  obtain ⟨F, Ω, ρ, K, r, ⟨Iv, m, i0, step⟩, w⟩ := tOfS_iff.mp h
  refine ⟨fun n σ1 H1 => ∃ F1 Ω1 ρ1, PostS x F H Ω σ F1 H1 Ω1 ρ1 σ1 ∧ Iv ρ1 ∧ n = m ρ1, ⟨_, F, Ω, ρ, ⟨Stp.refl _ _ _, r, Io.refl _ _⟩, i0, rfl⟩, ?_⟩
  rintro n σ1 H1 ⟨F1, Ω1, ρ1, p, i1, rfl⟩
  have w1 := w.later p.1 p.2.2
  refine ⟨F1, Ω1, ρ1, _, p.2.1, step ρ1 i1, fun b ρ2 q F2 H2 Ω2 s2 r2 => ?_, w1.exw⟩
  cases b with
  | true =>
    rw [if_pos rfl]
    refine ⟨fun σ' H' => ∃ F' Ω' ρ', PostS x F H Ω σ F' H' Ω' ρ' σ' ∧ Iv ρ' ∧ m ρ' < m ρ1, fun σ' H' ⟨F', Ω', ρ', p', i', l⟩ => ⟨_, l, F', Ω', ρ', p', i', rfl⟩, ?_⟩
    refine tOfS_iff.mpr ⟨F2, Ω2, ρ2, _, r2, by simpa using q, turn_wants (w1.later s2 (Io.refl _ _)) fun ρ' q' σ' F' H' Ω' p' => ?_⟩
    exact ⟨F', Ω', ρ', ⟨(p.1.trans s2).trans p'.1, p'.2.1, p.2.2.trans p'.2.2⟩, q'⟩
  | false =>
    rw [if_neg Bool.false_ne_true]
    exact w1.nx ρ2 (by simpa using q) σ1 F2 H2 Ω2 ⟨s2, r2, Io.refl _ _⟩
/-! ### an owned list changed -/
/-- xs.append(e) -/
def isLst : D → Bool
  | .lst _ _ => true
  | _ => false
def dApp (j : Nat) (T : DE) : DS := fun ρ K => isLst (gt ρ j) = true ∧ T ρ (onFl K fun d ρ1 => match gt ρ1 j with | .lst true xs => xs.length < 1000000 ∧ K .nx (ρ1.set j (.lst true (xs ++ [d]))) | _ => False)
def appN (j n : Nat) (Θ Ω : Nm) : Nm := fun b => match Θ b with
  | some π => some (j :: n :: π)
  | none => Ω b
theorem RvL.append {c : Ct} {F H : Hp} {Θ : Nm} {d : D} {v : V} : ∀ {ds : List D} {vs : List V} {π : List Nat} {j : Nat}, RvL c F H Θ ds π j vs → Rv c F H Θ d (π ++ [j + ds.length]) v → RvL c F H Θ (ds ++ [d]) π j (vs ++ [v])
  | [], vs, π, j, h, g => by
    simp only [RvL] at h
    subst h
    simp only [List.nil_append, RvL]
    exact ⟨v, [], rfl, by simpa using g, rfl⟩
  | e :: ds, vs, π, j, h, g => by
    simp only [RvL] at h
    obtain ⟨u, r, e1, h1, h2⟩ := h
    subst e1
    simp only [List.cons_append, RvL]
    refine ⟨u, r ++ [v], rfl, h1, RvL.append h2 ?_⟩
    rw [Nat.add_right_comm]
    exact g
/-- the object of slot j is another one now; the rest stays -/
theorem chg_slot {c : Ct} {F H : Hp} {Ω Ω' : Nm} {ρ : Env} {σ : L2.St} {j : Nat} {a : Addr} {o : HO} {d : D} (r : Rel c F H Ω ρ σ) (hj : j < ρ.length) (hσ : σ[j]? = some (some (.ref a))) (ha : Ω a = some [j]) (hd : Rv c F (upd H a o) Ω' d [j] (.ref a))
    (hΩ : ∀ b π, Ω b = some π → Ω' b = some π) (hw : ∀ b π, Ω' b = some π → F b = none ∧ ∃ o, H b = some o) : Rel c F (upd H a o) Ω' (ρ.set j d) σ := by
  have hF : F a = none := (r.wf.own a _ ha).1
  refine ⟨⟨fun b u e => ?_, fun b π e => ?_⟩, fun k x h1 h2 => ?_, by rw [List.length_set]; exact r.len⟩
  · have hb : b ≠ a := fun z => by rw [z, hF] at e; cases e
    rw [upd_ne hb]
    exact r.wf.sub b u e
  · obtain ⟨q1, u, q2⟩ := hw b π e
    refine ⟨q1, ?_⟩
    by_cases hb : b = a
    · exact ⟨o, by rw [hb, upd_same]⟩
    · exact ⟨u, by rw [upd_ne hb]; exact q2⟩
  · by_cases hk : k = j
    · subst hk
      rw [List.getElem?_set_self hj] at h1
      cases h1
      exact ⟨_, hσ, hd⟩
    · rw [List.getElem?_set_ne (Ne.symm hk)] at h1
      obtain ⟨v, q1, q2⟩ := r.sl k x h1 h2
      refine ⟨v, q1, Rv.move (Sub.refl _) x _ _ v (fun b π z => ⟨hΩ b _ z, upd_ne fun hb => ?_⟩) q2⟩
      rw [hb, ha] at z
      have z' := Option.some.inj z
      simp at z'
      exact hk z'.1.symm
theorem chg_stp {F H F1 H1 : Hp} {Ω Ω1 Ω' : Nm} {a : Addr} {o : HO} {π : List Nat} (s : Stp F H Ω F1 H1 Ω1) (ha : Ω1 a = some π) (hn : ∀ b o, H b = some o → F b = none → Ω b = none → Ω' b = none) : Stp F H Ω F1 (upd H1 a o) Ω' := ⟨s.ef, fun b u h1 h2 h3 => by
  obtain ⟨q1, q2, q3⟩ := s.ou b u h1 h2 h3
  refine ⟨?_, q2, hn b u h1 h2 h3⟩
  rw [upd_ne fun z => by rw [z, ha] at q3; cases q3]
  exact q1⟩
theorem S_app {j : Nat} {y : Str} {e : Expr} {T : DE} {p apos cpos pos : Pos} (hN : X.N[j]? = some y) (hv : Vis X.env.scope y) (he : PE X e (tOfN x.c W T)) (hd : (y == ("__debug__" : Str)) = false := by decide) (hcd : (y == ("__classdict__" : Str)) = false := by decide)
    (hbase : attributeBase (.Name y p) "append" X.env (eval (.Name y p) X.env) = eval (.Name y p) X.env := by rfl)
    (hfew : ((backTo cpos (starEach [e] X.env)).all (fun x => !x.1) && (backToKw cpos (keywordEach [] X.env)).all (fun x => x.1.isSome) && decide (([e]).length + ([] : List Keyword).length + (if ([] : List Keyword).isEmpty then 0 else 1) < 30)) = true := by rfl)
    (hline : (apos.endLine == cpos.line) = true := by rfl) (hst : starEach [e] X.env = (false, eval e X.env) :: starEach [] X.env := by rfl) (hsw : swapsWith (.Call (.Attribute (.Name y p) "append" apos) [e] [] cpos) none pos.line X.env = pure false := by rfl) :
    PS X (.Expr (.Call (.Attribute (.Name y p) "append" apos) [e] [] cpos) pos) (tOfS x W (dApp j T)) := by
  have base := ps_expr (pos := pos) (pe_bm PySem.F.plainAttrs_list PySem.F.slot_list_append PySem.F.type_list_append (mt_append (X := X)) (pe_var hN hv hd hcd) (pa_cons he pa_nil hst) hbase hfew hline hst rfl) hsw
  refine base.imp fun De σ H h => ?_
  obtain ⟨F, Ω, ρ, K, r, ⟨hn, t⟩, w⟩ := tOfS_iff.mp h
  have hn' : nz (gt ρ j) = true := by
    cases e : gt ρ j <;> rw [e] at hn <;> first | rfl | cases hn
  obtain ⟨v, q1, q2⟩ := r.sl j _ (gt_some hn') (nz_ne hn')
  refine ⟨v, q1, ?_, F, Ω, ρ, _, r, t, fun d ρ1 q u F1 H1 Ω1 Θ s1 r1 air new => ?_, w.exw⟩
  · cases e : gt ρ j with
    | lst o ds =>
      rw [e] at q2
      obtain ⟨a, vs, e1, h1, _⟩ := Vw.lst r.wf (.inr ⟨_, _, q2⟩)
      subst e1
      exact .inl ⟨rfl, vs, SqL.of h1⟩
    | _ => rw [e] at hn; cases hn
  · simp only [onFl_ok] at q
    have hg : gt ρ1 j = gt ρ1 j := rfl
    generalize hz : gt ρ1 j = z at q
    match z, q, hz with
    | .lst true xs, ⟨hl, hk⟩, hz =>
      have hn1 : nz (gt ρ1 j) = true := by rw [hz]; rfl
      have hs1 := gt_some hn1
      obtain ⟨v', z1, z2⟩ := r1.sl j _ hs1 (nz_ne hn1)
      rw [q1] at z1
      cases z1
      rw [hz] at z2
      simp only [Rv] at z2
      obtain ⟨a, vs, e1, ha, hH, hr⟩ := z2
      subst e1
      have lenv := hr.length
      have nea : ∀ b π, Θ b = some π → b ≠ a := fun b π e => fun y => by
        have := (air.nm b π e).2.1
        rw [y, ha] at this
        cases this
      have keep : ∀ b π, Ω1 b = some π → appN j xs.length Θ Ω1 b = some π := fun b π e => by
        unfold appN
        cases y : Θ b with
        | none => exact e
        | some π' => have := (air.nm b π' y).2.1; rw [e] at this; cases this
      have hsz : vs.length < sizeLine := by
        rw [← lenv]
        exact Nat.lt_of_lt_of_le hl (by decide)
      refine ⟨a, vs, u, rfl, rfl, hH, hsz, ?_⟩
      refine w.nx _ hk σ F1 _ (appN j xs.length Θ Ω1) ⟨chg_stp s1 ha fun b o e1 e2 e3 => ?_, chg_slot r1 (List.getElem?_eq_some_iff.mp hs1).1 q1 ha ?_ keep fun b π e => ?_, Io.refl _ _⟩
      · unfold appN
        rw [new b o e1 e2 e3]
        exact (s1.ou b o e1 e2 e3).2.2
      · simp only [Rv]
        refine ⟨a, vs ++ [u], rfl, keep _ _ ha, upd_same, RvL.append (RvL.move (Sub.refl _) xs [j] [j] 0 vs (fun b i π e => ⟨keep _ _ e, upd_ne fun y => ?_⟩) hr) (Rv.move (Sub.refl _) d [] _ u (fun b π e => ⟨?_, upd_ne (nea b π (by simpa using e))⟩) air.rv)⟩
        · rw [y, ha] at e
          simp at e
        · have e' : Θ b = some π := by simpa using e
          unfold appN
          rw [e']
          simp
      · unfold appN at e
        split at e
        · rename_i π' y
          obtain ⟨y1, _, y2⟩ := air.nm b π' y
          exact ⟨y1, y2⟩
        · exact r1.wf.own b π e
end
end Vi
/-! Vi5: defs by specifications over data; calls, methods, makers. -/
namespace Vi
open PySem L2 PyProof.Rows

/-- what a def promises over data: the arguments, the wish of the result and of the arguments behind the call (those that it may change) -/
abbrev FS := List D → (R D → List D → Prop) → Prop
structure IoP (c : Ct) (io : List Nat) (F H : Hp) (Ω : Nm) (posts : List D) (vs : List V) : Prop where
  wf : Wf F H Ω
  at' : ∀ k ∈ io, ∀ d, posts[k]? = some d → d ≠ .und → ∃ v, vs[k]? = some v ∧ Rv c F H Ω d [k] v
def spOf (c : Ct) (io : List Nat) (n : Nat) (S : FS) : Sp := fun vs H Q E => ∃ F Ω args K, args.length = n ∧ Rel c F H Ω args (vs.map some) ∧ S args K ∧
  (∀ d posts, K (.ok d) posts → ∀ v F' H' Ω' Θ, Stp F H Ω F' H' Ω' → IoP c io F' H' Ω' posts vs → Air c F' H' Ω' d v Θ → New F H Ω Θ → Q v H') ∧
  (∀ C w posts, K (.exc C w) posts → ∀ cd vw F' H' Ω', Stp F H Ω F' H' Ω' → IoP c io F' H' Ω' posts vs → F' cd = some (.xd [("what", vw)]) → Fz c F' w vw → E (.ref (c.cls C)) (some cd) H')
/-- a body's ends, as the call's -/
def endK (n : Nat) (K : R D → List D → Prop) : Fl → Env → Prop := fun f ρ => match f with
  | .rt d => K (.ok d) (ρ.take n)
  | .nx => K (.ok .non) (ρ.take n)
  | .exc C w => K (.exc C w) (ρ.take n)
  | _ => False
section
variable {P : Program} {w : World} {K : PySem.W.Frag} {mg : Str → Option Value} {base : Heap}
/-- THE RULE for a def -/
theorem fn_ok {x qual : Str} {st : Stmt} {f : Addr} {fd : FuncData} {N ps : List Str} {k : Nat} {c : Ct} {io : List Nat} {S : FS} {B : DS} (Fn : Fun K x qual st f fd) (Sc : FnScope N ps (defScope st))
    (hb : ∀ (cdv : Value) (A : Around) (outer : List PySem.Env) (s : Shared) (H : Hp) (E : XK), Room k (A.deeper (envOfC qual (defScope st) s.heap.objs.size f cdv)) →
      PSs (cxOf (L2.CX P w) P w K mg base N qual (defScope st) f cdv A outer s H E) (defBody st) (tOfS ⟨c, io⟩ (fun cls d _ H => E cls d H) B))
    (hio : ∀ k ∈ io, k < ps.length)
    (hd : ∀ args K', args.length = ps.length → S args K' → B (args ++ List.replicate (N.length - ps.length) .und) (endK ps.length K')) : FnOk P w K mg base (L2.CX P w) (k + 1) f fd ps (spOf c io ps.length S) := by
  refine Fn.okX Sc (fun vs H Q E ⟨F, Ω, args, K', hl, r, _⟩ => by rw [← hl, r.len, List.length_map]) (fun cdv A outer s H vs Q E hr h => ⟨_, hb cdv A outer s H E hr, ?_⟩)
  obtain ⟨F, Ω, args, K', hl, r, hS, kr, kx⟩ := h
  have lv : vs.length = ps.length := by rw [← hl, r.len, List.length_map]
  have r0 : Rel c F H Ω (args ++ List.replicate (N.length - ps.length) .und) (L2.start N vs) := by
    refine ⟨r.wf, fun i d h1 h2 => ?_, by unfold L2.start; rw [List.length_append, List.length_append, List.length_replicate, List.length_replicate, List.length_map, hl, lv]⟩
    by_cases hi : i < args.length
    · rw [List.getElem?_append_left hi] at h1
      obtain ⟨v, q1, q2⟩ := r.sl i d h1 h2
      refine ⟨v, ?_, q2⟩
      unfold L2.start
      rw [List.getElem?_append_left (by rw [List.length_map, lv, ← hl]; exact hi)]
      exact q1
    · rw [List.getElem?_append_right (by omega), List.getElem?_replicate] at h1
      split at h1
      · cases h1; exact absurd rfl h2
      · cases h1
  have io_of : ∀ {F' H' : Hp} {Ω' : Nm} {ρ' : Vi.Env} {σ' : L2.St}, PostS ⟨c, io⟩ F H Ω (L2.start N vs) F' H' Ω' ρ' σ' → IoP c io F' H' Ω' (ρ'.take ps.length) vs := fun {F' H' Ω' ρ' σ'} p => by
    refine ⟨p.2.1.wf, fun k hk d h1 h2 => ?_⟩
    have hk' := hio k hk
    rw [List.getElem?_take_of_lt hk'] at h1
    obtain ⟨v, q1, q2⟩ := p.2.1.sl k d h1 h2
    rw [p.2.2.2 k hk] at q1
    refine ⟨v, ?_, q2⟩
    unfold L2.start at q1
    rw [List.getElem?_append_left (by rw [List.length_map, lv]; exact hk'), List.getElem?_map] at q1
    cases e : vs[k]? with
    | none => rw [e] at q1; cases q1
    | some u => rw [e] at q1; cases q1; rfl
  refine tOfS_iff.mpr ⟨F, Ω, _, _, r0, hd args K' hl hS, ⟨fun ρ' q σ' F' H' Ω' p => ?_, fun ρ' q => q.elim, fun ρ' q => q.elim, fun d ρ' q σ' v F' H' Ω' Θ p a n => ?_, fun C u ρ' q cd vw σ' F' H' Ω' p e1 e2 => ?_⟩⟩
  · exact kr .non _ q .non F' H' Ω' _ p.1 (io_of p) (Air.fz (by simp only [Fz]) rfl) New.none
  · exact kr d _ q v F' H' Ω' Θ p.1 (io_of p) a n
  · exact kx C u _ q cd vw F' H' Ω' p.1 (io_of p) e1 e2
end

/-! ### calls -/
def sea (ρ : Env) : Opd → D
  | .vl d => fr d
  | .sl i => gt ρ i
/-- the place of slot i among the operands -/
def ixO : List Opd → Nat → Option Nat
  | [], _ => none
  | .sl j :: os, i => if j = i then some 0 else (ixO os i).map (· + 1)
  | .vl _ :: os, i => (ixO os i).map (· + 1)
/-- slots, each once -/
def atOk : List Opd → Bool
  | [] => true
  | .sl j :: os => (ixO os j).isNone && atOk os
  | .vl _ :: os => atOk os
def ioOk (io : List Nat) (os : List Opd) : Bool := (List.range os.length).all fun k => match os[k]? with
  | some (Opd.sl _) => io.contains k
  | _ => true
/-- the slots' values behind the call -/
def wb (ρ : Env) : List Opd → List D → Env
  | .sl i :: os, d :: ds => wb (ρ.set i d) os ds
  | .vl _ :: os, _ :: ds => wb ρ os ds
  | _, _ => ρ
theorem ixO_get : ∀ {os : List Opd} {i k : Nat}, ixO os i = some k → os[k]? = some (Opd.sl i)
  | .sl j :: os, i, k, h => by
    unfold ixO at h
    split at h
    · rename_i e
      cases h
      rw [e]
      rfl
    · cases q : ixO os i with
      | none => rw [q] at h; cases h
      | some m => rw [q] at h; cases h; simpa using ixO_get q
  | .vl _ :: os, i, k, h => by
    unfold ixO at h
    cases q : ixO os i with
    | none => rw [q] at h; cases h
    | some m => rw [q] at h; cases h; simpa using ixO_get q
theorem get_ixO : ∀ {os : List Opd} {i k : Nat}, atOk os = true → os[k]? = some (Opd.sl i) → ixO os i = some k
  | .sl j :: os, i, 0, _, h => by
    simp at h
    unfold ixO
    rw [if_pos h]
  | .vl _ :: os, i, 0, _, h => by simp at h
  | .sl j :: os, i, k + 1, ho, h => by
    unfold atOk at ho
    simp only [Bool.and_eq_true] at ho
    have ih := get_ixO (i := i) (k := k) ho.2 (by simpa using h)
    unfold ixO
    by_cases e : j = i
    · rw [e, ih] at ho
      simp at ho
    · rw [if_neg e, ih]
      rfl
  | .vl _ :: os, i, k + 1, ho, h => by
    unfold atOk at ho
    have ih := get_ixO (i := i) (k := k) ho (by simpa using h)
    unfold ixO
    rw [ih]
    rfl
theorem wb_length : ∀ (ρ : Env) (os : List Opd) (ds : List D), (wb ρ os ds).length = ρ.length
  | ρ, .sl i :: os, d :: ds => by unfold wb; rw [wb_length, List.length_set]
  | ρ, .vl _ :: os, _ :: ds => by unfold wb; rw [wb_length]
  | ρ, [], _ => by unfold wb; rfl
  | ρ, .sl _ :: _, [] => by unfold wb; rfl
  | ρ, .vl _ :: _, [] => by unfold wb; rfl
/-- what stands at slot j behind the call: a passed slot's new value, or the old one -/
theorem wb_get : ∀ (ρ : Env) (os : List Opd) (ds : List D) (j : Nat) (d : D), (wb ρ os ds)[j]? = some d → (∃ k : Nat, os[k]? = some (Opd.sl j) ∧ ds[k]? = some d) ∨ ρ[j]? = some d ∧ (ds.length = os.length → ∀ k : Nat, os[k]? ≠ some (Opd.sl j))
  | ρ, .sl i :: os, e :: ds, j, d, h => by
    unfold wb at h
    rcases wb_get _ os ds j d h with ⟨k, h1, h2⟩ | ⟨h1, h2⟩
    · exact .inl ⟨k + 1, by simpa using h1, by simpa using h2⟩
    · by_cases hj : j = i
      · subst hj
        have hl : j < ρ.length := by
          have := (List.getElem?_eq_some_iff.mp h1).1
          rwa [List.length_set] at this
        rw [List.getElem?_set_self hl] at h1
        exact .inl ⟨0, rfl, by simpa using h1⟩
      · rw [List.getElem?_set_ne (Ne.symm hj)] at h1
        refine .inr ⟨h1, fun hl k => ?_⟩
        cases k with
        | zero => simp; exact fun e => hj e.symm
        | succ k => simpa using h2 (by simpa using hl) k
  | ρ, .vl _ :: os, e :: ds, j, d, h => by
    unfold wb at h
    rcases wb_get _ os ds j d h with ⟨k, h1, h2⟩ | ⟨h1, h2⟩
    · exact .inl ⟨k + 1, by simpa using h1, by simpa using h2⟩
    · refine .inr ⟨h1, fun hl k => ?_⟩
      cases k with
      | zero => simp
      | succ k => simpa using h2 (by simpa using hl) k
  | ρ, [], ds, j, d, h => by
    unfold wb at h
    exact .inr ⟨h, fun _ k => by simp⟩
  | ρ, .sl _ :: _, [], j, d, h => by
    unfold wb at h
    exact .inr ⟨h, fun hl => by simp at hl⟩
  | ρ, .vl _ :: _, [], j, d, h => by
    unfold wb at h
    exact .inr ⟨h, fun hl => by simp at hl⟩
/-- the names inside the call; behind it -/
def inN (os : List Opd) (Ω : Nm) : Nm := fun b => match Ω b with
  | some (i :: π) => (ixO os i).map fun k => k :: π
  | _ => none
def outN (os : List Opd) (Ω Ω' : Nm) : Nm := fun b => match Ω' b with
  | some (k :: π) => (match os[k]? with | some (Opd.sl i) => some (i :: π) | _ => none)
  | _ => (match Ω b with | some (i :: π) => if (ixO os i).isSome = true then none else some (i :: π) | o => o)
theorem OpPs.get {c : Ct} {F : Hp} {σ : L2.St} : ∀ {os : List Opd} {vs : List V} {k : Nat} {o : Opd}, OpPs c F σ os vs → os[k]? = some o → ∃ v, vs[k]? = some v ∧ OpP c F σ o v
  | o' :: os, vs, k, o, ⟨v, r, e, h1, h2⟩, q => by
    subst e
    cases k with
    | zero => simp at q; subst q; exact ⟨v, rfl, h1⟩
    | succ k => simpa using OpPs.get h2 (by simpa using q)
theorem OpPs.length {c : Ct} {F : Hp} {σ : L2.St} : ∀ {os : List Opd} {vs : List V}, OpPs c F σ os vs → os.length = vs.length
  | [], vs, h => by
    have e : vs = [] := h
    rw [e]
    rfl
  | o :: os, vs, ⟨v, r, e, h1, h2⟩ => by rw [e, List.length_cons, List.length_cons, OpPs.length h2]
section
variable {c : Ct} {F H : Hp} {Ω : Nm} {ρ : Env} {σ : L2.St} {os : List Opd} {vs : List V} {io : List Nat}
theorem in_rel (r : Rel c F H Ω ρ σ) (ho : OpPs c F σ os vs) (ha : atOk os = true) : Rel c F H (inN os Ω) (os.map (sea ρ)) (vs.map some) := by
  refine ⟨⟨r.wf.sub, fun b π e => ?_⟩, fun k d h1 h2 => ?_, by rw [List.length_map, List.length_map, ho.length]⟩
  · cases q : Ω b with
    | none => unfold inN at e; rw [q] at e; cases e
    | some π' => exact r.wf.own b π' q
  · rw [List.getElem?_map] at h1
    cases q : os[k]? with
    | none => rw [q] at h1; cases h1
    | some o =>
      rw [q] at h1
      obtain ⟨v, hv, op⟩ := ho.get q
      refine ⟨v, by rw [List.getElem?_map, hv]; rfl, ?_⟩
      cases o with
      | vl e =>
        cases h1
        exact (Rv_of_own (own_fr e)).mpr ((Fz_fr _ _ _ _).mpr op)
      | sl i =>
        have e1 : gt ρ i = d := Option.some.inj h1
        subst e1
        have hn : nz (gt ρ i) = true := by
          cases e : gt ρ i <;> first | rfl | exact absurd e h2
        obtain ⟨u, q1, q2⟩ := r.sl i _ (gt_some hn) h2
        have op' : σ[i]? = some (some v) := op
        rw [op'] at q1
        cases q1
        refine Rv.move (Sub.refl _) _ [i] [k] v (fun b π z => ⟨?_, rfl⟩) q2
        have z' : Ω b = some (i :: π) := z
        unfold inN
        rw [z']
        show (ixO os i).map _ = _
        rw [get_ixO ha q]
        rfl
theorem inN_none {b : Addr} (h : Ω b = none) : inN os Ω b = none := by unfold inN; rw [h]
theorem out_all {F' H' : Hp} {Ω' : Nm} {posts : List D} (r : Rel c F H Ω ρ σ) (ho : OpPs c F σ os vs) (ha : atOk os = true) (hio : ioOk io os = true) (hpl : posts.length = os.length) (s : Stp F H (inN os Ω) F' H' Ω') (ip : IoP c io F' H' Ω' posts vs) :
    Stp F H Ω F' H' (outN os Ω Ω') ∧ Rel c F' H' (outN os Ω Ω') (wb ρ os posts) σ := by
  -- what is owned elsewhere
  have other : ∀ b i π, Ω b = some (i :: π) → ixO os i = none → H' b = H b ∧ F' b = none ∧ Ω' b = none ∧ ∃ o, H b = some o := fun b i π e1 e2 => by
    obtain ⟨q1, o, q2⟩ := r.wf.own b _ e1
    have q3 : inN os Ω b = none := by unfold inN; rw [e1]; show (ixO os i).map _ = none; rw [e2]; rfl
    obtain ⟨z1, z2, z3⟩ := s.ou b o q2 q1 q3
    exact ⟨z1.trans q2.symm, z2, z3, o, q2⟩
  refine ⟨⟨s.ef, fun b o h1 h2 h3 => ?_⟩, ⟨⟨ip.wf.sub, fun b π e => ?_⟩, fun j d h1 h2 => ?_, by rw [wb_length]; exact r.len⟩⟩
  · obtain ⟨z1, z2, z3⟩ := s.ou b o h1 h2 (inN_none h3)
    refine ⟨z1, z2, ?_⟩
    unfold outN
    rw [z3]
    show (match Ω b with | some (i :: π) => _ | o => o) = none
    rw [h3]
  · cases q : Ω' b with
    | some π' => exact ip.wf.own b π' q
    | none =>
      unfold outN at e
      rw [q] at e
      have e' : (match Ω b with | some (i :: π) => if (ixO os i).isSome = true then none else some (i :: π) | o => o) = some π := e
      split at e'
      · rename_i i π1 y
        split at e'
        · cases e'
        · rename_i hn
          have hn' : ixO os i = none := by simpa using hn
          obtain ⟨z1, z2, z3, o, z4⟩ := other b i π1 y hn'
          exact ⟨z2, o, by rw [z1]; exact z4⟩
      · rename_i y
        obtain ⟨q1, o, q2⟩ := r.wf.own b π e'
        cases π with
        | nil =>
          have q3 : inN os Ω b = none := by unfold inN; rw [e']
          obtain ⟨z1, z2, z3⟩ := s.ou b o q2 q1 q3
          exact ⟨z2, o, z1⟩
        | cons i π1 => exact absurd e' (y i π1)
  · rcases wb_get ρ os posts j d h1 with ⟨k, k1, k2⟩ | ⟨k1, k2⟩
    · have hk : k ∈ io := by
        have hlt := (List.getElem?_eq_some_iff.mp k1).1
        have := List.all_eq_true.mp hio k (List.mem_range.mpr hlt)
        rw [k1] at this
        simpa using this
      obtain ⟨v, q1, q2⟩ := ip.at' k hk d k2 h2
      obtain ⟨u, q3, q4⟩ := ho.get k1
      rw [q1] at q3
      cases q3
      refine ⟨v, q4, Rv.move (Sub.refl _) d [k] [j] v (fun b π z => ⟨?_, rfl⟩) q2⟩
      have z' : Ω' b = some (k :: π) := z
      unfold outN
      rw [z']
      show (match os[k]? with | some (Opd.sl i) => some (i :: π) | _ => none) = _
      rw [k1]
      rfl
    · obtain ⟨v, q1, q2⟩ := r.sl j d k1 h2
      refine ⟨v, q1, Rv.move s.ef d [j] [j] v (fun b π z => ?_) q2⟩
      have hn : ixO os j = none := by
        cases q : ixO os j with
        | none => rfl
        | some k => exact absurd (ixO_get q) (k2 hpl k)
      have z' : Ω b = some (j :: π) := z
      obtain ⟨z1, z2, z3, _⟩ := other b j π z' hn
      refine ⟨?_, z1⟩
      unfold outN
      rw [z3]
      show (match Ω b with | some (i :: π) => _ | o => o) = _
      rw [z']
      show (if (ixO os j).isSome = true then none else some (j :: π)) = _
      rw [hn]
      rfl
theorem out_air {F' H' : Hp} {Ω' Θ : Nm} {d : D} {v : V} (w : Wf F H Ω) (s : Stp F H (inN os Ω) F' H' Ω') (a : Air c F' H' Ω' d v Θ) (n : New F H (inN os Ω) Θ) : Air c F' H' (outN os Ω Ω') d v Θ ∧ New F H Ω Θ := by
  refine ⟨⟨a.rv, fun b π e => ?_⟩, fun b o h1 h2 h3 => n b o h1 h2 (inN_none h3)⟩
  obtain ⟨q1, q2, q3⟩ := a.nm b π e
  refine ⟨q1, ?_, q3⟩
  unfold outN
  rw [q2]
  show (match Ω b with | some (i :: π) => if (ixO os i).isSome = true then none else some (i :: π) | o => o) = none
  split
  · rename_i i π1 y
    split
    · rfl
    · rename_i hn
      have hn' : ixO os i = none := by simpa using hn
      obtain ⟨z1, o, z2⟩ := w.own b _ y
      have q : inN os Ω b = none := by unfold inN; rw [y]; show (ixO os i).map _ = none; rw [hn']; rfl
      rw [n b o z2 z1 q] at e
      cases e
  · rename_i y
    cases q : Ω b with
    | none => rfl
    | some π1 =>
      cases π1 with
      | nil =>
        obtain ⟨z1, o, z2⟩ := w.own b _ q
        have q' : inN os Ω b = none := by unfold inN; rw [q]
        rw [n b o z2 z1 q'] at e
        cases e
      | cons i π2 => exact absurd q (y i π2)
end
/-- the call's data: S at the operands' values, the passed slots written back -/
def callD (io : List Nat) (n : Nat) (S : FS) (os : List Opd) (ρ : Env) (K : R D → Env → Prop) : Prop :=
  atOk os = true ∧ ioOk io os = true ∧ os.length = n ∧ S (os.map (sea ρ)) fun r posts => posts.length = n ∧ K r (wb ρ os posts)
theorem call_core {c : Ct} {W : WX} {io : List Nat} {n : Nat} {S : FS} {F H : Hp} {Ω : Nm} {ρ : Env} {σ : L2.St} {os : List Opd} {vs : List V} {K : R D → Env → Prop} {Q : VK} (r : Rel c F H Ω ρ σ) (ho : OpPs c F σ os vs) (h : callD io n S os ρ K)
    (k : ∀ d ρ', K (.ok d) ρ' → ∀ v F' H' Ω' Θ, Stp F H Ω F' H' Ω' → Rel c F' H' Ω' ρ' σ → Air c F' H' Ω' d v Θ → New F H Ω Θ → Q v H') (kx : ExW c W F H Ω σ (exK K)) : spOf c io n S vs H Q (WE W σ) := by
  obtain ⟨h1, h2, h3, h4⟩ := h
  refine ⟨F, inN os Ω, _, _, by rw [List.length_map]; exact h3, in_rel r ho h1, h4, fun d posts q v F' H' Ω' Θ s ip a nw => ?_, fun C w posts q cd vw F' H' Ω' s ip e1 e2 => ?_⟩
  · obtain ⟨s', r'⟩ := out_all r ho h1 h2 (q.1.trans h3.symm) s ip
    obtain ⟨a', n'⟩ := out_air r.wf s a nw
    exact k d _ q.2 v F' H' _ Θ s' r' a' n'
  · obtain ⟨s', r'⟩ := out_all r ho h1 h2 (q.1.trans h3.symm) s ip
    exact kx C w _ q.2 cd vw F' H' _ s' r' e1 e2

/-! ### a value of one's own is frozen where it is used -/
theorem frz_air {c : Ct} {F H F1 H1 : Hp} {Ω Ω1 Θ : Nm} {ρ : Env} {σ : L2.St} {d : D} {v : V} (s : Stp F H Ω F1 H1 Ω1) (r : Rel c F1 H1 Ω1 ρ σ) (a : Air c F1 H1 Ω1 d v Θ) (n : New F H Ω Θ) :
    ∃ F2, Stp F H Ω F2 H1 Ω1 ∧ Rel c F2 H1 Ω1 ρ σ ∧ Fz c F2 d v := by
  refine ⟨fun b => if (Θ b).isSome = true then H1 b else F1 b, ?_⟩
  have e1 : Sub F1 (fun b => if (Θ b).isSome = true then H1 b else F1 b) := fun b o h => by
    show (if (Θ b).isSome = true then H1 b else F1 b) = some o
    cases q : Θ b with
    | none => exact h
    | some π => rw [(a.nm b π q).1] at h; cases h
  refine ⟨⟨s.ef.trans e1, fun b o h1 h2 h3 => ?_⟩, ⟨⟨fun b o h => ?_, fun b π h => ?_⟩, fun i x h1 h2 => ?_, r.len⟩, Rv.frz e1 d [] v (fun b π o z q => ?_) a.rv⟩
  · obtain ⟨q1, q2, q3⟩ := s.ou b o h1 h2 h3
    refine ⟨q1, ?_, q3⟩
    show (if (Θ b).isSome = true then H1 b else F1 b) = none
    rw [n b o h1 h2 h3]
    exact q2
  · have h' : (if (Θ b).isSome = true then H1 b else F1 b) = some o := h
    split at h'
    · exact h'
    · exact r.wf.sub b o h'
  · obtain ⟨q1, q2⟩ := r.wf.own b π h
    refine ⟨?_, q2⟩
    show (if (Θ b).isSome = true then H1 b else F1 b) = none
    cases q : Θ b with
    | none => exact q1
    | some π' => rw [(a.nm b π' q).2.1] at h; cases h
  · obtain ⟨u, q1, q2⟩ := r.sl i x h1 h2
    exact ⟨u, q1, Rv.move e1 x _ _ u (fun b π z => ⟨z, rfl⟩) q2⟩
  · show (if (Θ b).isSome = true then H1 b else F1 b) = some o
    have z' : Θ b = some π := by simpa using z
    rw [z']
    exact q
theorem E_of_N {X : Cx} {c : Ct} {W : WX} {e : Expr} {T : DE} (h : PE X e (tOfN c W T)) : PE X e (tOfE c W (dFr T)) := h.imp fun σ H Q h => by
  obtain ⟨F, Ω, ρ, K, r, t, k, kx⟩ := h
  refine ⟨F, Ω, ρ, _, r, t, fun d ρ' q v F' H' Ω' Θ s r' a n => ?_, kx.imp (Stp.refl _ _ _) fun _ _ _ q => q⟩
  obtain ⟨F2, s2, r2, f⟩ := frz_air s r' a n
  exact k _ ρ' q v F2 H' Ω' s2 r2 ((Fz_fr _ _ _ _).mpr f)

/-! ### f(..), o.m(..), C(..) -/
section
variable {X : Cx} {c : Ct} {W : WX} {k : Nat} {f : Addr} {fd : FuncData} {ps : List Str} {io : List Nat} {n : Nat} {S : FS} {dds : List D} {dvs : List V} {ds : List Value} {e : Expr} {es : List Expr} {A : DA}
def dCall (io : List Nat) (n : Nat) (S : FS) (dds : List D) (A : DA) : DE := fun ρ K => A ρ (onOk K fun os ρ' => callD io n S (os ++ dds.map Opd.vl) ρ' K)
theorem OpPs.append {F : Hp} {σ : L2.St} : ∀ {os os' : List Opd} {vs vs' : List V}, OpPs c F σ os vs → OpPs c F σ os' vs' → OpPs c F σ (os ++ os') (vs ++ vs')
  | [], os', vs, vs', h, g => by
    have e : vs = [] := h
    subst e
    exact g
  | o :: os, os', vs, vs', ⟨v, r, e, h1, h2⟩, g => by
    subst e
    exact ⟨v, r ++ vs', rfl, h1, OpPs.append h2 g⟩
/-- the defaults, constants -/
def Dft (c : Ct) (dds : List D) (dvs : List V) : Prop := ∀ F σ, OpPs c F σ (dds.map Opd.vl) dvs
theorem Dft.nil : Dft c [] [] := fun _ _ => rfl
theorem N_call {x : Str} {p pos : Pos} (Fk : FnOk X.prog X.w X.K X.mg X.base (L2.CX X.prog X.w) k f fd ps (spOf c io n S)) (hr : Room k X.A) (tk : Takes X W) (hg : Gl X x) (hm : X.mg x = some (.ref f)) (hk : PySem.W.keepIn X.K (.ref f) = true) (hb : Binds X.K fd ps ds) (hd : Vals dvs ds) (hdf : Dft c dds dvs)
    (ha : PA X (e :: es) (tOfA c W A)) (hdb : (x == ("__debug__" : Str)) = false := by decide) (he : starEach (e :: es) X.env = (false, eval e X.env) :: starEach es X.env := by rfl) (hpl : (backTo pos (starEach es X.env)).any (·.1) = false := by rfl) :
    PE X (.Call (.Name x p) (e :: es) [] pos) (tOfN c W (dCall io n S dds A)) :=
  (pe_callSD (E := WE W) Fk hr hg hm hk hb hd (passAt tk) ha hdb he hpl).imp fun σ H Q h => by
    obtain ⟨F, Ω, ρ, K, r0, ht, k', kx⟩ := h
    refine ⟨F, Ω, ρ, _, r0, ht, fun os ρ1 q1 vs F1 H1 Ω1 s1 r1 f1 => ?_, kx.imp (Stp.refl _ _ _) fun _ _ _ q => q⟩
    exact call_core r1 (f1.append (hdf F1 σ)) q1 (fun d ρ' q v F' H' Ω' Θ s r' a nw => k' d ρ' q v F' H' Ω' Θ (s1.trans s) r' a (nw.step s1)) (kx.imp s1 fun _ _ _ q => q)

/-! methods -/
def tMethSD (C : Addr) (m : Str) (sp : Sp) (dvs : List V) (E : L2.St → XK) (ta : TE) (t : TA) : TE := fun σ H Q => ta σ H fun x H1 => ∃ a dx fs, x = .ref a ∧ H1 a = some (.ins C dx fs) ∧ fs.lookup m = none ∧ t σ H1 fun vs H2 => sp (x :: (vs ++ dvs)) H2 Q (E σ)
theorem run_fnSD' {CX : CXT} {sp : Sp} {E : L2.St → XK} {pins : List (Addr × Obj)} {σ : L2.St} {H : Hp} {s : Shared} {Q : VK} {us : List Value} {vs : List V} (Fk : FnOk X.prog X.w X.K X.mg X.base CX k f fd ps sp) (hr : Room k X.A) (hb : Binds X.K fd ps ds) (hd : Vals dvs ds) (hx : PassesAt CX X σ (E σ))
    (I : Inv X pins σ H s) (r : Vals vs us) (h : sp (vs ++ dvs) H Q (E σ)) : wpAny (model X.prog X.w) X.A (call (.ref f) us) (EP X pins σ Q) X.xe s := run_fnSD Fk hr hb hd hx I r h
theorem pe_methSD {CX : CXT} {C : Addr} {m : Str} {o : Expr} {ta : TE} {t : TA} {sp : Sp} {E : L2.St → XK} {apos pos : Pos} {pl : Sem Bool} (he : PE X o ta) (cl : Cls X.K C) (hm : Meth X.K C m f) (Fk : FnOk X.prog X.w X.K X.mg X.base CX k f fd ps sp) (hr : Room k X.A) (hb : Binds X.K fd ps ds) (hd : Vals dvs ds) (hx : ∀ σ, PassesAt CX X σ (E σ)) (ha : PA X (e :: es) t)
    (hst : starEach (e :: es) X.env = (false, eval e X.env) :: starEach es X.env := by rfl) (hpl : (backTo pos (starEach es X.env)).any (·.1) = false := by rfl)
    (ht : eval (.Call (.Attribute o m apos) (e :: es) [] pos) X.env = (do
      let ov ← eval o X.env
      standAt apos.atName
      let (f, first) ← holding [ov] (getMethod ov m pl)
      callWith pos f first (backTo pos (starEach (e :: es) X.env)) (backToKw pos (keywordEach [] X.env))) := by rfl) :
    PE X (.Call (.Attribute o m apos) (e :: es) [] pos) (tMethSD C m sp dvs E ta t) := by
  refine ⟨fun pins s σ H Q I h => ?_⟩
  refine PySem.W.methodCall_KW (pl := pl) (thn (he.run pins s σ H _ I h) fun u s1 ⟨x, H1, I1, rx, a, dx, fs, ex, ea, l, q⟩ => ?_) ht
  subst ex
  obtain rfl : u = Value.ref a := rx
  refine getmeth_ok I1 ea cl hm l ?_
  refine PySem.W.callWith_K (first := [.ref a]) (h₀ := X.base) I.ok.mod.kin hm.kp (thn (ha.run pos pins s1 σ H1 _ I1 q) fun us s2 ⟨vs, H2, I2, r, q2⟩ => ⟨I2.kIn, ?_⟩) hst hpl
  exact run_fnSD (us := .ref a :: us) (vs := .ref a :: vs) Fk hr hb hd (hx σ) I2 (.cons rfl r) q2
theorem pe_methSD0 {CX : CXT} {C : Addr} {m : Str} {o : Expr} {ta : TE} {sp : Sp} {E : L2.St → XK} {apos pos : Pos} {pl : Sem Bool} (he : PE X o ta) (cl : Cls X.K C) (hm : Meth X.K C m f) (Fk : FnOk X.prog X.w X.K X.mg X.base CX k f fd ps sp) (hr : Room k X.A) (hb : Binds X.K fd ps ds) (hd : Vals dvs ds) (hx : ∀ σ, PassesAt CX X σ (E σ))
    (ht : eval (.Call (.Attribute o m apos) [] [] pos) X.env = (do
      let ov ← eval o X.env
      standAt apos.atName
      let (f, first) ← holding [ov] (getMethod ov m pl)
      callWith pos f first (backTo pos (starEach [] X.env)) (backToKw pos (keywordEach [] X.env))) := by rfl) :
    PE X (.Call (.Attribute o m apos) [] [] pos) (tMethSD C m sp dvs E ta tNil) := by
  refine ⟨fun pins s σ H Q I h => ?_⟩
  refine PySem.W.methodCall_KW (pl := pl) (thn (he.run pins s σ H _ I h) fun u s1 ⟨x, H1, I1, rx, a, dx, fs, ex, ea, l, q⟩ => ?_) ht
  subst ex
  obtain rfl : u = Value.ref a := rx
  refine getmeth_ok I1 ea cl hm l ?_
  exact PySem.W.callWith_K0 (first := [.ref a]) I1.kIn hm.kp (run_fnSD (us := [.ref a]) (vs := [.ref a]) Fk hr hb hd (hx σ) I1 (.cons rfl .nil) q)
def isIns (C : Nat) : D → Bool
  | .ins _ C' _ => C' == C
  | _ => false
/-- o.m(..), o an instance of the class C -/
def dMeth (C : Nat) (io : List Nat) (n : Nat) (S : FS) (dds : List D) (O : DO) (A : DA) : DE := fun ρ K => O ρ (onOk K fun o ρ1 => isIns C (see ρ1 o) = true ∧ A ρ1 (onOk K fun os ρ' => callD io n S (o :: (os ++ dds.map Opd.vl)) ρ' K))
theorem lookup_zip {m : Str} : ∀ {fs : List Str} {vs : List V}, m ∉ fs → (fs.zip vs).lookup m = none
  | [], vs, _ => by simp
  | f :: fs, [], _ => by simp
  | f :: fs, v :: vs, h => by
    simp only [List.zip_cons_cons, List.lookup_cons]
    have h1 : (m == f) = false := by
      simp only [List.mem_cons, not_or] at h
      simpa using h.1
    rw [h1]
    exact lookup_zip fun z => h (List.mem_cons_of_mem _ z)
theorem run_meth {C : Nat} {m : Str} {O : DO} {A : DA} {σ : L2.St} {H : Hp} {Q : VK} (hm : m ∉ c.flds C) (hdf : Dft c dds dvs) (h : tOfN c W (dMeth C io n S dds O A) σ H Q) :
    tMethSD (c.cls C) m (spOf c io n S) dvs (WE W) (tOfO c W O) (tOfA c W A) σ H Q := by
  obtain ⟨F, Ω, ρ, K, r0, ht, k', kx⟩ := h
  refine ⟨F, Ω, ρ, _, r0, ht, fun o ρ1 q1 x F1 H1 Ω1 s1 r1 f1 => ?_, kx.imp (Stp.refl _ _ _) fun _ _ _ q => q⟩
  obtain ⟨hi, q1⟩ := q1
  have hn : nz (see ρ1 o) = true := by
    cases e : see ρ1 o <;> rw [e] at hi <;> first | rfl | cases hi
  have vw := f1.vw r1 hn
  cases e : see ρ1 o with
  | ins b C' xs =>
    rw [e] at hi vw
    have eC : C' = C := by simpa [isIns] using hi
    subst eC
    obtain ⟨a, dx, vs, e1, h1, _, _⟩ := vw.ins r1.wf
    refine ⟨a, dx, _, e1, h1, lookup_zip hm, F1, Ω1, ρ1, _, r1, q1, fun os ρ2 q2 vs F2 H2 Ω2 s2 r2 f2 => ?_, kx.imp s1 fun _ _ _ q => q⟩
    exact call_core (os := o :: (os ++ dds.map Opd.vl)) (vs := x :: (vs ++ dvs)) r2 ⟨x, _, rfl, f1.mono s2.ef, f2.append (hdf F2 σ)⟩ q2 (fun d ρ' q v F' H' Ω' Θ s r' a nw => k' d ρ' q v F' H' Ω' Θ ((s1.trans s2).trans s) r' a (nw.step (s1.trans s2))) (kx.imp (s1.trans s2) fun _ _ _ q => q)
  | _ => rw [e] at hi; cases hi
theorem N_meth {C : Nat} {m : Str} {o : Expr} {O : DO} {apos pos : Pos} {pl : Sem Bool} (ho : PE X o (tOfO c W O)) (cl : Cls X.K (c.cls C)) (hm : Meth X.K (c.cls C) m f) (hmf : m ∉ c.flds C) (Fk : FnOk X.prog X.w X.K X.mg X.base (L2.CX X.prog X.w) k f fd ps (spOf c io n S)) (hr : Room k X.A) (tk : Takes X W) (hb : Binds X.K fd ps ds) (hd : Vals dvs ds) (hdf : Dft c dds dvs)
    (ha : PA X (e :: es) (tOfA c W A))
    (hst : starEach (e :: es) X.env = (false, eval e X.env) :: starEach es X.env := by rfl) (hpl : (backTo pos (starEach es X.env)).any (·.1) = false := by rfl)
    (ht : eval (.Call (.Attribute o m apos) (e :: es) [] pos) X.env = (do
      let ov ← eval o X.env
      standAt apos.atName
      let (f, first) ← holding [ov] (getMethod ov m pl)
      callWith pos f first (backTo pos (starEach (e :: es) X.env)) (backToKw pos (keywordEach [] X.env))) := by rfl) :
    PE X (.Call (.Attribute o m apos) (e :: es) [] pos) (tOfN c W (dMeth C io n S dds O A)) :=
  (pe_methSD (E := WE W) ho cl hm Fk hr hb hd (passAt tk) ha hst hpl ht).imp fun _ _ _ h => run_meth hmf hdf h
theorem N_meth0 {C : Nat} {m : Str} {o : Expr} {O : DO} {apos pos : Pos} {pl : Sem Bool} (ho : PE X o (tOfO c W O)) (cl : Cls X.K (c.cls C)) (hm : Meth X.K (c.cls C) m f) (hmf : m ∉ c.flds C) (Fk : FnOk X.prog X.w X.K X.mg X.base (L2.CX X.prog X.w) k f fd ps (spOf c io n S)) (hr : Room k X.A) (tk : Takes X W) (hb : Binds X.K fd ps ds) (hd : Vals dvs ds) (hdf : Dft c dds dvs)
    (ht : eval (.Call (.Attribute o m apos) [] [] pos) X.env = (do
      let ov ← eval o X.env
      standAt apos.atName
      let (f, first) ← holding [ov] (getMethod ov m pl)
      callWith pos f first (backTo pos (starEach [] X.env)) (backToKw pos (keywordEach [] X.env))) := by rfl) :
    PE X (.Call (.Attribute o m apos) [] [] pos) (tOfN c W (dMeth C io n S dds O dNil)) :=
  (pe_methSD0 (E := WE W) ho cl hm Fk hr hb hd (passAt tk) ht).imp fun σ H Q h => by
    have q := run_meth hmf hdf h
    obtain ⟨F, Ω, ρ, K, r0, ht, k', kx⟩ := q
    refine ⟨F, Ω, ρ, K, r0, ht, fun o ρ1 q1 x F1 H1 Ω1 s1 r1 f1 => ?_, kx⟩
    obtain ⟨a, dx, fs, e1, h1, l, F2, Ω2, ρ2, K2, r2, ht2, k2, kx2⟩ := k' o ρ1 q1 x F1 H1 Ω1 s1 r1 f1
    exact ⟨a, dx, fs, e1, h1, l, k2 [] ρ2 ht2 [] F2 H1 Ω2 (Stp.refl _ _ _) r2 rfl⟩

/-! makers -/
def tMakeSD (C : Addr) (sp : Sp) (dvs : List V) (E : L2.St → XK) (t : TA) : TE := fun σ H Q => t σ H fun vs H1 => ∀ x dx, H1 x = none → H1 dx = none → dx ≠ x →
  sp (.ref x :: (vs ++ dvs)) (upd (upd H1 dx (.own x)) x (.ins C dx [])) (fun v H2 => v = .non ∧ Q (.ref x) H2) (E σ)
theorem run_makeSD {CX : CXT} {C : Addr} {sp : Sp} {E : L2.St → XK} {pins : List (Addr × Obj)} {σ : L2.St} {H : Hp} {s : Shared} {Q : VK} {us : List Value} {vs : List V} (M : Mk X.K C f) (Fk : FnOk X.prog X.w X.K X.mg X.base CX k f fd ps sp) (hr : Room (k + 1) X.A) (hb : Binds X.K fd ps ds) (hd : Vals dvs ds)
    (hx : PassesAt CX X σ (E σ)) (I : Inv X pins σ H s) (r : Vals vs us)
    (h : ∀ x dx, H x = none → H dx = none → dx ≠ x → sp (.ref x :: (vs ++ dvs)) (upd (upd H dx (.own x)) x (.ins C dx [])) (fun v H2 => v = .non ∧ Q (.ref x) H2) (E σ)) :
    wpAny (model X.prog X.w) X.A (call (.ref C) us) (EP X pins σ Q) X.xe s := by
  have hq := h (s.heap.objs.size + 1) s.heap.objs.size (I.hok.fresh (Nat.le_succ _)) (I.hok.fresh (Nat.le_refl _)) (Nat.ne_of_lt (Nat.lt_succ_self _))
  have I2 := Inv.made (C := C) I
  have r2 : Vals (V.ref (s.heap.objs.size + 1) :: (vs ++ dvs)) (Value.ref (s.heap.objs.size + 1) :: (us ++ ds)) := .cons rfl (r.append hd)
  have hl : (Value.ref (s.heap.objs.size + 1) :: us ++ ds).length = ps.length := by
    have e := r2.length
    rw [Fk.len _ _ _ _ hq] at e
    exact e.symm
  refine wpAny_call (make_map (f := f) I.kIn M.makes M.init (beq_iff_eq.mp M.fn) (codeAny_mono (Fk.run _ X.stack _ _ ⟨Value.ref (s.heap.objs.size + 1) :: us, []⟩ (Value.ref (s.heap.objs.size + 1) :: (us ++ ds)) _ _ (E σ) (hr.make C us [])
    (I2.env0.make C us []) (hb _ (Value.ref (s.heap.objs.size + 1) :: us) I2.kIn hl) r2 hq) fun r s' hq' => ?_))
  cases r with
  | error e => exact hx pins _ _ e s' I2 hq'
  | ok fl =>
    cases fl with
    | ret u =>
      obtain ⟨v, H', I3, rv, ev, q3⟩ := I2.after hq'
      subst ev
      exact ⟨rv, ⟨V.ref (s.heap.objs.size + 1), H', I3, rfl, q3⟩⟩
    | next => exact False.elim hq'
    | brk => exact False.elim hq'
    | cont => exact False.elim hq'
theorem pe_makeSD {CX : CXT} {C : Addr} {x : Str} {p pos : Pos} {sp : Sp} {E : L2.St → XK} {t : TA} (M : Mk X.K C f) (Fk : FnOk X.prog X.w X.K X.mg X.base CX k f fd ps sp) (hr : Room (k + 1) X.A) (hg : Gl X x) (hm : X.mg x = some (.ref C)) (hb : Binds X.K fd ps ds) (hd : Vals dvs ds) (hx : ∀ σ, PassesAt CX X σ (E σ))
    (ha : PA X (e :: es) t) (hdb : (x == ("__debug__" : Str)) = false := by decide) (he : starEach (e :: es) X.env = (false, eval e X.env) :: starEach es X.env := by rfl) (hpl : (backTo pos (starEach es X.env)).any (·.1) = false := by rfl) :
    PE X (.Call (.Name x p) (e :: es) [] pos) (tMakeSD C sp dvs E t) := by
  refine ⟨fun pins s σ H Q I h => ?_⟩
  refine wpAny_Call_Name_kw (ld_glob I hg hm ?_ hdb)
  refine PySem.W.callWith_K (h₀ := X.base) I.ok.mod.kin M.kp (thn (ha.run pos pins s σ H _ I h) fun us s1 ⟨vs, H1, I1, r, q⟩ => ⟨I1.kIn, ?_⟩) he hpl
  exact run_makeSD M Fk hr hb hd (hx σ) I1 r q
/-- C(..): __init__ at a new instance (its first parameter), the other operands values -/
def dMake (C : Nat) (n : Nat) (S : FS) (dds : List D) (L : DL) : DE := fun ρ K => L ρ (onOk K fun ds ρ' => ds.length + dds.length + 1 = n ∧ S (.ins true C [] :: (ds ++ dds).map fr) fun r posts => match r with
  | .ok .non => ∃ d rest, posts = d :: rest ∧ nz d = true ∧ K (.ok d) ρ'
  | .ok _ => False
  | .exc C w => K (.exc C w) ρ')
theorem fzl_dft {F : Hp} : ∀ {dds : List D} {dvs : List V} {σ : L2.St}, OpPs c F σ (dds.map Opd.vl) dvs → FzL c F dds dvs
  | [], dvs, σ, h => by
    have e : dvs = [] := h
    subst e
    exact FzL.nil
  | d :: dds, dvs, σ, ⟨v, r, e, h1, h2⟩ => by
    subst e
    exact FzL.cons h1 (fzl_dft h2)
theorem N_make {C : Nat} {x : Str} {p pos : Pos} {L : DL} (M : Mk X.K (c.cls C) f) (Fk : FnOk X.prog X.w X.K X.mg X.base (L2.CX X.prog X.w) k f fd ps (spOf c [0] n S)) (hr : Room (k + 1) X.A) (tk : Takes X W) (hg : Gl X x) (hm : X.mg x = some (.ref (c.cls C))) (hb : Binds X.K fd ps ds) (hd : Vals dvs ds) (hdf : Dft c dds dvs)
    (ha : PA X (e :: es) (tOfL c W L)) (hdb : (x == ("__debug__" : Str)) = false := by decide) (he : starEach (e :: es) X.env = (false, eval e X.env) :: starEach es X.env := by rfl) (hpl : (backTo pos (starEach es X.env)).any (·.1) = false := by rfl) :
    PE X (.Call (.Name x p) (e :: es) [] pos) (tOfN c W (dMake C n S dds L)) :=
  (pe_makeSD (E := WE W) M Fk hr hg hm hb hd (passAt tk) ha hdb he hpl).imp fun σ H Q h => by
    obtain ⟨F, Ω, ρ, K, r0, ht, k', kx⟩ := h
    refine ⟨F, Ω, ρ, _, r0, ht, fun ds' ρ1 q1 vs F1 H1 Ω1 s1 r1 f1 => fun x dx hx hdx hne => ?_, kx.imp (Stp.refl _ _ _) fun _ _ _ q => q⟩
    obtain ⟨hl, q1⟩ := q1
    have fall : FzL c F1 (ds' ++ dds) (vs ++ dvs) := f1.append (fzl_dft (hdf F1 σ))
    obtain ⟨hF, hΩ, hs0, hw0⟩ := wf_new (o := .own x) r1.wf hdx
    have hx2 : (upd H1 dx (.own x)) x = none := by rw [upd_ne hne.symm]; exact hx
    obtain ⟨hFx, hΩx, hs1, hw1⟩ := wf_new (o := .ins (c.cls C) dx []) hw0 hx2
    have k1 : ∀ b o, H1 b = some o → (upd (upd H1 dx (.own x)) x (.ins (c.cls C) dx [])) b = some o := fun b o e => hs1 b o (hs0 b o e)
    have back : ∀ {F' H' : Hp} {Ω' : Nm}, Stp F1 (upd (upd H1 dx (.own x)) x (.ins (c.cls C) dx [])) (fun b => if b = x then some [0] else none) F' H' Ω' → Wf F' H' Ω' → Stp F1 H1 Ω1 F' H' Ω1 ∧ Rel c F' H' Ω1 ρ1 σ ∧ (∀ b π, Ω1 b = some π → Ω' b = none) := fun {F' H' Ω'} s w => by
      have out : ∀ b o, H1 b = some o → F1 b = none → H' b = some o ∧ F' b = none ∧ Ω' b = none := fun b o e1 e2 => s.ou b o (k1 b o e1) e2 (if_neg (ne_of_none e1 hx))
      refine ⟨⟨s.ef, fun b o e1 e2 e3 => let ⟨z1, z2, _⟩ := out b o e1 e2; ⟨z1, z2, e3⟩⟩, ⟨⟨w.sub, fun b π e => ?_⟩, fun i d e1 e2 => ?_, r1.len⟩, fun b π e => ?_⟩
      · obtain ⟨y1, o, y2⟩ := r1.wf.own b π e
        obtain ⟨z1, z2, _⟩ := out b o y2 y1
        exact ⟨z2, o, z1⟩
      · obtain ⟨v, y1, y2⟩ := r1.sl i d e1 e2
        refine ⟨v, y1, Rv.move s.ef d _ _ v (fun b π z => ⟨z, ?_⟩) y2⟩
        obtain ⟨y3, o, y4⟩ := r1.wf.own b _ z
        rw [y4, (out b o y4 y3).1]
      · obtain ⟨y3, o, y4⟩ := r1.wf.own b _ e
        exact (out b o y4 y3).2.2
    refine ⟨F1, fun b => if b = x then some [0] else none, _, _, ?_, ⟨⟨hw1.sub, fun b π e => ?_⟩, fun i d e1 e2 => ?_, ?_⟩, q1, fun d posts q v F' H' Ω' Θ s ip a nw => ?_, fun C' w posts q cd vw F' H' Ω' s ip e1 e2 => ?_⟩
    · rw [List.length_cons, List.length_map, List.length_append]
      exact hl
    · have e' : (if b = x then some ([0] : List Nat) else none) = some π := e
      split at e'
      · rename_i hb
        rw [hb]
        exact ⟨hFx, _, upd_same⟩
      · cases e'
    · cases i with
      | zero =>
        cases e1
        refine ⟨.ref x, rfl, ?_⟩
        simp only [Rv]
        exact ⟨x, dx, [], rfl, by simp, by rw [upd_same]; simp, Nat.zero_le _, by simp only [RvL]⟩
      | succ i =>
        have e1' : ((ds' ++ dds).map fr)[i]? = some d := by simpa using e1
        rw [List.getElem?_map] at e1'
        cases q : (ds' ++ dds)[i]? with
        | none => rw [q] at e1'; cases e1'
        | some d0 =>
          rw [q] at e1'
          cases e1'
          obtain ⟨v, y1, y2⟩ := fall.get q
          refine ⟨v, ?_, (Rv_of_own (own_fr d0)).mpr ((Fz_fr _ _ _ _).mpr y2)⟩
          show ((vs ++ dvs).map some)[i]? = _
          rw [List.getElem?_map, y1]
          rfl
    · rw [List.length_cons, List.length_map, fall.length, List.length_map]
      rfl
    · obtain ⟨s2, r2, hn⟩ := back s ip.wf
      match d, q with
      | .non, ⟨d, rest, ep, hz, hk⟩ =>
        subst ep
        have av := a.rv
        simp only [Rv] at av
        obtain ⟨u, y1, y2⟩ := ip.at' 0 (by simp) d rfl (nz_ne hz)
        cases y1
        refine ⟨av, k' d ρ1 hk (.ref x) F' H' Ω1 (fun b => match Ω' b with | some (0 :: π) => some π | _ => none) (s1.trans s2) r2 ⟨Rv.move (Sub.refl _) d [0] [] _ (fun b π z => ⟨?_, rfl⟩) y2, fun b π e => ?_⟩ fun b o e1 e2 e3 => ?_⟩
        · show (match Ω' b with | some (0 :: π) => some π | _ => none) = _
          rw [z]
          rfl
        · have e' : (match Ω' b with | some (0 :: π) => some π | _ => none) = some π := e
          split at e'
          · rename_i π' y
            obtain ⟨z1, z2⟩ := ip.wf.own b _ y
            refine ⟨z1, ?_, z2⟩
            cases q : Ω1 b with
            | none => rfl
            | some π2 => rw [hn b π2 q] at y; cases y
          · cases e'
        · obtain ⟨z1, z2, z3⟩ := s1.ou b o e1 e2 e3
          obtain ⟨_, _, z4⟩ := s.ou b o (k1 b o z1) z2 (if_neg (ne_of_none z1 hx))
          show (match Ω' b with | some (0 :: π) => some π | _ => none) = none
          rw [z4]
      | .und, q => exact q.elim
      | .bl _, q => exact q.elim
      | .int _, q => exact q.elim
      | .str _, q => exact q.elim
      | .tup _, q => exact q.elim
      | .lst _ _, q => exact q.elim
      | .klst _, q => exact q.elim
      | .dic _ _ _, q => exact q.elim
      | .ins _ _ _, q => exact q.elim
      | .exo _ _ _ _, q => exact q.elim
      | .fn _, q => exact q.elim
    · obtain ⟨s2, r2, hn⟩ := back s ip.wf
      exact kx C' w ρ1 q cd vw F' H' Ω1 (s1.trans s2) r2 e1 e2
end
end Vi
/-! Vi6: what is walked; targets; for; comprehensions. -/
namespace Vi
open PySem L2

/-- J walks the items ds; what an item needs is made on the way -/
def ItOk (c : Ct) (J : It) (F : Hp) (ds : List D) : Prop := ∀ F' H' Ω, Sub F F' → Wf F' H' Ω →
  (∀ i, i < ds.length → J.go i H' ∧ ∀ x H'', J.yld i H' x H'' → ∃ F'' d, Ext F' H' Ω F'' H'' ∧ ds[i]? = some d ∧ Fz c F'' d x) ∧ J.stop ds.length H'
def tOfI (c : Ct) (W : WX) (T : DL) : TI := fun σ H R => ∃ F Ω ρ K, Rel c F H Ω ρ σ ∧ T ρ K ∧
  (∀ ds ρ', K (.ok ds) ρ' → ∀ J F' H' Ω', Stp F H Ω F' H' Ω' → Rel c F' H' Ω' ρ' σ → ItOk c J F' ds → R J H') ∧ ExW c W F H Ω σ (exK K)
theorem _root_.L2.PI.imp {X : Cx} {tg e : Expr} {t t' : TI} (h : PI X tg e t) (k : ∀ σ H R, t' σ H R → t σ H R) : PI X tg e t' := ⟨fun pins s σ H R I q => h.run pins s σ H R I (k σ H R q)⟩
section
variable {X : Cx} {c : Ct} {W : WX} {tg iter : Expr}
/-- a list, a tuple, a text -/
def dItL (T : DE) : DL := fun ρ K => T ρ (onOk K fun d ρ' => match d with | .lst _ ds => K (.ok ds) ρ' | .klst ds => K (.ok ds) ρ' | _ => False)
def dItT (T : DE) : DL := fun ρ K => T ρ (onOk K fun d ρ' => match d with | .tup ds => K (.ok ds) ρ' | _ => False)
def dItS (T : DE) : DL := fun ρ K => T ρ (onOk K fun d ρ' => match d with | .str s => K (.ok (s.map fun c => .str [c])) ρ' | _ => False)
theorem itl_ok {F : Hp} {a : Addr} {ds : List D} {vs : List V} (hq : SqL c.K F a vs) (hf : FzL c F ds vs)
    (inj : ∀ H xs, SqL c.K H a vs → SqL c.K H a xs → xs = vs) : ItOk c (Itl c.K a) F ds := fun F' H' Ω sb w => by
  have q : SqL c.K H' a vs := sql_sub (sb.trans w.sub) hq
  refine ⟨fun i hi => ?_, ⟨vs, q, by rw [hf.length]; exact Nat.le_refl _⟩⟩
  have hi' : i < vs.length := by rw [← hf.length]; exact hi
  refine ⟨⟨vs, vs[i], q, by rw [List.getElem?_eq_getElem hi']⟩, fun x H'' y => ?_⟩
  obtain ⟨e, y⟩ := y
  subst e
  have ex := y vs q
  have ed : ds[i]? = some ds[i] := List.getElem?_eq_getElem hi
  obtain ⟨v, q1, q2⟩ := hf.get ed
  rw [ex] at q1
  cases q1
  exact ⟨F', ds[i], Ext.refl w, ed, Fz.mono sb _ _ q2⟩
theorem I_list {T : DE} (hK : c.K = X.K) (he : PE X iter (tOfE c W T)) : PI X tg iter (tOfI c W (dItL T)) := (pi_list he).imp fun σ H R h => by
  obtain ⟨F, Ω, ρ, K, r, t, k, kx⟩ := h
  refine ⟨F, Ω, ρ, _, r, t, fun d ρ' q v F' H' Ω' s' r' f => ?_, kx.imp (Stp.refl _ _ _) fun _ _ _ q => q⟩
  obtain ⟨ds, a, vs, e, hq, hf, hw⟩ : ∃ ds a vs, v = .ref a ∧ SqL c.K F' a vs ∧ FzL c F' ds vs ∧ K (.ok ds) ρ' := by
    cases d with
    | lst o ds =>
      simp only [Fz] at f
      obtain ⟨a, vs, e, hq, hf⟩ := f
      exact ⟨ds, a, vs, e, SqL.of hq, hf, q⟩
    | klst ds =>
      simp only [Fz] at f
      obtain ⟨a, vs, e, hq, hf⟩ := f
      exact ⟨ds, a, vs, e, hq, hf, q⟩
    | _ => exact q.elim
  refine ⟨a, e, ⟨vs, by rw [← hK]; exact sql_sub r'.wf.sub hq⟩, k ds ρ' hw _ F' H' Ω' s' r' ?_⟩
  rw [← hK]
  exact fun F2 H2 Ω2 sb w => by
    have q : SqL c.K H2 a vs := sql_sub (sb.trans w.sub) hq
    refine ⟨fun i hi => ?_, ⟨vs, q, by rw [hf.length]; exact Nat.le_refl _⟩⟩
    have hi' : i < vs.length := by rw [← hf.length]; exact hi
    refine ⟨⟨vs, vs[i], q, by rw [List.getElem?_eq_getElem hi']⟩, fun x H'' y => ?_⟩
    obtain ⟨e, y⟩ := y
    subst e
    have ex := y vs q
    have ed : ds[i]? = some ds[i] := List.getElem?_eq_getElem hi
    obtain ⟨v, q1, q2⟩ := hf.get ed
    rw [ex] at q1
    cases q1
    exact ⟨F2, ds[i], Ext.refl w, ed, Fz.mono sb _ _ q2⟩
theorem I_tup {T : DE} (hK : c.K = X.K) (he : PE X iter (tOfE c W T)) : PI X tg iter (tOfI c W (dItT T)) := (pi_tup he).imp fun σ H R h => by
  obtain ⟨F, Ω, ρ, K, r, t, k, kx⟩ := h
  refine ⟨F, Ω, ρ, _, r, t, fun d ρ' q v F' H' Ω' s' r' f => ?_, kx.imp (Stp.refl _ _ _) fun _ _ _ q => q⟩
  cases d with
  | tup ds =>
    simp only [Fz] at f
    obtain ⟨a, vs, e, hq, hf⟩ := f
    refine ⟨a, e, ⟨vs, SqT.of (r'.wf.sub _ _ hq)⟩, k ds ρ' q _ F' H' Ω' s' r' ?_⟩
    rw [← hK]
    exact fun F2 H2 Ω2 sb w => by
      have q : SqT c.K H2 a vs := SqT.of ((sb.trans w.sub) _ _ hq)
      refine ⟨fun i hi => ?_, ⟨vs, q, by rw [hf.length]; exact Nat.le_refl _⟩⟩
      have hi' : i < vs.length := by rw [← hf.length]; exact hi
      refine ⟨⟨vs, vs[i], q, by rw [List.getElem?_eq_getElem hi']⟩, fun x H'' y => ?_⟩
      obtain ⟨e, y⟩ := y
      subst e
      have ex := y vs q
      have ed : ds[i]? = some ds[i] := List.getElem?_eq_getElem hi
      obtain ⟨v, q1, q2⟩ := hf.get ed
      rw [ex] at q1
      cases q1
      exact ⟨F2, ds[i], Ext.refl w, ed, Fz.mono sb _ _ q2⟩
  | _ => exact q.elim
theorem I_str {T : DE} (he : PE X iter (tOfE c W T)) : PI X tg iter (tOfI c W (dItS T)) := (pi_str he).imp fun σ H R h => by
  obtain ⟨F, Ω, ρ, K, r, t, k, kx⟩ := h
  refine ⟨F, Ω, ρ, _, r, t, fun d ρ' q v F' H' Ω' s' r' f => ?_, kx.imp (Stp.refl _ _ _) fun _ _ _ q => q⟩
  cases d with
  | str z =>
    simp only [Fz] at f
    refine ⟨⟨z.toArray⟩, f, k _ ρ' q _ F' H' Ω' s' r' fun F2 H2 Ω2 sb w => ⟨fun i hi => ?_, by show z.toArray.size ≤ _; simp⟩⟩
    rw [List.length_map] at hi
    refine ⟨by show i < z.toArray.size; simpa using hi, fun x H'' y => ?_⟩
    obtain ⟨e, cc, hc, hv⟩ := y
    subst e hv
    have hc' : z[i]? = some cc := by simpa using hc
    exact ⟨F2, .str [cc], Ext.refl w, by rw [List.getElem?_map, hc']; rfl, by simp only [Fz]⟩
  | _ => exact q.elim
/-- range(lo, hi): the items lo, lo + 1, .. -/
def rngD (lo : Int) (n : Nat) : List D := (List.range n).map fun (k : Nat) => D.int (lo + (k : Int))
def inR (j : Int) : Prop := -(2 ^ 62) ≤ j ∧ j < 2 ^ 62
def int1 (ds : List D) (k : Int → Prop) : Prop := match ds with
  | [.int j] => k j
  | _ => False
def int2 (ds : List D) (k : Int → Int → Prop) : Prop := match ds with
  | [.int i, .int j] => k i j
  | _ => False
theorem int1_of {ds : List D} {k : Int → Prop} (h : int1 ds k) : ∃ j, ds = [.int j] ∧ k j := by
  unfold int1 at h
  split at h
  · exact ⟨_, rfl, h⟩
  · exact h.elim
theorem int2_of {ds : List D} {k : Int → Int → Prop} (h : int2 ds k) : ∃ i j, ds = [.int i, .int j] ∧ k i j := by
  unfold int2 at h
  split at h
  · exact ⟨_, _, rfl, h⟩
  · exact h.elim
theorem itr_ok {F : Hp} (lo : Int) (n : Nat) : ItOk c (Itr lo n) F (rngD lo n) := fun F' H' Ω sb w => by
  have l : (rngD lo n).length = n := by unfold rngD; simp
  refine ⟨fun i hi => ?_, by show n ≤ _; rw [l]; exact Nat.le_refl _⟩
  rw [l] at hi
  refine ⟨hi, fun x H'' y => ?_⟩
  obtain ⟨e, ex⟩ := y
  subst e ex
  refine ⟨F', .int (lo + i), Ext.refl w, ?_, by simp only [Fz]⟩
  unfold rngD
  rw [List.getElem?_map, List.getElem?_range hi]
  rfl
def dRng1 (L : DL) : DL := fun ρ K => L ρ (onOk K fun ds ρ' => int1 ds fun j => inR j ∧ K (.ok (rngD 0 j.toNat)) ρ')
def dRng2 (L : DL) : DL := fun ρ K => L ρ (onOk K fun ds ρ' => int2 ds fun l j => inR l ∧ inR j ∧ K (.ok (rngD l (j - l).toNat)) ρ')
theorem I_rng1 {a : Expr} {p pos : Pos} {L : DL} (hgl : Gl X "range") (hm : X.mg "range" = none) (ha : PA X [a] (tOfL c W L)) (hs : starEach [a] X.env = [(false, eval a X.env)] := by rfl) : PI X tg (.Call (.Name "range" p) [a] [] pos) (tOfI c W (dRng1 L)) :=
  (pi_range1 hgl hm ha hs).imp fun σ H R h => by
    obtain ⟨F, Ω, ρ, K, r, t, k, kx⟩ := h
    refine ⟨F, Ω, ρ, _, r, t, fun ds ρ' q vs F' H' Ω' s' r' f => ?_, kx.imp (Stp.refl _ _ _) fun _ _ _ q => q⟩
    obtain ⟨j, e, b, q2⟩ := int1_of q
    subst e
    simp only [FzL, Fz] at f
    obtain ⟨v, r0, e1, e2, e3⟩ := f
    subst e1 e2 e3
    exact ⟨j, rfl, b.1, b.2, k _ ρ' q2 _ F' H' Ω' s' r' (itr_ok _ _)⟩
theorem I_rng2 {a b : Expr} {p pos : Pos} {L : DL} (hgl : Gl X "range") (hm : X.mg "range" = none) (ha : PA X [a, b] (tOfL c W L)) (hs : starEach [a, b] X.env = [(false, eval a X.env), (false, eval b X.env)] := by rfl) (hs2 : starEach [b] X.env = [(false, eval b X.env)] := by rfl) : PI X tg (.Call (.Name "range" p) [a, b] [] pos) (tOfI c W (dRng2 L)) :=
  (pi_range2 hgl hm ha hs hs2).imp fun σ H R h => by
    obtain ⟨F, Ω, ρ, K, r, t, k, kx⟩ := h
    refine ⟨F, Ω, ρ, _, r, t, fun ds ρ' q vs F' H' Ω' s' r' f => ?_, kx.imp (Stp.refl _ _ _) fun _ _ _ q => q⟩
    obtain ⟨l, j, e, bl, bj, q2⟩ := int2_of q
    subst e
    simp only [FzL, Fz] at f
    obtain ⟨v, r0, e1, e2, v2, r2, e3, e4, e5⟩ := f
    subst e1 e2 e3 e4 e5
    exact ⟨l, j, rfl, ⟨bl.1, bl.2, bj.1, bj.2⟩, k _ ρ' q2 _ F' H' Ω' s' r' (itr_ok _ _)⟩
end

/-! ### targets -/
abbrev DG := D → Env → (Env → Prop) → Prop
def tOfG (x : Ct2) (G : DG) : TG := fun v σ H Q => ∃ F Ω ρ K d, Rel x.c F H Ω ρ σ ∧ Fz x.c F d v ∧ G d ρ K ∧ ∀ ρ', K ρ' → ∀ σ' Ω', PostS x F H Ω σ F H Ω' ρ' σ' → Q σ' H
theorem _root_.L2.PG.imp {X : Cx} {e : Expr} {t t' : TG} (h : PG X e t) (k : ∀ v σ H Q, t' v σ H Q → t v σ H Q) : PG X e t' := ⟨fun pins s σ H v u Q I r q => h.run pins s σ H v u Q I r (k v σ H Q q)⟩
theorem fz_set {x : Ct2} {F H : Hp} {Ω : Nm} {σ : L2.St} {ρ : Env} {i : Nat} {d : D} {v : V} (hi : i < σ.length) (hio : i ∉ x.io) (r : Rel x.c F H Ω ρ σ) (f : Fz x.c F d v) : PostS x F H Ω σ F H (putN i (fun _ => none) Ω) (ρ.set i (fr d)) (σ.set i (some v)) :=
  ⟨put_stp (Stp.refl _ _ _) New.none, set_slot r hi (Air.fz ((Fz_fr _ _ _ _).mpr f) (own_fr d)), Io.set hio⟩
section
variable {X : Cx} {x : Ct2}
def dgN (i : Nat) : DG := fun d ρ K => K (ρ.set i (fr d))
theorem G_name {i : Nat} {y : Str} {pos : Pos} (hN : X.N.Nodup) (hi : X.N[i]? = some y) (hx : Loc X.env.scope y) (hio : i ∉ x.io) (hf : X.fn y = true ∨ X.env.scope.names.lookup y = some .local := by first | exact .inl rfl | exact .inr rfl | assumption) : PG X (.Name y pos) (tOfG x (dgN i)) := by
  refine ⟨fun pins s σ H v u Q I r h => (pg_name hN hi hx hf).run pins s σ H v u Q I r ?_⟩
  obtain ⟨F, Ω, ρ, K, d, rl, f, g, k⟩ := h
  exact k _ g _ _ (fz_set (by rw [I.len]; exact (List.getElem?_eq_some_iff.mp hi).1) hio rl f)
abbrev DGs := List D → Env → (Env → Prop) → Prop
def tOfGs (x : Ct2) (G : DGs) : TGs := fun vs σ H Q => ∃ F Ω ρ K ds, Rel x.c F H Ω ρ σ ∧ FzL x.c F ds vs ∧ G ds ρ K ∧ ∀ ρ', K ρ' → ∀ σ' Ω', PostS x F H Ω σ F H Ω' ρ' σ' → Q σ' H
def dgNil : DGs := fun ds ρ K => ds = [] ∧ K ρ
def dgCons (G : DG) (Gs : DGs) : DGs := fun ds ρ K => match ds with
  | d :: r => G d ρ fun ρ' => Gs r ρ' K
  | [] => False
theorem _root_.L2.PGs.imp {X : Cx} {e : List Expr} {t t' : TGs} (h : PGs X e t) (k : ∀ v σ H Q, t' v σ H Q → t v σ H Q) : PGs X e t' := ⟨fun pins s σ H v u Q I r q => h.run pins s σ H v u Q I r (k v σ H Q q)⟩
theorem Gs_nil : PGs X [] (tOfGs x dgNil) := pgs_nil.imp fun vs σ H Q h => by
  obtain ⟨F, Ω, ρ, K, ds, rl, f, ⟨e, g⟩, k⟩ := h
  subst e
  simp only [FzL] at f
  exact ⟨f, k _ g _ _ ⟨Stp.refl _ _ _, rl, Io.refl _ _⟩⟩
theorem Gs_cons {e : Expr} {es : List Expr} {G : DG} {Gs : DGs} (h1 : PG X e (tOfG x G)) (h2 : PGs X es (tOfGs x Gs)) (hs : (assignEach (e :: es) X.env).map (·.2) = assign e X.env :: (assignEach es X.env).map (·.2) := by rfl) : PGs X (e :: es) (tOfGs x (dgCons G Gs)) :=
  (pgs_cons h1 h2 hs).imp fun vs σ H Q h => by
    obtain ⟨F, Ω, ρ, K, ds, rl, f, g, k⟩ := h
    cases ds with
    | nil => exact g.elim
    | cons d ds =>
      simp only [FzL] at f
      obtain ⟨v, r, e, f1, f2⟩ := f
      refine ⟨v, r, e, F, Ω, ρ, _, d, rl, f1, g, fun ρ' q σ' Ω' p => ?_⟩
      exact ⟨F, Ω', ρ', K, ds, p.2.1, f2, q, fun ρ2 q2 σ2 Ω2 p2 => k ρ2 q2 σ2 Ω2 (p.trans p2)⟩
def dgTup (n : Nat) (Gs : DGs) : DG := fun d ρ K => match d with
  | .tup ds => ds.length = n ∧ Gs ds ρ K
  | _ => False
theorem G_tup {es : List Expr} {k : Nat} {pos : Pos} {Gs : DGs} {n : Nat} (hc : X.calm = true) (hK : x.c.K = X.K) (h : PGs X es (tOfGs x Gs))
    (hn : (assignEach es X.env).length = n := by rfl) (hst : (assignEach es X.env).findIdx? (·.1) = none := by rfl) : PG X (.Tuple es k pos) (tOfG x (dgTup n Gs)) :=
  (pg_tup hc h hn hst).imp fun v σ H Q h => by
    obtain ⟨F, Ω, ρ, K, d, rl, f, g, k⟩ := h
    cases d with
    | tup ds =>
      simp only [Fz] at f
      obtain ⟨a, vs, e, h1, h2⟩ := f
      obtain ⟨gl, g⟩ := g
      exact ⟨a, vs, e, SqT.of (rl.wf.sub _ _ h1), by rw [← h2.length]; exact gl, F, Ω, ρ, K, ds, rl, h2, g, k⟩
    | _ => exact g.elim
/-- a, b = e -/
def dAsgG (T : DE) (G : DG) : DS := fun ρ K => T ρ (onFl K fun d ρ' => G d ρ' fun ρ2 => K .nx ρ2)
theorem S_asg {W : WX} {tg e : Expr} {pos : Pos} {T : DE} {G : DG} (he : PE X e (tOfE x.c W T)) (hg : PG X tg (tOfG x G)) (hs : swapsWithSole [tg] e pos.line X.env = pure false := by rfl) (hw : swappedStores [tg] e X.env = pure none := by rfl)
    (h1 : (assignEach [tg] X.env).map (·.2) = [assign tg X.env] := by rfl) : PS X (.Assign [tg] e pos) (tOfS x W (dAsgG T G)) := (ps_asg he hg hs hw h1).imp fun De σ H h => by
  obtain ⟨F, Ω, ρ, K, r, t, w⟩ := tOfS_iff.mp h
  refine ⟨F, Ω, ρ, _, r, t, fun d ρ' q v F' H' Ω' s r' f => ?_, w.exw⟩
  exact ⟨F', Ω', ρ', _, d, r', f, q, fun ρ2 q2 σ2 Ω2 p2 => w.nx ρ2 q2 σ2 F' H' Ω2 ⟨s.trans p2.1, p2.2.1, p2.2.2⟩⟩

/-! ### for -/
def forW (G : DG) (B : DS) : List D → DS
  | [], ρ, K => K .nx ρ
  | d :: ds, ρ, K => G d ρ fun ρ1 => B ρ1 (turnK K fun ρ' => forW G B ds ρ' K)
def dFor (T : DL) (G : DG) (B : DS) : DS := fun ρ K => T ρ (onFl K fun ds ρ' => forW G B ds ρ' K)
theorem S_for {W : WX} {tg iter : Expr} {body : List Stmt} {pos : Pos} {T : DL} {G : DG} {B : DS} (hp : PassesOwn (model X.prog X.w) X.A X.env X.xe) (hc : X.calm = true) (hi : PI X tg iter (tOfI x.c W T)) (hg : PG X tg (tOfG x G)) (hb : PSs X body (tOfS x W B))
    (hs : ∀ x, foldedSetIterable iter X.env x = pure x := by intro _; rfl) : PS X (.For tg iter body [] pos) (tOfS x W (dFor T G B)) := (ps_for hp hc hi hg hb hs).imp fun De σ H h => by
  obtain ⟨F, Ω, ρ, K, r, t, w⟩ := tOfS_iff.mp h
  refine ⟨F, Ω, ρ, _, r, t, fun ds ρ' q J F' H' Ω' s' r' it => ?_, w.exw⟩
  have w' := w.later s' (Io.refl _ _)
  refine ⟨fun k m σ1 H1 => m = ds.length - k ∧ k ≤ ds.length ∧ ∃ F1 Ω1 ρ1, PostS x F' H' Ω' σ F1 H1 Ω1 ρ1 σ1 ∧ forW G B (ds.drop k) ρ1 K, ⟨_, rfl, Nat.zero_le _, F', Ω', ρ', ⟨Stp.refl _ _ _, r', Io.refl _ _⟩, q⟩, ?_⟩
  rintro k m σ1 H1 ⟨rfl, hk, F1, Ω1, ρ1, p, f⟩
  obtain ⟨igo, istop⟩ := it F1 H1 Ω1 p.1.ef p.2.1.wf
  by_cases hlt : k < ds.length
  · rw [List.drop_eq_getElem_cons hlt] at f
    obtain ⟨g1, g2⟩ := igo k hlt
    refine .inr ⟨g1, fun σ2 H2 => k + 1 ≤ ds.length ∧ ∃ F2 Ω2 ρ2, PostS x F' H' Ω' σ F2 H2 Ω2 ρ2 σ2 ∧ forW G B (ds.drop (k + 1)) ρ2 K, fun σ2 H2 ⟨l, z⟩ => ⟨_, by omega, rfl, l, z⟩, fun v H2 y => ?_⟩
    obtain ⟨F2, d, e2, hd, fz⟩ := g2 v H2 y
    rw [List.getElem?_eq_getElem hlt] at hd
    cases hd
    have r2 := p.2.1.ext e2
    have w2 := (w'.later p.1 p.2.2).later e2.stp (Io.refl _ _)
    refine ⟨F2, Ω1, ρ1, _, _, r2, fz, f, fun ρ3 q3 σ3 Ω3 p3 => ?_⟩
    have w3 := w2.later p3.1 p3.2.2
    refine tOfS_iff.mpr ⟨F2, Ω3, ρ3, _, p3.2.1, q3, turn_wants w3 fun ρ4 q4 σ4 F4 H4 Ω4 p4 => ?_⟩
    exact ⟨hlt, F4, Ω4, ρ4, ⟨((p.1.trans e2.stp).trans p3.1).trans p4.1, p4.2.1, (p.2.2.trans p3.2.2).trans p4.2.2⟩, q4⟩
  · have e : k = ds.length := by omega
    subst e
    rw [List.drop_eq_nil_of_le (Nat.le_refl _)] at f
    exact .inl ⟨istop, (w'.later p.1 p.2.2).nx ρ1 f σ1 F1 H1 Ω1 ⟨Stp.refl _ _ _, p.2.1, Io.refl _ _⟩⟩
end

/-! ### comprehensions -/
/-- the names of the block, unbound -/
def unb (ρ : Env) : List Nat → Env
  | [] => ρ
  | v :: vs => (unb ρ vs).set v .und
/-- behind the block: what stood frozen in its names' slots stands again -/
def reb (ρ0 : Env) (ρ : Env) : List Nat → Env
  | [] => ρ
  | v :: vs => (reb ρ0 ρ vs).set v (if own (gt ρ0 v) = true then .und else gt ρ0 v)
def lcW (G : DG) (C : DT) (E : DE) (vs : List Nat) : List D → List D → Env → (List D → Env → Prop) → Prop
  | [], acc, ρ, K => K acc ρ
  | d :: ds, acc, ρ, K => G d ρ fun ρ1 => C ρ1 fun b ρ2 => match b with
    | .ok true => E ρ2 fun e ρ3 => (match e with | .ok e => lcW G C E vs ds (acc ++ [fr e]) (unb ρ3 vs) K | .exc _ _ => False)
    | .ok false => lcW G C E vs ds acc (unb ρ2 vs) K
    | .exc _ _ => False
def dLc (T : DL) (G : DG) (C : DT) (E : DE) (vs : List Nat) : DE := fun ρ K => T ρ (onOk K fun ds ρ1 => ds.length ≤ 1000000 ∧ lcW G C E vs ds [] (unb ρ1 vs) fun acc ρ2 => K (.ok (.lst false acc)) (reb ρ1 ρ2 vs))
abbrev WF : WX := fun _ _ _ _ => False
theorem unb_length (ρ : Env) : ∀ vs : List Nat, (unb ρ vs).length = ρ.length
  | [] => rfl
  | v :: vs => by unfold unb; rw [List.length_set, unb_length]
theorem reb_length (ρ0 ρ : Env) : ∀ vs : List Nat, (reb ρ0 ρ vs).length = ρ.length
  | [] => rfl
  | v :: vs => by unfold reb; rw [List.length_set, reb_length]
theorem unb_get {ρ : Env} {i : Nat} {d : D} : ∀ {vs : List Nat}, (unb ρ vs)[i]? = some d → d ≠ .und → ρ[i]? = some d ∧ i ∉ vs
  | [], h, _ => ⟨h, by simp⟩
  | v :: vs, h, hn => by
    unfold unb at h
    by_cases e : i = v
    · subst e
      rw [List.getElem?_set] at h
      simp at h
      exact absurd h.2.symm hn
    · rw [List.getElem?_set_ne (Ne.symm e)] at h
      obtain ⟨q1, q2⟩ := unb_get h hn
      exact ⟨q1, by simp [e, q2]⟩
theorem wipe_get {σ : L2.St} {i : Nat} : ∀ {vs : List Nat}, i ∉ vs → (wipe σ vs)[i]? = σ[i]?
  | [], _ => rfl
  | v :: vs, h => by
    simp only [List.mem_cons, not_or] at h
    unfold wipe
    rw [List.getElem?_set_ne (Ne.symm h.1)]
    exact wipe_get h.2
theorem rel_unb {c : Ct} {F H : Hp} {Ω : Nm} {ρ : Env} {σ σ' : L2.St} (r : Rel c F H Ω ρ σ) (vs : List Nat) (hl : σ'.length = σ.length) (hσ : ∀ i, i ∉ vs → σ'[i]? = σ[i]?) : Rel c F H Ω (unb ρ vs) σ' := by
  refine ⟨r.wf, fun i d h1 h2 => ?_, by rw [unb_length, r.len, hl]⟩
  obtain ⟨q1, q2⟩ := unb_get h1 h2
  obtain ⟨v, z1, z2⟩ := r.sl i d q1 h2
  exact ⟨v, by rw [hσ i q2]; exact z1, z2⟩
theorem reb_get {ρ0 ρ : Env} {i : Nat} {d : D} : ∀ {vs : List Nat}, (reb ρ0 ρ vs)[i]? = some d → (ρ[i]? = some d ∧ i ∉ vs) ∨ (i ∈ vs ∧ d = if own (gt ρ0 i) = true then .und else gt ρ0 i)
  | [], h => .inl ⟨h, by simp⟩
  | v :: vs, h => by
    unfold reb at h
    by_cases e : i = v
    · subst e
      rw [List.getElem?_set] at h
      simp at h
      exact .inr ⟨List.mem_cons_self, by simpa using h.2.symm⟩
    · rw [List.getElem?_set_ne (Ne.symm e)] at h
      rcases reb_get h with ⟨q1, q2⟩ | ⟨q1, q2⟩
      · exact .inl ⟨q1, by simp [e, q2]⟩
      · exact .inr ⟨List.mem_cons_of_mem _ q1, q2⟩
section
variable {X : Cx} {c : Ct} {W : WX}
theorem wipe_all {σ : L2.St} {i : Nat} : ∀ {vs : List Nat}, (wipe σ vs)[i]? = if i ∈ vs ∧ i < σ.length then some none else σ[i]?
  | [] => by simp [wipe]
  | v :: vs => by
    unfold wipe
    rw [List.getElem?_set, wipe_all (vs := vs), wipe_length]
    by_cases e : v = i
    · subst e
      by_cases hl : v < σ.length
      · simp [hl]
      · simp [hl]
    · rw [if_neg e]
      have : (i ∈ v :: vs) ↔ i ∈ vs := by simp [Ne.symm e]
      simp only [this]
theorem wipe_eq {a b : L2.St} {vs : List Nat} (hl : a.length = b.length) (h : ∀ i, i ∉ vs → a[i]? = b[i]?) : wipe a vs = wipe b vs := by
  apply List.ext_getElem?
  intro i
  rw [wipe_all, wipe_all, hl]
  by_cases hi : i ∈ vs
  · by_cases hb : i < b.length
    · simp [hi, hb]
    · have ha : ¬ i < a.length := by omega
      simp only [hb, and_false, if_false]
      rw [List.getElem?_eq_none (by omega), List.getElem?_eq_none (by omega)]
  · simp only [hi, false_and, if_false]
    exact h i hi
theorem wipe_wipe (σ : L2.St) (vs : List Nat) : wipe (wipe σ vs) vs = wipe σ vs := wipe_eq (wipe_length σ vs) fun i hi => wipe_get hi
/-- an object that is nobody's is another one now -/
theorem rel_out {F H : Hp} {Ω : Nm} {ρ : Env} {σ : L2.St} {D : Addr} {o : HO} (r : Rel c F H Ω ρ σ) (hF : F D = none) (hΩ : Ω D = none) : Rel c F (upd H D o) Ω ρ σ := by
  refine ⟨⟨fun b u e => ?_, fun b π e => ?_⟩, fun i d h1 h2 => ?_, r.len⟩
  · rw [upd_ne fun z => by rw [z, hF] at e; cases e]
    exact r.wf.sub b u e
  · obtain ⟨q1, u, q2⟩ := r.wf.own b π e
    exact ⟨q1, u, by rw [upd_ne fun z => by rw [z, hΩ] at e; cases e]; exact q2⟩
  · obtain ⟨v, q1, q2⟩ := r.sl i d h1 h2
    exact ⟨v, q1, Rv.move (Sub.refl _) d _ _ v (fun b π z => ⟨z, upd_ne fun y => by rw [y, hΩ] at z; cases z⟩) q2⟩
theorem rel_reb {F H F1 H1 : Hp} {Ω Ω1 : Nm} {ρ ρ1 : Env} {σ : L2.St} {vs : List Nat} (r : Rel c F H Ω ρ σ) (sb : Sub F F1) (r1 : Rel c F1 H1 Ω1 ρ1 (wipe σ vs)) : Rel c F1 H1 Ω1 (reb ρ ρ1 vs) σ := by
  refine ⟨r1.wf, fun i d h1 h2 => ?_, by rw [reb_length, r1.len, wipe_length]⟩
  rcases reb_get h1 with ⟨q1, q2⟩ | ⟨q1, q2⟩
  · obtain ⟨v, z1, z2⟩ := r1.sl i d q1 h2
    exact ⟨v, by rw [wipe_get q2] at z1; exact z1, z2⟩
  · by_cases ho : own (gt ρ i) = true
    · rw [if_pos ho] at q2
      exact absurd q2 h2
    · rw [if_neg ho] at q2
      have ho' : own d = false := by rw [q2]; simpa using ho
      have hg : ρ[i]? = some d := by
        rw [q2]
        refine gt_some ?_
        rw [← q2]
        cases d <;> first | rfl | exact absurd rfl h2
      obtain ⟨v, z1, z2⟩ := r.sl i d hg h2
      exact ⟨v, z1, (Rv_of_own ho').mpr (Fz.mono sb _ _ ((Rv_of_own ho').mp z2))⟩
theorem lc_go {io : List Nat} {G : DG} {C : DT} {E : DE} {vs : List Nat} {F H : Hp} {Ω : Nm} {ρ : Env} {σ : L2.St} {ds : List D} {J : It} {Qd : Addr → Hp → Prop} {K : List D → Env → Prop} (hio : ∀ i, i < σ.length → i ∉ vs → i ∈ io) (r : Rel c F H Ω ρ σ) (it : ItOk c J F ds) (hz : ds.length ≤ 1000000) (h : lcW G C E vs ds [] (unb ρ vs) K)
    (k : ∀ acc ρ', K acc ρ' → ∀ D accv F' H' Ω', Stp F H Ω F' H' Ω' → Rel c F' H' Ω' (reb ρ ρ' vs) σ → H' D = some (.lst accv) → F' D = none → Ω' D = none → FzL c F' acc accv → (∀ d ∈ acc, own d = false) → H D = none → Qd D H') :
    ∀ D, H D = none → ∃ Wv : Nat → Nat → Hp → Prop, (∃ m, Wv 0 m (upd H D (.lst []))) ∧ ∀ i m H', Wv i m H' →
      (J.stop i H' ∧ Qd D H') ∨ (J.go i H' ∧ ∃ Nx : Hp → Prop, (∀ H', Nx H' → ∃ m', m' < m ∧ Wv (i + 1) m' H') ∧ ∀ x H'', J.yld i H' x H'' → tOfG ⟨c, io⟩ G x (wipe σ vs) H'' fun σ2 H2 => wipe σ2 vs = wipe σ vs ∧ tOfT c WF C σ2 H2 fun b H3 =>
        if b = true then tOfE c WF E σ2 H3 fun y H4 => ∃ acc, H4 D = some (.lst acc) ∧ acc.length < sizeLine ∧ Nx (upd H4 D (.lst (acc ++ [y]))) else Nx H3) := by
  intro D hD
  refine ⟨fun i m H' => m = ds.length - i ∧ i ≤ ds.length ∧ ∃ F1 Ω1 ρ1 acc accv, Stp F H Ω F1 H' Ω1 ∧ Rel c F1 H' Ω1 ρ1 (wipe σ vs) ∧ lcW G C E vs (ds.drop i) acc ρ1 K ∧ H' D = some (.lst accv) ∧ F1 D = none ∧ Ω1 D = none ∧ FzL c F1 acc accv ∧ acc.length ≤ i ∧ ∀ d ∈ acc, own d = false, ?_, ?_⟩
  · obtain ⟨r2, s2⟩ := rel_new (o := .lst []) r hD
    obtain ⟨hF, hΩ, _, _⟩ := wf_new (o := .lst []) r.wf hD
    exact ⟨_, rfl, Nat.zero_le _, F, Ω, _, [], [], s2, rel_unb r2 vs (wipe_length _ _) fun i hi => wipe_get hi, h, upd_same, hF, hΩ, FzL.nil, Nat.le_refl _, fun d hd => nomatch hd⟩
  rintro i m H' ⟨rfl, hi, F1, Ω1, ρ1, acc, accv, s1, r1, hw, hDl, hDF, hDΩ, hf, hal, hown⟩
  obtain ⟨igo, istop⟩ := it F1 H' Ω1 s1.ef r1.wf
  by_cases hlt : i < ds.length
  · rw [List.drop_eq_getElem_cons hlt] at hw
    obtain ⟨g1, g2⟩ := igo i hlt
    refine .inr ⟨g1, fun H'' => i + 1 ≤ ds.length ∧ ∃ F1 Ω1 ρ1 acc accv, Stp F H Ω F1 H'' Ω1 ∧ Rel c F1 H'' Ω1 ρ1 (wipe σ vs) ∧ lcW G C E vs (ds.drop (i + 1)) acc ρ1 K ∧ H'' D = some (.lst accv) ∧ F1 D = none ∧ Ω1 D = none ∧ FzL c F1 acc accv ∧ acc.length ≤ i + 1 ∧ ∀ d ∈ acc, own d = false, fun H'' ⟨l, z⟩ => ⟨_, by omega, rfl, l, z⟩, fun v H2 y => ?_⟩
    obtain ⟨F2, d, e2, hd, fz⟩ := g2 v H2 y
    rw [List.getElem?_eq_getElem hlt] at hd
    cases hd
    have r2 := r1.ext e2
    have s2 := s1.trans e2.stp
    have sl : (wipe σ vs).length = σ.length := wipe_length _ _
    refine ⟨F2, Ω1, ρ1, _, _, r2, fz, hw, fun ρ3 q3 σ3 Ω3 p3 => ⟨?_, ?_⟩⟩
    · rw [← wipe_wipe σ vs]
      refine wipe_eq p3.2.2.1 fun j hj => ?_
      by_cases hjl : j < σ.length
      · exact p3.2.2.2 j (hio j hjl hj)
      · rw [List.getElem?_eq_none (by rw [p3.2.2.1, sl]; omega), List.getElem?_eq_none (by rw [sl]; omega)]
    have back : ∀ j, j ∉ vs → (wipe σ vs)[j]? = σ3[j]? := fun j hj => by
      by_cases hjl : j < σ.length
      · exact (p3.2.2.2 j (hio j hjl hj)).symm
      · rw [List.getElem?_eq_none (by rw [sl]; omega), List.getElem?_eq_none (by rw [p3.2.2.1, sl]; omega)]
    have o2 : H2 D = some (.lst accv) ∧ F2 D = none ∧ Ω1 D = none := e2.stp.ou D _ hDl hDF hDΩ
    refine ⟨F2, Ω3, ρ3, _, p3.2.1, q3, fun b ρ4 q4 F4 H4 Ω4 s4 r4 => ?_, fun C' w' ρ' q => q.elim⟩
    have s24 := p3.1.trans s4
    have o4 := s24.ou D _ o2.1 o2.2.1 o2.2.2
    cases b with
    | true =>
      refine iteT ?_
      refine ⟨F4, Ω4, ρ4, _, r4, q4, fun e ρ5 q5 v5 F5 H5 Ω5 s5 r5 f5 => ?_, fun C' w' ρ' q => q.elim⟩
      have o5 := s5.ou D _ o4.1 o4.2.1 o4.2.2
      have l5 := hf.length
      refine ⟨accv, o5.1, ?_, hlt, F5, Ω5, _, acc ++ [fr e], accv ++ [v5], ?_, rel_unb (rel_out r5 o5.2.1 o5.2.2) vs (by rw [sl, p3.2.2.1, sl]) back, q5, upd_same, o5.2.1, o5.2.2, ?_, ?_, ?_⟩
      · rw [← l5]
        refine Nat.lt_of_le_of_lt (Nat.le_trans hal hi) (Nat.lt_of_le_of_lt hz (by decide))
      · have st := (s2.trans s24).trans s5
        exact ⟨st.ef, fun b o e1 e2 e3 => by
          obtain ⟨z1, z2, z3⟩ := st.ou b o e1 e2 e3
          refine ⟨?_, z2, z3⟩
          rw [upd_ne (ne_of_none e1 hD)]
          exact z1⟩
      · exact FzL.append (FzL.mono (e2.ef.trans (s24.ef.trans s5.ef)) _ _ hf) (FzL.cons ((Fz_fr _ _ _ _).mpr f5) FzL.nil)
      · rw [List.length_append, List.length_singleton]
        omega
      · intro d hd
        rcases List.mem_append.mp hd with hd | hd
        · exact hown d hd
        · have : d = fr e := by simpa using hd
          rw [this]
          exact own_fr e
    | false =>
      refine iteF ?_
      exact ⟨hlt, F4, Ω4, _, acc, accv, (s2.trans s24), rel_unb r4 vs (by rw [sl, p3.2.2.1, sl]) back, q4, o4.1, o4.2.1, o4.2.2, FzL.mono (e2.ef.trans s24.ef) _ _ hf, by omega, hown⟩
  · have e : i = ds.length := by omega
    subst e
    rw [List.drop_eq_nil_of_le (Nat.le_refl _)] at hw
    exact .inl ⟨istop, k acc ρ1 hw D accv F1 H' Ω1 s1 (rel_reb r s1.ef r1) hDl hDF hDΩ hf hown hD⟩
/-- the blocks' judgements, wherever the block's cells lie -/
structure Blk (X : Cx) (c : Ct) (io : List Nat) (scope : Scope) (own' : List (Str × Nat)) (tg : Expr) (ifs : List Expr) (elt : Expr) (G : DG) (C : DT) (E : DE) : Prop where
  ok : BlkOk X.N X.env.scope scope own'
  g : ∀ (s : Shared) (H : Hp) (C' : Addr) (cl : List (Str × Addr)) (fp : List Addr), PG (X.blk s H scope (PySem.compEnvC scope cl C' X.env) fp) tg (tOfG ⟨c, io⟩ G)
  t : ∀ (s : Shared) (H : Hp) (C' : Addr) (cl : List (Str × Addr)) (fp : List Addr), PTs (X.blk s H scope (PySem.compEnvC scope cl C' X.env) fp) ifs (tOfT c WF C)
  e : ∀ (s : Shared) (H : Hp) (C' : Addr) (cl : List (Str × Addr)) (fp : List Addr), PE (X.blk s H scope (PySem.compEnvC scope cl C' X.env) fp) elt (tOfE c WF E)
theorem lc_E {wi : DL} {G : DG} {C : DT} {E : DE} {vs io : List Nat} {σ : L2.St} {H : Hp} {Q : VK} (hio : ∀ i, i < σ.length → i ∉ vs → i ∈ io) (h : tOfE c W (dLc wi G C E vs) σ H Q) :
    tLc (tOfI c W wi) (tOfG ⟨c, io⟩ G) (tOfT c WF C) (tOfE c WF E) vs σ H Q := by
  obtain ⟨F, Ω, ρ, K, r, t, k, kx⟩ := h
  refine ⟨F, Ω, ρ, _, r, t, fun ds ρ1 q J F1 H1 Ω1 s1 r1 it => ?_, kx.imp (Stp.refl _ _ _) fun _ _ _ q => q⟩
  refine lc_go hio r1 it q.1 q.2 fun acc ρ' q' D accv F' H' Ω' s' r' hD hF hΩ hf ho hn => ?_
  have sb : Sub F' (upd F' D (.lst accv)) := fun b o e => by rw [upd_ne (ne_of_none e hF)]; exact e
  refine k _ _ q' (.ref D) (upd F' D (.lst accv)) H' Ω' ⟨(s1.trans s').ef.trans sb, fun b o e1 e2 e3 => ?_⟩ ⟨⟨fun b o e => ?_, fun b π e => ?_⟩, fun i d h1 h2 => ?_, r'.len⟩ ?_
  · obtain ⟨z1, z2, z3⟩ := (s1.trans s').ou b o e1 e2 e3
    refine ⟨z1, ?_, z3⟩
    rw [upd_ne ?_]
    · exact z2
    · intro z
      obtain ⟨y1, _, _⟩ := s1.ou b o e1 e2 e3
      rw [z, hn] at y1
      cases y1
  · by_cases hb : b = D
    · rw [hb, upd_same] at e
      cases e
      rw [hb]
      exact hD
    · rw [upd_ne hb] at e
      exact r'.wf.sub b o e
  · obtain ⟨z1, z2⟩ := r'.wf.own b π e
    exact ⟨by rw [upd_ne fun z => by rw [z, hΩ] at e; cases e]; exact z1, z2⟩
  · obtain ⟨v, z1, z2⟩ := r'.sl i d h1 h2
    exact ⟨v, z1, Rv.move sb d _ _ v (fun b π z => ⟨z, rfl⟩) z2⟩
  · simp only [Fz]
    exact ⟨D, accv, rfl, upd_same, FzL.mono sb _ _ hf⟩
/-- [elt for target in iter if ..] -/
theorem E_lc {elt tg iter : Expr} {ifs : List Expr} {scope : Scope} {own' : List (Str × Nat)} {pos : Pos} {wi : DL} {G : DG} {C : DT} {E : DE} {io : List Nat} (hc : X.calm = true) (hN : X.N.Nodup) (hio : ∀ i, i < X.N.length → i ∉ own'.map (·.2) → i ∈ io) (hi : PI X tg iter (tOfI c W wi)) (b : Blk X c io scope own' tg ifs elt G C E)
    (hs : ∀ x, foldedSetIterable iter X.env x = pure x := by intro _; rfl) : PE X (.ListComp elt [⟨tg, iter, ifs, 0⟩] scope pos) (tOfE c W (dLc wi G C E (own'.map (·.2)))) := by
  refine ⟨fun pins s σ H Q I h => (pe_lc (pos := pos) hc hN hi b.ok b.g b.t b.e hs).run pins s σ H Q I ?_⟩
  exact lc_E (fun i hl hn => hio i (by rw [← I.len]; exact hl) hn) h
/-- y = [..] on one line -/
theorem S_setLc {x : Ct2} {i : Nat} {y : Str} {py : Pos} {elt tg iter : Expr} {ifs : List Expr} {scope : Scope} {own' : List (Str × Nat)} {pos spos : Pos} {wi : DL} {G : DG} {C : DT} {E : DE} {io : List Nat} (hc : X.calm = true) (hN : X.N.Nodup) (hy : X.N[i]? = some y) (hyl : X.env.scope.names.lookup y = some .local) (hix : i ∉ x.io)
    (hsw : swapsWith (.ListComp elt [⟨tg, iter, ifs, 0⟩] scope pos) (some (.Name y py)) spos.line X.env = pure true) (hio : ∀ i, i < X.N.length → i ∉ own'.map (·.2) → i ∈ io) (hi : PI X tg iter (tOfI x.c W wi)) (b : Blk X x.c io scope own' tg ifs elt G C E)
    (hs : ∀ x, foldedSetIterable iter X.env x = pure x := by intro _; rfl) : PS X (.Assign [.Name y py] (.ListComp elt [⟨tg, iter, ifs, 0⟩] scope pos) spos) (tOfS x W (dSet i (dFr (dLc wi G C E (own'.map (·.2)))))) := by
  refine ⟨fun pins s σ H De I h => (ps_setLc (spos := spos) hc hN hy hyl hsw hi b.ok b.g b.t b.e hs).run pins s σ H De I ?_⟩
  refine lc_E (fun i hl hn => hio i (by rw [← I.len]; exact hl) hn) ?_
  have q := set_of (x := x) (W := W) (by rw [I.len]; exact (List.getElem?_eq_some_iff.mp hy).1) hix h
  obtain ⟨F, Ω, ρ, K, r, t, k, kx⟩ := q
  exact ⟨F, Ω, ρ, _, r, t, fun d ρ' q v F' H' Ω' s' r' f => k _ ρ' q v F' H' Ω' _ s' r' (Air.fz ((Fz_fr _ _ _ _).mpr f) (own_fr d)) New.none, fun C' w ρ' q => kx C' w ρ' q⟩
def dYes : DT := fun ρ K => K (.ok true) ρ
theorem Ts_nil : PTs X [] (tOfT c W dYes) := ⟨fun pins s σ H Q I h => (pts_nil (X := X)).run pins s σ H Q I (by
  obtain ⟨F, Ω, ρ, K, r, t, k, kx⟩ := h
  exact k true ρ t F H Ω (Stp.refl _ _ _) r)⟩
theorem Ts_one {e : Expr} {T : DT} (h : PT X e (tOfT c W T)) : PTs X [e] (tOfT c W T) := pts_one h
end
end Vi
/-! Vi7: operations over data: ints, texts, subscripts, equality, built-ins. -/
namespace Vi
open PySem L2

/-! ### what a value is -/
section
variable {c : Ct} {F H : Hp} {v : V}
theorem vw_int {i : Int} (h : Vw c F H (.int i) v) : v = .int i := by simpa only [Fz] using h.fz rfl
theorem vw_bl {i : Bool} (h : Vw c F H (.bl i) v) : v = .bl i := by simpa only [Fz] using h.fz rfl
theorem vw_str {s : List Nat} (h : Vw c F H (.str s) v) : v = .str ⟨s.toArray⟩ := by simpa only [Fz] using h.fz rfl
theorem vw_non (h : Vw c F H .non v) : v = .non := by simpa only [Fz] using h.fz rfl
end
theorem fz_int {c : Ct} {F : Hp} {i : Int} : Fz c F (.int i) (.int i) := by simp only [Fz]
theorem fz_bl {c : Ct} {F : Hp} {i : Bool} : Fz c F (.bl i) (.bl i) := by simp only [Fz]
theorem fz_non {c : Ct} {F : Hp} : Fz c F .non .non := by simp only [Fz]
theorem fz_str {c : Ct} {F : Hp} {s : List Nat} {z : Str} (h : z.cps.toList = s) : Fz c F (.str s) (.str z) := by
  subst h
  simp only [Fz]

/-! ### two ints -/
def oInt (C : Int → Int → Prop) (g : Int → Int → D) : D → D → (D → Prop) → Prop
  | .int i, .int j, K => C i j ∧ K (g i j)
  | _, _, _ => False
theorem b2_int {c : Ct} {C : Int → Int → Prop} {g : Int → Int → D} {gv : Int → Int → V} (hg : ∀ i j F, Fz c F (g i j) (gv i j)) : B2 c (rI C gv) (oInt C g) := ⟨fun F H Ω w d e v u h1 h2 K q Q k => by
  cases d with
  | int i =>
    cases e with
    | int j => exact ⟨i, j, vw_int h1, vw_int h2, q.1, k _ q.2 _ F H (Ext.refl w) (hg i j F)⟩
    | _ => exact q.elim
  | _ => exact q.elim⟩
def oInt0 (g : Int → Int → D) : D → D → (D → Prop) → Prop
  | .int i, .int j, K => K (g i j)
  | _, _, _ => False
theorem b2_int0 {c : Ct} {g : Int → Int → D} {gv : Int → Int → V} (hg : ∀ i j F, Fz c F (g i j) (gv i j)) : B2 c (rI0 gv) (oInt0 g) := ⟨fun F H Ω w d e v u h1 h2 K q Q k => by
  cases d with
  | int i =>
    cases e with
    | int j => exact ⟨i, j, vw_int h1, vw_int h2, k _ q _ F H (Ext.refl w) (hg i j F)⟩
    | _ => exact q.elim
  | _ => exact q.elim⟩
abbrev oSub := oInt0 fun i j => .int (i - j)
abbrev oMul := oInt CMul fun i j => .int (i * j)
abbrev oDiv := oInt CDiv fun i j => .int (i / j)
abbrev oMod := oInt (fun _ j => 0 < j) fun i j => .int (i % j)
abbrev oPow := oInt CPow fun i j => .int (i ^ j.toNat)
/-! ### a + b -/
def oAdd : D → D → (D → Prop) → Prop
  | .int i, .int j, K => K (.int (i + j))
  | .str s, .str t, K => s.length + t.length ≤ 1000000 ∧ K (.str (s ++ t))
  | .lst _ xs, .lst _ ys, K => (xs.all (fun d => !own d) = true ∧ ys.all (fun d => !own d) = true) ∧ xs.length + ys.length ≤ 1000000 ∧ K (.lst false (xs ++ ys))
  | .tup xs, .tup ys, K => xs ≠ [] ∧ xs.length + ys.length ≤ 1000000 ∧ K (.tup (xs ++ ys))
  | _, _, _ => False
def rAddAll (K : PySem.W.Frag) : R2 := fun x y H Q => (rI0 fun i j => .int (i + j)) x y H Q ∨ (∃ i j, x = .str i ∧ y = .str j ∧ i.length + j.length ≤ sizeLine ∧ Q (.str (i ++ j)) H) ∨ rCat x y H Q ∨ rCatT K x y H Q
theorem or_add {X : Cx} : OpR X (binaryOp .Add) (rAddAll X.K) := OpR.or op_add (OpR.or op_add_str (OpR.or op_cat op_catT))
theorem b2_add {c : Ct} : B2 c (rAddAll c.K) oAdd := ⟨fun F H Ω w d e v u h1 h2 K q Q k => by
  cases d with
  | int i =>
    cases e with
    | int j => exact .inl ⟨i, j, vw_int h1, vw_int h2, k _ q _ F H (Ext.refl w) fz_int⟩
    | _ => exact q.elim
  | str s =>
    cases e with
    | str t =>
      refine .inr (.inl ⟨_, _, vw_str h1, vw_str h2, ?_, k _ q.2 _ F H (Ext.refl w) (fz_str ?_)⟩)
      · show s.toArray.size + t.toArray.size ≤ sizeLine
        simp only [List.size_toArray]
        exact sz_ok q.1
      · show (s.toArray ++ t.toArray).toList = s ++ t
        simp
    | _ => exact q.elim
  | lst o xs =>
    cases e with
    | lst o' ys =>
      obtain ⟨a, vs, e1, q1, f1⟩ := h1.lst w
      obtain ⟨b, ws, e2, q2, f2⟩ := h2.lst w
      obtain ⟨⟨n1, n2⟩, hl, hk⟩ := q
      have g1 := f1.fz n1
      have g2 := f2.fz n2
      refine .inr (.inr (.inl ⟨a, b, vs, ws, e1, e2, q1, q2, ?_, fun p hp => ?_⟩))
      · rw [← f1.1, ← f2.1]
        exact sz_ok hl
      · have ex := Ext.new (o := .lst (vs ++ ws)) w hp
        refine k _ hk _ _ _ ex ?_
        simp only [Fz]
        exact ⟨p, _, rfl, upd_same, FzL.append (FzL.mono ex.ef _ _ g1) (FzL.mono ex.ef _ _ g2)⟩
    | _ => exact q.elim
  | tup xs =>
    cases e with
    | tup ys =>
      obtain ⟨a, vs, e1, _, q1, f1⟩ := h1.tup w
      obtain ⟨b, ws, e2, _, q2, f2⟩ := h2.tup w
      obtain ⟨hn, hl, hk⟩ := q
      refine .inr (.inr (.inr ⟨a, b, vs, ws, e1, e2, q1, q2, ?_, ?_, fun ew => ?_, fun ew p hp => ?_⟩))
      · intro z
        have := f1.length
        rw [z] at this
        exact hn (by simpa using this)
      · rw [← f1.length, ← f2.length]
        exact sz_ok hl
      · subst ew
        have : ys = [] := by
          have := f2.length
          simpa using this
        subst this
        refine k _ hk _ F H (Ext.refl w) ?_
        rw [List.append_nil]
        have := h1.fz rfl
        rw [e1] at this
        exact this
      · have ex := Ext.new (o := .tup (vs ++ ws)) w hp
        refine k _ hk _ _ _ ex ?_
        simp only [Fz]
        exact ⟨p, _, rfl, upd_same, FzL.append (FzL.mono ex.ef _ _ f1) (FzL.mono ex.ef _ _ f2)⟩
    | _ => exact q.elim
  | _ => exact q.elim⟩

/-! ### order -/
def oOrd (g : Int → Int → Bool) (h : List Nat → List Nat → Bool) : D → D → (D → Prop) → Prop
  | .int i, .int j, K => K (.bl (g i j))
  | .str s, .str t, K => K (.bl (h s t))
  | _, _, _ => False
abbrev oLt := oOrd (fun i j => decide (i < j)) (fun s t => decide (s < t))
abbrev oLe := oOrd (fun i j => decide (i ≤ j)) (fun s t => !decide (t < s))
abbrev oGt := oOrd (fun i j => decide (j < i)) (fun s t => decide (t < s))
abbrev oGe := oOrd (fun i j => decide (j ≤ i)) (fun s t => !decide (s < t))
def rOrd (g : Int → Int → Bool) (h : List Nat → List Nat → Bool) : R2 := fun x y H Q => (rI0 fun i j => .bl (g i j)) x y H Q ∨ ∃ i j : Str, x = .str i ∧ y = .str j ∧ Q (.bl (h i.cps.toList j.cps.toList)) H
theorem b2_ord {c : Ct} {g : Int → Int → Bool} {h : List Nat → List Nat → Bool} : B2 c (rOrd g h) (oOrd g h) := ⟨fun F H Ω w d e v u h1 h2 K q Q k => by
  cases d with
  | int i =>
    cases e with
    | int j => exact .inl ⟨i, j, vw_int h1, vw_int h2, k _ q _ F H (Ext.refl w) fz_bl⟩
    | _ => exact q.elim
  | str s =>
    cases e with
    | str t => exact .inr ⟨_, _, vw_str h1, vw_str h2, k _ q _ F H (Ext.refl w) fz_bl⟩
    | _ => exact q.elim
  | _ => exact q.elim⟩
section
variable {X : Cx}
theorem or_lt : OpR X (compareOp .Lt) (rOrd (fun i j => decide (i < j)) fun s t => decide (s < t)) := OpR.or op_lt op_lt_str
theorem or_le : OpR X (compareOp .LtE) (rOrd (fun i j => decide (i ≤ j)) fun s t => !decide (t < s)) := OpR.or op_le op_le_str
theorem or_gt : OpR X (compareOp .Gt) (rOrd (fun i j => decide (j < i)) fun s t => decide (t < s)) := OpR.or op_gt op_gt_str
theorem or_ge : OpR X (compareOp .GtE) (rOrd (fun i j => decide (j ≤ i)) fun s t => !decide (s < t)) := OpR.or op_ge op_ge_str
end

/-! ### equality -/
mutual
/-- == of data -/
def eqD : D → D → Bool
  | .non, .non => true
  | .bl a, .bl b => a == b
  | .bl a, .int j => (if a then 1 else 0) == j
  | .int i, .bl b => i == (if b then 1 else 0)
  | .int i, .int j => i == j
  | .str x, .str y => x == y
  | .tup xs, .tup ys => eqDs xs ys
  | .lst _ xs, .lst _ ys => eqDs xs ys
  | _, _ => false
def eqDs : List D → List D → Bool
  | [], [] => true
  | x :: xs, y :: ys => eqD x y && eqDs xs ys
  | _, _ => false
end
mutual
/-- data that == may be asked of: texts of small signs, not too deep -/
def shp : Nat → D → Bool
  | _, .non => true
  | _, .bl _ => true
  | _, .int _ => true
  | _, .str s => s.all (· < 128)
  | n + 1, .tup xs => shps n xs
  | n + 1, .lst _ xs => shps n xs
  | _, _ => false
def shps : Nat → List D → Bool
  | _, [] => true
  | n, x :: xs => shp n x && shps n xs
end
mutual
def toP : D → PyData
  | .bl b => .bool b
  | .int i => .int i
  | .str s => .str ⟨s.toArray⟩
  | .tup xs => .tuple (toPs xs)
  | .lst _ xs => .list (toPs xs)
  | _ => .none
def toPs : List D → List PyData
  | [] => []
  | x :: xs => toP x :: toPs xs
end
mutual
theorem vw_dp {c : Ct} {F H : Hp} {Ω : Nm} (w : Wf F H Ω) : ∀ (n : Nat) (d : D) (v : V), shp n d = true → Vw c F H d v → Dp c.K H v (toP d)
  | n, .non, v, _, h => by rw [vw_non h]; simp only [toP]; exact .non
  | n, .bl b, v, _, h => by rw [vw_bl h]; simp only [toP]; exact .bl b
  | n, .int i, v, _, h => by rw [vw_int h]; simp only [toP]; exact .int i
  | n, .str s, v, _, h => by rw [vw_str h]; simp only [toP]; exact .str _
  | n + 1, .tup xs, v, hs, h => by
    obtain ⟨a, vs, e, _, q, f⟩ := h.tup w
    simp only [shp] at hs
    rw [e]
    simp only [toP]
    exact .tup q (vw_dps w n xs vs hs (FzL.vw f))
  | n + 1, .lst o xs, v, hs, h => by
    obtain ⟨a, vs, e, q, f⟩ := h.lst w
    simp only [shp] at hs
    rw [e]
    simp only [toP]
    exact .lst (SqL.of q) (vw_dps w n xs vs hs f)
  | 0, .tup xs, v, hs, h => by simp only [shp] at hs; cases hs
  | 0, .lst _ xs, v, hs, h => by simp only [shp] at hs; cases hs
  | n, .und, v, hs, h => by simp only [shp] at hs; cases hs
  | n, .klst _, v, hs, h => by simp only [shp] at hs; cases hs
  | n, .dic _ _ _, v, hs, h => by simp only [shp] at hs; cases hs
  | n, .ins _ _ _, v, hs, h => by simp only [shp] at hs; cases hs
  | n, .exo _ _ _ _, v, hs, h => by simp only [shp] at hs; cases hs
  | n, .fn _, v, hs, h => by simp only [shp] at hs; cases hs
theorem vw_dps {c : Ct} {F H : Hp} {Ω : Nm} (w : Wf F H Ω) : ∀ (n : Nat) (ds : List D) (vs : List V), shps n ds = true → VwL c F H ds vs → DpAll c.K H vs (toPs ds)
  | n, [], vs, _, h => by
    have e : vs = [] := by have := h.1; simpa using this.symm
    rw [e]
    simp only [toPs]
    exact .nil
  | n, d :: ds, [], _, h => by have := h.1; simp at this
  | n, d :: ds, v :: vs, hs, h => by
    simp only [shps, Bool.and_eq_true] at hs
    obtain ⟨u, q1, q2⟩ := h.2 0 d rfl
    have e : u = v := by simpa using q1.symm
    subst e
    simp only [toPs]
    exact .cons (vw_dp w n d u hs.1 q2) (vw_dps w n ds vs hs.2 ⟨by simpa using h.1, fun i x e => h.2 (i + 1) x (by simpa using e)⟩)
end
mutual
theorem eqv_toP : ∀ (n m : Nat) (d e : D), shp n d = true → shp m e = true → PyData.eqv (toP d) (toP e) = eqD d e
  | n, m, .non, e, h, g => by cases e <;> first | (simp only [shp] at g; cases g; done) | (simp only [toP, PyData.eqv, eqD])
  | n, m, .bl b, e, h, g => by cases e <;> first | (simp only [shp] at g; cases g; done) | (simp only [toP, PyData.eqv, eqD])
  | n, m, .int i, e, h, g => by cases e <;> first | (simp only [shp] at g; cases g; done) | (simp only [toP, PyData.eqv, eqD])
  | n, m, .str s, e, h, g => by
    cases e with
    | str t =>
      simp only [toP, PyData.eqv, eqD]
      rw [Bool.eq_iff_iff, beq_iff_eq, beq_iff_eq]
      exact ⟨fun z => by injection z with z; simpa using z, fun z => by rw [z]⟩
    | _ => first | (simp only [shp] at g; cases g; done) | (simp only [toP, PyData.eqv, eqD])
  | n + 1, m, .tup xs, e, h, g => by
    simp only [shp] at h
    cases e with
    | tup ys =>
      cases m with
      | zero => simp only [shp] at g; cases g
      | succ m =>
        simp only [shp] at g
        simp only [toP, PyData.eqv, eqD]
        exact eqv_toPs n m xs ys h g
    | _ => first | (simp only [shp] at g; cases g; done) | (simp only [toP, PyData.eqv, eqD])
  | n + 1, m, .lst o xs, e, h, g => by
    simp only [shp] at h
    cases e with
    | lst o' ys =>
      cases m with
      | zero => simp only [shp] at g; cases g
      | succ m =>
        simp only [shp] at g
        simp only [toP, PyData.eqv, eqD]
        exact eqv_toPs n m xs ys h g
    | _ => first | (simp only [shp] at g; cases g; done) | (simp only [toP, PyData.eqv, eqD])
  | 0, m, .tup xs, e, h, g => by simp only [shp] at h; cases h
  | 0, m, .lst _ xs, e, h, g => by simp only [shp] at h; cases h
  | n, m, .und, e, h, g => by simp only [shp] at h; cases h
  | n, m, .klst _, e, h, g => by simp only [shp] at h; cases h
  | n, m, .dic _ _ _, e, h, g => by simp only [shp] at h; cases h
  | n, m, .ins _ _ _, e, h, g => by simp only [shp] at h; cases h
  | n, m, .exo _ _ _ _, e, h, g => by simp only [shp] at h; cases h
  | n, m, .fn _, e, h, g => by simp only [shp] at h; cases h
theorem eqv_toPs : ∀ (n m : Nat) (d e : List D), shps n d = true → shps m e = true → PyData.eqvAll (toPs d) (toPs e) = eqDs d e
  | n, m, [], [], _, _ => by simp only [toPs, PyData.eqvAll, eqDs]
  | n, m, [], y :: ys, _, _ => by simp only [toPs, PyData.eqvAll, eqDs]
  | n, m, x :: xs, [], _, _ => by simp only [toPs, PyData.eqvAll, eqDs]
  | n, m, x :: xs, y :: ys, h, g => by
    simp only [shps, Bool.and_eq_true] at h g
    simp only [toPs, PyData.eqvAll, eqDs]
    rw [eqv_toP n m x y h.1 g.1, eqv_toPs n m xs ys h.2 g.2]
end
theorem strOk_of {s : List Nat} (h : s.all (· < 128) = true) : PyData.strOk ⟨s.toArray⟩ = true := by
  unfold PyData.strOk
  rw [List.all_eq_true] at h
  rw [Array.all_eq_true]
  intro i hi
  have hi' : i < s.length := by simpa using hi
  have := h (s[i]) (List.getElem_mem hi')
  simp only [decide_eq_true_eq] at this ⊢
  have e : (s.toArray)[i] = s[i] := by simp
  show s.toArray[i] < 0x110000
  rw [e]
  omega
def isN : D → Bool
  | .non => true
  | _ => false
mutual
theorem shaped_toP : ∀ (n : Nat) (d : D), shp n d = true → (toP d).canLay0 = true ∧ (toP d).depth ≤ n
  | n, .non, h => ⟨rfl, Nat.zero_le _⟩
  | n, .bl b, h => ⟨rfl, Nat.zero_le _⟩
  | n, .int i, h => ⟨rfl, Nat.zero_le _⟩
  | n, .str s, h => by
    simp only [shp] at h
    simp only [toP, PyData.canLay0, PyData.depth]
    exact ⟨strOk_of h, Nat.zero_le _⟩
  | n + 1, .tup xs, h => by
    simp only [shp] at h
    obtain ⟨h1, h2⟩ := shaped_toPs n xs h
    simp only [toP, PyData.canLay0, PyData.depth]
    exact ⟨h1, Nat.succ_le_succ h2⟩
  | n + 1, .lst o xs, h => by
    simp only [shp] at h
    obtain ⟨h1, h2⟩ := shaped_toPs n xs h
    simp only [toP, PyData.canLay0, PyData.depth]
    exact ⟨h1, Nat.succ_le_succ h2⟩
  | 0, .tup xs, h => by simp only [shp] at h; cases h
  | 0, .lst _ xs, h => by simp only [shp] at h; cases h
  | n, .und, h => by simp only [shp] at h; cases h
  | n, .klst _, h => by simp only [shp] at h; cases h
  | n, .dic _ _ _, h => by simp only [shp] at h; cases h
  | n, .ins _ _ _, h => by simp only [shp] at h; cases h
  | n, .exo _ _ _ _, h => by simp only [shp] at h; cases h
  | n, .fn _, h => by simp only [shp] at h; cases h
theorem shaped_toPs : ∀ (n : Nat) (ds : List D), shps n ds = true → PyData.canLayAll0 (toPs ds) = true ∧ PyData.depthAll (toPs ds) ≤ n
  | n, [], h => ⟨rfl, Nat.zero_le _⟩
  | n, d :: ds, h => by
    simp only [shps, Bool.and_eq_true] at h
    obtain ⟨h1, h2⟩ := shaped_toP n d h.1
    obtain ⟨h3, h4⟩ := shaped_toPs n ds h.2
    simp only [toPs, PyData.canLayAll0, PyData.depthAll, Bool.and_eq_true]
    exact ⟨⟨h1, h3⟩, Nat.max_le.mpr ⟨h2, h4⟩⟩
end
def oEq (g : Bool → Bool) : D → D → (D → Prop) → Prop := fun d e K => shp 60 d = true ∧ shp 60 e = true ∧ K (.bl (g (eqD d e)))
theorem b2_eqD {c : Ct} : B2 c (rEqD c.K) (oEq id) := ⟨fun F H Ω w d e v u h1 h2 K q Q k => by
  obtain ⟨s1, s2, hk⟩ := q
  obtain ⟨a1, a2⟩ := shaped_toP 60 d s1
  obtain ⟨b1, b2⟩ := shaped_toP 60 e s2
  refine ⟨toP d, toP e, vw_dp w 60 d v s1 h1, vw_dp w 60 e u s2 h2, ?_, ?_, ?_⟩
  · unfold SeqAt.shaped
    rw [a1, Bool.true_and]
    exact decide_eq_true (by omega)
  · unfold SeqAt.shaped
    rw [b1, Bool.true_and]
    exact decide_eq_true (by omega)
  · rw [eqv_toP 60 60 d e s1 s2]
    exact k _ hk _ F H (Ext.refl w) fz_bl⟩
theorem b2_neD {c : Ct} : B2 c (rNeD c.K) (oEq not) := ⟨fun F H Ω w d e v u h1 h2 K q Q k => by
  obtain ⟨s1, s2, hk⟩ := q
  obtain ⟨a1, a2⟩ := shaped_toP 60 d s1
  obtain ⟨b1, b2⟩ := shaped_toP 60 e s2
  refine ⟨toP d, toP e, vw_dp w 60 d v s1 h1, vw_dp w 60 e u s2 h2, ?_, ?_, ?_⟩
  · unfold SeqAt.shaped
    rw [a1, Bool.true_and]
    exact decide_eq_true (by omega)
  · unfold SeqAt.shaped
    rw [b1, Bool.true_and]
    exact decide_eq_true (by omega)
  · rw [eqv_toP 60 60 d e s1 s2]
    exact k _ hk _ F H (Ext.refl w) fz_bl⟩
/-! ### is None -/
def oIsN (g : Bool → Bool) : D → D → (D → Prop) → Prop
  | d, .non, K => K (.bl (g (isN d)))
  | _, _, _ => False
theorem vw_nn {c : Ct} {F H : Hp} {Ω : Nm} {d : D} {v : V} (w : Wf F H Ω) (h : Vw c F H d v) : decide (v = .non) = isN d := by
  cases d with
  | non => rw [vw_non h]; rfl
  | und => rcases h with h | ⟨_, _, h⟩ <;> (first | (simp only [Fz] at h; done) | (simp only [Rv] at h; done))
  | bl b => rw [vw_bl h]; rfl
  | int i => rw [vw_int h]; rfl
  | str s => rw [vw_str h]; rfl
  | tup xs => obtain ⟨a, vs, e, _⟩ := h.tup w; rw [e]; rfl
  | lst o xs => obtain ⟨a, vs, e, _⟩ := h.lst w; rw [e]; rfl
  | klst xs => obtain ⟨a, vs, e, _⟩ := h.klst w; rw [e]; rfl
  | dic o ks xs => obtain ⟨a, vs, e, _⟩ := h.dic w; rw [e]; rfl
  | ins o C xs => obtain ⟨a, dx, vs, e, _⟩ := h.ins w; rw [e]; rfl
  | exo a cd C x =>
    have h := h.fz rfl
    simp only [Fz] at h
    rw [h.1]
    rfl
  | fn k =>
    have h := h.fz rfl
    simp only [Fz] at h
    rw [h]
    rfl
theorem b2_isN {c : Ct} : B2 c (fun x y H Q => y = .non ∧ Q (.bl (decide (x = .non))) H) (oIsN id) := ⟨fun F H Ω w d e v u h1 h2 K q Q k => by
  cases e with
  | non => exact ⟨vw_non h2, by rw [vw_nn w h1]; exact k _ q _ F H (Ext.refl w) fz_bl⟩
  | _ => exact q.elim⟩
theorem b2_notN {c : Ct} : B2 c (fun x y H Q => y = .non ∧ Q (.bl (!decide (x = .non))) H) (oIsN not) := ⟨fun F H Ω w d e v u h1 h2 K q Q k => by
  cases e with
  | non => exact ⟨vw_non h2, by rw [vw_nn w h1]; exact k _ q _ F H (Ext.refl w) fz_bl⟩
  | _ => exact q.elim⟩

/-! ### in: one sign in a text -/
def oInS (g : Bool → Bool) : D → D → (D → Prop) → Prop
  | .str [a], .str t, K => K (.bl (g (decide (a ∈ t))))
  | _, _, _ => False
theorem b2_inS {c : Ct} {g : Bool → Bool} : B2 c (fun x y H Q => ∃ (a : Nat) (z : Str), x = .str ⟨#[a]⟩ ∧ y = .str z ∧ Q (.bl (g (decide (a ∈ z.cps.toList)))) H) (oInS g) := ⟨fun F H Ω w d e v u h1 h2 K q Q k => by
  cases d with
  | str s =>
    match s, h1, q with
    | [a], h1, q =>
      cases e with
      | str t => exact ⟨a, _, vw_str h1, vw_str h2, k _ q _ F H (Ext.refl w) fz_bl⟩
      | _ => exact q.elim
    | [], h1, q => exact q.elim
    | _ :: _ :: _, h1, q => exact q.elim
  | _ => exact q.elim⟩

/-! ### subscripts -/
def atD (xs : List D) (i : Int) (K : D → Prop) : Prop := match atI xs i with
  | some d => own d = false ∧ K d
  | none => False
def oIx : D → D → (D → Prop) → Prop
  | .lst _ xs, .int i, K => atD xs i K
  | .klst xs, .int i, K => atD xs i K
  | .tup xs, .int i, K => atD xs i K
  | .str s, .int i, K => s.length ≤ 1000000 ∧ (match atI s i with | some a => K (.str [a]) | none => False)
  | _, _, _ => False
def rIxAll (K : PySem.W.Frag) : R2 := fun x y H Q => rIxL K x y H Q ∨ rIxT K x y H Q ∨ rIxS x y H Q
theorem IxR.or' {X : Cx} {r r' : R2} (h : IxR X r) (g : IxR X r') : IxR X (fun x y H Q => r x y H Q ∨ r' x y H Q) := fun value slice pins s σ H x y v u Q I rx ry q hs =>
  q.elim (fun q => h value slice pins s σ H x y v u Q I rx ry q hs) fun q => g value slice pins s σ H x y v u Q I rx ry q hs
theorem ix_all {X : Cx} : IxR X (rIxAll X.K) := IxR.or' ix_list (IxR.or' ix_tup ix_str)
theorem atI_vw {c : Ct} {F H : Hp} {xs : List D} {vs : List V} {i : Int} {d : D} (f : VwL c F H xs vs) (h : atI xs i = some d) : ∃ v, atI vs i = some v ∧ Vw c F H d v := by
  unfold atI at h ⊢
  rw [← f.1]
  cases q : ixN xs.length i with
  | none => rw [q] at h; cases h
  | some j =>
    rw [q] at h
    exact f.2 j d h
theorem b2_ix {c : Ct} : B2 c (rIxAll c.K) oIx := ⟨fun F H Ω w d e v u h1 h2 K q Q k => by
  cases d with
  | lst o xs =>
    cases e with
    | int i =>
      have q' : atD xs i K := q
      unfold atD at q'
      obtain ⟨a, vs, e1, q1, f1⟩ := h1.lst w
      split at q'
      · rename_i z hz
        obtain ⟨y, y1, y2⟩ := atI_vw f1 hz
        exact .inl ⟨a, vs, i, y, e1, vw_int h2, SqL.of q1, y1, k _ q'.2 _ F H (Ext.refl w) (y2.fz q'.1)⟩
      · exact q'.elim
    | _ => exact q.elim
  | klst xs =>
    cases e with
    | int i =>
      have q' : atD xs i K := q
      unfold atD at q'
      obtain ⟨a, vs, e1, q1, f1⟩ := h1.klst w
      split at q'
      · rename_i z hz
        obtain ⟨y, y1, y2⟩ := atI_vw (FzL.vw f1) hz
        exact .inl ⟨a, vs, i, y, e1, vw_int h2, q1, y1, k _ q'.2 _ F H (Ext.refl w) (y2.fz (H := H) q'.1)⟩
      · exact q'.elim
    | _ => exact q.elim
  | tup xs =>
    cases e with
    | int i =>
      have q' : atD xs i K := q
      unfold atD at q'
      obtain ⟨a, vs, e1, _, q1, f1⟩ := h1.tup w
      split at q'
      · rename_i z hz
        obtain ⟨y, y1, y2⟩ := atI_vw (FzL.vw f1) hz
        exact .inr (.inl ⟨a, vs, i, y, e1, vw_int h2, q1, y1, k _ q'.2 _ F H (Ext.refl w) (y2.fz (H := H) q'.1)⟩)
      · exact q'.elim
    | _ => exact q.elim
  | str s =>
    cases e with
    | int i =>
      have q' : s.length ≤ 1000000 ∧ (match atI s i with | some a => K (.str [a]) | none => False) := q
      obtain ⟨hl, q'⟩ := q'
      split at q'
      · rename_i z hz
        refine .inr (.inr ⟨⟨s.toArray⟩, i, z, vw_str h1, vw_int h2, ?_, hz, k _ q' _ F H (Ext.refl w) (fz_str rfl)⟩)
        show s.toArray.size ≤ sizeLine
        rw [List.size_toArray]
        exact sz_ok hl
      · exact q'.elim
    | _ => exact q.elim
  | _ => exact q.elim⟩

/-! ### slices -/
def tOfP (c : Ct) (W : WX) (T : Env → (R (Option Int) → Env → Prop) → Prop) : TO := fun σ H Q => ∃ F Ω ρ K, Rel c F H Ω ρ σ ∧ T ρ K ∧
  (∀ o ρ', K (.ok o) ρ' → ∀ F' H' Ω', Stp F H Ω F' H' Ω' → Rel c F' H' Ω' ρ' σ → Q o H') ∧ ExW c W F H Ω σ (exK K)
abbrev DP := Env → (R (Option Int) → Env → Prop) → Prop
def dPn : DP := fun ρ K => K (.ok none) ρ
def dPs (T : DE) : DP := fun ρ K => T ρ (onOk K fun d ρ' => match d with | .int i => K (.ok (some i)) ρ' | _ => False)
theorem _root_.L2.PO.imp {X : Cx} {e : Option Expr} {t t' : TO} (h : PO X e t) (k : ∀ σ H Q, t' σ H Q → t σ H Q) : PO X e t' := ⟨fun pins s σ H Q I q => h.run pins s σ H Q I (k σ H Q q)⟩
theorem P_none {X : Cx} {c : Ct} {W : WX} : PO X none (tOfP c W dPn) := po_none.imp fun σ H Q h => by
  obtain ⟨F, Ω, ρ, K, r, t, k, kx⟩ := h
  exact k none ρ t F H Ω (Stp.refl _ _ _) r
theorem P_some {X : Cx} {c : Ct} {W : WX} {e : Expr} {T : DE} (h : PE X e (tOfE c W T)) : PO X (some e) (tOfP c W (dPs T)) := (po_some h).imp fun σ H Q h => by
  obtain ⟨F, Ω, ρ, K, r, t, k, kx⟩ := h
  refine ⟨F, Ω, ρ, _, r, t, fun d ρ' q v F' H' Ω' s r' f => ?_, kx.imp (Stp.refl _ _ _) fun _ _ _ q => q⟩
  cases d with
  | int i =>
    simp only [Fz] at f
    exact ⟨i, f, k _ ρ' q F' H' Ω' s r'⟩
  | _ => exact q.elim
/-- the part of a list from lo to hi -/
def cut {α : Type} (xs : List α) (lo hi : Option Int) : List α := (xs.drop (HT.sIx xs.length 0 lo)).take (HT.sIx xs.length xs.length hi - HT.sIx xs.length 0 lo)
def dSl (O : DO) (L Hh : DP) : DE := fun ρ K => O ρ (onOk K fun o ρ1 => L ρ1 (onOk K fun lo ρ2 => Hh ρ2 (onOk K fun hi ρ3 => match see ρ3 o with
  | .str s => s.length ≤ 1000000 ∧ K (.ok (.str (cut s lo hi))) ρ3
  | .lst _ xs => xs.all (fun d => !own d) = true ∧ K (.ok (.lst false (cut xs lo hi))) ρ3
  | _ => False)))
theorem FzL.take {c : Ct} {F : Hp} : ∀ {ds : List D} {vs : List V} (n : Nat), FzL c F ds vs → FzL c F (ds.take n) (vs.take n)
  | _, _, 0, _ => FzL.nil
  | [], vs, n + 1, h => by
    simp only [FzL] at h
    subst h
    exact FzL.nil
  | d :: ds, vs, n + 1, h => by
    simp only [FzL] at h
    obtain ⟨v, r, e, h1, h2⟩ := h
    subst e
    exact FzL.cons h1 (FzL.take n h2)
theorem FzL.drop {c : Ct} {F : Hp} : ∀ {ds : List D} {vs : List V} (n : Nat), FzL c F ds vs → FzL c F (ds.drop n) (vs.drop n)
  | _, _, 0, h => h
  | [], vs, n + 1, h => by
    simp only [FzL] at h
    subst h
    exact FzL.nil
  | d :: ds, vs, n + 1, h => by
    simp only [FzL] at h
    obtain ⟨v, r, e, h1, h2⟩ := h
    subst e
    exact FzL.drop n h2
theorem E_sl {X : Cx} {c : Ct} {W : WX} {e : Expr} {lo hi : Option Expr} {p2 pos : Pos} {O : DO} {L Hh : DP} (hK : c.K = X.K) (ho : PE X e (tOfO c W O)) (hl : PO X lo (tOfP c W L)) (hh : PO X hi (tOfP c W Hh)) : PE X (.Subscript e (.Slice lo hi none p2) pos) (tOfE c W (dSl O L Hh)) :=
  (pe_slice (SlR.or sl_str sl_list) ho hl hh).imp fun σ H Q h => by
    obtain ⟨F, Ω, ρ, K, r0, ht, k, kx⟩ := h
    refine ⟨F, Ω, ρ, _, r0, ht, fun o ρ1 q1 v F1 H1 Ω1 s1 r1 f1 => ?_, kx.imp (Stp.refl _ _ _) fun _ _ _ q => q⟩
    refine ⟨F1, Ω1, ρ1, _, r1, q1, fun l ρ2 q2 F2 H2 Ω2 s2 r2 => ?_, kx.imp s1 fun _ _ _ q => q⟩
    refine ⟨F2, Ω2, ρ2, _, r2, q2, fun u ρ3 q3 F3 H3 Ω3 s3 r3 => ?_, kx.imp (s1.trans s2) fun _ _ _ q => q⟩
    have q3' : (match see ρ3 o with
      | .str s => s.length ≤ 1000000 ∧ K (.ok (.str (cut s l u))) ρ3
      | .lst _ xs => xs.all (fun d => !own d) = true ∧ K (.ok (.lst false (cut xs l u))) ρ3
      | _ => False) := q3
    have hn : nz (see ρ3 o) = true := by
      cases e : see ρ3 o <;> rw [e] at q3' <;> first | rfl | exact q3'.elim
    have vw := ((f1.mono s2.ef).mono s3.ef).vw r3 hn
    have st := (s1.trans s2).trans s3
    cases e : see ρ3 o with
    | str s =>
      rw [e] at q3' vw
      refine .inl ⟨⟨s.toArray⟩, vw_str vw, ?_, k _ ρ3 q3'.2 _ F3 H3 Ω3 st r3 (fz_str ?_)⟩
      · show s.toArray.size ≤ sizeLine
        rw [List.size_toArray]
        exact sz_ok q3'.1
      · show ((s.drop _).take _).toArray.toList = _
        unfold cut
        simp [PySem.Str.length]
    | lst o' xs =>
      rw [e] at q3' vw
      obtain ⟨a, vs, e1, h1, h2⟩ := vw.lst r3.wf
      have hf := h2.fz q3'.1
      refine .inr ⟨a, vs, e1, by rw [← hK]; exact SqL.of h1, fun p hp => ?_⟩
      have ex := Ext.new (o := .lst (cutV vs l u)) r3.wf hp
      refine k _ ρ3 q3'.2 _ _ _ Ω3 (st.trans ex.stp) (r3.ext ex) ?_
      simp only [Fz]
      refine ⟨p, _, rfl, upd_same, FzL.mono ex.ef _ _ ?_⟩
      unfold cutV cut
      rw [← hf.length]
      exact FzL.take _ (FzL.drop _ hf)
    | _ => rw [e] at q3'; exact q3'.elim

/-! ### built-ins -/
def oLen : List D → (D → Prop) → Prop
  | [.lst _ xs], K => K (.int xs.length)
  | [.klst xs], K => K (.int xs.length)
  | [.tup xs], K => K (.int xs.length)
  | [.str s], K => s.length ≤ 1000000 ∧ K (.int s.length)
  | _, _ => False
theorem one_of {c : Ct} {F H : Hp} {d : D} {vs : List V} (hl : [d].length = vs.length) (hv : ∀ (i : Nat) d' v, [d][i]? = some d' → vs[i]? = some v → Vw c F H d' v) : ∃ v, vs = [v] ∧ Vw c F H d v := by
  match vs, hl with
  | [v], _ => exact ⟨v, rfl, hv 0 d v rfl rfl⟩
theorem CallR.or' {X : Cx} {f : Value} {r r' : List V → Hp → VK → Prop} (h : CallR X f r) (g : CallR X f r') : CallR X f (fun xs H Q => r xs H Q ∨ r' xs H Q) := fun pins s σ H xs us Q I rx q =>
  q.elim (fun q => h pins s σ H xs us Q I rx q) fun q => g pins s σ H xs us Q I rx q
def rLen (K : PySem.W.Frag) : List V → Hp → VK → Prop := fun xs H Q => (∃ p ys, xs = [.ref p] ∧ (SqL K H p ys ∨ SqT K H p ys) ∧ Q (.int ys.length) H) ∨ ∃ z, xs = [.str z] ∧ z.length ≤ sizeLine ∧ Q (.int z.length) H
theorem cr_len {X : Cx} : CallR X (.builtin "len") (rLen X.K) := CallR.or' call_len_seq call_len_str
theorem ba_len {c : Ct} : BA c (rLen c.K) oLen := ⟨fun F H Ω w ds vs hl hv K q Q k => by
  match ds, hl, hv, q with
  | [.lst o xs], hl, hv, q =>
    obtain ⟨v, e, h⟩ := one_of hl hv
    obtain ⟨a, ys, e1, h1, h2⟩ := h.lst w
    refine .inl ⟨a, ys, by rw [e, e1], .inl (SqL.of h1), ?_⟩
    rw [← h2.1]
    exact k _ q _ F H (Ext.refl w) fz_int
  | [.klst xs], hl, hv, q =>
    obtain ⟨v, e, h⟩ := one_of hl hv
    obtain ⟨a, ys, e1, h1, h2⟩ := h.klst w
    refine .inl ⟨a, ys, by rw [e, e1], .inl h1, ?_⟩
    rw [← h2.length]
    exact k _ q _ F H (Ext.refl w) fz_int
  | [.tup xs], hl, hv, q =>
    obtain ⟨v, e, h⟩ := one_of hl hv
    obtain ⟨a, ys, e1, _, h1, h2⟩ := h.tup w
    refine .inl ⟨a, ys, by rw [e, e1], .inr h1, ?_⟩
    rw [← h2.length]
    exact k _ q _ F H (Ext.refl w) fz_int
  | [.str s], hl, hv, q =>
    obtain ⟨v, e, h⟩ := one_of hl hv
    refine .inr ⟨⟨s.toArray⟩, by rw [e, vw_str h], ?_, ?_⟩
    · show s.toArray.size ≤ sizeLine
      rw [List.size_toArray]
      exact sz_ok q.1
    · show Q (.int (s.toArray.size : Nat)) H
      rw [List.size_toArray]
      exact k _ q.2 _ F H (Ext.refl w) fz_int⟩
def oAbs : List D → (D → Prop) → Prop
  | [.int i], K => K (.int (if i < 0 then -i else i))
  | _, _ => False
theorem ba_abs {c : Ct} : BA c (fun xs H Q => ∃ i, xs = [.int i] ∧ Q (.int (if i < 0 then -i else i)) H) oAbs := ⟨fun F H Ω w ds vs hl hv K q Q k => by
  match ds, hl, hv, q with
  | [.int i], hl, hv, q =>
    obtain ⟨v, e, h⟩ := one_of hl hv
    exact ⟨i, by rw [e, vw_int h], k _ q _ F H (Ext.refl w) fz_int⟩⟩
def oInt1 : List D → (D → Prop) → Prop
  | [.int i], K => K (.int i)
  | [.bl b], K => K (.int (if b then 1 else 0))
  | _, _ => False
theorem ba_int {c : Ct} : BA c (fun xs H Q => (∃ i, xs = [.int i] ∧ Q (.int i) H) ∨ ∃ k, xs = [.bl k] ∧ Q (.int (if k then 1 else 0)) H) oInt1 := ⟨fun F H Ω w ds vs hl hv K q Q k => by
  match ds, hl, hv, q with
  | [.int i], hl, hv, q =>
    obtain ⟨v, e, h⟩ := one_of hl hv
    exact .inl ⟨i, by rw [e, vw_int h], k _ q _ F H (Ext.refl w) fz_int⟩
  | [.bl i], hl, hv, q =>
    obtain ⟨v, e, h⟩ := one_of hl hv
    exact .inr ⟨i, by rw [e, vw_bl h], k _ q _ F H (Ext.refl w) fz_int⟩⟩
/-- the truth values of a list -/
def bls : List D → Option (List Bool)
  | [] => some []
  | .bl b :: ds => (bls ds).map (b :: ·)
  | _ :: _ => none
def oAll (g : List Bool → Bool) : List D → (D → Prop) → Prop
  | [.lst _ xs], K => (match bls xs with | some bs => K (.bl (g bs)) | none => False)
  | _, _ => False
theorem bls_vw {c : Ct} {F H : Hp} : ∀ {xs : List D} {vs : List V} {bs : List Bool}, bls xs = some bs → VwL c F H xs vs → vs = bs.map V.bl
  | [], vs, bs, h, f => by
    cases h
    have := f.1
    simpa using this.symm
  | .bl b :: ds, vs, bs, h, f => by
    simp only [bls] at h
    cases q : bls ds with
    | none => rw [q] at h; cases h
    | some bs' =>
      rw [q] at h
      cases h
      cases vs with
      | nil => have := f.1; simp at this
      | cons v vs =>
        obtain ⟨u, q1, q2⟩ := f.2 0 _ rfl
        have e : u = v := by simpa using q1.symm
        subst e
        rw [vw_bl q2, bls_vw (vs := vs) q ⟨by simpa using f.1, fun i x e => f.2 (i + 1) x (by simpa using e)⟩]
        rfl
theorem ba_all {c : Ct} {g : List Bool → Bool} : BA c (fun vs H Q => ∃ (a : Addr) (bs : List Bool), vs = [V.ref a] ∧ SqL c.K H a (bs.map V.bl) ∧ Q (.bl (g bs)) H) (oAll g) := ⟨fun F H Ω w ds vs hl hv K q Q k => by
  match ds, hl, hv, q with
  | [.lst o xs], hl, hv, q =>
    obtain ⟨v, e, h⟩ := one_of hl hv
    obtain ⟨a, ys, e1, h1, h2⟩ := h.lst w
    have q' : (match bls xs with | some bs => K (.bl (g bs)) | none => False) := q
    cases z : bls xs with
    | none => rw [z] at q'; exact q'.elim
    | some bs =>
      rw [z] at q'
      have e2 := bls_vw z h2
      exact ⟨a, bs, by rw [e, e1], SqL.of (by rw [h1, e2]), k _ q' _ F H (Ext.refl w) fz_bl⟩⟩
end Vi
/-! Vi8: the package's errors: a base class over ValueError whose __init__ says super().__init__(what); self.what = what; classes below it without a body. -/
namespace PySem
namespace AnyX
open PySem.W PySem.Calls PyProof.Rows PySem.HandSPX

/-! ### the text of __init__ -/
def aArgs (p1 p2 p3 : Pos) : Arguments :=
  { posonlyargs := [], args := [{ arg := "self", annotation := none, pos := p1 }, { arg := "what", annotation := none, pos := p2 }], vararg := none, kwonlyargs := [], kw_defaults := [], kwarg := none, defaults := [.Constant .none 0 p3] }
def aBody (q1 q2 q3 q4 q5 q6 r1 r2 r3 r4 : Pos) : List Stmt :=
  [.Expr (.Call (.Attribute (.Call (.Name "super" q1) [] [] q2) "__init__" q3) [.Name "what" q4] [] q5) q6,
   .Assign [.Attribute (.Name "self" r1) "what" r2] (.Name "what" r3) r4]
def aScope : Scope := { kind := .function, names := [(PySem.Str.ofString "self", .local), (PySem.Str.ofString "what", .local), (PySem.Str.ofString "__class__", .free), (PySem.Str.ofString "super", .globalImplicit)], isGenerator := false, isCoroutine := false, more := [] }
/-- the base class at D, its __init__ at fI -/
structure Base (prog : Program) (K : Frag) (D fI : Addr) : Prop where
  fn : ∃ (oc : Value) (od : Option Addr) (dT : Addr) (oT : Obj) (nT : Nat) (kV doc pm : Value) (an : Option Addr) (cda cc : Addr) (ct : Value) (osl : Array (Option Value)) (p1 p2 p3 q1 q2 q3 q4 q5 q6 r1 r2 r3 r4 : Pos) (cl : Value) (cld : Option Addr) (csl : Array (Option Value))
      (ccl : Value) (cdd : Option Addr) (vs : Array Value) (ccs : Array (Option Value)) (file : Str) (tf : Tok),
    K.lookup fI = some ⟨oc, od, .func (ksFn "__init__" "AnytextError.__init__" (aArgs p1 p2 p3) (aBody q1 q2 q3 q4 q5 q6 r1 r2 r3 r4) aScope (.ref dT) kV doc pm an (.ref cda) ct cc), osl⟩ ∧ K.lookup dT = some oT ∧ oT.data = .seq #[.none] nT ∧
    codeIn K (.ref cda) "AnytextError.__init__" = true ∧ K.lookup cc = some ⟨cl, cld, .cell (some (.ref D)), csl⟩ ∧
    K.lookup cda = some ⟨ccl, cdd, .fields vs, ccs⟩ ∧ vs[2]? = some (.str file tf) ∧ ((prog.main.file : Str) == file) = true ∧ (q3.endLine == q5.line) = true
  cls : ∃ cd, clsIn K D = some cd
  top : (prog.main.scope.names.lookup ("super" : Str)).isSome = false
  any : nsIn K cStatics "thirdparty.any" = some none
  tI : typeIn K (.ref fI) = some (.type "function")
/-- the arguments of a call, and what becomes of them -/
def Gives (us : List Value) (v : Value) : Prop := us = [v] ∨ (us = [] ∧ v = .none)
/-- a class of the family, at C -/
structure Kind (K : Frag) (D fI C : Addr) : Prop where
  cls : ∃ nm q N bs bm sn sub ab col dd k0 k1 k2 k3 k5, K.lookup C = some (excClassObj nm q C N bs bm true sn sub ab col dd k0 k1 k2 k3 k5 "ValueError.__new__") ∧ refsVE bm = true ∧
    alongIn K "__init__" (((Value.ref C :: bm).dropWhile (· != .ref D)).drop 1) = some (some (.builtin "ValueError.__init__"))
  sa : findIn K (.ref C) "__setattr__" = some (some (.builtin "object.__setattr__"))
  ga : findIn K (.ref C) "__getattribute__" = some (some (.builtin "BaseException.__getattribute__"))
  gg : findIn K (.ref C) "__getattr__" = some none
  noW : findIn K (.ref C) "what" = some none
  iC : findIn K (.ref C) "__init__" = some (some (.ref fI))
  kC : keepIn K (.ref C) = true
  exC : subIn K (.ref C) (.type "BaseException") = some true
  veC : subIn K (.ref C) (.type "ValueError") = some true
  tyC : typeIn K (.ref C) = some (.type "type")
  hdC : hasDictIn K C = true
  sD : mroIn K C (.ref D) = some true
structure InitEnd (h h' : Heap) (x C dx t1 : Addr) (v : Value) : Prop where
  keep : ∀ b o, b ≠ x → h.get? b = some o → h'.get? b = some o
  obj : h'.get? x = some { cls := .ref C, dict := some dx, data := .fields #[.ref t1, .none, .none, .none, .bool false, .none] }
  dbig : h.objs.size ≤ dx
  dne : dx ≠ x
  ns : h'.Ns1 dx (fun y => if y = "what" then some v else none)
section
variable {prog : Program} {w : World} {M : Model} {A : Around} {E : Value → Shared → Prop} {R : Result → Shared → Prop} {s : Shared} {K : Frag} {mg mb : Str → Option Value} {D fI C : Addr}
theorem ld {env : Env} {m : Str → Option Value} {x : Str} {pos : Pos} {v : Value} {Q : Value → Shared → Prop} (hn : s.heap.Ns env.locals m) (hv : m x = some v) (h : Q v s)
    (hk : env.scope.kind = .function := by rfl) (hl : env.kindOf x = some .local := by rfl) (hd : (x == ("__debug__" : Str)) = false := by decide) : wpAny M A (eval (.Name x pos) env) Q E s :=
  wpAny_Name (wpAny_loadName_local hk hl hn hv h) hd
/-- the built-in __init__, bound to x, called -/
theorem bound_init {u x t0 : Addr} {rest : List Value} {Q : Value → Shared → Prop} {nm q : Str} {N : Addr} {bs bm : List Value} {sn : List Str} {sub : List Value} {ab : Bool} {col : Option Bool} {dd : Option Addr} {k0 k1 k2 k3 k5 : Option Value}
    (hu : s.heap.get? u = some (kxs_mw "ValueError.__init__" x)) (hC : s.heap.get? C = some (excClassObj nm q C N bs bm true sn sub ab col dd k0 k1 k2 k3 k5 "ValueError.__new__")) (he : s.heap.get? x = some (excO C t0)) (hz : rest.length ≤ sizeLine)
    (hq : ∀ h' t1, (∀ b o, b ≠ x → s.heap.get? b = some o → h'.get? b = some o) → h'.get? x = some (excO C t1) → Q .none { s with heap := h' }) : wpAny (model prog w) A (call (.ref u) rest) Q E s := by
  obtain ⟨hh, g, d, tk, os⟩ := s
  refine wpAny_call (codeAny_of_tree ?_)
  show wpAny (model prog w) A.in1 (callAny (.ref u) ⟨rest, []⟩) _ _ ⟨hh, g, d, tk, os⟩
  unfold callAny
  refine wpAny_bind (wpAny_load hu ?_)
  simp only [kxs_mw, show (Value.type "method-wrapper" == Value.type "method" || Value.type "method-wrapper" == Value.type "builtin_function_or_method" || Value.type "method-wrapper" == Value.type "method-wrapper") = true by decide, if_true]
  refine KFB.if_so (by decide) (wpAny_bind (check_bound_init (F.excBase_ValueError).toExcCallFacts hC he rfl ?_))
  refine wpAny_bind (wpAny_pure (wpAny_pure ⟨plainId_quiet (F.excBase_ValueError).init.plain _, codeAny_builtin (F.excBase_ValueError).initEntry ?_⟩))
  exact exc_init_tree (cls := .ref C) (t0 := t0) (dv := none) (c2 := .none) (c3 := .none) (b4 := .bool false) he hz fun h' k e _ => hq h' _ k e
theorem any_init (B : Base prog K D fI) (T : Kind K D fI C) {x t0 : Addr} {v : Value} {us : List Value} (X : K.In s.heap) (G : s.heap.Ns mainGlobals mg) (Bt : s.heap.Ns builtinsNs mb) (hb : mb "super" = some (.type "super")) (hg : mg "super" = none) (hlim : s.heap.NoLimit)
    (hx : s.heap.get? x = some (excO C t0)) (hnx : K.lookup x = none) (hroom : A.depth < recursionLimit)
    (gv : Gives us v)
    (hq : ∀ h' tk dx t1, InitEnd s.heap h' x C dx t1 v → R (.ok (.ret .none)) { s with heap := h', toks := tk }) :
    codeAny (model prog w) A (.call (.ref fI) ⟨.ref x :: us, []⟩) R s := by
  obtain ⟨oc, od, dT, oT, nT, kV, doc, pm, an, cda, cc, ct, osl, p1, p2, p3, q1, q2, q3, q4, q5, q6, r1, r2, r3, r4, cl, cld, csl, ccl, cdd, vs, ccs, file, tf, lf, lT, dT', hcode, lcc, lcd, hvs, hfile, hline⟩ := B.fn
  obtain ⟨cdD, hD⟩ := B.cls
  obtain ⟨nm, q, N, bs, bm, sn, sub, ab, col, dd, k0, k1, k2, k3, k5, hC, hbm, hal⟩ := T.cls
  have hcl : clsIn K C = some { name := nm, bases := bs, mro := .ref C :: bm, ns := N, qualname := q, hasDict := true, slotNames := sn, subclasses := sub, abstract := ab, collection := col, hasDel := false } := by
    unfold clsIn
    rw [hC]
    all_goals rfl
  have hbnd : BindsTo s (ksFn "__init__" "AnytextError.__init__" (aArgs p1 p2 p3) (aBody q1 q2 q3 q4 q5 q6 r1 r2 r3 r4) aScope (.ref dT) kV doc pm an (.ref cda) ct cc) ⟨.ref x :: us, []⟩ [("self", .ref x), ("what", v)] := by
    rcases gv with rfl | ⟨rfl, rfl⟩
    · exact binds_K X rfl lT dT' (by first | rfl | with_unfolding_all rfl) (by first | rfl | with_unfolding_all rfl)
    · exact binds_K X rfl lT dT' (by first | rfl | with_unfolding_all rfl) (by first | rfl | with_unfolding_all rfl)
  have hcell : ∀ y ∈ aScope.names, y.2 ≠ .cell := by decide
  have hloc : ∀ y ∈ [(("self" : Str), Value.ref x), ("what", v)], aScope.names.lookup y.1 = some .local := by
    intro y hy
    rcases List.mem_cons.mp hy with rfl | hy
    · rfl
    · rcases List.mem_cons.mp hy with rfl | hy
      · rfl
      · cases hy
  refine ks_codeAny_call_defAt (fd := ksFn "__init__" "AnytextError.__init__" (aArgs p1 p2 p3) (aBody q1 q2 q3 q4 q5 q6 r1 r2 r3 r4) aScope (.ref dT) kV doc pm an (.ref cda) ct cc) (body := aBody q1 q2 q3 q4 q5 q6 r1 r2 r3 r4) (binds := [("self", .ref x), ("what", v)]) hroom (X _ _ lf) rfl hlim (codeRec_of X hcode) rfl hbnd hcell hloc (fun h1 hns k1 => ?_) rfl rfl rfl
  have X1 : K.In h1 := X.keeps k1
  have hx1 := k1 _ _ hx
  have hxL : s.heap.objs.size ≠ x := Nat.ne_of_gt (Heap.lt_size hx)
  have I : InstAt h1 x (excO C t0) C none := ⟨hx1, rfl, rfl, trivial⟩
  obtain ⟨oD, hD1, hD2⟩ : ∃ oD, h1.get? D = some oD ∧ oD.data = .cls cdD := by
    unfold clsIn at hD
    split at hD
    · rename_i c d cd' sl ho
      cases hD
      exact ⟨_, X1 _ _ ho, rfl⟩
    · cases hD
  have G1 := G.keeps k1
  have B1 := Bt.keeps k1
  obtain ⟨hh, g, dr, tk, os⟩ := s
  generalize hL : hh.objs.size = L at hns hxL
  refine ks_wpAt_execs_cons (ks_wpAt_Expr_any ?_)
  have hev : ∃ pl : Sem Bool, eval (.Call (.Attribute (.Call (.Name "super" q1) [] [] q2) "__init__" q3) [.Name "what" q4] [] q5) (ksEnv "AnytextError.__init__" aScope L fI (.ref cda) cc) = (do
      let ov ← attributeBase (.Call (.Name "super" q1) [] [] q2) "__init__" (ksEnv "AnytextError.__init__" aScope L fI (.ref cda) cc) (eval (.Call (.Name "super" q1) [] [] q2) (ksEnv "AnytextError.__init__" aScope L fI (.ref cda) cc))
      standAt q3.atName
      let (f, first) ← holding [ov] (getMethod ov "__init__" pl)
      callWith q5 f first (backTo q5 (starEach [.Name "what" q4] (ksEnv "AnytextError.__init__" aScope L fI (.ref cda) cc))) []) := by
    refine ⟨(do return (← importBound (.Call (.Name "super" q1) [] [] q2) (ksEnv "AnytextError.__init__" aScope L fI (.ref cda) cc)).getD true), ?_⟩
    show (do
      let ov ← attributeBase (.Call (.Name "super" q1) [] [] q2) "__init__" (ksEnv "AnytextError.__init__" aScope L fI (.ref cda) cc) (eval (.Call (.Name "super" q1) [] [] q2) (ksEnv "AnytextError.__init__" aScope L fI (.ref cda) cc))
      standAt q3.atName
      methodCall (.Call (.Name "super" q1) [] [] q2) "__init__" q3 q5 (ksEnv "AnytextError.__init__" aScope L fI (.ref cda) cc) ov 1 (backTo q5 (starEach [.Name "what" q4] (ksEnv "AnytextError.__init__" aScope L fI (.ref cda) cc))) []) = _
    unfold methodCall methodCallPos
    rw [hline, Bool.or_true]
    rfl
  obtain ⟨pl, hev⟩ := hev
  refine ks_wpAt_MethodCall (env := ksEnv "AnytextError.__init__" aScope L fI (.ref cda) cc) (pl := pl) ?_ hev
  refine ks_wpAt_super_base (env := ksEnv "AnytextError.__init__" aScope L fI (.ref cda) cc) rfl rfl rfl rfl (X1 _ _ lf) rfl rfl rfl (X1 _ _ lcd) rfl hvs hfile B.top ?_
  refine ks_loadName_global rfl rfl (loadGlobal_builtin (env := ksEnv "AnytextError.__init__" aScope L fI (.ref cda) cc) G1 hg B1 hb ⟨rfl, ?_⟩)
  refine wpAny_loadName_free rfl rfl rfl ⟨_, X1 _ _ lcc, rfl⟩ ?_
  refine wpAny_loadName_local (v := .ref x) rfl rfl hns (by rfl) ?_
  refine ks_wpAny_isType_cls hD1 hD2 ⟨rfl, ?_⟩
  refine ks_wpAny_call_super hD1 hD2 hx1 rfl (fun c e => ?_) (looks_mroIn X1 T.sD) (fun h2 e2 k2 => ?_)
  · cases e
  have X2 : K.In h2 := X1.keeps k2
  have hx2 := k2 _ _ hx1
  have hC2 := X2 _ _ hC
  have I2 : InstAt h2 x (excO C t0) C none := ⟨hx2, rfl, rfl, trivial⟩
  refine kxs_getMethod kxs_ValueError e2 (looks_opaque X2 B.any) (l₀ := .ref C :: bm) (fun A Q E s k q => wpAny_bind ((looks_clsIn X2 hcl) A _ E s k (wpAny_pure q))) rfl X2 hal (I2.type.andThen (looks_subIn X2 T.veC)) (fun z => ?_) (by decide) ?_
  · subst z
    rw [hnx] at hC
    cases hC
  have k3 : ∀ b o, h2.get? b = some o → (h2.push (kxs_mw "ValueError.__init__" x)).get? b = some o := fun b o e => Heap.get?_push_of_some _ e
  have hu : (h2.push (kxs_mw "ValueError.__init__" x)).get? h2.objs.size = some (kxs_mw "ValueError.__init__" x) := Heap.get?_push_at rfl rfl
  have hns3 := (hns.keeps k2).keeps k3
  have X3 : K.In (h2.push (kxs_mw "ValueError.__init__" x)) := X2.keeps k3
  refine kxs_callWith (i := "ValueError.__init__") (x := x) rfl (evalArgs_plain (spliced_cons (ld (v := v) hns3 (by rfl) (spliced_nil ⟨hu, ?_⟩))))
  refine bound_init (C := C) hu (X3 _ _ hC) (k3 _ _ hx2) (by rw [sizeLine_eq]; exact (by decide : 1 ≤ 16777216)) fun h4 t1 k4 hx4 => ?_
  -- self.what = what
  have k5 : ∀ b o, b ≠ x → h1.get? b = some o → h4.get? b = some o := fun b o hb e => k4 b o hb (k3 b o (k2 b o e))
  have X4 : K.In h4 := fun a o e => k4 a o (fun z => by subst z; rw [show K.lookup a = none from hnx] at e; cases e) (X3 a o e)
  have hns4 : h4.Ns L (fun y => List.lookup y [(("self" : Str), Value.ref x), ("what", v)].reverse) := by
    obtain ⟨oL, es, ep, q1, r⟩ := hns3
    exact ⟨oL, es, ep, k4 _ _ hxL q1, r⟩
  refine ks_wpAt_execs_cons (wpAt_of_wpAny (plainObj_wpAny_Assign_Attribute ?_))
  refine ld (v := v) hns4 (by rfl) (ld (v := .ref x) hns4 (by rfl) ?_)
  refine set_plain X4 (ox := excO C t1) (od := none) ⟨hx4, rfl, rfl, trivial⟩ T.sa ?_
  refine exc_osa X4 hx4 hcl (show refsVE (.ref C :: bm) = true from hbm) rfl T.noW (fun h5 tk5 dx k6 dn dne hx5 hn5 => ?_)
  have z : hh.objs.size ≤ dx := by
    rw [hL]
    exact Nat.le_of_lt (Nat.lt_of_lt_of_le hns4.lt dn)
  exact wpAt_of_wpAny (wpAny_execs_nil (hq h5 _ dx t1 ⟨fun b o hb e => k6 b o hb (k5 b o hb (k1 b o e)), hx5, z, dne, hn5⟩))
/-- what a call of a class of the family makes -/
structure Made (h h' : Heap) (e C d : Addr) (v : Value) : Prop where
  old : ∀ b o, h.get? b = some o → h'.get? b = some o
  new : h.objs.size ≤ e
  obj : ∃ oe vs, h'.get? e = some oe ∧ oe.cls = .ref C ∧ oe.dict = some d ∧ oe.data = .fields vs ∧ vs[1]? = some .none
  dbig : h.objs.size ≤ d
  dne : d ≠ e
  ns : h'.Ns1 d (fun y => if y = "what" then some v else none)
theorem any_made (B : Base prog K D fI) (T : Kind K D fI C) {v : Value} {rest : List Value} (X : K.In s.heap) (G : s.heap.Ns mainGlobals mg) (Bt : s.heap.Ns builtinsNs mb) (hb : mb "super" = some (.type "super")) (hg : mg "super" = none)
    (hlim : s.heap.NoLimit) (hroom : A.depth + 1 < recursionLimit)
    (gv : Gives rest v)
    (hq : ∀ h' tk e d, Made s.heap h' e C d v → R (.ok (.ret (.ref e))) { s with heap := h', toks := tk }) :
    codeAny (model prog w) A (.call (.ref C) ⟨rest, []⟩) R s := by
  obtain ⟨nm, q, N, bs, bm, sn, sub, ab, col, dd, k0, k1, k2, k3, k5, hC, hbm, hal⟩ := T.cls
  obtain ⟨hp, g, dr, tk, os⟩ := s
  have k : ∀ b o, hp.get? b = some o → ((hp.push (kdv_tup rest)).push (excO C hp.objs.size)).get? b = some o := fun b o e => Heap.get?_push_of_some _ (Heap.get?_push_of_some _ e)
  have hget : ((hp.push (kdv_tup rest)).push (excO C hp.objs.size)).get? (hp.objs.size + 1) = some (excO C hp.objs.size) := by heap_get
  have hnx : K.lookup (hp.objs.size + 1) = none := by
    cases e : K.lookup (hp.objs.size + 1) with
    | none => rfl
    | some o =>
      have z : hp.get? (hp.objs.size + 1) = some o := X _ _ e
      exact absurd (Nat.lt_of_succ_lt (Heap.lt_size z)) (Nat.lt_irrefl _)
  have hrest1 : rest.length ≤ 1 := by
    rcases gv with rfl | ⟨rfl, _⟩
    · exact Nat.le_refl 1
    · exact Nat.zero_le 1
  have hsz : rest.length ≤ sizeLine := Nat.le_trans hrest1 (by rw [sizeLine_eq]; exact (by decide : 1 ≤ 16777216))
  refine call_own F.excBase_ValueError (fun X => refsVE_contains X bm hbm) (X _ _ hC) (looks_findIn X T.iC) (fun self => bind_fn X self B.tI) hsz ?_
  refine any_init (s := ⟨(hp.push (kdv_tup rest)).push (excO C hp.objs.size), g, dr, tk, os⟩) B T (X.keeps k) (G.keeps k) (Bt.keeps k) hb hg (hlim.keeps k) hget hnx ?_ gv fun h' tk' dx t1 M => ?_
  · show A.depth + 1 < recursionLimit
    exact hroom
  · have old : ∀ b o, hp.get? b = some o → h'.get? b = some o := fun b o e => M.keep b o (Nat.ne_of_lt (Nat.lt_succ_of_lt (Heap.lt_size e))) (k b o e)
    have z : hp.objs.size + 1 + 1 ≤ dx := by
      have q := M.dbig
      rw [Heap.size_push, Heap.size_push] at q
      exact q
    exact ⟨rfl, hq h' tk' (hp.objs.size + 1) dx ⟨old, Nat.le_succ _, ⟨_, _, M.obj, rfl, rfl, rfl, rfl⟩, Nat.le_trans (Nat.le_trans (Nat.le_succ _) (Nat.le_succ _)) z, M.dne, M.ns⟩⟩
end
end AnyX
end PySem
/-! Vi9: raise of an own error, try with one clause that names it, what the clause's suite asks of it. -/
namespace Vi
open PySem L2 PySem.Spec PyProof.Rows PySem.AnyX

theorem relO_what {v : V} {v' : Value} (r : RelV v v') (f : Str) : RelO (List.lookup f [(("what" : Str), v)]) (if f = "what" then some v' else none) := by
  by_cases hw : f = "what"
  · subst hw
    rw [if_pos rfl]
    have q : List.lookup ("what" : Str) [(("what" : Str), v)] = some v := by simp [List.lookup]
    rw [q]
    exact r
  · rw [if_neg hw]
    have qw : (f == ("what" : Str)) = false := by simpa using hw
    have q2 : List.lookup f [(("what" : Str), v)] = none := by simp [List.lookup, qw]
    rw [q2]
    trivial

section
variable {X : Cx} {D fI C : Addr}
/-- the family's class at C called with us in a calm state -/
theorem mk_any {v : V} {v' : Value} {us : List Value} {k : Nat} {pins : List (Addr × Obj)} {s1 : Shared} {σ : L2.St} {H1 : Hp} {Q : XK} (B : Base X.prog X.K D fI) (T : Kind X.K D fI C) (hg : X.mg "super" = none) (hr : Room (k + 1) X.A) (I1 : Inv X pins σ H1 s1) (rv : RelV v v')
    (gv : Gives us v')
    (q1 : ∀ d, H1 d = none → Q (.ref C) (some d) (upd H1 d (.xd [(("what" : Str), v)]))) :
    wpAny (model X.prog X.w) X.A (call (.ref C) us) (MkP X pins σ Q) X.xe s1 := by
  have hlim := I1.nolimit
  obtain ⟨mb, hB, hmb⟩ := I1.mod.blt
  obtain ⟨hp, g, dr, tk, os⟩ := s1
  refine wpAny_call (any_made B T I1.kIn (I1.mod.glob.keeps I1.bk) (hB.keeps I1.bk) ((hmb "super" (by decide)).trans (by decide +kernel)) hg hlim (by have := hr.dp; show X.A.depth + 1 < _; omega) gv fun h' tk' e d M => ?_)
  show MkP X pins σ Q (.ref e) ⟨h', g, dr, tk', os⟩
  obtain ⟨oe, fv, hoe, hc, hd, hdat, h1⟩ := M.obj
  have hns := M.ns
  obtain ⟨G', g1, g2⟩ := restrict h' fun b => decide (b ≠ e)
  have gk : ∀ b, b ≠ e → G'.get? b = h'.get? b := fun b hb => g1 b (decide_eq_true hb)
  have ge : G'.get? e = none := g2 e (by simp)
  have old : ∀ b o, hp.get? b = some o → G'.get? b = some o := fun b o q => (gk b (Nat.ne_of_lt (Nat.lt_of_lt_of_le (Heap.lt_size q) M.new))).trans (M.old b o q)
  have ob : ObjOk X.prog X.w (upd H1 d (.xd [(("what" : Str), v)])) G' d (.xd [(("what" : Str), v)]) :=
    ⟨_, hns.at (fun o q => (gk d M.dne).trans q), fun f => relO_what rv f⟩
  have J : Inv X pins σ (upd H1 d (.xd [(("what" : Str), v)])) ⟨G', g, dr, tk', os⟩ := I1.laid (t' := tk') old M.dbig ob
  refine ⟨e, oe, fv, ⟨G', g, dr, tk', os⟩, _, .ref C, some d, rfl, J, fun b o q => ?_, ge, hoe, ⟨hc, hd⟩, hdat, h1, ?_, rfl, I1.bare, raises_own T.exC T.tyC, q1 d (I1.hok.fresh M.dbig)⟩
  · by_cases hb : b = e
    · have q' : G'.get? b = some o := q
      rw [hb, ge] at q'; cases q'
    · exact (gk b hb).symm.trans q
  · rw [upd_ne (Ne.symm M.dne)]
    exact I1.hok.fresh M.new
theorem pmk_any {a : Expr} {ta : TA} {nm : Str} {p pos : Pos} {k : Nat} (B : Base X.prog X.K D fI) (T : Kind X.K D fI C) (hs : X.mg "super" = none) (hr : Room (k + 1) X.A) (hC : X.mg nm = some (.ref C)) (ha : PA X [a] ta) (hg : Gl X nm) (hnd : (nm == ("__debug__" : Str)) = false := by decide)
    (he : starEach (a :: []) X.env = (false, eval a X.env) :: starEach [] X.env := by rfl) (hpl : (backTo pos (starEach [] X.env)).any (·.1) = false := by rfl) :
    PMk X (.Call (.Name nm p) [a] [] pos) (fun σ H Q => ta σ H fun vs H1 => ∃ v, vs = [v] ∧ ∀ d, H1 d = none → Q (.ref C) (some d) (upd H1 d (.xd [(("what" : Str), v)]))) := by
  intro pins s σ H Q I h
  refine wpAny_Call_Name_kw (ld_glob I hg hC ?_ hnd)
  refine PySem.W.callWith_K (h₀ := X.base) I.ok.mod.kin T.kC (thn (ha.run pos pins s σ H _ I h) fun us s1 hh => ?_) he hpl
  obtain ⟨vs, H1, I1, r1, v, ev, q1⟩ := hh
  subst ev
  refine ⟨I1.kIn, ?_⟩
  cases r1 with
  | cons rv rn =>
    cases rn
    exact mk_any B T hs hr I1 rv (.inl rfl) q1
theorem pmk_any0 {nm : Str} {p pos : Pos} {k : Nat} (B : Base X.prog X.K D fI) (T : Kind X.K D fI C) (hs : X.mg "super" = none) (hr : Room (k + 1) X.A) (hC : X.mg nm = some (.ref C)) (hg : Gl X nm) (hnd : (nm == ("__debug__" : Str)) = false := by decide) :
    PMk X (.Call (.Name nm p) [] [] pos) (fun σ H Q => ∀ d, H d = none → Q (.ref C) (some d) (upd H d (.xd [(("what" : Str), .non)]))) := by
  intro pins s σ H Q I h
  refine wpAny_Call_Name_kw (ld_glob I hg hC ?_ hnd)
  refine PySem.W.callWith_K0 I.kIn T.kC ?_
  exact mk_any (v := .non) (v' := .none) B T hs hr I rfl (.inr ⟨rfl, rfl⟩) h
end

section
variable {X : Cx} {x : Ct2} {W : WX} {D fI : Addr}
/-- raise C(e) -/
def dRaise (C : Nat) (T : DE) : DS := fun ρ K => T ρ (onFl K fun d ρ' => K (.exc C d) ρ')
theorem S_raise {e : Expr} {T : DE} {nm : Str} {p pos pos2 : Pos} {k C : Nat} (hc : X.calm = true) (tk : Takes X W) (B : Base X.prog X.K D fI) (Kd : Kind X.K D fI (x.c.cls C)) (hs : X.mg "super" = none) (hr : Room (k + 1) X.A) (hC : X.mg nm = some (.ref (x.c.cls C))) (he : PE X e (tOfE x.c W T)) (hg : Gl X nm)
    (hnd : (nm == ("__debug__" : Str)) = false := by decide) (hst : starEach [e] X.env = (false, eval e X.env) :: starEach [] X.env := by rfl) (hpl : (backTo pos (starEach [] X.env)).any (·.1) = false := by rfl) :
    PS X (.Raise (some (.Call (.Name nm p) [e] [] pos)) none pos2) (tOfS x W (dRaise C T)) := (ps_raise hc tk (pmk_any B Kd hs hr hC (pa_cons he pa_nil hst) hg hnd hst hpl)).imp fun De σ H h => by
  obtain ⟨F, Ω, ρ, K, r, t, w⟩ := tOfS_iff.mp h
  refine ⟨F, Ω, ρ, _, r, t, fun d ρ' q v F' H' Ω' s r' f => ⟨v, rfl, fun a ha => ?_⟩, w.exw⟩
  have e' := Ext.new (o := .xd [(("what" : Str), v)]) r'.wf ha
  exact w.ex C d ρ' q a v σ _ _ Ω' ⟨s.trans e'.stp, r'.ext e', Io.refl _ _⟩ upd_same (Fz.mono e'.ef _ _ f)
def dRaise0 (C : Nat) : DS := fun ρ K => K (.exc C .non) ρ
theorem S_raise0 {nm : Str} {p pos pos2 : Pos} {k C : Nat} (hc : X.calm = true) (tk : Takes X W) (B : Base X.prog X.K D fI) (Kd : Kind X.K D fI (x.c.cls C)) (hs : X.mg "super" = none) (hr : Room (k + 1) X.A) (hC : X.mg nm = some (.ref (x.c.cls C))) (hg : Gl X nm)
    (hnd : (nm == ("__debug__" : Str)) = false := by decide) :
    PS X (.Raise (some (.Call (.Name nm p) [] [] pos)) none pos2) (tOfS x W (dRaise0 C)) := (ps_raise hc tk (pmk_any0 B Kd hs hr hC hg hnd)).imp fun De σ H h => by
  obtain ⟨F, Ω, ρ, K, r, t, w⟩ := tOfS_iff.mp h
  intro a ha
  have e' := Ext.new (o := .xd [(("what" : Str), .non)]) r.wf ha
  exact w.ex C .non ρ t a .non σ _ _ Ω ⟨e'.stp, r.ext e', Io.refl _ _⟩ upd_same (by simp only [Fz])

/-! ### try -/
theorem clr_slot {c : Ct} {F H : Hp} {Ω : Nm} {ρ : Env} {σ : L2.St} {i : Nat} (r : Rel c F H Ω ρ σ) : Rel c F H Ω (ρ.set i .und) (σ.set i none) := by
  refine ⟨r.wf, fun j d h1 h2 => ?_, by rw [List.length_set, List.length_set]; exact r.len⟩
  by_cases hj : j = i
  · subst hj
    have hl := (List.getElem?_eq_some_iff.mp h1).1
    rw [List.length_set] at hl
    rw [List.getElem?_set_self hl] at h1
    cases h1
    exact absurd rfl h2
  · rw [List.getElem?_set_ne (Ne.symm hj)] at h1 ⊢
    exact r.sl j d h1 h2
theorem Io.setN {io : List Nat} {σ : L2.St} {i : Nat} (h : i ∉ io) : Io io σ (σ.set i none) := Io.set h
/-- where the suite ends, the name is gone -/
def endT (i : Nat) (K : Fl → Env → Prop) : Fl → Env → Prop
  | .nx, ρ => K .nx (ρ.set i .und)
  | .bk, ρ => K .bk (ρ.set i .und)
  | .ct, ρ => K .ct (ρ.set i .und)
  | .rt d, ρ => K (.rt d) ρ
  | .exc _ _, _ => False
/-- try: .. except X as n: .. ; h: which classes the clause takes -/
def dTry (h : Nat → Option Bool) (i : Nat) (cl : Nat → Addr) (B : DS) (S : Addr → Value → Option Addr → DS) : DS := fun ρ K => B ρ fun fl ρ' =>
  match fl with
  | .exc C w => match h C with
    | some true => ∀ a cd, S a (.ref (cl C)) (some cd) (ρ'.set i (.exo a cd C w)) (endT i K)
    | some false => K (.exc C w) ρ'
    | none => False
  | g => K g ρ'
theorem S_try {nm y : Str} {cv : Value} {i : Nat} {body suite : List Stmt} {b₀ : Stmt} {np pos pos' : Pos} {h : Nat → Option Bool} {B : DS} {S : Addr → Value → Option Addr → DS} (hstk : X.stack = X.env :: X.outer) (hf : X.env.frame = some X.env.locals) (hN : X.N.Nodup) (hi : X.N[i]? = some y) (hln : X.env.kindOf y = some .local)
    (hc : Names X nm cv) (tk : Takes X W) (hh : ∀ C b, h C = some b → PySem.W.exmOne X.K (.ref (x.c.cls C)) cv = some b) (hio : i ∉ x.io)
    (hb : ∀ (W : WX) (pn : List (Addr × Obj)) (xe : Value → Shared → Prop), Takes (X.tr pn xe) W → PassesOwn (model X.prog X.w) X.A X.env xe → PSs (X.tr pn xe) body (tOfS x W B))
    (hsu : ∀ (a : Addr) (oe : Obj) (cls : Value) (d : Option Addr) (pn : List (Addr × Obj)), Zc cls d oe → (∃ vs, oe.data = .fields vs) → PSs (X.suite a ((a, oe) :: pn)) (b₀ :: suite) (tOfS x (fun _ _ _ _ => False) (S a cls d))) :
    PS X (.Try body [.ExceptHandler (some (.Name nm np)) (some y) (b₀ :: suite) pos'] [] [] pos) (tOfS x W (dTry h i x.c.cls B S)) := by
  refine ⟨fun pins s σ H De I hh' => (ps_try_as (Wout := W) (tb := fun W => tOfS x W B) (ts := fun a cls d => tOfS x (fun _ _ _ _ => False) (S a cls d)) hstk hf hN hi hln hc tk hb hsu).run pins s σ H De I ?_⟩
  have hil : i < σ.length := by rw [I.len]; exact (List.getElem?_eq_some_iff.mp hi).1
  obtain ⟨F, Ω, ρ, K, r, t, w⟩ := tOfS_iff.mp hh'
  refine tOfS_iff.mpr ⟨F, Ω, ρ, _, r, t, ⟨fun ρ' q => w.nx ρ' q, fun ρ' q => w.bk ρ' q, fun ρ' q => w.ct ρ' q, fun d ρ' q => w.rt d ρ' q, fun C u ρ' q cd vw σ' F' H' Ω' p e1 e2 => ?_⟩⟩
  dsimp only at q
  cases hb' : h C with
  | none => rw [hb'] at q; exact q.elim
  | some b =>
    rw [hb'] at q
    refine ⟨b, hh C b hb', fun hy a na => ?_, fun hy => ?_⟩
    · subst hy
      have w' := w.later p.1 p.2.2
      have hl' : i < σ'.length := by rw [p.2.2.1]; exact hil
      have Fa : Fz x.c F' (.exo a cd C u) (.ref a) := by
        simp only [Fz]
        exact ⟨trivial, vw, e1, e2⟩
      have r2 := set_slot (i := i) p.2.1 hl' (Air.fz (Ω := Ω') (H := H') Fa rfl)
      refine tOfS_iff.mpr ⟨F', _, _, _, r2, q a cd, ?_⟩
      have back : ∀ {F2 H2 : Hp} {Ω2 : Nm} {ρ2 : Env} {σ2 : L2.St}, PostS x F' H' (putN i (fun _ => none) Ω') (σ'.set i (some (.ref a))) F2 H2 Ω2 ρ2 σ2 → PostS x F' H' Ω' σ' F2 H2 Ω2 ρ2 σ2 := fun p2 =>
        ⟨⟨p2.1.ef, fun b o h1 h2 h3 => p2.1.ou b o h1 h2 (by show putN i (fun _ => none) Ω' b = none; unfold putN; exact h3)⟩, p2.2.1, (Io.set hio).trans p2.2.2⟩
      have back2 : ∀ {F2 H2 : Hp} {Ω2 : Nm} {ρ2 : Env} {σ2 : L2.St}, PostS x F' H' (putN i (fun _ => none) Ω') (σ'.set i (some (.ref a))) F2 H2 Ω2 ρ2 σ2 → PostS x F' H' Ω' σ' F2 H2 Ω2 (ρ2.set i .und) (σ2.set i none) := fun p2 =>
        let p3 := back p2
        ⟨p3.1, clr_slot p3.2.1, p3.2.2.trans (Io.setN hio)⟩
      exact ⟨fun ρ2 q2 σ2 F2 H2 Ω2 p2 => w'.nx _ q2 _ _ _ _ (back2 p2), fun ρ2 q2 σ2 F2 H2 Ω2 p2 => w'.bk _ q2 _ _ _ _ (back2 p2), fun ρ2 q2 σ2 F2 H2 Ω2 p2 => w'.ct _ q2 _ _ _ _ (back2 p2),
        fun d ρ2 q2 σ2 v F2 H2 Ω2 Θ p2 ar nw => w'.rt d ρ2 q2 σ2 v F2 H2 Ω2 Θ (back p2) ar (fun b o h1 h2 h3 => nw b o h1 h2 (by show putN i (fun _ => none) Ω' b = none; unfold putN; exact h3)), fun C u ρ2 q2 => q2.elim⟩
    · subst hy
      exact w.ex C u ρ' q cd vw σ' F' H' Ω' p e1 e2

/-! ### what a suite asks of its error -/
/-- slot i holds the error at a, whose class is cls, whose dict is at d -/
def Holds (cl : Nat → Addr) (i : Nat) (a : Addr) (cls : Value) (d : Option Addr) (ρ : Env) (C : Nat) (w : Vi.D) : Prop := ∃ cd, gt ρ i = .exo a cd C w ∧ d = some cd ∧ cls = .ref (cl C)
section
variable {a : Addr} {oe : Obj} {cls : Value} {d : Option Addr} {pn : List (Addr × Obj)} {c : Ct} {i : Nat}
theorem exo_slot {F H : Hp} {Ω : Nm} {ρ : Env} {σ : L2.St} {cd : Addr} {C : Nat} {w : Vi.D} (r : Rel c F H Ω ρ σ) (h : gt ρ i = .exo a cd C w) : σ[i]? = some (some (.ref a)) ∧ ∃ vw, F cd = some (.xd [(("what" : Str), vw)]) ∧ Fz c F w vw := by
  have hn : nz (gt ρ i) = true := by rw [h]; rfl
  obtain ⟨v, q1, q2⟩ := r.sl i _ (gt_some hn) (nz_ne hn)
  rw [h] at q2
  have q3 := (Rv_of_own rfl).mp q2
  simp only [Fz] at q3
  obtain ⟨e, q⟩ := q3
  subst e
  exact ⟨q1, q⟩
theorem inst_pin {pins : List (Addr × Obj)} {s : Shared} {σ : L2.St} {H : Hp} {C dx : Addr} {od : Obj} (I : Inv (X.suite a ((a, oe) :: pn)) pins σ H s) (hz : Zc (.ref C) (some dx) oe) (hf : ∃ vs, oe.data = .fields vs) (ho : s.heap.get? dx = some od) : PySem.W.InstAt s.heap a oe C (some od) := by
  obtain ⟨ha, _⟩ := I.pin (a, oe) (List.mem_append_left _ List.mem_cons_self)
  obtain ⟨vs, hd⟩ := hf
  exact ⟨ha, hz.1, by unfold PySem.W.notCls; rw [hd] <;> rfl, by rw [hz.2]; exact ho⟩
/-- e.what -/
def dWhat (cl : Nat → Addr) (i : Nat) (a : Addr) (cls : Value) (d : Option Addr) (fam : Nat → Bool) : DE := fun ρ K => ∃ C w, Holds cl i a cls d ρ C w ∧ fam C = true ∧ K (.ok w) ρ
theorem E_what {y : Str} {p pos : Pos} {fam : Nat → Bool} (hz : Zc cls d oe) (hf : ∃ vs, oe.data = .fields vs) (T : ∀ C, fam C = true → Kind X.K D fI (c.cls C)) (hN : X.N[i]? = some y := by rfl) (hv : Vis X.env.scope y := by first | exact Or.inl rfl | exact Or.inr (Or.inl rfl) | exact Or.inr (Or.inr rfl)) (hd : (y == ("__debug__" : Str)) = false := by decide)
    (hcd : (y == ("__classdict__" : Str)) = false := by decide) (hb : attributeBase (.Name y p) "what" X.env (eval (.Name y p) X.env) = eval (.Name y p) X.env := by rfl) :
    PE (X.suite a ((a, oe) :: pn)) (.Attribute (.Name y p) "what" pos) (tOfE c W (dWhat c.cls i a cls d fam)) := by
  refine ⟨fun pins s σ H Q I h => ?_⟩
  obtain ⟨F, Ω, ρ, K, r, ⟨C, w, ⟨cd, e1, e2, e3⟩, hfm, hk⟩, k, _⟩ := h
  obtain ⟨q1, vw, q2, q3⟩ := exo_slot r e1
  subst e2
  subst e3
  have TC := T C hfm
  refine attr_of hb (thn ((pe_var (X := X.suite a ((a, oe) :: pn)) hN hv hd hcd).run pins s σ H (fun v H1 => v = .ref a ∧ H1 = H) I ⟨_, q1, rfl, rfl⟩) fun u s1 hh => ?_)
  obtain ⟨x, H1, I1, rx, ex, eh⟩ := hh
  subst ex
  subst eh
  obtain rfl : u = Value.ref a := rx
  have ea : H1 cd = some (.xd [(("what" : Str), vw)]) := r.wf.sub _ _ q2
  have hx : ObjOk X.prog X.w H1 s1.heap cd (.xd [(("what" : Str), vw)]) := I1.hok cd _ ea
  obtain ⟨mA, hns, hr⟩ := hx
  obtain ⟨od, ho, hl⟩ := lookIn_ns hns
  have l : List.lookup ("what" : Str) [(("what" : Str), vw)] = some vw := by simp [List.lookup]
  obtain ⟨u, hu, ru⟩ := RelO.some_of (v := vw) (o := mA "what") (by rw [← l]; exact hr "what")
  have J := inst_pin I1 hz hf ho
  exact HandSPX.exc_get I1.kIn J TC.ga TC.gg TC.exC (PySem.W.findObj_own TC.hdC TC.noW rfl (by rw [hl, hu])) (handed_of ru) ⟨vw, H1, I1.tok _, ru, k w ρ hk vw F H1 Ω (Stp.refl _ _ _) r q3⟩
/-- isinstance(e, ..) -/
def dIs (cl : Nat → Addr) (i : Nat) (a : Addr) (cls : Value) (d : Option Addr) (f : Nat → Option Bool) : DE := fun ρ K => ∃ C w b, Holds cl i a cls d ρ C w ∧ f C = some b ∧ K (.ok (.bl b)) ρ
theorem kit_of {K : PySem.W.Frag} {y C : Addr} {ox : Obj} {od : Option Obj} (E : ExcC K C) : PySem.W.KitX K (.ref y) (.ref C) (fun h => PySem.W.InstAt h y ox C od) :=
  PySem.W.kitx_exc (by obtain ⟨cd, hc, _⟩ := PySem.W.any_some E.hd; rw [hc]; rfl) E.hg E.hk E.hs E.ha E.hn E.ht E.hm
theorem E_is {y nm : Str} {p p1 p2 pos : Pos} {v : V} {cv : Value} {f : Nat → Option Bool} (hz : Zc cls d oe) (hf : ∃ vs, oe.data = .fields vs) (hfa : ∀ C b, f C = some b → ExcC X.K (c.cls C) ∧ PySem.W.kitOne X.K (.ref (c.cls C)) cv = some b) (hcl : PE (X.suite a ((a, oe) :: pn)) (.Name nm p2) (tC v)) (hcv : ∀ u, RelV v u → u = cv)
    (hg : Gl X "isinstance") (hm : X.mg "isinstance" = none) (hN : X.N[i]? = some y := by rfl) (hv : Vis X.env.scope y := by first | exact Or.inl rfl | exact Or.inr (Or.inl rfl) | exact Or.inr (Or.inr rfl)) (hd : (y == ("__debug__" : Str)) = false := by decide) (hcd : (y == ("__classdict__" : Str)) = false := by decide)  :
    PE (X.suite a ((a, oe) :: pn)) (.Call (.Name "isinstance" p) [.Name y p1, .Name nm p2] [] pos) (tOfE c W (dIs c.cls i a cls d f)) := by
  refine ⟨fun pins s σ H Q I h => ?_⟩
  obtain ⟨F, Ω, ρ, K, r, ⟨C, w, b, ⟨cd, e1, e2, e3⟩, hfb, hk⟩, k, _⟩ := h
  obtain ⟨q1, vw, q2, q3⟩ := exo_slot r e1
  subst e2
  subst e3
  obtain ⟨EC, hb⟩ := hfa C b hfb
  refine (pe_callB (id := "isinstance") (X := X.suite a ((a, oe) :: pn)) (r := fun xs H1 Q1 => xs = [.ref a, v] ∧ H1 = H ∧ Q1 (.bl b) H1) (fun pins' s1 σ1 H1 xs us Q1 I1 r1 hx => ?_) hg hm (by decide +kernel) (pa_cons (pe_var (X := X.suite a ((a, oe) :: pn)) hN hv hd hcd) (pa_cons hcl pa_nil))).run pins s σ H Q I
    ⟨_, q1, rfl, rfl, k _ ρ hk _ F H Ω (Stp.refl _ _ _) r (by simp only [Fz])⟩
  obtain ⟨rfl, eh, q⟩ := hx
  subst eh
  cases r1 with
  | cons ra rr =>
    cases rr with
    | cons rb rn =>
      cases rn
      obtain rfl : _ = Value.ref a := ra
      obtain rfl := hcv _ rb
      have ea : H1 cd = some (.xd [(("what" : Str), vw)]) := r.wf.sub _ _ q2
      have hx : ObjOk X.prog X.w H1 s1.heap cd (.xd [(("what" : Str), vw)]) := I1.hok cd _ ea
      obtain ⟨mA, hns, hr⟩ := hx
      obtain ⟨od, ho, hl⟩ := lookIn_ns hns
      exact PySem.W.kia_one (kit_of EC) I1.kIn (inst_pin I1 hz hf ho) hb (fun z => nomatch z) fun tk => ⟨.bl b, H1, I1.kept (t' := tk) fun _ _ z => z, rfl, q⟩
/-- the classes of a tuple, as they are named -/
structure Cls1 (X : Cx) (e : Expr) (cv : Value) (v : V) : Prop where
  pe : PE X e (tC v)
  un : ∀ u, RelV v u → u = cv
inductive ClsL (X : Cx) : List Expr → List Value → List V → Prop where
  | nil : ClsL X [] [] []
  | cons {e : Expr} {es : List Expr} {cv : Value} {cvs : List Value} {v : V} {vs : List V} : Cls1 X e cv v → ClsL X es cvs vs → starEach (e :: es) X.env = (false, eval e X.env) :: starEach es X.env → ClsL X (e :: es) (cv :: cvs) (v :: vs)
theorem ClsL.pa {X : Cx} {es : List Expr} {cvs : List Value} {vs : List V} (h : ClsL X es cvs vs) : PA X es (fun _ H Q => Q vs H) := by
  induction h with
  | nil => exact pa_nil
  | cons h1 h2 h3 ih => exact pa_cons h1.pe ih h3
theorem ClsL.un {X : Cx} {es : List Expr} {cvs : List Value} {vs : List V} (h : ClsL X es cvs vs) : ∀ {us : List Value}, Vals vs us → us = cvs := by
  induction h with
  | nil => intro us r; cases r; rfl
  | cons h1 h2 h3 ih =>
    intro us r
    cases r with
    | cons ra rr => rw [h1.un _ ra, ih rr]
theorem E_isT {y : Str} {es : List Expr} {p p1 p2 pos : Pos} {x1} {vs : List V} {cvs : List Value} {f : Nat → Option Bool} (hz : Zc cls d oe) (hf : ∃ vs, oe.data = .fields vs) (hfa : ∀ C b, f C = some b → ExcC X.K (c.cls C) ∧ PySem.W.kitAny X.K (.ref (c.cls C)) cvs = some b) (hcl : ClsL (X.suite a ((a, oe) :: pn)) es cvs vs) (hlen : vs.length ≤ 1000)
    (hg : Gl X "isinstance") (hm : X.mg "isinstance" = none) (hN : X.N[i]? = some y := by rfl) (hv : Vis X.env.scope y := by first | exact Or.inl rfl | exact Or.inr (Or.inl rfl) | exact Or.inr (Or.inr rfl)) (hd : (y == ("__debug__" : Str)) = false := by decide) (hcd : (y == ("__classdict__" : Str)) = false := by decide) :
    PE (X.suite a ((a, oe) :: pn)) (.Call (.Name "isinstance" p) [.Name y p1, .Tuple es x1 p2] [] pos) (tOfE c W (dIs c.cls i a cls d f)) := by
  refine ⟨fun pins s σ H Q I h => ?_⟩
  obtain ⟨F, Ω, ρ, K, r, ⟨C, w, b, ⟨cd, e1, e2, e3⟩, hfb, hk⟩, k, _⟩ := h
  obtain ⟨q1, vw, q2, q3⟩ := exo_slot r e1
  subst e2
  subst e3
  obtain ⟨EC, hb⟩ := hfa C b hfb
  refine (pe_callB (id := "isinstance") (X := X.suite a ((a, oe) :: pn)) (r := fun xs H1 Q1 => ∃ tp, xs = [.ref a, .ref tp] ∧ H1 = upd H tp (.tup vs) ∧ H tp = none ∧ Q1 (.bl b) H1) (fun pins' s1 σ1 H1 xs us Q1 I1 r1 hx => ?_) hg hm (by decide +kernel) (pa_cons (pe_var (X := X.suite a ((a, oe) :: pn)) hN hv hd hcd) (pa_cons (pe_tup hcl.pa) pa_nil))).run pins s σ H Q I
    ⟨_, q1, sz_ok (Nat.le_trans hlen (by decide)), fun tp ht => ⟨tp, rfl, rfl, ht, ?_⟩⟩
  · obtain ⟨tp, rfl, eh, ht, q⟩ := hx
    subst eh
    cases r1 with
    | cons ra rr =>
      cases rr with
      | cons rb rn =>
        cases rn
        obtain rfl : _ = Value.ref a := ra
        obtain rfl : _ = Value.ref tp := rb
        have ea : upd H tp (.tup vs) cd = some (.xd [(("what" : Str), vw)]) := by
          have e4 := r.wf.sub _ _ q2
          rw [upd_ne (ne_of_none e4 ht)]
          exact e4
        have hx : ObjOk X.prog X.w (upd H tp (.tup vs)) s1.heap cd (.xd [(("what" : Str), vw)]) := I1.hok cd _ ea
        obtain ⟨mA, hns, hr⟩ := hx
        obtain ⟨od, ho, hl⟩ := lookIn_ns hns
        have ht2 : ObjOk X.prog X.w (upd H tp (.tup vs)) s1.heap tp (.tup vs) := I1.hok tp _ upd_same
        obtain ⟨_, its, rv, o, g1, g2, n, g3⟩ := ht2
        obtain rfl := hcl.un rv
        obtain ⟨oc, od', oda, osl⟩ := o
        dsimp only at g2 g3
        subst g2 g3
        exact PySem.W.kia_tup (kit_of EC) I1.kIn (inst_pin I1 hz hf ho) g1 hb (fun z => nomatch z) fun tk => ⟨.bl b, _, I1.kept (t' := tk) fun _ _ z => z, rfl, q⟩
  · have e' := Ext.new (o := .tup vs) r.wf ht
    exact k _ ρ hk _ _ _ Ω e'.stp (r.ext e') (by simp only [Fz])
end
end
end Vi
/-! Vi10: len(set(text)); repr of a truth value. -/
namespace ViS
open PySem PySem.Spec PyProof.Rows

/-- the signs met so far, each once -/
def addS (σ : List Str) (v : Str) : List Str := if σ.any (· == v) then σ else σ ++ [v]
def metS (f : Nat → Str) : Nat → List Str
  | 0 => []
  | i + 1 => addS (metS f i) (f i)
theorem metS_le (f : Nat → Str) : ∀ i, (metS f i).length ≤ i
  | 0 => Nat.le_refl _
  | i + 1 => by
    have ih := metS_le f i
    unfold metS addS
    split
    · omega
    · rw [List.length_append, List.length_singleton]; omega
theorem addS_any (σ : List Str) (v k : Str) : (addS σ v).any (· == k) = (σ.any (· == k) || decide (k = v)) := by
  unfold addS
  by_cases h : σ.any (· == v) = true
  · rw [if_pos h]
    by_cases e : k = v
    · subst e; rw [h]; simp
    · simp [e]
  · rw [if_neg h, List.any_append]
    by_cases e : k = v
    · subst e; simp
    · have hb : (v == k) = false := by simpa [beq_iff_eq] using (fun h' : v = k => e h'.symm)
      simp [hb, e]
theorem addS_length (σ : List Str) (v : Str) : (addS σ v).length = if σ.any (· == v) then σ.length else σ.length + 1 := by
  unfold addS; split <;> simp
def sgn (x : Str) (i : Nat) : Str := ⟨#[x.cps.getD i 0]⟩
section
variable {prog : Program} {w : World} {A : Around} {R : Result → Shared → Prop} {I : Addr} {fp wr : List Addr} {G : Array GenState → Array GenState → Prop} {n : Nat} {P : Nat → Value → Prop} {St : Nat → Shared → Prop}
theorem loopT (W : WalksS prog w A.in1 I fp wr G n P St) (S : Addr) (hS0 : S ∉ fp) (f : Nat → Str) (hv : ∀ i v, P i v → ∃ t, v = .str (f i) t) (hb : n + 1 < scanBound) :
    ∀ (k i : Nat) (s : Shared), n - i = k → i ≤ n → St i s → s.heap.SetOf (PySem.strKind prog w) S (fun q => (metS f i).any (· == q)) (metS f i).length →
      (∀ s', Moved (S :: wr) G s s' → s'.heap.SetOf (PySem.strKind prog w) S (fun q => (metS f n).any (· == q)) (metS f n).length → R (.ok (.ret .none)) s') →
      codeAny (model prog w) A (.builtin "set.update.loop" ⟨[.ref S, .ref I], []⟩) R s := by
  have nw : S ∉ wr := fun h => hS0 (W.sub _ h)
  have more : ∀ b ∈ wr, b ∈ S :: wr := fun b hb => List.mem_cons_of_mem _ hb
  have carry : ∀ {s s' : Shared} {j : Nat}, Moved wr G s s' → s.heap.SetOf (PySem.strKind prog w) S (fun q => (metS f j).any (· == q)) (metS f j).length → s'.heap.SetOf (PySem.strKind prog w) S (fun q => (metS f j).any (· == q)) (metS f j).length := by
    rintro s s' j m ⟨o, es, ep, tb, ho, rest⟩
    exact ⟨o, es, ep, tb, m.heap S _ nw ho, rest⟩
  intro k
  induction k with
  | zero =>
    intro i s hk hi st hs hR
    obtain rfl : i = n := by omega
    refine codeAny_builtin PyProof.Rows.F.entry_set_update_loop ?_
    rw [Around.under_plainId PyProof.Rows.F.plain_set_update_loop _]
    refine wpAny_bind (W.done s _ _ st fun s' m => ?_)
    exact wpAny_pure (hR s' (m.mono more) (carry m hs))
  | succ k ih =>
    intro i s hk hi st hs hR
    have lt : i < n := by omega
    refine codeAny_builtin PyProof.Rows.F.entry_set_update_loop ?_
    rw [Around.under_plainId PyProof.Rows.F.plain_set_update_loop _]
    refine wpAny_bind (W.item i s _ _ lt st fun v s' hP st' m => ?_)
    obtain ⟨t, rfl⟩ := hv i v hP
    have hs' := carry m hs
    show wpAny _ A.in1 (holding [Value.str (f i) t] (setAdd S (.str (f i) t)) >>= _) _ _ s'
    refine wpAny_bind (wpAny_holding ?_)
    unfold setAdd
    refine wpAny_holding (wpAny_bind ((PySem.strKind prog w).pyHash (k := f i) (strKind_is _ _ _ _) ?_))
    refine wpAny_setAddHashed_of (knd := PySem.strKind prog w) (s := { s' with toks := s'.toks + 1 }) (strKind_is _ _ _ _) rfl hs' (by have := metS_le f i; omega) fun h' sb hs2 => ?_
    have hs3 : h'.SetOf (PySem.strKind prog w) S (fun q => (metS f (i + 1)).any (· == q)) (metS f (i + 1)).length := SetOf_congr hs2 (fun q => (addS_any _ _ q).symm) (addS_length _ _).symm
    refine wpAny_pure ⟨plainId_quiet PyProof.Rows.F.plain_set_update_loop _, ih (i + 1) _ (by omega) lt (W.frame _ s' _ _ st' (Nat.le_succ _) fun b hb o e => ?_) hs3 fun s'' m2 hs4 => ?_⟩
    · rw [sb.2 b (fun z => hS0 (by rw [← z]; exact hb))]; exact e
    · refine hR s'' (Moved.trans W.gtrans ((m.mono more).then_heap (Nat.le_succ _) fun b o hb e => ?_) m2) hs4
      rw [sb.2 b (fun z => hb (by rw [z]; exact List.mem_cons_self))]; exact e
end

section
variable {prog : Program} {w : World} {A : Around} {E : Value → Shared → Prop} {s : Shared}
theorem call_setT {x : Str} {t : Tok} {Q : Value → Shared → Prop} (hh : A.handled = none) (hb : x.cps.size + 1 < scanBound)
    (h : ∀ (h' : Heap) (tk : Nat), h'.SetOf (PySem.strKind prog w) s.heap.objs.size (fun q => (metS (sgn x) x.cps.size).any (· == q)) (metS (sgn x) x.cps.size).length →
      (∀ b o, b < s.heap.objs.size → s.heap.get? b = some o → h'.get? b = some o) → Q (.ref s.heap.objs.size) { s with heap := h', toks := tk }) :
    wpAny (model prog w) A (call (.type "set") [.str x t]) Q E s := by
  obtain ⟨c, tl, hmro⟩ := PySem.F.called_set.mro
  have hmade := PySem.F.called_set.made
  have hsub := PySem.F.called_set.sub
  refine wpAny_call (codeAny_of_tree ?_)
  show wpAny _ _ (callAny (.type "set") _) _ _ _
  refine wpAny_pure ⟨Code.quiet_builtin _ (by decide +kernel), codeAny_builtin PySem.F.entry_type_call ?_⟩
  rw [Around.under_plain (weight_type_call_type "set" [.str x t] []) rfl]
  have h1 := PySem.F.called_set.notType
  have h2 := PySem.F.called_set.canCreate
  have hct := PySem.F.typeCall_set_1 (.str x t)
  repeat (any_goals (first | assumption | wp_step))
  refine codeAny_mono (code_set_new_1 (.str x t) (E := E) (Q₁ := fun obj s₁ => ∃ led : Bool, obj = .ref s.heap.objs.size ∧ s₁ = { s with heap := s.heap.push { cls := .type "set", dict := none, data := .set #[] 0 (.fresh 0 0 led) } }) fun led => ⟨led, rfl, rfl⟩) fun r s₁ hr => ?_
  match r, hr with
  | .error e, hr => exact hr
  | .ok (.ret obj), hr =>
    obtain ⟨led, rfl, rfl⟩ := hr
    have hS : (s.heap.push { cls := .type "set", dict := none, data := .set #[] 0 (.fresh 0 0 led) }).get? s.heap.objs.size = some { cls := .type "set", dict := none, data := .set #[] 0 (.fresh 0 0 led) } := Heap.get?_push_size _ rfl
    have hT : Shared.TypeIs { s with heap := s.heap.push { cls := .type "set", dict := none, data := .set #[] 0 (.fresh 0 0 led) } } (.ref s.heap.objs.size) "set" := ⟨_, hS, rfl⟩
    have hli := PySem.F.called_set.init.lookup
    have hbi := PySem.F.called_set.init.bind (.ref s.heap.objs.size)
    repeat (any_goals (first | assumption | wp_step))
    refine codeAny_mono (codeAny_call_builtin (R := wants (fun r s₂ => r = .none ∧ ∃ h' tk, s₂ = { s with heap := h', toks := tk } ∧
        h'.SetOf (PySem.strKind prog w) s.heap.objs.size (fun q => (metS (sgn x) x.cps.size).any (· == q)) (metS (sgn x) x.cps.size).length ∧
        (∀ b o, b < s.heap.objs.size → s.heap.get? b = some o → h'.get? b = some o)) E) PySem.F.called_set.init.plain PySem.F.entry_set_init (check_set_init_1 hT ?_)) fun r₂ s₂ hr₂ => ?_
    · have hsls := PySem.F.sub_str_set
      have hslf := PySem.F.sub_str_frozenset
      unfold Builtin.«set.__init__» noKeywords Builtin.Frozenset.updateFrom
      generalize hPI : pyIter = PI
      wp_walk
      subst hPI
      refine wpAny_pyIter_str fun o St W st => ?_
      refine wpAny_bind (wpAny_runValue ?_)
      have hh3 : A.in1.in1.in1.handled = none := by simp [hh]
      have nS : s.heap.objs.size ∉ [(s.heap.push { cls := .type "set", dict := none, data := .set #[] 0 (.fresh 0 0 led) }).objs.size] := by
        rw [Heap.size_push, List.mem_singleton]
        exact Nat.ne_of_lt (Nat.lt_succ_self _)
      refine loopT ((W _ hh3).toS) s.heap.objs.size nS (sgn x) (fun i v hv => ?hval) hb (x.cps.size - 0) 0 _ (by omega) (Nat.zero_le _) st ?hS0 ?hR
      case hval =>
        obtain ⟨c', u, e, rfl⟩ := hv
        have hd : x.cps.getD i 0 = c' := by
          rw [Array.getD_eq_getD_getElem?, e]
          rfl
        refine ⟨u, ?_⟩
        unfold sgn
        rw [hd]
      case hS0 =>
        exact SetOf_congr ((setObjOf_fresh (knd := PySem.strKind prog w) led).setOf (Heap.get?_push_of_some _ hS) (by unfold scanBound; omega)) (fun _ => rfl) rfl
      case hR =>
        intro s' hm hS'
        obtain ⟨h', g', d', tk', os'⟩ := s'
        obtain rfl : g' = s.gens := hm.gens
        obtain rfl : d' = s.drawn := hm.drawn
        obtain rfl : os' = s.os := hm.os
        refine wpAny_pure ?_
        refine wpAny_pure ⟨rfl, h', tk', rfl, hS', fun b o hb e => ?_⟩
        refine hm.heap b o ?_ (Heap.get?_push_of_some _ (Heap.get?_push_of_some _ e))
        rw [Heap.size_push]
        simp only [List.mem_cons, List.not_mem_nil, or_false, not_or]
        exact ⟨Nat.ne_of_lt hb, Nat.ne_of_lt (Nat.lt_succ_of_lt hb)⟩
    · match r₂, hr₂ with
      | .error e, hr₂ => exact hr₂
      | .ok (.ret r), hr₂ =>
        obtain ⟨rfl, h', tk, rfl, hS', hk'⟩ := hr₂
        repeat (any_goals (first | assumption | wp_step))
        exact h _ _ hS' hk'
end
end ViS
/-! Vi11: len(set(text)), repr of a truth value as rules. -/
namespace Vi
open PySem L2 PySem.Spec PyProof.Rows ViS

/-- each number once, in the order met -/
def onceN (s : List Nat) : List Nat := s.foldl (fun acc c => if acc.any (· == c) then acc else acc ++ [c]) []
theorem met_once (s : List Nat) : ∀ i, i ≤ s.length → metS (sgn ⟨s.toArray⟩) i = (onceN (s.take i)).map (fun c => (⟨#[c]⟩ : Str))
  | 0, _ => rfl
  | i + 1, h => by
    have ih := met_once s i (by omega)
    have e1 : s.take (i + 1) = s.take i ++ [s[i]'(by omega)] := by rw [List.take_succ_eq_append_getElem (by omega)]
    have e2 : sgn ⟨s.toArray⟩ i = ⟨#[s[i]'(by omega)]⟩ := by
      unfold sgn
      simp [Array.getD, show i < s.length by omega]
    unfold metS
    rw [ih, e2, e1]
    unfold onceN
    rw [List.foldl_append]
    show addS _ _ = List.map _ (if _ then _ else _)
    unfold addS
    have e3 : (List.map (fun c => (⟨#[c]⟩ : Str)) (onceN (s.take i))).any (· == (⟨#[s[i]'(by omega)]⟩ : Str)) = (onceN (s.take i)).any (· == s[i]'(by omega)) := by
      rw [List.any_map]
      congr 1
      funext c
      show ((⟨#[c]⟩ : Str) == (⟨#[s[i]'(by omega)]⟩ : Str)) = (c == s[i]'(by omega))
      by_cases hc : c = s[i]'(by omega)
      · rw [hc]; simp
      · have h1 : ((⟨#[c]⟩ : Str) == (⟨#[s[i]'(by omega)]⟩ : Str)) = false := by
          rw [beq_eq_false_iff_ne]
          intro z
          apply hc
          have z2 := congrArg (fun q : Str => q.cps.toList) z
          simpa using z2
        rw [h1]
        simp [hc]
    rw [show List.foldl (fun acc c => if acc.any (· == c) = true then acc else acc ++ [c]) [] (List.take i s) = onceN (s.take i) from rfl, e3]
    split
    · rfl
    · rw [List.map_append]; rfl
theorem met_len (s : List Nat) : (metS (sgn ⟨s.toArray⟩) s.length).length = (onceN s).length := by
  rw [met_once s s.length (Nat.le_refl _), List.take_length, List.length_map]

section
variable {X : Cx} {c : Ct} {W : WX}
/-- the set of a text at p -/
def TxtSet (P : Program) (w : World) (p n : Nat) : HO := .ext fun h => ∃ S, h.SetOf (PySem.strKind P w) p S n
theorem call_setTx (hc : X.calm = true) : CallR X (.type "set") (fun xs H Q => ∃ x : List Nat, xs = [.str ⟨x.toArray⟩] ∧ x.length + 1 < scanBound ∧ ∀ p, H p = none → Q (.ref p) (upd H p (TxtSet X.prog X.w p (onceN x).length))) := by
  intro pins s σ H xs us Q I r h
  obtain ⟨x, rfl, hz, q⟩ := h
  obtain ⟨u, rfl, t, rfl⟩ := vals1 r
  refine call_setT (I.ok.hd hc) (by simpa using hz) fun h' tk hS k => ?_
  have hn : H s.heap.objs.size = none := I.hok.fresh (Nat.le_refl _)
  have hS' : ∃ S, h'.SetOf (PySem.strKind X.prog X.w) s.heap.objs.size S (onceN x).length := by
    rw [show (⟨x.toArray⟩ : Str).cps.size = x.length by simp, met_len] at hS
    exact ⟨_, hS⟩
  refine ⟨.ref _, upd H s.heap.objs.size (TxtSet X.prog X.w s.heap.objs.size (onceN x).length), I.laid (t' := tk) (fun b u e => k b u (Heap.lt_size e) e) (Nat.le_refl _) ⟨hS', ?_, ?_⟩, rfl, q _ hn⟩
  · obtain ⟨S, o, _, _, _, ho, _⟩ := hS'
    exact ⟨o, ho⟩
  · rintro h1 h2 ⟨S, o, es, ep, t, ho, rest⟩ k2
    exact ⟨S, o, es, ep, t, k2 o ho, rest⟩
theorem call_lenTx : CallR X (.builtin "len") (fun xs H Q => ∃ p n, xs = [.ref p] ∧ H p = some (TxtSet X.prog X.w p n) ∧ Q (.int n) H) := by
  intro pins s σ H xs us Q I r h
  obtain ⟨p, n, rfl, hp, q⟩ := h
  cases r with
  | cons ra rn =>
    cases rn
    obtain rfl : _ = Value.ref p := ra
    obtain ⟨S, o, es, ep, t, ho, hex, hd, _, _, hb, hf, hn⟩ := (I.hok p _ hp).1
    have hb2 : (es.size : Int) < 2 ^ 63 := by
      have := hb
      unfold scanBound at this
      omega
    exact call_len_set ho hex hd hf hb2 ⟨.int n, H, I.tok _, ⟨_, by rw [hn]⟩, q⟩
/-- len(set(e)), e a text -/
def dLenSet (T : DE) : DE := fun ρ K => T ρ (onOk K fun d ρ' => match d with | .str x => x.length + 1 < 4096 ∧ K (.ok (.int (onceN x).length)) ρ' | _ => False)
theorem E_lenSet {e : Expr} {T : DE} {p1 p2 p3 p4 : Pos} (hc : X.calm = true) (he : PE X e (tOfE c W T)) (hg1 : Gl X "len") (hm1 : X.mg "len" = none) (hg2 : Gl X "set") (hm2 : X.mg "set" = none)
    (hs1 : starEach [e] X.env = (false, eval e X.env) :: starEach [] X.env := by rfl) (hs2 : starEach [.Call (.Name "set" p1) [e] [] p2] X.env = (false, eval (.Call (.Name "set" p1) [e] [] p2) X.env) :: starEach [] X.env := by rfl) (hpl1 : (backTo p2 (starEach [] X.env)).any (·.1) = false := by rfl) (hpl2 : (backTo p4 (starEach [] X.env)).any (·.1) = false := by rfl) :
    PE X (.Call (.Name "len" p3) [.Call (.Name "set" p1) [e] [] p2] [] p4) (tOfE c W (dLenSet T)) := by
  refine (pe_callB (id := "len") call_lenTx hg1 hm1 (by decide +kernel) (pa_cons (pe_callTy (T := "set") (call_setTx hc) hg2 hm2 (by decide +kernel) (pa_cons he pa_nil hs1) (by decide) (by decide) hs1 hpl1) pa_nil hs2) (by decide) (by decide) hs2 hpl2).imp fun σ H Q h => ?_
  obtain ⟨F, Ω, ρ, K, r, t, k, kx⟩ := h
  refine ⟨F, Ω, ρ, _, r, t, fun d ρ' q v F' H' Ω' s r' f => ?_, kx.imp (Stp.refl _ _ _) fun _ _ _ q => q⟩
  simp only [onOk_ok] at q
  obtain ⟨x, rfl, hz, q⟩ : ∃ x, d = .str x ∧ x.length + 1 < 4096 ∧ K (.ok (.int (onceN x).length)) ρ' := by
    cases d with
    | str x => exact ⟨x, rfl, q⟩
    | _ => exact q.elim
  have ev : v = .str ⟨x.toArray⟩ := by simpa only [Fz] using f
  subst ev
  refine ⟨x, rfl, hz, fun p hp => ⟨p, _, rfl, upd_same, ?_⟩⟩
  have e' := Ext.new (o := TxtSet X.prog X.w p (onceN x).length) r'.wf hp
  exact k _ ρ' q _ _ _ Ω' (s.trans e'.stp) (r'.ext e') (by simp only [Fz])
/-- repr of a truth value -/
theorem call_repr_bool : CallR X (.builtin "repr") (fun xs H Q => ∃ b, xs = [.bl b] ∧ Q (.str (if b then "True" else "False")) H) := by
  intro pins s σ H xs us Q I r h
  obtain ⟨b, rfl, q⟩ := h
  cases r with
  | cons ra rn =>
    cases rn
    obtain rfl : _ = Value.bool b := ra
    exact PySem.P.repr_of_bool ⟨.str _, H, I.tok _, ⟨_, rfl⟩, q⟩
def oReprB : List D → (D → Prop) → Prop
  | [.bl b], K => K (.str (if b then [84, 114, 117, 101] else [70, 97, 108, 115, 101]))
  | _, _ => False
theorem ba_reprB : BA c (fun xs H Q => ∃ b, xs = [.bl b] ∧ Q (.str (if b then "True" else "False")) H) oReprB := ⟨fun F H Ω w ds vs hl hv K q Q k => by
  match ds, hl, hv, q with
  | [.bl b], hl, hv, q =>
    obtain ⟨v, e, h⟩ := one_of hl hv
    have h := h.fz rfl
    simp only [Fz] at h
    subst h
    refine ⟨b, e, k _ q _ F H (Ext.refl w) ?_⟩
    simp only [Fz]
    cases b <;> rfl⟩
end
end Vi
/-! Vi12: chained comparisons; a store into an own list. -/
namespace Vi
open PySem L2 PySem.Spec PyProof.Rows

section
variable {X : Cx} {c : Ct} {W : WX}
def dChn (o o' : D → D → (D → Prop) → Prop) (A B C : DO) : DE := fun ρ K => A ρ (onOk K fun x ρ1 => B ρ1 (onOk K fun y ρ2 => nz (see ρ2 x) = true ∧ nz (see ρ2 y) = true ∧ o (see ρ2 x) (see ρ2 y) fun z => match z with
  | .bl b => if b = true then C ρ2 (onOk K fun w ρ3 => nz (see ρ3 y) = true ∧ nz (see ρ3 w) = true ∧ o' (see ρ3 y) (see ρ3 w) fun z' => K (.ok z') ρ3) else K (.ok (.bl false)) ρ2
  | _ => False))
theorem runChn {r r' : R2} {o o' : D → D → (D → Prop) → Prop} {A B C : DO} (b : B2 c r o) (b' : B2 c r' o') {σ : L2.St} {H : Hp} {Q : VK} (h : tOfE c W (dChn o o' A B C) σ H Q) : tChain r r' (tOfO c W A) (tOfO c W B) (tOfO c W C) σ H Q := by
  obtain ⟨F, Ω, ρ, K, r0, ht, k, kx⟩ := h
  refine ⟨F, Ω, ρ, _, r0, ht, fun x ρ1 q1 v F1 H1 Ω1 s1 r1 f1 => ?_, kx.imp (Stp.refl _ _ _) fun _ _ _ q => q⟩
  refine ⟨F1, Ω1, ρ1, _, r1, q1, fun y ρ2 q2 w F2 H2 Ω2 s2 r2 f2 => ?_, kx.imp s1 fun _ _ _ q => q⟩
  obtain ⟨n1, n2, q3⟩ := q2
  refine b.run F2 H2 Ω2 r2.wf _ _ v w ((f1.mono s2.ef).vw r2 n1) (f2.vw r2 n2) _ q3 _ fun z kz u F3 H3 e3 f3 => ?_
  match z, kz with
  | .bl true, kz =>
    have kz := (if_pos rfl : (if true = true then _ else _) = _).mp kz
    obtain rfl : u = .bl true := by simpa only [Fz] using f3
    refine ⟨true, rfl, ?_⟩
    rw [if_pos rfl]
    refine ⟨F3, Ω2, ρ2, _, r2.ext e3, kz, fun w' ρ4 q4 v4 F4 H4 Ω4 s4 r4 f4 => ?_, kx.imp ((s1.trans s2).trans e3.stp) fun _ _ _ q => q⟩
    obtain ⟨m1, m2, q5⟩ := q4
    refine b'.run F4 H4 Ω4 r4.wf _ _ w v4 (((f2.mono e3.ef).mono s4.ef).vw r4 m1) (f4.vw r4 m2) _ q5 Q fun z5 kz5 u5 F5 H5 e5 f5 => ?_
    exact k z5 ρ4 kz5 u5 F5 H5 Ω4 ((((s1.trans s2).trans e3.stp).trans s4).trans e5.stp) (r4.ext e5) f5
  | .bl false, kz =>
    have kz := (if_neg Bool.false_ne_true : (if false = true then _ else _) = _).mp kz
    obtain rfl : u = .bl false := by simpa only [Fz] using f3
    refine ⟨false, rfl, ?_⟩
    rw [if_neg Bool.false_ne_true]
    exact k _ ρ2 kz _ F3 H3 Ω2 ((s1.trans s2).trans e3.stp) (r2.ext e3) f3
theorem E_chn {a b d : Expr} {op op' : CmpOp} {pos : Pos} {r r' : R2} {o o' : D → D → (D → Prop) → Prop} {A B C : DO} (ho : OpR X (compareOp op) r) (hb : B2 c r o) (ho' : OpR X (compareOp op') r') (hb' : B2 c r' o') (h1 : PE X a (tOfO c W A)) (h2 : PE X b (tOfO c W B)) (h3 : PE X d (tOfO c W C))
    (hm : lastMarks [op, op'] [b, d] = false := by with_unfolding_all rfl) : PE X (.Compare a [op, op'] [b, d] pos) (tOfE c W (dChn o o' A B C)) :=
  (pe_chain ho ho' h1 h2 h3 hm).imp fun _ _ _ h => runChn hb hb' h
theorem T_chn {a b d : Expr} {op op' : CmpOp} {pos : Pos} {r r' : R2} {o o' : D → D → (D → Prop) → Prop} {A B C : DO} (ho : OpR X (compareOp op) r) (hb : B2 c r o) (ho' : OpR X (compareOp op') r') (hb' : B2 c r' o') (h1 : PE X a (tOfO c W A)) (h2 : PE X b (tOfO c W B)) (h3 : PE X d (tOfO c W C))
    (hm : lastMarks [op, op'] [b, d] = false := by with_unfolding_all rfl) : PT X (.Compare a [op, op'] [b, d] pos) (tOfT c W (dB (dChn o o' A B C))) :=
  (pt_chain ho ho' h1 h2 h3 hm).imp fun σ H Q h => by
    obtain ⟨F, Ω, ρ, K, r0, ht, k, kx⟩ := tB_of h
    exact runChn hb hb' ⟨F, Ω, ρ, K, r0, ht, k, kx⟩
end
theorem RvL.put {c : Ct} {F H : Hp} {Θ : Nm} {d : D} {v : V} : ∀ {ds : List D} {vs : List V} {π : List Nat} {j i : Nat}, RvL c F H Θ ds π j vs → Rv c F H Θ d (π ++ [j + i]) v → RvL c F H Θ (ds.set i d) π j (vs.set i v)
  | [], vs, π, j, i, h, g => by
    simp only [RvL] at h
    subst h
    simp only [List.set_nil, RvL]
  | e :: ds, vs, π, j, 0, h, g => by
    simp only [RvL] at h
    obtain ⟨u, r, e1, h1, h2⟩ := h
    subst e1
    simp only [List.set_cons_zero, RvL]
    exact ⟨v, r, rfl, by simpa using g, h2⟩
  | e :: ds, vs, π, j, i + 1, h, g => by
    simp only [RvL] at h
    obtain ⟨u, r, e1, h1, h2⟩ := h
    subst e1
    simp only [List.set_cons_succ, RvL]
    refine ⟨u, r.set i v, rfl, h1, RvL.put h2 ?_⟩
    rw [show j + 1 + i = j + (i + 1) by omega]
    exact g
section
variable {X : Cx} {x : Ct2} {W : WX}
/-- xs[i] = v, xs an own list in slot j -/
def dPut (j : Nat) (Ti Tv : DE) : DS := fun ρ K => Tv ρ (onFl K fun d ρ1 => nz (gt ρ1 j) = true ∧ Ti ρ1 fun r ρ2 => match r with
  | .ok i => (match gt ρ2 j, i with
    | .lst true xs, .int k => ∃ q, ixN xs.length k = some q ∧ K .nx (ρ2.set j (.lst true (xs.set q (fr d))))
    | _, _ => False)
  | .exc _ _ => False)
theorem S_put {j : Nat} {y : Str} {ei ev : Expr} {Ti Tv : DE} {p tpos pos : Pos} (hN : X.N[j]? = some y) (hv : Vis X.env.scope y) (hi : PE X ei (tOfE x.c W Ti)) (he : PE X ev (tOfE x.c W Tv)) (hd : (y == ("__debug__" : Str)) = false := by decide) (hcd : (y == ("__classdict__" : Str)) = false := by decide)
    (ha : ∀ v, assign (.Subscript (.Name y p) ei tpos) X.env v = (do
      let ov ← holding [v] (eval (.Name y p) X.env)
      let iv ← holding [v, ov] (eval ei X.env)
      standAt tpos
      holding [v, ov, iv] (setItem ov iv v)
      release [v, ov, iv] []) := by intro _; rfl)
    (hs : swapsWithSole [.Subscript (.Name y p) ei tpos] ev pos.line X.env = pure false := by rfl) (hw : swappedStores [.Subscript (.Name y p) ei tpos] ev X.env = pure none := by rfl)
    (h1 : (assignEach [.Subscript (.Name y p) ei tpos] X.env).map (·.2) = [assign (.Subscript (.Name y p) ei tpos) X.env] := by rfl) :
    PS X (.Assign [.Subscript (.Name y p) ei tpos] ev pos) (tOfS x W (dPut j Ti Tv)) := by
  refine (ps_asg he (pg_sub (pe_var hN hv hd hcd) hi set_list ha) hs hw h1).imp fun De σ H h => ?_
  obtain ⟨F, Ω, ρ, K, r, t, w⟩ := tOfS_iff.mp h
  refine ⟨F, Ω, ρ, _, r, t, fun d ρ1 q v F1 H1 Ω1 s1 r1 f1 => ?_, w.exw⟩
  obtain ⟨hn, q⟩ := q
  obtain ⟨u, q1, q2⟩ := r1.sl j _ (gt_some hn) (nz_ne hn)
  refine ⟨u, q1, F1, Ω1, ρ1, _, r1, q, fun i ρ2 q3 vi F2 H2 Ω2 s2 r2 f2 => ?_, fun C w ρ' q => q.elim⟩
  dsimp only at q3
  generalize hz : gt ρ2 j = z at q3
  match z, i, q3, hz with
  | .lst true xs, .int k, q3, hz =>
    obtain ⟨n, hx, hk⟩ := q3
    have hn1 : nz (gt ρ2 j) = true := by rw [hz]; rfl
    have hs1 := gt_some hn1
    obtain ⟨v', z1, z2⟩ := r2.sl j _ hs1 (nz_ne hn1)
    rw [q1] at z1
    cases z1
    rw [hz] at z2
    simp only [Rv] at z2
    obtain ⟨a, vs, e1, hA, hH, hr⟩ := z2
    subst e1
    have ei : vi = .int k := by simpa only [Fz] using f2
    have lenv := hr.length
    refine ⟨a, vs, k, n, rfl, ei, hH, by rw [← lenv]; exact hx, ?_⟩
    refine w.nx _ hk σ F2 _ Ω2 ⟨(s1.trans (chg_stp s2 hA fun b o e1 e2 e3 => (s2.ou b o e1 e2 e3).2.2)), chg_slot r2 (List.getElem?_eq_some_iff.mp hs1).1 q1 hA ?_ (fun _ _ e => e) fun b π e => r2.wf.own b π e, Io.refl _ _⟩
    simp only [Rv]
    refine ⟨a, vs.set n v, rfl, hA, upd_same, RvL.put (RvL.move (Sub.refl _) xs [j] [j] 0 vs (fun b i π e => ⟨e, upd_ne fun y => ?_⟩) hr) ((Rv_of_own (own_fr d)).mpr ((Fz_fr _ _ _ _).mpr (Fz.mono s2.ef _ _ f1)))⟩
    rw [y, hA] at e
    simp at e
end
end Vi
/-! Vi13: what the printed derivations name; specs; loops by an invariant. -/
namespace Vi
open PySem L2 PySem.Spec PyProof.Rows

abbrev gSub : Int → Int → D := fun i j => .int (i - j)
abbrev gMul : Int → Int → D := fun i j => .int (i * j)
abbrev gDiv : Int → Int → D := fun i j => .int (i / j)
abbrev gMod : Int → Int → D := fun i j => .int (i % j)
abbrev gPow : Int → Int → D := fun i j => .int (i ^ j.toNat)
abbrev cMod : Int → Int → Prop := fun _ j => 0 < j
abbrev allG : List Bool → Bool := fun bs => bs.all id
abbrev anyG : List Bool → Bool := fun bs => bs.any id
/-- a module's constant -/
def GS (mg : Str → Option Value) (x : Str) (l : List Nat) : Prop := ∃ (s : Str) (t : Tok), mg x = some (.str s t) ∧ s.cps.toList = l
def GI (mg : Str → Option Value) (x : Str) (i : Int) : Prop := ∃ t : Tok, mg x = some (.int i t)
theorem un64 {k : Nat} {A : Around} (hr : Room k A) : A.units + 64 < cLine := by have := hr.un; omega
section
variable {X : Cx} {c : Ct} {W : WX}
theorem E_gS {x : Str} {l : List Nat} {pos : Pos} (hg : Gl X x) (h : GS X.mg x l) (hd : (x == ("__debug__" : Str)) = false := by decide) : PE X (.Name x pos) (tOfE c W (dC (.str l))) := by
  obtain ⟨s, t, h1, h2⟩ := h
  exact E_glob (v := .str s) hg h1 ⟨t, rfl⟩ (fun F => fz_str h2) hd
theorem E_gI {x : Str} {i : Int} {pos : Pos} (hg : Gl X x) (h : GI X.mg x i) (hd : (x == ("__debug__" : Str)) = false := by decide) : PE X (.Name x pos) (tOfE c W (dC (.int i))) := by
  obtain ⟨t, h1⟩ := h
  exact E_glob (v := .int i) hg h1 ⟨t, rfl⟩ (fun F => fz_int) hd
end
/-- a promise: of what is passed, what may come back, what becomes of the arguments -/
def Spec (n : Nat) (pre : List D → Prop) (post : List D → R D → List D → Prop) : FS := fun args K => pre args ∧ ∀ r posts, posts.length = n → post args r posts → K r posts
end Vi
/-! Vi14: what the top has written of the errors, by one look each. -/
namespace Vi
open PySem L2 PySem.Spec PyProof.Rows PySem.AnyX

/-- all that Kind and ExcC ask of the class at C, but its object -/
def kindB (K : PySem.W.Frag) (D fI C : Addr) (bm : List Value) : Bool :=
  PySem.HandSPX.refsVE bm && (PySem.W.alongIn K "__init__" (((Value.ref C :: bm).dropWhile (· != .ref D)).drop 1) == some (some (.builtin "ValueError.__init__")))
  && (PySem.W.findIn K (.ref C) "__setattr__" == some (some (.builtin "object.__setattr__"))) && (PySem.W.findIn K (.ref C) "__getattribute__" == some (some (.builtin "BaseException.__getattribute__")))
  && (PySem.W.findIn K (.ref C) "__getattr__" == some none) && (PySem.W.findIn K (.ref C) "what" == some none) && (PySem.W.findIn K (.ref C) "__init__" == some (some (.ref fI))) && PySem.W.keepIn K (.ref C)
  && (PySem.W.subIn K (.ref C) (.type "BaseException") == some true) && (PySem.W.subIn K (.ref C) (.type "ValueError") == some true) && (PySem.W.typeIn K (.ref C) == some (.type "type")) && PySem.W.hasDictIn K C
  && (PySem.W.mroIn K C (.ref D) == some true) && (PySem.W.findIn K (.ref C) "__class__" == some (some (.builtin "object.__class__"))) && (PySem.W.mroIn K C (.type "object") == some true)
  && (PySem.W.specialIn K (.builtin "object.__class__") "__get__" == some (some (.builtin "getset_descriptor.__get__"))) && (PySem.W.takesIn K (.builtin "object.__class__") == some true)
theorem kind_of {K : PySem.W.Frag} {D fI C : Addr} {bm bs : List Value} {nm q : Str} {N : Addr} {sn : List Str} {sub : List Value} {ab : Bool} {col : Option Bool} {dd : Option Addr} {k0 k1 k2 k3 k5 : Option Value}
    (h : K.lookup C = some (excClassObj nm q C N bs bm true sn sub ab col dd k0 k1 k2 k3 k5 "ValueError.__new__")) (b : kindB K D fI C bm = true) : Kind K D fI C ∧ ExcC K C := by
  unfold kindB at b
  simp only [Bool.and_eq_true, beq_iff_eq] at b
  obtain ⟨⟨⟨⟨⟨⟨⟨⟨⟨⟨⟨⟨⟨⟨⟨⟨b1, b2⟩, b3⟩, b4⟩, b5⟩, b6⟩, b7⟩, b8⟩, b9⟩, b10⟩, b11⟩, b12⟩, b13⟩, b14⟩, b15⟩, b16⟩, b17⟩ := b
  exact ⟨⟨⟨nm, q, N, bs, bm, sn, sub, ab, col, dd, k0, k1, k2, k3, k5, h, b1, b2⟩, b3, b4, b5, b6, b7, b8, b9, b10, b11, b12, b13⟩, ⟨b4, b5, b9, b12, b14, b16, b17, b15⟩⟩
/-- the tables of classes: t[j][C] tells whether the class C is one of the class j -/
def tabB (K : PySem.W.Frag) (cls : Nat → Addr) (n : Nat) (t : Nat → Nat → Option Bool) : Bool := (List.range n).all fun C => (PySem.W.kitOne K (.ref (cls C)) (.type "ValueError") == some true) && (List.range n).all fun j => (t j C).isSome && (PySem.W.exmOne K (.ref (cls C)) (.ref (cls j)) == t j C) && (PySem.W.kitOne K (.ref (cls C)) (.ref (cls j)) == t j C)
theorem tab_of {K : PySem.W.Frag} {cls : Nat → Addr} {n : Nat} {t : Nat → Nat → Option Bool} (h : tabB K cls n t = true) (C : Nat) (hC : C < n) : PySem.W.kitOne K (.ref (cls C)) (.type "ValueError") = some true ∧ ∀ j, j < n → (t j C).isSome = true ∧ PySem.W.exmOne K (.ref (cls C)) (.ref (cls j)) = t j C ∧ PySem.W.kitOne K (.ref (cls C)) (.ref (cls j)) = t j C := by
  unfold tabB at h
  have h1 := List.all_eq_true.mp h C (List.mem_range.mpr hC)
  simp only [Bool.and_eq_true, beq_iff_eq] at h1
  refine ⟨h1.1, fun j hj => ?_⟩
  have h2 := List.all_eq_true.mp h1.2 j (List.mem_range.mpr hj)
  simp only [Bool.and_eq_true, beq_iff_eq] at h2
  exact ⟨h2.1.1, h2.1.2, h2.2⟩
theorem kitAny_of {K : PySem.W.Frag} {t : Value} {cls : Nat → Addr} {g : Nat → Bool} : ∀ {js : List Nat}, (∀ j ∈ js, PySem.W.kitOne K t (.ref (cls j)) = some (g j)) → PySem.W.kitAny K t (js.map fun j => .ref (cls j)) = some (js.any g)
  | [], _ => rfl
  | j :: js, h => by
    have h1 := h j List.mem_cons_self
    have ih := kitAny_of (js := js) fun i hi => h i (List.mem_cons_of_mem _ hi)
    show (match PySem.W.kitOne K t (.ref (cls j)) with | some true => some true | some false => PySem.W.kitAny K t (js.map fun j => .ref (cls j)) | none => none) = _
    rw [h1, List.any_cons]
    cases g j with
    | true => rfl
    | false => exact ih
end Vi
/-! Vi15: the law's own promise, at the heap behind the top. -/
namespace Vi
open PySem L2 PySem.Spec PyProof.Rows

def spLaw (K : PySem.W.Frag) : Sp := fun vs H Q _ => ∃ (a : Addr) (ns : List Int), vs = [.ref a] ∧ SqL K H a (ns.map V.int) ∧ ns.length ≤ 63 ∧ ∀ H', Q (.bl true) H'
/-- the law's data: at every script of at most 63 numbers True comes back -/
def S_LAW : FS := fun args K => ∃ ns : List Int, args = [.klst (ns.map .int)] ∧ ns.length ≤ 63 ∧ ∀ posts, posts.length = 1 → K (.ok (.bl true)) posts
theorem fzl_ints {c : Ct} {F : Hp} : ∀ ns : List Int, FzL c F (ns.map D.int) (ns.map V.int)
  | [] => FzL.nil
  | n :: ns => FzL.cons fz_int (fzl_ints ns)
theorem law_sp {K : PySem.W.Frag} {cls fnA : Nat → Addr} {fl : Nat → List Str} {vs : List V} {H : Hp} {Q : VK} {E : XK} (h : spLaw K vs H Q E) : spOf (⟨K, cls, fl, fnA⟩ : Ct) [] 1 S_LAW vs H Q E := by
  obtain ⟨a, ns, rfl, hs, hl, k⟩ := h
  refine ⟨H, fun _ => none, [.klst (ns.map .int)], fun r posts => r = .ok (.bl true), rfl, ⟨⟨Sub.refl _, fun _ _ e => nomatch e⟩, fun i d h1 h2 => ?_, rfl⟩, ⟨ns, rfl, hl, fun _ _ => rfl⟩, fun d posts q v F' H' Ω' Θ s ip air nw => ?_, fun C w posts q => nomatch q⟩
  · match i, h1 with
    | 0, h1 =>
      cases h1
      refine ⟨.ref a, rfl, (Rv_of_own rfl).mpr ?_⟩
      simp only [Fz]
      exact ⟨a, ns.map V.int, rfl, hs, fzl_ints ns⟩
    | i + 1, h1 => simp at h1
  · cases q
    have e := (Rv_of_own rfl).mp air.rv
    simp only [Fz] at e
    subst e
    exact k H'
theorem walk {l : PySem.W.OpenLaw} {n : Nat} {q : Program} {loose : List Str} {XP : (Str → Option Value) → Heap → Prop} {YP : World → Heap → Prop} {d : DefRec} {K : Params → PySem.W.Frag} (hn : l.most = some 63) (hdf : d.params.defaults = []) (hr : Room n callerA)
    (hY : ∀ (w : World) (h : Heap), YP w h → (K w.params).In h)
    (F : ∀ (w : World) (mg : Str → Option Value) (fa : Addr) (h : Heap), (K w.params).In h → h.Ns mainGlobals mg → mg d.name = some (.ref fa) →
      ∃ fd : FuncData, (∀ (s : Shared) (u : Value), BindsTo s fd ⟨[u], []⟩ [("_law_script", u)]) ∧ ∀ base : Heap, (K w.params).In base → base.Ns mainGlobals mg → FnOk l.prog w (K w.params) mg base (L2.CX l.prog w) n fa fd ["_law_script"] (spLaw (K w.params))) :
    PySem.W.WalkO q loose XP YP l.row.toRowW d [] (fun f vs => PySem.call f vs) :=
  L2.walk_of (n := 63) (k := n) (x := "_law_script") (CX := fun w => L2.CX l.prog w) (sp := fun w => spLaw (K w.params)) hn (by decide) hdf hr hY F (fun _ _ a ns hl _ hS => ⟨a, ns, rfl, hS, hl, fun _ => rfl⟩) fun w H s e s' z => by
    obtain ⟨_, _, _, _, _, _, _, _, _, _, _, _, q⟩ := z
    exact q
end Vi
/-! Vi16: running a data program. -/
namespace Vi
open PySem L2

theorem gt0 (d : D) (ρ : Env) : gt (d :: ρ) 0 = d := rfl
theorem gtS (d : D) (ρ : Env) (i : Nat) : gt (d :: ρ) (i + 1) = gt ρ i := rfl
theorem endK_rt (n : Nat) (K : R D → List D → Prop) (d : D) (ρ : Env) : endK n K (.rt d) ρ = K (.ok d) (ρ.take n) := rfl
theorem endK_nx (n : Nat) (K : R D → List D → Prop) (ρ : Env) : endK n K .nx ρ = K (.ok .non) (ρ.take n) := rfl
theorem endK_exc (n : Nat) (K : R D → List D → Prop) (C : Nat) (w : D) (ρ : Env) : endK n K (.exc C w) ρ = K (.exc C w) (ρ.take n) := rfl
theorem turnK_nx (K : Fl → Env → Prop) (N : Env → Prop) (ρ : Env) : turnK K N .nx ρ = N ρ := rfl
theorem turnK_ct (K : Fl → Env → Prop) (N : Env → Prop) (ρ : Env) : turnK K N .ct ρ = N ρ := rfl
theorem turnK_bk (K : Fl → Env → Prop) (N : Env → Prop) (ρ : Env) : turnK K N .bk ρ = K .nx ρ := rfl
theorem turnK_rt (K : Fl → Env → Prop) (N : Env → Prop) (d : D) (ρ : Env) : turnK K N (.rt d) ρ = K (.rt d) ρ := rfl
theorem turnK_exc (K : Fl → Env → Prop) (N : Env → Prop) (C : Nat) (w : D) (ρ : Env) : turnK K N (.exc C w) ρ = K (.exc C w) ρ := rfl
theorem fr_non  : fr (D.non) = (D.non) := rfl
theorem own_non  : own (D.non) = false := rfl
theorem nz_non  : nz (D.non) = true := rfl
theorem fr_bl (b : Bool) : fr (D.bl b) = (D.bl b) := rfl
theorem own_bl (b : Bool) : own (D.bl b) = false := rfl
theorem nz_bl (b : Bool) : nz (D.bl b) = true := rfl
theorem fr_int (i : Int) : fr (D.int i) = (D.int i) := rfl
theorem own_int (i : Int) : own (D.int i) = false := rfl
theorem nz_int (i : Int) : nz (D.int i) = true := rfl
theorem fr_str (s : List Nat) : fr (D.str s) = (D.str s) := rfl
theorem own_str (s : List Nat) : own (D.str s) = false := rfl
theorem nz_str (s : List Nat) : nz (D.str s) = true := rfl
theorem fr_tup (xs : List D) : fr (D.tup xs) = (D.tup xs) := rfl
theorem own_tup (xs : List D) : own (D.tup xs) = false := rfl
theorem nz_tup (xs : List D) : nz (D.tup xs) = true := rfl
theorem fr_lst (o : Bool) (xs : List D) : fr (D.lst o xs) = (D.lst false xs) := rfl
theorem own_lst (o : Bool) (xs : List D) : own (D.lst o xs) = o := rfl
theorem nz_lst (o : Bool) (xs : List D) : nz (D.lst o xs) = true := rfl
theorem fr_klst (xs : List D) : fr (D.klst xs) = (D.klst xs) := rfl
theorem own_klst (xs : List D) : own (D.klst xs) = false := rfl
theorem nz_klst (xs : List D) : nz (D.klst xs) = true := rfl
theorem fr_dic (o : Bool) (ks : DKs) (xs : List D) : fr (D.dic o ks xs) = (D.dic false ks xs) := rfl
theorem own_dic (o : Bool) (ks : DKs) (xs : List D) : own (D.dic o ks xs) = o := rfl
theorem nz_dic (o : Bool) (ks : DKs) (xs : List D) : nz (D.dic o ks xs) = true := rfl
theorem fr_ins (o : Bool) (C : Nat) (xs : List D) : fr (D.ins o C xs) = (D.ins false C xs) := rfl
theorem own_ins (o : Bool) (C : Nat) (xs : List D) : own (D.ins o C xs) = o := rfl
theorem nz_ins (o : Bool) (C : Nat) (xs : List D) : nz (D.ins o C xs) = true := rfl
theorem fr_exo (a cd : Addr) (C : Nat) (w : D) : fr (D.exo a cd C w) = (D.exo a cd C w) := rfl
theorem own_exo (a cd : Addr) (C : Nat) (w : D) : own (D.exo a cd C w) = false := rfl
theorem nz_exo (a cd : Addr) (C : Nat) (w : D) : nz (D.exo a cd C w) = true := rfl
theorem fr_fn (k : Nat) : fr (D.fn k) = (D.fn k) := rfl
theorem own_fn (k : Nat) : own (D.fn k) = false := rfl
theorem nz_fn (k : Nat) : nz (D.fn k) = true := rfl
/-- a for by an invariant -/
theorem for_inv {G : DG} {B : DS} {K : Fl → Env → Prop} (Iv : Nat → Env → Prop) : ∀ (ds : List D) (j : Nat) (ρ : Env), Iv j ρ →
    (∀ i d ρ (N : Env → Prop), ds[i]? = some d → Iv (j + i) ρ → (∀ ρ', Iv (j + i + 1) ρ' → N ρ') → G d ρ fun ρ1 => B ρ1 (turnK K N)) → (∀ ρ, Iv (j + ds.length) ρ → K .nx ρ) → forW G B ds ρ K
  | [], j, ρ, h0, _, he => he ρ h0
  | d :: ds, j, ρ, h0, st, he => by
    refine st 0 d ρ _ rfl h0 fun ρ' h1 => ?_
    refine for_inv Iv ds (j + 1) ρ' h1 (fun i d ρ N e h k => ?_) fun ρ h => he ρ ?_
    · have e1 : j + 1 + i = j + (i + 1) := by omega
      rw [e1] at h k
      exact st (i + 1) d ρ N (by simpa using e) h k
    · rw [List.length_cons, show j + (ds.length + 1) = j + 1 + ds.length by omega]
      exact h
theorem for_dn {G : DG} {B : DS} {K : Fl → Env → Prop} {ds : List D} {ρ : Env} (Iv : Nat → Env → Prop) (h0 : Iv 0 ρ)
    (st : ∀ i d ρ (N : Env → Prop), ds[i]? = some d → Iv i ρ → (∀ ρ', Iv (i + 1) ρ' → N ρ') → G d ρ fun ρ1 => B ρ1 (turnK K N)) (he : ∀ ρ, Iv ds.length ρ → K .nx ρ) : forW G B ds ρ K :=
  for_inv Iv ds 0 ρ h0 (fun i d ρ N e h k => st i d ρ N e (by simpa using h) fun ρ' q => k ρ' (by simpa using q)) fun ρ h => he ρ (by simpa using h)
theorem rngD_len (lo : Int) (n : Nat) : (rngD lo n).length = n := by unfold rngD; simp
theorem rngD_get {lo : Int} {n i : Nat} {d : D} (h : (rngD lo n)[i]? = some d) : i < n ∧ d = .int (lo + (i : Int)) := by
  unfold rngD at h
  rw [List.getElem?_map] at h
  cases e : (List.range n)[i]? with
  | none => rw [e] at h; cases h
  | some k =>
    rw [e] at h
    have hl := (List.getElem?_eq_some_iff.mp e).1
    rw [List.length_range] at hl
    rw [List.getElem?_range hl] at e
    cases e
    cases h
    exact ⟨hl, rfl⟩
/-- a comprehension by an invariant of what it has so far -/
theorem lc_inv {G : DG} {C : DT} {E : DE} {vs : List Nat} {ρ : Env} {K : List D → Env → Prop} (Iv : Nat → List D → Prop) : ∀ (ds : List D) (j : Nat) (acc : List D), Iv j acc →
    (∀ i d acc (N : List D → Env → Prop), ds[i]? = some d → Iv (j + i) acc → (∀ acc', Iv (j + i + 1) acc' → N acc' ρ) → G d ρ fun ρ1 => C ρ1 fun b ρ2 => match b with
      | .ok true => E ρ2 fun e ρ3 => (match e with | .ok e => N (acc ++ [fr e]) (unb ρ3 vs) | .exc _ _ => False)
      | .ok false => N acc (unb ρ2 vs)
      | .exc _ _ => False) → (∀ acc, Iv (j + ds.length) acc → K acc ρ) → lcW G C E vs ds acc ρ K
  | [], j, acc, h0, _, he => he acc h0
  | d :: ds, j, acc, h0, st, he => by
    refine st 0 d acc (fun acc' ρ' => lcW G C E vs ds acc' ρ' K) rfl h0 fun acc' h1 => ?_
    refine lc_inv Iv ds (j + 1) acc' h1 (fun i d acc N e h k => ?_) fun acc h => he acc ?_
    · have e1 : j + 1 + i = j + (i + 1) := by omega
      rw [e1] at h k
      exact st (i + 1) d acc N (by simpa using e) h k
    · rw [List.length_cons, show j + (ds.length + 1) = j + 1 + ds.length by omega]
      exact h
theorem lc_dn {G : DG} {C : DT} {E : DE} {vs : List Nat} {ρ : Env} {ds : List D} {K : List D → Env → Prop} (Iv : Nat → List D → Prop) (h0 : Iv 0 [])
    (st : ∀ i d acc (N : List D → Env → Prop), ds[i]? = some d → Iv i acc → (∀ acc', Iv (i + 1) acc' → N acc' ρ) → G d ρ fun ρ1 => C ρ1 fun b ρ2 => match b with
      | .ok true => E ρ2 fun e ρ3 => (match e with | .ok e => N (acc ++ [fr e]) (unb ρ3 vs) | .exc _ _ => False)
      | .ok false => N acc (unb ρ2 vs)
      | .exc _ _ => False) (he : ∀ acc, Iv ds.length acc → K acc ρ) : lcW G C E vs ds [] ρ K :=
  lc_inv Iv ds 0 [] h0 (fun i d acc N e h k => st i d acc N e (by simpa using h) fun acc' q => k acc' (by simpa using q)) fun acc h => he acc (by simpa using h)
theorem wb_n (ρ : Env) (ds : List D) : wb ρ [] ds = ρ := by cases ds <;> rfl
theorem wb_sl (ρ : Env) (i : Nat) (os : List Opd) (d : D) (ds : List D) : wb ρ (.sl i :: os) (d :: ds) = wb (ρ.set i d) os ds := rfl
theorem wb_vc (ρ : Env) (a : D) (os : List Opd) (d : D) (ds : List D) : wb ρ (.vl a :: os) (d :: ds) = wb ρ os ds := rfl
theorem wb_vn (ρ : Env) (a : D) (os : List Opd) : wb ρ (.vl a :: os) [] = ρ := rfl
theorem wb_v1 (ρ : Env) (a : D) (ds : List D) : wb ρ [.vl a] ds = ρ := by
  cases ds with
  | nil => rfl
  | cons d ds => exact wb_n ρ ds
theorem wb_v2 (ρ : Env) (a b : D) (ds : List D) : wb ρ [.vl a, .vl b] ds = ρ := by
  cases ds with
  | nil => rfl
  | cons d ds => exact wb_v1 ρ b ds
theorem wb_v3 (ρ : Env) (a b e : D) (ds : List D) : wb ρ [.vl a, .vl b, .vl e] ds = ρ := by
  cases ds with
  | nil => rfl
  | cons d ds => exact wb_v2 ρ b e ds
theorem call_step {io : List Nat} {n : Nat} {S : FS} {os : List Opd} {ρ : Env} {K : R D → Env → Prop} (h1 : atOk os = true) (h2 : ioOk io os = true) (h3 : os.length = n) (h : S (os.map (sea ρ)) fun r posts => posts.length = n ∧ K r (wb ρ os posts)) : callD io n S os ρ K := ⟨h1, h2, h3, h⟩
theorem callD_cg {io : List Nat} {n : Nat} {S : FS} {os os' : List Opd} {ρ ρ' : Env} {K : R D → Env → Prop} (h : os = os') (g : ρ = ρ') : callD io n S os ρ K = callD io n S os' ρ' K := by rw [h, g]
theorem forW_cg {G : DG} {B : DS} {ds ds' : List D} {ρ ρ' : Env} {K : Fl → Env → Prop} (h : ds = ds') (g : ρ = ρ') : forW G B ds ρ K = forW G B ds' ρ' K := by rw [h, g]
theorem lcW_cg {G : DG} {C : DT} {E : DE} {vs : List Nat} {ds ds' acc : List D} {ρ ρ' : Env} {K : List D → Env → Prop} (h : ds = ds') (g : ρ = ρ') : lcW G C E vs ds acc ρ K = lcW G C E vs ds' acc ρ' K := by rw [h, g]
theorem oInt_cg {C : Int → Int → Prop} {g : Int → Int → D} {d d' e e' : D} {K : D → Prop} (p : d = d') (q : e = e') : oInt C g d e K = oInt C g d' e' K := by rw [p, q]
theorem oInt0_cg {g : Int → Int → D} {d d' e e' : D} {K : D → Prop} (p : d = d') (q : e = e') : oInt0 g d e K = oInt0 g d' e' K := by rw [p, q]
theorem oAdd_cg {d d' e e' : D} {K : D → Prop} (p : d = d') (q : e = e') : oAdd  d e K = oAdd  d' e' K := by rw [p, q]
theorem oOrd_cg {g : Int → Int → Bool} {h : List Nat → List Nat → Bool} {d d' e e' : D} {K : D → Prop} (p : d = d') (q : e = e') : oOrd g h d e K = oOrd g h d' e' K := by rw [p, q]
theorem oEq_cg {g : Bool → Bool} {d d' e e' : D} {K : D → Prop} (p : d = d') (q : e = e') : oEq g d e K = oEq g d' e' K := by rw [p, q]
theorem oIsN_cg {g : Bool → Bool} {d d' e e' : D} {K : D → Prop} (p : d = d') (q : e = e') : oIsN g d e K = oIsN g d' e' K := by rw [p, q]
theorem oInS_cg {g : Bool → Bool} {d d' e e' : D} {K : D → Prop} (p : d = d') (q : e = e') : oInS g d e K = oInS g d' e' K := by rw [p, q]
theorem oIx_cg {d d' e e' : D} {K : D → Prop} (p : d = d') (q : e = e') : oIx  d e K = oIx  d' e' K := by rw [p, q]
theorem oLen_cg {d d' : List D} {K : D → Prop} (p : d = d') : oLen  d K = oLen  d' K := by rw [p]
theorem oAbs_cg {d d' : List D} {K : D → Prop} (p : d = d') : oAbs  d K = oAbs  d' K := by rw [p]
theorem oInt1_cg {d d' : List D} {K : D → Prop} (p : d = d') : oInt1  d K = oInt1  d' K := by rw [p]
theorem oAll_cg {g : List Bool → Bool} {d d' : List D} {K : D → Prop} (p : d = d') : oAll g d K = oAll g d' K := by rw [p]
theorem oReprB_cg {d d' : List D} {K : D → Prop} (p : d = d') : oReprB  d K = oReprB  d' K := by rw [p]
theorem atD_cg {d d' : List D} {i i' : Int} {K : D → Prop} (p : d = d') (q : i = i') : atD d i K = atD d' i' K := by rw [p, q]
theorem int1_cg {d d' : List D} {K : Int → Prop} (p : d = d') : int1 d K = int1 d' K := by rw [p]
theorem int2_cg {d d' : List D} {K : Int → Int → Prop} (p : d = d') : int2 d K = int2 d' K := by rw [p]
theorem eqD_ii (i j : Int) : eqD (.int i) (.int j) = (i == j) := by simp only [eqD]
theorem eqD_ss (i j : List Nat) : eqD (.str i) (.str j) = (i == j) := by simp only [eqD]
theorem eqD_bb (i j : Bool) : eqD (.bl i) (.bl j) = (i == j) := by simp only [eqD]
theorem eqD_nn : eqD .non .non = true := by simp only [eqD]
theorem eqD_sn (s : List Nat) : eqD (.str s) .non = false := by simp only [eqD]
theorem eqD_ns (s : List Nat) : eqD .non (.str s) = false := by simp only [eqD]
theorem eqD_ll (o p : Bool) (xs ys : List D) : eqD (.lst o xs) (.lst p ys) = eqDs xs ys := by simp only [eqD]
theorem eqD_tt (xs ys : List D) : eqD (.tup xs) (.tup ys) = eqDs xs ys := by simp only [eqD]
theorem eqDs_nn : eqDs [] [] = true := by simp only [eqDs]
theorem eqDs_cn (x : D) (xs : List D) : eqDs (x :: xs) [] = false := by simp only [eqDs]
theorem eqDs_nc (x : D) (xs : List D) : eqDs [] (x :: xs) = false := by simp only [eqDs]
theorem eqDs_cc (x y : D) (xs ys : List D) : eqDs (x :: xs) (y :: ys) = (eqD x y && eqDs xs ys) := by simp only [eqDs]
theorem shp_i (n : Nat) (i : Int) : shp n (.int i) = true := by simp only [shp]
theorem shp_b (n : Nat) (i : Bool) : shp n (.bl i) = true := by simp only [shp]
theorem shp_n (n : Nat) : shp n .non = true := by simp only [shp]
theorem shp_s (n : Nat) (s : List Nat) : shp n (.str s) = s.all (· < 128) := by simp only [shp]
theorem shp_l (n : Nat) (o : Bool) (xs : List D) : shp (n + 1) (.lst o xs) = shps n xs := by simp only [shp]
theorem shp_t (n : Nat) (xs : List D) : shp (n + 1) (.tup xs) = shps n xs := by simp only [shp]
theorem shps_n (n : Nat) : shps n [] = true := by simp only [shps]
theorem shps_c (n : Nat) (x : D) (xs : List D) : shps n (x :: xs) = (shp n x && shps n xs) := by simp only [shps]
theorem endT_rt (i : Nat) (K : Fl → Env → Prop) (d : D) (ρ : Env) : endT i K (.rt d) ρ = K (.rt d) ρ := rfl
theorem endT_nx (i : Nat) (K : Fl → Env → Prop) (ρ : Env) : endT i K .nx ρ = K .nx (ρ.set i .und) := rfl
theorem dIs_eq {cl : Nat → Addr} {i : Nat} {a cd : Addr} {C : Nat} {f : Nat → Option Bool} {ρ : Env} {K : R D → Env → Prop} : dIs cl i a (.ref (cl C)) (some cd) f ρ K = (match gt ρ i with
    | .exo a' cd' C' _ => a' = a ∧ cd' = cd ∧ cl C = cl C' ∧ (match f C' with | some b => K (.ok (.bl b)) ρ | none => False)
    | _ => False) := by
  apply propext
  constructor
  · rintro ⟨C', w, b, ⟨cd', e1, e2, e3⟩, e4, q⟩
    cases e2
    rw [e1]
    refine ⟨rfl, rfl, by injection e3, ?_⟩
    rw [e4]
    exact q
  · intro h
    unfold dIs
    cases e : gt ρ i with
    | exo a' cd' C' w =>
      rw [e] at h
      obtain ⟨rfl, rfl, h3, h4⟩ := h
      cases e5 : f C' with
      | none => rw [e5] at h4; exact h4.elim
      | some b =>
        rw [e5] at h4
        exact ⟨C', w, b, ⟨cd', e, rfl, by rw [h3]⟩, e5, h4⟩
    | _ => rw [e] at h; exact h.elim
theorem dWhat_eq {cl : Nat → Addr} {i : Nat} {a cd : Addr} {C : Nat} {fam : Nat → Bool} {ρ : Env} {K : R D → Env → Prop} : dWhat cl i a (.ref (cl C)) (some cd) fam ρ K = (match gt ρ i with
    | .exo a' cd' C' w => a' = a ∧ cd' = cd ∧ cl C = cl C' ∧ fam C' = true ∧ K (.ok w) ρ
    | _ => False) := by
  apply propext
  constructor
  · rintro ⟨C', w, ⟨cd', e1, e2, e3⟩, e4, q⟩
    cases e2
    rw [e1]
    exact ⟨rfl, rfl, by injection e3, e4, q⟩
  · intro h
    cases e : gt ρ i with
    | exo a' cd' C' w =>
      rw [e] at h
      obtain ⟨rfl, rfl, h3, h4, h5⟩ := h
      exact ⟨C', w, ⟨cd', e, rfl, by rw [h3]⟩, h4, h5⟩
    | _ => rw [e] at h; exact h.elim
/-! ### head first: a value or an environment is worked out before what follows is looked at -/
def dAt (d : D) (k : D → Prop) : Prop := k d
def eAt (ρ : Env) (k : Env → Prop) : Prop := k ρ
theorem dAt_cg {d d' : D} {k : D → Prop} (h : d = d') : dAt d k = dAt d' k := by rw [h]
theorem eAt_cg {d d' : Env} {k : Env → Prop} (h : d = d') : eAt d k = eAt d' k := by rw [h]
theorem eAt_c (d : D) (ρ : Env) (k : Env → Prop) : eAt (d :: ρ) k = k (d :: ρ) := rfl
theorem dAt_non  (k : D → Prop) : dAt (D.non) k = k (D.non) := rfl
theorem dAt_bl (b : Bool) (k : D → Prop) : dAt (D.bl b) k = k (D.bl b) := rfl
theorem dAt_int (i : Int) (k : D → Prop) : dAt (D.int i) k = k (D.int i) := rfl
theorem dAt_str (s : List Nat) (k : D → Prop) : dAt (D.str s) k = k (D.str s) := rfl
theorem dAt_tup (xs : List D) (k : D → Prop) : dAt (D.tup xs) k = k (D.tup xs) := rfl
theorem dAt_lst (o : Bool) (xs : List D) (k : D → Prop) : dAt (D.lst o xs) k = k (D.lst o xs) := rfl
theorem dAt_klst (xs : List D) (k : D → Prop) : dAt (D.klst xs) k = k (D.klst xs) := rfl
theorem dAt_dic (o : Bool) (ks : DKs) (xs : List D) (k : D → Prop) : dAt (D.dic o ks xs) k = k (D.dic o ks xs) := rfl
theorem dAt_ins (o : Bool) (C : Nat) (xs : List D) (k : D → Prop) : dAt (D.ins o C xs) k = k (D.ins o C xs) := rfl
theorem dAt_exo (a cd : Addr) (C : Nat) (w : D) (k : D → Prop) : dAt (D.exo a cd C w) k = k (D.exo a cd C w) := rfl
theorem dAt_fn (j : Nat) (k : D → Prop) : dAt (D.fn j) k = k (D.fn j) := rfl
theorem dAt_und  (k : D → Prop) : dAt (D.und) k = k (D.und) := rfl
theorem dVar_r {i : Nat} {ρ : Env} {K : R D → Env → Prop} : dVar i ρ K = dAt (gt ρ i) fun d => nz d = true ∧ dAt (fr d) fun d' => eAt (Vi.frs ρ i) fun ρ' => K (.ok d') ρ' := rfl
theorem dFr_r {T : DE} {ρ : Env} {K : R D → Env → Prop} : dFr T ρ K = T ρ (onOk K fun d ρ' => dAt (fr d) fun d' => K (.ok d') ρ') := rfl
theorem dSet_r {i : Nat} {T : DE} {ρ : Env} {K : Fl → Env → Prop} : dSet i T ρ K = T ρ (onFl K fun d ρ' => eAt (ρ'.set i d) fun ρ2 => K .nx ρ2) := rfl
theorem dgN_r {i : Nat} {d : D} {ρ : Env} {K : Env → Prop} : dgN i d ρ K = dAt (fr d) fun d' => eAt (ρ.set i d') K := rfl
def putK (d i v : D) (ρ : Env) (j : Nat) (k : Env → Prop) : Prop := match d, i with
  | .lst true xs, .int n => ∃ q, ixN xs.length n = some q ∧ k (ρ.set j (.lst true (xs.set q (fr v))))
  | _, _ => False
theorem putK_cg {d d' i i' v v' : D} {ρ ρ' : Env} {j : Nat} {k : Env → Prop} (h1 : d = d') (h2 : i = i') (h3 : v = v') (h4 : ρ = ρ') : putK d i v ρ j k = putK d' i' v' ρ' j k := by rw [h1, h2, h3, h4]
theorem putK_li {xs : List D} {n : Int} {v : D} {ρ : Env} {j : Nat} {k : Env → Prop} : putK (.lst true xs) (.int n) v ρ j k = ∃ q, ixN xs.length n = some q ∧ k (ρ.set j (.lst true (xs.set q (fr v)))) := rfl
def exF (r : R D) (k : D → Prop) : Prop := match r with
  | .ok d => k d
  | .exc _ _ => False
theorem exF_ok (d : D) (k : D → Prop) : exF (.ok d) k = k d := rfl
theorem dPut_r {j : Nat} {Ti Tv : DE} {ρ : Env} {K : Fl → Env → Prop} : dPut j Ti Tv ρ K = Tv ρ (onFl K fun d ρ1 => nz (gt ρ1 j) = true ∧ Ti ρ1 fun r ρ2 => exF r fun i => putK (gt ρ2 j) i d ρ2 j fun ρ3 => K .nx ρ3) := by
  unfold dPut
  congr
def appK (d v : D) (ρ : Env) (j : Nat) (k : Env → Prop) : Prop := match d with
  | .lst true xs => xs.length < 1000000 ∧ k (ρ.set j (.lst true (xs ++ [v])))
  | _ => False
theorem appK_cg {d d' v v' : D} {ρ ρ' : Env} {j : Nat} {k : Env → Prop} (h1 : d = d') (h3 : v = v') (h4 : ρ = ρ') : appK d v ρ j k = appK d' v' ρ' j k := by rw [h1, h3, h4]
theorem appK_l {xs : List D} {v : D} {ρ : Env} {j : Nat} {k : Env → Prop} : appK (.lst true xs) v ρ j k = (xs.length < 1000000 ∧ eAt (ρ.set j (.lst true (xs ++ [v]))) k) := rfl
theorem dApp_r {j : Nat} {T : DE} {ρ : Env} {K : Fl → Env → Prop} : dApp j T ρ K = (isLst (gt ρ j) = true ∧ T ρ (onFl K fun d ρ1 => appK (gt ρ1 j) d ρ1 j fun ρ2 => K .nx ρ2)) := rfl
def blK (d : D) (k : Bool → Prop) : Prop := match d with
  | .bl b => k b
  | _ => False
theorem blK_cg {d d' : D} {k : Bool → Prop} (h1 : d = d') : blK d k = blK d' k := by rw [h1]
theorem blK_b (b : Bool) (k : Bool → Prop) : blK (.bl b) k = k b := rfl
theorem dB_r {T : DE} {ρ : Env} {K : R Bool → Env → Prop} : dB T ρ K = T ρ (onOk K fun d ρ' => blK d fun b => K (.ok b) ρ') := rfl
theorem dAndV_r {A B : DE} {ρ : Env} {K : R D → Env → Prop} : dAndV A B ρ K = A ρ (onOk K fun d ρ' => blK d fun b => if b = true then B ρ' K else K (.ok (.bl false)) ρ') := rfl
theorem dOrV_r {A B : DE} {ρ : Env} {K : R D → Env → Prop} : dOrV A B ρ K = A ρ (onOk K fun d ρ' => blK d fun b => if b = true then K (.ok (.bl true)) ρ' else B ρ' K) := rfl
theorem dNotV_r {A : DE} {ρ : Env} {K : R D → Env → Prop} : dNotV A ρ K = A ρ (onOk K fun d ρ' => blK d fun b => K (.ok (.bl (!b))) ρ') := rfl
theorem dChn_r {o o' : D → D → (D → Prop) → Prop} {A B C : DO} {ρ : Env} {K : R D → Env → Prop} : dChn o o' A B C ρ K = A ρ (onOk K fun x ρ1 => B ρ1 (onOk K fun y ρ2 => nz (see ρ2 x) = true ∧ nz (see ρ2 y) = true ∧ o (see ρ2 x) (see ρ2 y) fun z => blK z fun b => if b = true then C ρ2 (onOk K fun w ρ3 => nz (see ρ3 y) = true ∧ nz (see ρ3 w) = true ∧ o' (see ρ3 y) (see ρ3 w) fun z' => K (.ok z') ρ3) else K (.ok (.bl false)) ρ2)) := rfl
def slK (d : D) (lo hi : Option Int) (k : D → Prop) : Prop := match d with
  | .str s => s.length ≤ 1000000 ∧ k (.str (cut s lo hi))
  | .lst _ xs => xs.all (fun d => !own d) = true ∧ k (.lst false (cut xs lo hi))
  | _ => False
theorem slK_cg {d d' : D} {lo lo' hi hi' : Option Int} {k : D → Prop} (h1 : d = d') (h2 : lo = lo') (h3 : hi = hi') : slK d lo hi k = slK d' lo' hi' k := by rw [h1, h2, h3]
theorem slK_s (s : List Nat) (lo hi : Option Int) (k : D → Prop) : slK (.str s) lo hi k = (s.length ≤ 1000000 ∧ k (.str (cut s lo hi))) := rfl
theorem slK_l (o : Bool) (xs : List D) (lo hi : Option Int) (k : D → Prop) : slK (.lst o xs) lo hi k = (xs.all (fun d => !own d) = true ∧ k (.lst false (cut xs lo hi))) := rfl
theorem dSl_r {O : DO} {L H : DP} {ρ : Env} {K : R D → Env → Prop} : dSl O L H ρ K = O ρ (onOk K fun o ρ1 => L ρ1 (onOk K fun lo ρ2 => H ρ2 (onOk K fun hi ρ3 => slK (see ρ3 o) lo hi fun d => K (.ok d) ρ3))) := by
  unfold dSl slK
  congr
def atS (s : List Nat) (i : Int) (k : D → Prop) : Prop := match atI s i with
  | some a => k (.str [a])
  | none => False
theorem atS_cg {s s' : List Nat} {i i' : Int} {k : D → Prop} (h1 : s = s') (h2 : i = i') : atS s i k = atS s' i' k := by rw [h1, h2]
theorem oIx_l (o : Bool) (xs : List D) (i : Int) (k : D → Prop) : oIx (.lst o xs) (.int i) k = atD xs i k := rfl
theorem oIx_k (xs : List D) (i : Int) (k : D → Prop) : oIx (.klst xs) (.int i) k = atD xs i k := rfl
theorem oIx_t (xs : List D) (i : Int) (k : D → Prop) : oIx (.tup xs) (.int i) k = atD xs i k := rfl
theorem oIx_s (s : List Nat) (i : Int) (k : D → Prop) : oIx (.str s) (.int i) k = (s.length ≤ 1000000 ∧ atS s i k) := rfl
theorem atD_of {xs : List D} {i : Int} {d : D} {k : D → Prop} (h : atI xs i = some d) (h2 : own d = false) (h3 : k d) : atD xs i k := by
  unfold atD
  rw [h]
  exact ⟨h2, h3⟩
theorem atS_of {xs : List Nat} {i : Int} {c : Nat} {k : D → Prop} (h : atI xs i = some c) (h3 : k (.str [c])) : atS xs i k := by
  unfold atS
  rw [h]
  exact h3
theorem bls_map : ∀ (l : List Bool), bls (l.map D.bl) = some l
  | [] => rfl
  | b :: l => by
    show (bls (l.map D.bl)).map (b :: ·) = _
    rw [bls_map l]
    rfl
theorem oAll_m {g : List Bool → Bool} (o : Bool) (l : List Bool) (k : D → Prop) : oAll g [.lst o (l.map D.bl)] k = k (.bl (g l)) := by
  show (match bls (l.map D.bl) with | some bs => k (.bl (g bs)) | none => False) = _
  rw [bls_map]
def stK (d : D) (k : List Nat → Prop) : Prop := match d with
  | .str b => k b
  | _ => False
theorem stK_cg {d d' : D} {k : List Nat → Prop} (h1 : d = d') : stK d k = stK d' k := by rw [h1]
theorem stK_b (b : List Nat) (k : List Nat → Prop) : stK (.str b) k = k b := rfl
theorem dLenSet_r {T : DE} {ρ : Env} {K : R D → Env → Prop} : dLenSet T ρ K = T ρ (onOk K fun d ρ' => stK d fun x => x.length + 1 < 4096 ∧ K (.ok (.int (onceN x).length)) ρ') := rfl
theorem dItS_r {T : DE} {ρ : Env} {K : R (List D) → Env → Prop} : dItS T ρ K = T ρ (onOk K fun d ρ' => stK d fun s => K (.ok (s.map fun c => .str [c])) ρ') := rfl
def seqK (d : D) (k : List D → Prop) : Prop := match d with
  | .lst _ b => k b
  | .klst b => k b
  | _ => False
theorem seqK_cg {d d' : D} {k : List D → Prop} (h1 : d = d') : seqK d k = seqK d' k := by rw [h1]
theorem seqK_l (o : Bool) (b : List D) (k : List D → Prop) : seqK (.lst o b) k = k b := rfl
theorem seqK_k (b : List D) (k : List D → Prop) : seqK (.klst b) k = k b := rfl
theorem dItL_r {T : DE} {ρ : Env} {K : R (List D) → Env → Prop} : dItL T ρ K = T ρ (onOk K fun d ρ' => seqK d fun s => K (.ok s) ρ') := by
  unfold dItL
  congr
def tupK (d : D) (k : List D → Prop) : Prop := match d with
  | .tup b => k b
  | _ => False
theorem tupK_cg {d d' : D} {k : List D → Prop} (h1 : d = d') : tupK d k = tupK d' k := by rw [h1]
theorem tupK_t (b : List D) (k : List D → Prop) : tupK (.tup b) k = k b := rfl
theorem dItT_r {T : DE} {ρ : Env} {K : R (List D) → Env → Prop} : dItT T ρ K = T ρ (onOk K fun d ρ' => tupK d fun s => K (.ok s) ρ') := rfl
def inK (d : D) (k : Int → Prop) : Prop := match d with
  | .int b => k b
  | _ => False
theorem inK_cg {d d' : D} {k : Int → Prop} (h1 : d = d') : inK d k = inK d' k := by rw [h1]
theorem inK_b (b : Int) (k : Int → Prop) : inK (.int b) k = k b := rfl
theorem dPs_r {T : DE} {ρ : Env} {K : R (Option Int) → Env → Prop} : dPs T ρ K = T ρ (onOk K fun d ρ' => inK d fun i => K (.ok (some i)) ρ') := rfl

theorem oAdd_ii (i j : Int) (k : D → Prop) : oAdd (.int i) (.int j) k = k (.int (i + j)) := rfl
theorem oAdd_ss (i j : List Nat) (k : D → Prop) : oAdd (.str i) (.str j) k = (i.length + j.length ≤ 1000000 ∧ k (.str (i ++ j))) := rfl
theorem oAdd_ll (o p : Bool) (xs ys : List D) (k : D → Prop) : oAdd (.lst o xs) (.lst p ys) k = ((xs.all (fun d => !own d) = true ∧ ys.all (fun d => !own d) = true) ∧ xs.length + ys.length ≤ 1000000 ∧ k (.lst false (xs ++ ys))) := rfl
theorem oAdd_tt (xs ys : List D) (k : D → Prop) : oAdd (.tup xs) (.tup ys) k = (xs ≠ [] ∧ xs.length + ys.length ≤ 1000000 ∧ k (.tup (xs ++ ys))) := rfl
theorem oOrd_ii {g : Int → Int → Bool} {h : List Nat → List Nat → Bool} (i j : Int) (k : D → Prop) : oOrd g h (.int i) (.int j) k = k (.bl (g i j)) := rfl
theorem oOrd_ss {g : Int → Int → Bool} {h : List Nat → List Nat → Bool} (i j : List Nat) (k : D → Prop) : oOrd g h (.str i) (.str j) k = k (.bl (h i j)) := rfl
theorem oInS_r {g : Bool → Bool} (a : Nat) (t : List Nat) (k : D → Prop) : oInS g (.str [a]) (.str t) k = k (.bl (g (decide (a ∈ t)))) := rfl
theorem oInt_r {C : Int → Int → Prop} {g : Int → Int → D} (i j : Int) (k : D → Prop) : oInt C g (.int i) (.int j) k = (C i j ∧ k (g i j)) := rfl
theorem oInt0_r {g : Int → Int → D} (i j : Int) (k : D → Prop) : oInt0 g (.int i) (.int j) k = k (g i j) := rfl
theorem oLen_l (o : Bool) (xs : List D) (k : D → Prop) : oLen [.lst o xs] k = k (.int xs.length) := rfl
theorem oLen_k (xs : List D) (k : D → Prop) : oLen [.klst xs] k = k (.int xs.length) := rfl
theorem oLen_t (xs : List D) (k : D → Prop) : oLen [.tup xs] k = k (.int xs.length) := rfl
theorem oLen_s (s : List Nat) (k : D → Prop) : oLen [.str s] k = (s.length ≤ 1000000 ∧ k (.int s.length)) := rfl
theorem oAbs_r (i : Int) (k : D → Prop) : oAbs [.int i] k = k (.int (if i < 0 then -i else i)) := rfl
theorem oInt1_i (i : Int) (k : D → Prop) : oInt1 [.int i] k = k (.int i) := rfl
theorem oInt1_b (b : Bool) (k : D → Prop) : oInt1 [.bl b] k = k (.int (if b then 1 else 0)) := rfl
theorem oReprB_r (b : Bool) (k : D → Prop) : oReprB [.bl b] k = k (.str (if b then [84, 114, 117, 101] else [70, 97, 108, 115, 101])) := rfl
theorem int1_r (i : Int) (k : Int → Prop) : int1 [.int i] k = k i := rfl
theorem int2_r (i j : Int) (k : Int → Int → Prop) : int2 [.int i, .int j] k = k i j := rfl
theorem isLst_l (o : Bool) (xs : List D) : isLst (.lst o xs) = true := rfl
theorem see_v (ρ : Env) (d : D) : see ρ (.vl d) = d := rfl
theorem see_s (ρ : Env) (i : Nat) : see ρ (.sl i) = gt ρ i := rfl
theorem sea_v (ρ : Env) (d : D) : sea ρ (.vl d) = fr d := rfl
theorem sea_s (ρ : Env) (i : Nat) : sea ρ (.sl i) = gt ρ i := rfl

end Vi
/-! Vi17: attributes; tuple(..), list(..); index and join of texts. -/
namespace Vi
open PySem L2 PySem.Spec PyProof.Rows

/-! ### the first place of a sign -/
theorem occ_stays (s sub : Str) (hi : Nat) : ∀ (l : List Nat) (a : Nat) (f : Nat), (forIn l ((#[a] : Array Nat), f) (PySem.StrLaws.occBody s sub hi 1)).run.fst = #[a]
  | [], a, f => rfl
  | b :: l, a, f => by
    rw [List.forIn_cons]
    unfold PySem.StrLaws.occBody
    rw [if_neg (by simp)]
    exact occ_stays s sub hi l a f
theorem occ_first (x : Str) (c : Nat) : ∀ (l : List Nat) (f : Nat), (∀ i ∈ l, f ≤ i) → (forIn l ((#[] : Array Nat), f) (PySem.StrLaws.occBody x ⟨#[c]⟩ x.length 1)).run.fst.toList.head? = l.find? fun i => x.cps.toList[i]? == some c
  | [], f, _ => rfl
  | a :: l, f, h => by
    rw [List.forIn_cons, List.find?_cons]
    have key := PySem.StrLaws.subAt_one x c a
    unfold PySem.StrLaws.occBody
    by_cases hc : x.cps.toList[a]? = some c
    · obtain ⟨k1, k2⟩ := key.mpr hc
      rw [if_pos ⟨⟨⟨by simp, h a List.mem_cons_self⟩, k1⟩, k2⟩, hc]
      simp only [beq_self_eq_true]
      show (forIn l ((#[] : Array Nat).push a, a + _) (PySem.StrLaws.occBody x ⟨#[c]⟩ x.length 1)).run.fst.toList.head? = some a
      rw [show ((#[] : Array Nat).push a) = #[a] from rfl, occ_stays]
      rfl
    · rw [if_neg fun q => hc (key.mp ⟨q.1.2, q.2⟩), show (x.cps.toList[a]? == some c) = false by rw [beq_eq_false_iff_ne]; exact hc]
      exact occ_first x c l f fun i hi => h i (List.mem_cons_of_mem _ hi)
/-- the place of the first c in s -/
def idx (s : List Nat) (c : Nat) : Option Nat := (List.range' 0 (s.length + 1)).find? fun i => s[i]? == some c
theorem index_one (s : List Nat) (c : Nat) : Txt.index0 ⟨s.toArray⟩ ⟨#[c]⟩ = idx s c := by
  unfold Txt.index0 idx
  rw [PySem.StrLaws.occ_eq]
  have h := occ_first ⟨s.toArray⟩ c (List.range' 0 ((⟨s.toArray⟩ : Str).length + 1 - 0)) 0 fun _ _ => Nat.zero_le _
  rw [h]
  have e1 : (⟨s.toArray⟩ : Str).length + 1 - 0 = s.length + 1 := by show s.toArray.size + 1 - 0 = _; simp
  rw [e1]
theorem idx_spec {s : List Nat} {c k : Nat} (h : s[k]? = some c) (hf : ∀ i, i < k → s[i]? ≠ some c) : idx s c = some k := by
  have hk := (List.getElem?_eq_some_iff.mp h).1
  unfold idx
  rw [List.find?_eq_some_iff_append]
  refine ⟨by simp [h], List.range' 0 k, List.range' (k + 1) (s.length - k), ?_, fun i hi => ?_⟩
  · have e : s.length + 1 = k + (1 + (s.length - k)) := by omega
    rw [e, ← List.range'_append_1, ← List.range'_append_1]
    simp [List.range'_one]
  · have hi2 : i < k := by simpa [List.mem_range'] using hi
    have := hf i hi2
    simp [this]
theorem idx_mem {s : List Nat} {c : Nat} (h : c ∈ s) : ∃ k, idx s c = some k ∧ s[k]? = some c := by
  obtain ⟨k, hk, e⟩ := List.getElem_of_mem h
  cases q : idx s c with
  | none =>
    unfold idx at q
    have z := List.find?_eq_none.mp q k (by simp [List.mem_range']; omega)
    rw [List.getElem?_eq_getElem hk, e] at z
    simp at z
  | some j =>
    refine ⟨j, rfl, ?_⟩
    unfold idx at q
    have z := List.find?_some q
    simpa using z

section
variable {X : Cx} {c : Ct} {W : WX}
/-- s.index(e), e one sign that stands in s -/
def idxK (d e : D) (k : D → Prop) : Prop := match d, e with
  | .str s, .str [a] => (match idx s a with | some i => k (.int i) | none => False)
  | _, _ => False
def dIdx (O : DO) (T : DE) : DE := fun ρ K => O ρ (onOk K fun o ρ1 => isStr (see ρ1 o) = true ∧ T ρ1 (onOk K fun e ρ2 => idxK (see ρ2 o) e fun z => K (.ok z) ρ2))
where isStr : D → Bool
  | .str _ => true
  | _ => false
theorem E_idx {o e : Expr} {O : DO} {T : DE} {apos cpos : Pos} (hc : X.calm = true) (tk : Takes X W) (ho : PE X o (tOfO c W O)) (he : PE X e (tOfE c W T))
    (hbase : attributeBase o "index" X.env (eval o X.env) = eval o X.env := by rfl)
    (hfew : ((backTo cpos (starEach [e] X.env)).all (fun x => !x.1) && (backToKw cpos (keywordEach [] X.env)).all (fun x => x.1.isSome) && decide (([e]).length + ([] : List Keyword).length + (if ([] : List Keyword).isEmpty then 0 else 1) < 30)) = true := by rfl)
    (hline : (apos.endLine == cpos.line) = true := by rfl) (hst : starEach [e] X.env = (false, eval e X.env) :: starEach [] X.env := by rfl) (hpl : (backTo cpos (starEach [] X.env)).any (·.1) = false := by rfl) :
    PE X (.Call (.Attribute o "index" apos) [e] [] cpos) (tOfE c W (dIdx O T)) := by
  refine (pe_bmS PySem.F.plainAttrs_str PySem.F.slot_str_index PySem.F.type_str_index (mt_indexX hc tk) ho (pa_cons he pa_nil hst) hbase hfew hline hst hpl).imp fun σ H Q h => ?_
  obtain ⟨F, Ω, ρ, K, r0, ht, k, kx⟩ := h
  refine ⟨F, Ω, ρ, _, r0, ht, fun x ρ1 q1 v F1 H1 Ω1 s1 r1 f1 => ?_, kx.imp (Stp.refl _ _ _) fun _ _ _ q => q⟩
  obtain ⟨hs, q1⟩ := q1
  cases e1 : see ρ1 x with
  | str s0 =>
    have w1 := f1.vw r1 (by rw [e1]; rfl)
    rw [e1] at w1
    have ev := vw_str w1
    subst ev
    refine ⟨rfl, F1, Ω1, ρ1, _, r1, q1, fun d ρ2 q2 u F2 H2 Ω2 s2 r2 f2 => ?_, kx.imp s1 fun _ _ _ q => q⟩
    simp only [onOk_ok] at q2
    cases e2 : see ρ2 x with
    | str s =>
      rw [e2] at q2
      have w2 := (f1.mono s2.ef).vw r2 (by rw [e2]; rfl)
      rw [e2] at w2
      have ev2 := vw_str w2
      match d, q2, f2 with
      | .str [a], q2, f2 =>
        have eu : u = .str ⟨#[a]⟩ := by simpa only [Fz] using f2
        subst eu
        have q3 : (match idx s a with | some i => K (.ok (.int i)) ρ2 | none => False) := q2
        cases e3 : idx s a with
        | none => rw [e3] at q3; exact q3.elim
        | some i =>
          rw [e3] at q3
          have es : (⟨s0.toArray⟩ : Str) = ⟨s.toArray⟩ := by injection ev2
          refine ⟨⟨s0.toArray⟩, ⟨#[a]⟩, rfl, rfl, fun j hj => ?_, fun hn => ?_⟩
          · rw [es, index_one, e3] at hj
            cases hj
            exact k _ ρ2 q3 _ F2 H2 Ω2 (s1.trans s2) r2 fz_int
          · rw [es, index_one, e3] at hn
            cases hn
    | _ => rw [e2] at q2; exact q2.elim
  | _ => rw [e1] at hs; cases hs
end
end Vi
/-! Vi18: attributes of instances, read and written; tuple(..), list(..), join. -/
namespace Vi
open PySem L2 PySem.Spec PyProof.Rows

theorem lookup_zip_get {f : Str} : ∀ {fs : List Str} {vs : List V} {j : Nat} {v : V}, fs.Nodup → fs[j]? = some f → vs[j]? = some v → (fs.zip vs).lookup f = some v
  | [], vs, j, v, _, h, _ => by simp at h
  | g :: fs, [], j, v, _, _, h => by simp at h
  | g :: fs, w :: vs, 0, v, _, h1, h2 => by
    simp at h1 h2
    subst h1 h2
    simp [List.lookup]
  | g :: fs, w :: vs, j + 1, v, nd, h1, h2 => by
    have h1' : fs[j]? = some f := by simpa using h1
    have h2' : vs[j]? = some v := by simpa using h2
    have ne : (f == g) = false := by
      rw [beq_eq_false_iff_ne]
      rintro rfl
      exact (List.nodup_cons.mp nd).1 (List.mem_of_getElem? h1')
    rw [List.zip_cons_cons]
    show (match f == g with | true => some w | false => List.lookup f (fs.zip vs)) = some v
    rw [ne]
    exact lookup_zip_get (List.nodup_cons.mp nd).2 h1' h2'
theorem putF_zip {f : Str} {y : V} : ∀ {fs : List Str} {vs : List V}, fs.Nodup → fs[vs.length]? = some f → putF f y (fs.zip vs) = fs.zip (vs ++ [y])
  | [], vs, _, h => by simp at h
  | g :: fs, [], _, h => by
    simp at h
    subst h
    simp [putF]
  | g :: fs, w :: vs, nd, h => by
    have h' : fs[vs.length]? = some f := by simpa using h
    have ne : g ≠ f := by
      rintro rfl
      exact (List.nodup_cons.mp nd).1 (List.mem_of_getElem? h')
    rw [List.zip_cons_cons, List.cons_append, List.zip_cons_cons]
    show (if g = f then (g, y) :: fs.zip vs else (g, w) :: putF f y (fs.zip vs)) = _
    rw [if_neg ne, putF_zip (List.nodup_cons.mp nd).2 h']
section
variable {X : Cx} {c : Ct} {W : WX}
/-- the attribute at place j of an instance of C -/
def fldK (C j : Nat) (d : D) (k : D → Prop) : Prop := match d with
  | .ins _ C' ds => C' = C ∧ (match ds[j]? with | some e => own e = false ∧ k e | none => False)
  | _ => False
theorem fldK_of {C j : Nat} {o : Bool} {ds : List D} {e : D} {k : D → Prop} (h : ds[j]? = some e) (h2 : own e = false) (h3 : k e) : fldK C j (.ins o C ds) k := by
  show C = C ∧ (match ds[j]? with | some e => own e = false ∧ k e | none => False)
  rw [h]
  exact ⟨rfl, h2, h3⟩
def dFld (C j : Nat) (O : DO) : DE := fun ρ K => O ρ (onOk K fun o ρ1 => fldK C j (see ρ1 o) fun z => K (.ok z) ρ1)
theorem E_fld {C j : Nat} {f : Str} {e : Expr} {O : DO} {pos : Pos} (cl : Cls X.K (c.cls C)) (na : NoAttr X.K (c.cls C) f) (hj : (c.flds C)[j]? = some f) (nd : (c.flds C).Nodup) (he : PE X e (tOfO c W O)) (hb : attributeBase e f X.env (eval e X.env) = eval e X.env := by rfl) :
    PE X (.Attribute e f pos) (tOfE c W (dFld C j O)) := by
  refine (pe_fld he hb).imp fun σ H Q h => ?_
  obtain ⟨F, Ω, ρ, K, r0, ht, k, kx⟩ := h
  refine ⟨F, Ω, ρ, _, r0, ht, fun x ρ1 q1 v F1 H1 Ω1 s1 r1 f1 => ?_, kx.imp (Stp.refl _ _ _) fun _ _ _ q => q⟩
  simp only [onOk_ok] at q1
  cases e1 : see ρ1 x with
  | ins o C' ds =>
    rw [e1] at q1
    obtain ⟨eC, q2⟩ := q1
    subst eC
    have w1 := f1.vw r1 (by rw [e1]; rfl)
    rw [e1] at w1
    obtain ⟨a, dx, vs, ev, hH, hl, hv⟩ := w1.ins r1.wf
    cases e2 : ds[j]? with
    | none => rw [e2] at q2; exact q2.elim
    | some d =>
      rw [e2] at q2
      obtain ⟨u, hu, vw⟩ := hv.2 j d e2
      exact ⟨a, c.cls C', dx, _, u, ev, hH, cl, na, lookup_zip_get nd hj hu, k d ρ1 q2.2 u F1 H1 Ω1 s1 r1 (vw.fz q2.1)⟩
  | _ => rw [e1] at q1; exact q1.elim
end
section
variable {X : Cx} {x : Ct2} {W : WX}
/-- self.f = e, self the instance that is being made, in slot i; f its next attribute -/
def fsetK (C j : Nat) (d v : D) (ρ : Env) (i : Nat) (k : Env → Prop) : Prop := match d with
  | .ins true C' ds => C' = C ∧ ds.length = j ∧ k (ρ.set i (.ins true C (ds ++ [fr v])))
  | _ => False
theorem fsetK_i {C j : Nat} {ds : List D} {v : D} {ρ : Env} {i : Nat} {k : Env → Prop} : fsetK C j (.ins true C ds) v ρ i k = (C = C ∧ ds.length = j ∧ k (ρ.set i (.ins true C (ds ++ [fr v])))) := rfl
def dFset (C i j : Nat) (T : DE) : DS := fun ρ K => T ρ (onFl K fun d ρ1 => fsetK C j (gt ρ1 i) d ρ1 i fun ρ2 => K .nx ρ2)
theorem S_fld {C i j : Nat} {y f : Str} {e : Expr} {T : DE} {p pos' pos : Pos} (cl : Cls X.K (x.c.cls C)) (na : NoAttr X.K (x.c.cls C) f) (hj : (x.c.flds C)[j]? = some f) (hjn : j < 1000) (nd : (x.c.flds C).Nodup) (hN : X.N[i]? = some y) (hv : Vis X.env.scope y) (he : PE X e (tOfE x.c W T))
    (hd : (y == ("__debug__" : Str)) = false := by decide) (hcd : (y == ("__classdict__" : Str)) = false := by decide) (hs : swapsWith e (some (.Attribute (.Name y p) f pos')) pos.line X.env = pure false := by rfl) :
    PS X (.Assign [.Attribute (.Name y p) f pos'] e pos) (tOfS x W (dFset C i j T)) := by
  refine (ps_fld (pe_var hN hv hd hcd) he hs).imp fun De σ H h => ?_
  obtain ⟨F, Ω, ρ, K, r, t, w⟩ := tOfS_iff.mp h
  refine ⟨F, Ω, ρ, _, r, t, fun d ρ1 q v F1 H1 Ω1 s1 r1 f1 => ?_, w.exw⟩
  simp only [onFl_ok] at q
  generalize hz : gt ρ1 i = z at q
  match z, q, hz with
  | .ins true C' ds, ⟨eC, hl, hk⟩, hz =>
    subst eC
    have hn1 : nz (gt ρ1 i) = true := by rw [hz]; rfl
    have hs1 := gt_some hn1
    obtain ⟨v', z1, z2⟩ := r1.sl i _ hs1 (nz_ne hn1)
    rw [hz] at z2
    simp only [Rv] at z2
    obtain ⟨a, dx, vs, e1, hA, hH, hle, hr⟩ := z2
    subst e1
    have lenv := hr.length
    have hvl : vs.length = j := by rw [← lenv]; exact hl
    refine ⟨.ref a, z1, a, x.c.cls C', dx, _, rfl, hH, cl, na, ?_, ?_⟩
    · rw [List.length_zip]
      exact Nat.lt_of_le_of_lt (Nat.min_le_right _ _) (by rw [hvl]; exact hjn)
    · have hp : putF f v ((x.c.flds C').zip vs) = (x.c.flds C').zip (vs ++ [v]) := putF_zip nd (by rw [hvl]; exact hj)
      rw [hp]
      refine w.nx _ hk σ F1 _ Ω1 ⟨chg_stp s1 hA fun b o e1 e2 e3 => (s1.ou b o e1 e2 e3).2.2, chg_slot r1 (List.getElem?_eq_some_iff.mp hs1).1 z1 hA ?_ (fun _ _ e => e) fun b π e => r1.wf.own b π e, Io.refl _ _⟩
      simp only [Rv]
      refine ⟨a, dx, vs ++ [v], rfl, hA, upd_same, ?_, RvL.append (RvL.move (Sub.refl _) ds [i] [i] 0 vs (fun b m π e => ⟨e, upd_ne fun y => ?_⟩) hr) ((Rv_of_own (own_fr d)).mpr ((Fz_fr _ _ _ _).mpr f1))⟩
      · have := (List.getElem?_eq_some_iff.mp hj).1
        rw [List.length_append, List.length_singleton]
        omega
      · rw [y, hA] at e
        simp at e
end
end Vi
/-! Vi19: tuple(..), list(..), join. -/
namespace Vi
open PySem L2 PySem.Spec PyProof.Rows

section
variable {X : Cx} {c : Ct} {W : WX}
theorem call_tup : CallR X (.type "tuple") (fun xs H Q => ∃ x, xs = [x] ∧ kTup X.K x H Q) := by
  intro pins s σ H xs us Q I r h
  obtain ⟨x, rfl, q⟩ := h
  cases r with
  | cons ra rn =>
    cases rn
    exact rl_tuple pins s σ H x _ Q I ra q
def oTup : List D → (D → Prop) → Prop
  | [.lst _ xs], K => xs.all (fun d => !own d) = true ∧ K (.tup xs)
  | [.klst xs], K => K (.tup xs)
  | [.tup xs], K => K (.tup xs)
  | _, _ => False
theorem oTup_l (o : Bool) (xs : List D) (k : D → Prop) : oTup [.lst o xs] k = (xs.all (fun d => !own d) = true ∧ k (.tup xs)) := rfl
theorem oTup_k (xs : List D) (k : D → Prop) : oTup [.klst xs] k = k (.tup xs) := rfl
theorem oTup_t (xs : List D) (k : D → Prop) : oTup [.tup xs] k = k (.tup xs) := rfl
theorem ba_tup {c : Ct} : BA c (fun xs H Q => ∃ x, xs = [x] ∧ kTup c.K x H Q) oTup := ⟨fun F H Ω w ds vs hl hv K q Q k => by
  match ds, hl, hv, q with
  | [.lst o xs], hl, hv, q =>
    obtain ⟨v, e, h⟩ := one_of hl hv
    obtain ⟨a, ys, e1, h1, h2⟩ := h.lst w
    refine ⟨v, e, .inl ⟨a, ys, e1, SqL.of h1, fun p hp => ?_⟩⟩
    have ex := Ext.new (o := .tup ys) w hp
    refine k _ q.2 _ _ _ ex ?_
    simp only [Fz]
    exact ⟨p, ys, rfl, upd_same, FzL.mono ex.ef _ _ (h2.fz q.1)⟩
  | [.klst xs], hl, hv, q =>
    obtain ⟨v, e, h⟩ := one_of hl hv
    obtain ⟨a, ys, e1, h1, h2⟩ := h.klst w
    refine ⟨v, e, .inl ⟨a, ys, e1, h1, fun p hp => ?_⟩⟩
    have ex := Ext.new (o := .tup ys) w hp
    refine k _ q _ _ _ ex ?_
    simp only [Fz]
    exact ⟨p, ys, rfl, upd_same, FzL.mono ex.ef _ _ h2⟩
  | [.tup xs], hl, hv, q =>
    obtain ⟨v, e, h⟩ := one_of hl hv
    obtain ⟨a, ys, e1, h0, h1, h2⟩ := h.tup w
    refine ⟨v, e, .inr ⟨a, ys, e1, h1, ?_⟩⟩
    refine k _ q _ F H (Ext.refl w) ?_
    simp only [Fz]
    exact ⟨a, ys, rfl, h0, h2⟩⟩
/-- a list made of a row: one's own -/
def rowK (d : D) (k : List D → Prop) : Prop := match d with
  | .lst _ xs => xs.all (fun d => !own d) = true ∧ k xs
  | .klst xs => k xs
  | .tup xs => k xs
  | _ => False
theorem rowK_l (o : Bool) (xs : List D) (k : List D → Prop) : rowK (.lst o xs) k = (xs.all (fun d => !own d) = true ∧ k xs) := rfl
theorem rowK_k (xs : List D) (k : List D → Prop) : rowK (.klst xs) k = k xs := rfl
theorem rowK_t (xs : List D) (k : List D → Prop) : rowK (.tup xs) k = k xs := rfl
def dListOf (O : DO) : DE := fun ρ K => O ρ (onOk K fun o ρ' => nz (see ρ' o) = true ∧ rowK (see ρ' o) fun xs => K (.ok (.lst true (xs.map fr))) ρ')
theorem N_listOf {e : Expr} {O : DO} {p pos : Pos} (he : PE X e (tOfO c W O)) (hK : c.K = X.K) (hg : Gl X "list") (hm : X.mg "list" = none) (hs : starEach [e] X.env = (false, eval e X.env) :: starEach [] X.env := by rfl) (hpl : (backTo pos (starEach [] X.env)).any (·.1) = false := by rfl) :
    PE X (.Call (.Name "list" p) [e] [] pos) (tOfN c W (dListOf O)) := by
  refine (pe_callTy (T := "list") call_list_of hg hm (by decide +kernel) (pa_cons he pa_nil hs) (by decide) (by decide) hs hpl).imp fun σ H Q h => ?_
  obtain ⟨F, Ω, ρ, K, r0, ht, k, kx⟩ := h
  refine ⟨F, Ω, ρ, _, r0, ht, fun o ρ1 q1 v F1 H1 Ω1 s1 r1 f1 => ?_, kx.imp (Stp.refl _ _ _) fun _ _ _ q => q⟩
  simp only [onOk_ok] at q1
  obtain ⟨hn, q2⟩ := q1
  have vw := f1.vw r1 hn
  obtain ⟨a, xs, ys, e1, hs2, hf, q3⟩ : ∃ a xs ys, v = .ref a ∧ (SqL X.K H1 a ys ∨ SqT X.K H1 a ys) ∧ FzL c F1 xs ys ∧ K (.ok (.lst true (xs.map fr))) ρ1 := by
    cases e : see ρ1 o with
    | lst b xs =>
      rw [e] at q2 vw
      obtain ⟨a, ys, e1, h1, h2⟩ := vw.lst r1.wf
      exact ⟨a, xs, ys, e1, .inl (SqL.of h1), h2.fz q2.1, q2.2⟩
    | klst xs =>
      rw [e] at q2 vw
      obtain ⟨a, ys, e1, h1, h2⟩ := vw.klst r1.wf
      exact ⟨a, xs, ys, e1, .inl (by rw [← hK]; exact h1), h2, q2⟩
    | tup xs =>
      rw [e] at q2 vw
      obtain ⟨a, ys, e1, h0, h1, h2⟩ := vw.tup r1.wf
      exact ⟨a, xs, ys, e1, .inr (by rw [← hK]; exact h1), h2, q2⟩
    | _ => rw [e] at q2; exact q2.elim
  subst e1
  refine ⟨a, ys, rfl, hs2, fun p hp => ?_⟩
  obtain ⟨r2, s2⟩ := rel_new (o := .lst ys) r1 hp
  obtain ⟨hF, hΩ, hs3, _⟩ := wf_new (o := .lst ys) r1.wf hp
  refine k _ ρ1 q3 (.ref p) F1 _ Ω1 (fun b => if b = p then some [] else none) (s1.trans s2) r2 ⟨?_, fun b π e => ?_⟩ fun b o e1 e2 e3 => ?_
  · simp only [Rv]
    exact ⟨p, ys, rfl, by simp, upd_same, RvL.of_fz hf⟩
  · have e' : (if b = p then some ([] : List Nat) else none) = some π := e
    split at e'
    · rename_i hb
      subst hb
      exact ⟨hF, hΩ, _, upd_same⟩
    · cases e'
  · show (if b = p then some ([] : List Nat) else none) = none
    rw [if_neg]
    rintro rfl
    obtain ⟨q1, _, _⟩ := s1.ou b o e1 e2 e3
    rw [hp] at q1
    cases q1
/-- the texts of a row -/
def strsD : List D → Option (List (List Nat))
  | [] => some []
  | .str s :: ds => (strsD ds).map (s :: ·)
  | _ :: _ => none
theorem strsD_map : ∀ l : List (List Nat), strsD (l.map D.str) = some l
  | [] => rfl
  | s :: l => by
    show (strsD (l.map D.str)).map (s :: ·) = _
    rw [strsD_map l]
    rfl
theorem strsD_vw {c : Ct} {F H : Hp} : ∀ {xs : List D} {vs : List V} {ys : List (List Nat)}, strsD xs = some ys → VwL c F H xs vs → vs = (ys.map fun s => (⟨s.toArray⟩ : Str)).map V.str
  | [], vs, ys, h, f => by
    cases h
    match vs, f.1 with
    | [], _ => rfl
  | .str s :: xs, vs, ys, h, f => by
    cases e : strsD xs with
    | none =>
      have h' : (strsD xs).map (s :: ·) = some ys := h
      rw [e] at h'
      cases h'
    | some l =>
      have h' : (strsD xs).map (s :: ·) = some ys := h
      rw [e] at h'
      cases h'
      match vs, f.1 with
      | v :: vs, hl =>
        obtain ⟨v', q1, q2⟩ := f.2 0 _ rfl
        cases q1
        have ev := vw_str q2
        have ih := strsD_vw (xs := xs) (vs := vs) e ⟨by simpa using f.1, fun i d hd => f.2 (i + 1) d (by simpa using hd)⟩
        rw [ev, ih]
        rfl
def joinK (d : D) (k : List (List Nat) → Prop) : Prop := match d with
  | .lst _ xs => (match strsD xs with | some ys => k ys | none => False)
  | .tup xs => (match strsD xs with | some ys => k ys | none => False)
  | _ => False
theorem joinK_l {o : Bool} {xs : List D} {ys : List (List Nat)} {k : List (List Nat) → Prop} (h : strsD xs = some ys) (q : k ys) : joinK (.lst o xs) k := by
  show (match strsD xs with | some ys => k ys | none => False)
  rw [h]
  exact q
/-- s.join(e) -/
def dJoin (T : DE) (O : DO) : DE := fun ρ K => T ρ (onOk K fun d ρ0 => stK d fun s => O ρ0 (onOk K fun o ρ1 => nz (see ρ1 o) = true ∧ joinK (see ρ1 o) fun ys => (ys.map (·.length)).sum + ys.length * s.length ≤ 16777216 ∧ K (.ok (.str (TL.joinL s ys))) ρ1))
theorem join_txt (s : List Nat) (ys : List (List Nat)) : Txt.join ⟨s.toArray⟩ (ys.map fun y => (⟨y.toArray⟩ : Str)) = ⟨(TL.joinL s ys).toArray⟩ := by
  rw [TL.join_eq]
  have h := TL.tl_join ⟨s.toArray⟩ (ys.map fun y => (⟨y.toArray⟩ : Str))
  have e1 : TL.tl ⟨s.toArray⟩ = s := by simp [TL.tl]
  have e2 : (ys.map fun y => (⟨y.toArray⟩ : Str)).map TL.tl = ys := by
    rw [List.map_map]
    conv => rhs; rw [← List.map_id ys]
    exact List.map_congr_left fun y _ => by simp [TL.tl]
  rw [e1, e2] at h
  have e3 := TL.mk_tl (Str.join ⟨s.toArray⟩ (ys.map fun y => (⟨y.toArray⟩ : Str)))
  rw [h] at e3
  exact e3.symm
theorem E_join {s e : Expr} {T : DE} {O : DO} {apos pos : Pos} (hK : c.K = X.K) (ho : PE X s (tOfE c W T)) (he : PE X e (tOfO c W O)) (hs : starEach [e] X.env = [(false, eval e X.env)] := by rfl) (hbase : attributeBase s "join" X.env (eval s X.env) = eval s X.env := by rfl) (hline : (apos.endLine == pos.line) = true := by rfl) :
    PE X (.Call (.Attribute s "join" apos) [e] [] pos) (tOfE c W (dJoin T O)) := by
  refine (pe_join ho he hs hbase hline).imp fun σ H Q h => ?_
  obtain ⟨F, Ω, ρ, K, r0, ht, k, kx⟩ := h
  refine ⟨F, Ω, ρ, _, r0, ht, fun d ρ0 q0 v F1 H1 Ω1 s1 r1 f1 => ?_, kx.imp (Stp.refl _ _ _) fun _ _ _ q => q⟩
  simp only [onOk_ok] at q0
  match d, q0, f1 with
  | .str a, q0, f1 =>
    have ev : v = .str ⟨a.toArray⟩ := by simpa only [Fz] using f1
    subst ev
    refine ⟨⟨_, rfl⟩, F1, Ω1, ρ0, _, r1, q0, fun o ρ1 q1 u F2 H2 Ω2 s2 r2 f2 => ?_, kx.imp s1 fun _ _ _ q => q⟩
    simp only [onOk_ok] at q1
    obtain ⟨hn, q2⟩ := q1
    have vw := f2.vw r2 hn
    obtain ⟨p, ys, e1, hq, hsz, hk⟩ : ∃ p ys, u = .ref p ∧ (SqL X.K H2 p ((ys.map fun y => (⟨y.toArray⟩ : Str)).map V.str) ∨ SqT X.K H2 p ((ys.map fun y => (⟨y.toArray⟩ : Str)).map V.str)) ∧ (ys.map (·.length)).sum + ys.length * a.length ≤ 16777216 ∧ K (.ok (.str (TL.joinL a ys))) ρ1 := by
      cases e : see ρ1 o with
      | lst b xs =>
        rw [e] at q2 vw
        obtain ⟨p, vs, e1, h1, h2⟩ := vw.lst r2.wf
        have q3 : (match strsD xs with | some ys => (ys.map (·.length)).sum + ys.length * a.length ≤ 16777216 ∧ K (.ok (.str (TL.joinL a ys))) ρ1 | none => False) := q2
        cases e3 : strsD xs with
        | none => rw [e3] at q3; exact q3.elim
        | some ys =>
          rw [e3] at q3
          have ev := strsD_vw e3 h2
          subst ev
          exact ⟨p, ys, e1, .inl (SqL.of h1), q3.1, q3.2⟩
      | tup xs =>
        rw [e] at q2 vw
        obtain ⟨p, vs, e1, h0, h1, h2⟩ := vw.tup r2.wf
        have q3 : (match strsD xs with | some ys => (ys.map (·.length)).sum + ys.length * a.length ≤ 16777216 ∧ K (.ok (.str (TL.joinL a ys))) ρ1 | none => False) := q2
        cases e3 : strsD xs with
        | none => rw [e3] at q3; exact q3.elim
        | some ys =>
          rw [e3] at q3
          have ev := strsD_vw (H := H2) e3 h2.vw
          subst ev
          exact ⟨p, ys, e1, .inr (by rw [← hK]; exact h1), q3.1, q3.2⟩
      | _ => rw [e] at q2; exact q2.elim
    refine ⟨_, p, ys.map fun y => (⟨y.toArray⟩ : Str), rfl, by rw [e1], hq, ?_, ?_⟩
    · rw [List.map_map, List.length_map]
      have e4 : (fun (x : Str) => x.length) ∘ (fun (y : List Nat) => (⟨y.toArray⟩ : Str)) = fun y => y.length := by funext y; show y.toArray.size = _; simp
      have e5 : (⟨a.toArray⟩ : Str).length = a.length := by show a.toArray.size = _; simp
      rw [e4, e5]
      exact hsz
    · rw [join_txt]
      exact k _ ρ1 hk _ F2 H2 Ω2 (s1.trans s2) r2 (fz_str (by simp))
end
end Vi
/-! Vi20: a comprehension whose list, and whose elements, are one's own. -/
namespace Vi
open PySem L2 PySem.Spec PyProof.Rows

def lcN (G : DG) (C : DT) (E : DE) (vs : List Nat) : List D → List D → Env → (List D → Env → Prop) → Prop
  | [], acc, ρ, K => K acc ρ
  | d :: ds, acc, ρ, K => G d ρ fun ρ1 => C ρ1 fun b ρ2 => match b with
    | .ok true => E ρ2 fun e ρ3 => (match e with | .ok e => lcN G C E vs ds (acc ++ [e]) (unb ρ3 vs) K | .exc _ _ => False)
    | .ok false => lcN G C E vs ds acc (unb ρ2 vs) K
    | .exc _ _ => False
def dLcN (T : DL) (G : DG) (C : DT) (E : DE) (vs : List Nat) : DE := fun ρ K => T ρ (onOk K fun ds ρ1 => ds.length ≤ 1000000 ∧ lcN G C E vs ds [] (unb ρ1 vs) fun acc ρ2 => K (.ok (.lst true acc)) (reb ρ1 ρ2 vs))

section
variable {c : Ct} {F H F' H' : Hp} {Ω Ω' Θ : Nm} {d : D} {v : V}
theorem Air.stp (a : Air c F H Ω d v Θ) (s : Stp F H Ω F' H' Ω') : Air c F' H' Ω' d v Θ := by
  have key : ∀ b π, Θ b = some π → ∃ o, H b = some o ∧ H' b = some o ∧ F' b = none ∧ Ω' b = none := fun b π e => by
    obtain ⟨h1, h2, o, h3⟩ := a.nm b π e
    obtain ⟨z1, z2, z3⟩ := s.ou b o h3 h1 h2
    exact ⟨o, h3, z1, z2, z3⟩
  refine ⟨Rv.move s.ef d [] [] v (fun b π z => ⟨z, ?_⟩) a.rv, fun b π e => ?_⟩
  · obtain ⟨o, h1, h2, _⟩ := key b _ z
    rw [h1, h2]
  · obtain ⟨o, _, h2, h3, h4⟩ := key b π e
    exact ⟨h3, h4, o, h2⟩
def accN (n : Nat) (Θd Θ : Nm) : Nm := fun b => match Θd b with
  | some π => some (n :: π)
  | none => Θ b
theorem Air.app {D : Addr} {acc : List Vi.D} {Θd : Nm} (a : Air c F H Ω (.lst true acc) (.ref D) Θ) (ad : Air c F H Ω d v Θd) (dis : ∀ b π, Θ b = some π → Θd b = none) :
    ∃ accv, H D = some (.lst accv) ∧ acc.length = accv.length ∧ Air c F (upd H D (.lst (accv ++ [v]))) Ω (.lst true (acc ++ [d])) (.ref D) (accN acc.length Θd Θ) := by
  have h := a.rv
  simp only [Rv] at h
  obtain ⟨a', accv, e1, hA, hH, hr⟩ := h
  cases e1
  have hdD : Θd D = none := dis D _ hA
  have keep : ∀ b π, Θ b = some π → accN acc.length Θd Θ b = some π := fun b π e => by
    unfold accN
    rw [dis b π e]
    exact e
  refine ⟨accv, hH, hr.length, ?_, fun b π e => ?_⟩
  · simp only [Rv]
    refine ⟨D, accv ++ [v], rfl, keep D _ hA, upd_same, RvL.append (RvL.move (Sub.refl _) acc [] [] 0 accv (fun b i π e => ⟨keep _ _ e, upd_ne fun y => ?_⟩) hr) (Rv.move (Sub.refl _) d [] _ v (fun b π e => ⟨?_, upd_ne fun y => ?_⟩) ad.rv)⟩
    · rw [y, hA] at e
      cases e
    · have e' : Θd b = some π := by simpa using e
      unfold accN
      rw [e']
      simp
    · have e' : Θd b = some π := by simpa using e
      rw [y, hdD] at e'
      cases e'
  · have nd : ∀ {b : Addr}, (∃ o, H b = some o) → ∃ o, upd H D (.lst (accv ++ [v])) b = some o := fun {b} ⟨o, ho⟩ => by
      by_cases hb : b = D
      · exact ⟨_, by rw [hb]; exact upd_same⟩
      · exact ⟨o, by rw [upd_ne hb]; exact ho⟩
    unfold accN at e
    split at e
    · rename_i π' h
      obtain ⟨y1, y2, y3⟩ := ad.nm b π' h
      exact ⟨y1, y2, nd y3⟩
    · obtain ⟨y1, y2, y3⟩ := a.nm b π e
      exact ⟨y1, y2, nd y3⟩
end
section
variable {X : Cx} {c : Ct} {W : WX}
theorem lcN_go {io : List Nat} {G : DG} {C : DT} {E : DE} {vs : List Nat} {F H : Hp} {Ω : Nm} {ρ : Env} {σ : L2.St} {ds : List D} {J : It} {Qd : Addr → Hp → Prop} {K : List D → Env → Prop} (hio : ∀ i, i < σ.length → i ∉ vs → i ∈ io) (r : Rel c F H Ω ρ σ) (it : ItOk c J F ds) (hz : ds.length ≤ 1000000) (h : lcN G C E vs ds [] (unb ρ vs) K)
    (k : ∀ acc ρ', K acc ρ' → ∀ D F' H' Ω' Θ, Stp F H Ω F' H' Ω' → Rel c F' H' Ω' (reb ρ ρ' vs) σ → Air c F' H' Ω' (.lst true acc) (.ref D) Θ → New F H Ω Θ → Qd D H') :
    ∀ D, H D = none → ∃ Wv : Nat → Nat → Hp → Prop, (∃ m, Wv 0 m (upd H D (.lst []))) ∧ ∀ i m H', Wv i m H' →
      (J.stop i H' ∧ Qd D H') ∨ (J.go i H' ∧ ∃ Nx : Hp → Prop, (∀ H', Nx H' → ∃ m', m' < m ∧ Wv (i + 1) m' H') ∧ ∀ x H'', J.yld i H' x H'' → tOfG ⟨c, io⟩ G x (wipe σ vs) H'' fun σ2 H2 => wipe σ2 vs = wipe σ vs ∧ tOfT c WF C σ2 H2 fun b H3 =>
        if b = true then tOfN c WF E σ2 H3 fun y H4 => ∃ acc, H4 D = some (.lst acc) ∧ acc.length < sizeLine ∧ Nx (upd H4 D (.lst (acc ++ [y]))) else Nx H3) := by
  intro D hD
  refine ⟨fun i m H' => m = ds.length - i ∧ i ≤ ds.length ∧ ∃ F1 Ω1 ρ1 acc Θ, Stp F H Ω F1 H' Ω1 ∧ Rel c F1 H' Ω1 ρ1 (wipe σ vs) ∧ lcN G C E vs (ds.drop i) acc ρ1 K ∧ Air c F1 H' Ω1 (.lst true acc) (.ref D) Θ ∧ Θ D = some [] ∧ New F H Ω Θ ∧ acc.length ≤ i, ?_, ?_⟩
  · obtain ⟨r2, s2⟩ := rel_new (o := .lst []) r hD
    obtain ⟨hF, hΩ, _, _⟩ := wf_new (o := .lst []) r.wf hD
    refine ⟨_, rfl, Nat.zero_le _, F, Ω, _, [], fun b => if b = D then some [] else none, s2, rel_unb r2 vs (wipe_length _ _) fun i hi => wipe_get hi, h, ⟨?_, fun b π e => ?_⟩, by simp, fun b o e1 e2 e3 => ?_, Nat.le_refl _⟩
    · simp only [Rv]
      exact ⟨D, [], rfl, by simp, upd_same, by simp only [RvL]⟩
    · have e' : (if b = D then some ([] : List Nat) else none) = some π := e
      split at e'
      · rename_i hb
        subst hb
        exact ⟨hF, hΩ, _, upd_same⟩
      · cases e'
    · show (if b = D then some ([] : List Nat) else none) = none
      rw [if_neg (ne_of_none e1 hD)]
  rintro i m H' ⟨rfl, hi, F1, Ω1, ρ1, acc, Θ, s1, r1, hw, ar, hΘD, hnew, hal⟩
  obtain ⟨igo, istop⟩ := it F1 H' Ω1 s1.ef r1.wf
  by_cases hlt : i < ds.length
  · rw [List.drop_eq_getElem_cons hlt] at hw
    obtain ⟨g1, g2⟩ := igo i hlt
    refine .inr ⟨g1, fun H'' => i + 1 ≤ ds.length ∧ ∃ F1 Ω1 ρ1 acc Θ, Stp F H Ω F1 H'' Ω1 ∧ Rel c F1 H'' Ω1 ρ1 (wipe σ vs) ∧ lcN G C E vs (ds.drop (i + 1)) acc ρ1 K ∧ Air c F1 H'' Ω1 (.lst true acc) (.ref D) Θ ∧ Θ D = some [] ∧ New F H Ω Θ ∧ acc.length ≤ i + 1, fun H'' ⟨l, z⟩ => ⟨_, by omega, rfl, l, z⟩, fun v H2 y => ?_⟩
    obtain ⟨F2, d, e2, hd, fz⟩ := g2 v H2 y
    rw [List.getElem?_eq_getElem hlt] at hd
    cases hd
    have r2 := r1.ext e2
    have s2 := s1.trans e2.stp
    have sl : (wipe σ vs).length = σ.length := wipe_length _ _
    refine ⟨F2, Ω1, ρ1, _, _, r2, fz, hw, fun ρ3 q3 σ3 Ω3 p3 => ⟨?_, ?_⟩⟩
    · rw [← wipe_wipe σ vs]
      refine wipe_eq p3.2.2.1 fun j hj => ?_
      by_cases hjl : j < σ.length
      · exact p3.2.2.2 j (hio j hjl hj)
      · rw [List.getElem?_eq_none (by rw [p3.2.2.1, sl]; omega), List.getElem?_eq_none (by rw [sl]; omega)]
    have back : ∀ j, j ∉ vs → (wipe σ vs)[j]? = σ3[j]? := fun j hj => by
      by_cases hjl : j < σ.length
      · exact (p3.2.2.2 j (hio j hjl hj)).symm
      · rw [List.getElem?_eq_none (by rw [sl]; omega), List.getElem?_eq_none (by rw [p3.2.2.1, sl]; omega)]
    have a2 := ar.stp e2.stp
    refine ⟨F2, Ω3, ρ3, _, p3.2.1, q3, fun b ρ4 q4 F4 H4 Ω4 s4 r4 => ?_, fun C' w' ρ' q => q.elim⟩
    have s24 := p3.1.trans s4
    have a4 := a2.stp s24
    cases b with
    | true =>
      refine iteT ?_
      refine ⟨F4, Ω4, ρ4, _, r4, q4, fun e ρ5 q5 v5 F5 H5 Ω5 Θd s5 r5 ad nw => ?_, fun C' w' ρ' q => q.elim⟩
      have a5 := a4.stp s5
      have dis : ∀ b π, Θ b = some π → Θd b = none := fun b π e => by
        obtain ⟨y1, y2, o, y3⟩ := a4.nm b π e
        exact nw b o y3 y1 y2
      obtain ⟨accv, hH5, hlen, a6⟩ := a5.app ad dis
      obtain ⟨o1, o2, _⟩ := a5.nm D _ hΘD
      refine ⟨accv, hH5, ?_, hlt, F5, Ω5, _, acc ++ [e], _, ?_, rel_unb (rel_out r5 o1 o2) vs (by rw [sl, p3.2.2.1, sl]) back, q5, a6, ?_, fun b o e1 e2' e3 => ?_, ?_⟩
      · rw [← hlen]
        refine Nat.lt_of_le_of_lt (Nat.le_trans hal hi) (Nat.lt_of_le_of_lt hz (by decide))
      · have st := (s2.trans s24).trans s5
        exact ⟨st.ef, fun b o e1 e2 e3 => by
          obtain ⟨z1, z2, z3⟩ := st.ou b o e1 e2 e3
          refine ⟨?_, z2, z3⟩
          rw [upd_ne (ne_of_none e1 hD)]
          exact z1⟩
      · unfold accN
        rw [dis D _ hΘD]
        exact hΘD
      · obtain ⟨z1, z2, z3⟩ := (s2.trans s24).ou b o e1 e2' e3
        unfold accN
        rw [nw b o z1 z2 z3]
        exact hnew b o e1 e2' e3
      · rw [List.length_append, List.length_singleton]
        omega
    | false =>
      refine iteF ?_
      exact ⟨hlt, F4, Ω4, _, acc, Θ, s2.trans s24, rel_unb r4 vs (by rw [sl, p3.2.2.1, sl]) back, q4, a4, hΘD, hnew, by omega⟩
  · have e : i = ds.length := by omega
    subst e
    rw [List.drop_eq_nil_of_le (Nat.le_refl _)] at hw
    exact .inl ⟨istop, k acc ρ1 hw D F1 H' Ω1 Θ s1 (rel_reb r s1.ef r1) ar hnew⟩
structure BlkN (X : Cx) (c : Ct) (io : List Nat) (scope : Scope) (own' : List (Str × Nat)) (tg : Expr) (ifs : List Expr) (elt : Expr) (G : DG) (C : DT) (E : DE) : Prop where
  ok : BlkOk X.N X.env.scope scope own'
  g : ∀ (s : Shared) (H : Hp) (C' : Addr) (cl : List (Str × Addr)) (fp : List Addr), PG (X.blk s H scope (PySem.compEnvC scope cl C' X.env) fp) tg (tOfG ⟨c, io⟩ G)
  t : ∀ (s : Shared) (H : Hp) (C' : Addr) (cl : List (Str × Addr)) (fp : List Addr), PTs (X.blk s H scope (PySem.compEnvC scope cl C' X.env) fp) ifs (tOfT c WF C)
  e : ∀ (s : Shared) (H : Hp) (C' : Addr) (cl : List (Str × Addr)) (fp : List Addr), PE (X.blk s H scope (PySem.compEnvC scope cl C' X.env) fp) elt (tOfN c WF E)
theorem lcN_E {wi : DL} {G : DG} {C : DT} {E : DE} {vs io : List Nat} {σ : L2.St} {H : Hp} {Q : VK} (hio : ∀ i, i < σ.length → i ∉ vs → i ∈ io) (h : tOfN c W (dLcN wi G C E vs) σ H Q) :
    tLc (tOfI c W wi) (tOfG ⟨c, io⟩ G) (tOfT c WF C) (tOfN c WF E) vs σ H Q := by
  obtain ⟨F, Ω, ρ, K, r, t, k, kx⟩ := h
  refine ⟨F, Ω, ρ, _, r, t, fun ds ρ1 q J F1 H1 Ω1 s1 r1 it => ?_, kx.imp (Stp.refl _ _ _) fun _ _ _ q => q⟩
  exact lcN_go hio r1 it q.1 q.2 fun acc ρ' q' D F' H' Ω' Θ s' r' ar nw => k _ _ q' (.ref D) F' H' Ω' Θ (s1.trans s') r' ar (nw.step s1)
/-- [elt for target in iter if ..], one's own -/
theorem N_lc {elt tg iter : Expr} {ifs : List Expr} {scope : Scope} {own' : List (Str × Nat)} {pos : Pos} {wi : DL} {G : DG} {C : DT} {E : DE} {io : List Nat} (hc : X.calm = true) (hN : X.N.Nodup) (hio : ∀ i, i < X.N.length → i ∉ own'.map (·.2) → i ∈ io) (hi : PI X tg iter (tOfI c W wi)) (b : BlkN X c io scope own' tg ifs elt G C E)
    (hs : ∀ x, foldedSetIterable iter X.env x = pure x := by intro _; rfl) : PE X (.ListComp elt [⟨tg, iter, ifs, 0⟩] scope pos) (tOfN c W (dLcN wi G C E (own'.map (·.2)))) := by
  refine ⟨fun pins s σ H Q I h => (pe_lc hc hN hi b.ok b.g b.t b.e hs).run pins s σ H Q I ?_⟩
  exact lcN_E (by rw [I.len]; exact hio) h
/-- y = [elt for target in iter if ..], one's own -/
theorem S_setLcN {x : Ct2} {i : Nat} {y : Str} {py : Pos} {elt tg iter : Expr} {ifs : List Expr} {scope : Scope} {own' : List (Str × Nat)} {pos spos : Pos} {wi : DL} {G : DG} {C : DT} {E : DE} {io : List Nat} (hc : X.calm = true) (hN : X.N.Nodup) (hy : X.N[i]? = some y) (hyl : X.env.scope.names.lookup y = some .local) (hix : i ∉ x.io)
    (hsw : swapsWith (.ListComp elt [⟨tg, iter, ifs, 0⟩] scope pos) (some (.Name y py)) spos.line X.env = pure true) (hio : ∀ i, i < X.N.length → i ∉ own'.map (·.2) → i ∈ io) (hi : PI X tg iter (tOfI x.c W wi)) (b : BlkN X x.c io scope own' tg ifs elt G C E)
    (hs : ∀ x, foldedSetIterable iter X.env x = pure x := by intro _; rfl) : PS X (.Assign [.Name y py] (.ListComp elt [⟨tg, iter, ifs, 0⟩] scope pos) spos) (tOfS x W (dSet i (dLcN wi G C E (own'.map (·.2))))) := by
  refine ⟨fun pins s σ H De I h => (ps_setLc hc hN hy hyl hsw hi b.ok b.g b.t b.e hs).run pins s σ H De I ?_⟩
  exact lcN_E (by rw [I.len]; exact hio) (set_of (by rw [I.len]; exact (List.getElem?_eq_some_iff.mp hy).1) hix h)
end
end Vi
/-! Vi21: a comprehension with two fors; unpacking a list. -/
namespace Vi
open PySem L2 PySem.Spec PyProof.Rows

def lc2W (G : DG) (C : DT) (T1 : DL) (G1 : DG) (C1 : DT) (E : DE) (vs vs1 : List Nat) : List D → List D → Env → (List D → Env → Prop) → Prop
  | [], acc, ρ, K => K acc ρ
  | d :: ds, acc, ρ, K => G d ρ fun ρ1 => C ρ1 fun b ρ2 => match b with
    | .ok true => T1 ρ2 fun r ρ3 => (match r with
      | .ok ds1 => acc.length + ds1.length ≤ 1000000 ∧ lcW G1 C1 E vs1 ds1 acc (unb ρ3 vs1) fun acc' ρ4 => lc2W G C T1 G1 C1 E vs vs1 ds acc' (unb ρ4 vs) K
      | .exc _ _ => False)
    | .ok false => lc2W G C T1 G1 C1 E vs vs1 ds acc (unb ρ2 vs) K
    | .exc _ _ => False
def dLc2 (T : DL) (G : DG) (C : DT) (T1 : DL) (G1 : DG) (C1 : DT) (E : DE) (vs vs1 : List Nat) : DE := fun ρ K => T ρ (onOk K fun ds ρ1 => lc2W G C T1 G1 C1 E vs vs1 ds [] (unb ρ1 vs) fun acc ρ2 => K (.ok (.lst false acc)) (reb ρ1 ρ2 vs))
section
variable {X : Cx} {c : Ct} {W : WX}
theorem lc2_go {io io1 : List Nat} {G G1 : DG} {C C1 : DT} {T1 : DL} {E : DE} {vs vs1 : List Nat} {F H : Hp} {Ω : Nm} {ρ : Env} {σ : L2.St} {ds : List D} {J : It} {Qd : Addr → Hp → Prop} {K : List D → Env → Prop} (hio : ∀ i, i < σ.length → i ∉ vs → i ∈ io) (hio1 : ∀ i, i < σ.length → i ∉ vs1 → i ∈ io1) (hv : ∀ i ∈ vs1, i ∈ vs) (r : Rel c F H Ω ρ σ) (it : ItOk c J F ds) (h : lc2W G C T1 G1 C1 E vs vs1 ds [] (unb ρ vs) K)
    (k : ∀ acc ρ', K acc ρ' → ∀ D accv F' H' Ω', Stp F H Ω F' H' Ω' → Rel c F' H' Ω' (reb ρ ρ' vs) σ → H' D = some (.lst accv) → F' D = none → Ω' D = none → FzL c F' acc accv → H D = none → Qd D H') :
    ∀ D, H D = none → ∃ Wv : Nat → Nat → Hp → Prop, (∃ m, Wv 0 m (upd H D (.lst []))) ∧ ∀ i m H', Wv i m H' →
      (J.stop i H' ∧ Qd D H') ∨ (J.go i H' ∧ ∃ Nx : Hp → Prop, (∀ H', Nx H' → ∃ m', m' < m ∧ Wv (i + 1) m' H') ∧ ∀ x H'', J.yld i H' x H'' → tOfG ⟨c, io⟩ G x (wipe σ vs) H'' fun σ2 H2 => wipe σ2 vs = wipe σ vs ∧ tOfT c WF C σ2 H2 fun b H3 =>
        if b = true then tOfI c WF T1 σ2 H3 fun J1 H4 => ∃ W1 : Nat → Nat → Hp → Prop, (∃ m, W1 0 m H4) ∧ ∀ j k H', W1 j k H' →
          (J1.stop j H' ∧ Nx H') ∨ (J1.go j H' ∧ ∃ Nx1 : Hp → Prop, (∀ H', Nx1 H' → ∃ k', k' < k ∧ W1 (j + 1) k' H') ∧ ∀ x H'', J1.yld j H' x H'' → tOfG ⟨c, io1⟩ G1 x (wipe σ2 vs1) H'' fun σ3 H5 => wipe σ3 vs1 = wipe σ2 vs1 ∧ tOfT c WF C1 σ3 H5 fun b H6 =>
            if b = true then tOfE c WF E σ3 H6 fun y H7 => ∃ acc, H7 D = some (.lst acc) ∧ acc.length < sizeLine ∧ Nx1 (upd H7 D (.lst (acc ++ [y]))) else Nx1 H6)
        else Nx H3) := by
  intro D hD
  refine ⟨fun i m H' => m = ds.length - i ∧ i ≤ ds.length ∧ ∃ F1 Ω1 ρ1 acc accv, Stp F H Ω F1 H' Ω1 ∧ Rel c F1 H' Ω1 ρ1 (wipe σ vs) ∧ lc2W G C T1 G1 C1 E vs vs1 (ds.drop i) acc ρ1 K ∧ H' D = some (.lst accv) ∧ F1 D = none ∧ Ω1 D = none ∧ FzL c F1 acc accv, ?_, ?_⟩
  · obtain ⟨r2, s2⟩ := rel_new (o := .lst []) r hD
    obtain ⟨hF, hΩ, _, _⟩ := wf_new (o := .lst []) r.wf hD
    exact ⟨_, rfl, Nat.zero_le _, F, Ω, _, [], [], s2, rel_unb r2 vs (wipe_length _ _) fun i hi => wipe_get hi, h, upd_same, hF, hΩ, FzL.nil⟩
  rintro i m H' ⟨rfl, hi, F1, Ω1, ρ1, acc, accv, s1, r1, hw, hDl, hDF, hDΩ, hf⟩
  obtain ⟨igo, istop⟩ := it F1 H' Ω1 s1.ef r1.wf
  by_cases hlt : i < ds.length
  · rw [List.drop_eq_getElem_cons hlt] at hw
    obtain ⟨g1, g2⟩ := igo i hlt
    refine .inr ⟨g1, fun H'' => i + 1 ≤ ds.length ∧ ∃ F1 Ω1 ρ1 acc accv, Stp F H Ω F1 H'' Ω1 ∧ Rel c F1 H'' Ω1 ρ1 (wipe σ vs) ∧ lc2W G C T1 G1 C1 E vs vs1 (ds.drop (i + 1)) acc ρ1 K ∧ H'' D = some (.lst accv) ∧ F1 D = none ∧ Ω1 D = none ∧ FzL c F1 acc accv, fun H'' ⟨l, z⟩ => ⟨_, by omega, rfl, l, z⟩, fun v H2 y => ?_⟩
    obtain ⟨F2, d, e2, hd, fz⟩ := g2 v H2 y
    rw [List.getElem?_eq_getElem hlt] at hd
    cases hd
    have r2 := r1.ext e2
    have s2 := s1.trans e2.stp
    have sl : (wipe σ vs).length = σ.length := wipe_length _ _
    refine ⟨F2, Ω1, ρ1, _, _, r2, fz, hw, fun ρ3 q3 σ3 Ω3 p3 => ⟨?_, ?_⟩⟩
    · rw [← wipe_wipe σ vs]
      refine wipe_eq p3.2.2.1 fun j hj => ?_
      by_cases hjl : j < σ.length
      · exact p3.2.2.2 j (hio j hjl hj)
      · rw [List.getElem?_eq_none (by rw [p3.2.2.1, sl]; omega), List.getElem?_eq_none (by rw [sl]; omega)]
    have back : ∀ j, j ∉ vs → (wipe σ vs)[j]? = σ3[j]? := fun j hj => by
      by_cases hjl : j < σ.length
      · exact (p3.2.2.2 j (hio j hjl hj)).symm
      · rw [List.getElem?_eq_none (by rw [sl]; omega), List.getElem?_eq_none (by rw [p3.2.2.1, sl]; omega)]
    have sl3 : σ3.length = σ.length := by rw [p3.2.2.1, sl]
    have o2 : H2 D = some (.lst accv) ∧ F2 D = none ∧ Ω1 D = none := e2.stp.ou D _ hDl hDF hDΩ
    refine ⟨F2, Ω3, ρ3, _, p3.2.1, q3, fun b ρ4 q4 F4 H4 Ω4 s4 r4 => ?_, fun C' w' ρ' q => q.elim⟩
    have s24 := p3.1.trans s4
    have o4 := s24.ou D _ o2.1 o2.2.1 o2.2.2
    have f4 := FzL.mono (e2.ef.trans s24.ef) _ _ hf
    have st4 := s2.trans s24
    cases b with
    | true =>
      refine iteT ?_
      refine ⟨F4, Ω4, ρ4, _, r4, q4, fun ds1 ρ5 q5 J1 F5 H5 Ω5 s5 r5 it5 => ?_, fun C' w' ρ' q => q.elim⟩
      obtain ⟨hz, q6⟩ := q5
      have o5 := s5.ou D _ o4.1 o4.2.1 o4.2.2
      have sl1 : (wipe σ3 vs1).length = σ3.length := wipe_length _ _
      refine ⟨fun j k H' => k = ds1.length - j ∧ j ≤ ds1.length ∧ ∃ F6 Ω6 ρ6 acc accv, Sub F5 F6 ∧ Stp F H Ω F6 H' Ω6 ∧ Rel c F6 H' Ω6 ρ6 (wipe σ3 vs1) ∧ lcW G1 C1 E vs1 (ds1.drop j) acc ρ6 (fun acc' ρ4 => lc2W G C T1 G1 C1 E vs vs1 (ds.drop (i + 1)) acc' (unb ρ4 vs) K) ∧ H' D = some (.lst accv) ∧ F6 D = none ∧ Ω6 D = none ∧ FzL c F6 acc accv ∧ acc.length + (ds1.length - j) ≤ 1000000, ?_, ?_⟩
      · exact ⟨_, rfl, Nat.zero_le _, F5, Ω5, _, acc, accv, Sub.refl _, st4.trans s5, rel_unb r5 vs1 (wipe_length _ _) fun i hi => wipe_get hi, q6, o5.1, o5.2.1, o5.2.2, FzL.mono s5.ef _ _ f4, hz⟩
      rintro j kk H6 ⟨rfl, hj, F6, Ω6, ρ6, acc6, accv6, s6, st6, r6, hw6, hD6, hF6, hΩ6, hf6, hz6⟩
      obtain ⟨jgo, jstop⟩ := it5 F6 H6 Ω6 s6 r6.wf
      by_cases hjt : j < ds1.length
      · rw [List.drop_eq_getElem_cons hjt] at hw6
        obtain ⟨g3, g4⟩ := jgo j hjt
        refine .inr ⟨g3, fun H'' => j + 1 ≤ ds1.length ∧ ∃ F6 Ω6 ρ6 acc accv, Sub F5 F6 ∧ Stp F H Ω F6 H'' Ω6 ∧ Rel c F6 H'' Ω6 ρ6 (wipe σ3 vs1) ∧ lcW G1 C1 E vs1 (ds1.drop (j + 1)) acc ρ6 (fun acc' ρ4 => lc2W G C T1 G1 C1 E vs vs1 (ds.drop (i + 1)) acc' (unb ρ4 vs) K) ∧ H'' D = some (.lst accv) ∧ F6 D = none ∧ Ω6 D = none ∧ FzL c F6 acc accv ∧ acc.length + (ds1.length - (j + 1)) ≤ 1000000, fun H'' ⟨l, z⟩ => ⟨_, by omega, rfl, l, z⟩, fun v7 H7 y7 => ?_⟩
        obtain ⟨F7, d7, e7, hd7, fz7⟩ := g4 v7 H7 y7
        rw [List.getElem?_eq_getElem hjt] at hd7
        cases hd7
        have r7 := r6.ext e7
        have o7 : H7 D = some (.lst accv6) ∧ F7 D = none ∧ Ω6 D = none := e7.stp.ou D _ hD6 hF6 hΩ6
        refine ⟨F7, Ω6, ρ6, _, _, r7, fz7, hw6, fun ρ8 q8 σ8 Ω8 p8 => ⟨?_, ?_⟩⟩
        · rw [← wipe_wipe σ3 vs1]
          refine wipe_eq p8.2.2.1 fun j hj => ?_
          by_cases hjl : j < σ.length
          · exact p8.2.2.2 j (hio1 j hjl hj)
          · rw [List.getElem?_eq_none (by rw [p8.2.2.1, sl1, sl3]; omega), List.getElem?_eq_none (by rw [sl1, sl3]; omega)]
        have back1 : ∀ j, j ∉ vs1 → (wipe σ3 vs1)[j]? = σ8[j]? := fun j hj => by
          by_cases hjl : j < σ.length
          · exact (p8.2.2.2 j (hio1 j hjl hj)).symm
          · rw [List.getElem?_eq_none (by rw [sl1, sl3]; omega), List.getElem?_eq_none (by rw [p8.2.2.1, sl1, sl3]; omega)]
        have sl8 : (wipe σ3 vs1).length = σ8.length := p8.2.2.1.symm
        refine ⟨F7, Ω8, ρ8, _, p8.2.1, q8, fun b9 ρ9 q9 F9 H9 Ω9 s9 r9 => ?_, fun C' w' ρ' q => q.elim⟩
        have s79 := p8.1.trans s9
        have o9 := s79.ou D _ o7.1 o7.2.1 o7.2.2
        cases b9 with
        | true =>
          refine iteT ?_
          refine ⟨F9, Ω9, ρ9, _, r9, q9, fun e ρ0 q0 v0 F0 H0 Ω0 s0 r0 f0 => ?_, fun C' w' ρ' q => q.elim⟩
          have o0 := s0.ou D _ o9.1 o9.2.1 o9.2.2
          have l6 := hf6.length
          have ext : ∀ {Fa Ha : Hp} {Ωa : Nm}, (∀ b o, Ha b = some o → b ≠ D) → Stp Fa Ha Ωa F0 H0 Ω0 → Stp Fa Ha Ωa F0 (upd H0 D (.lst (accv6 ++ [v0]))) Ω0 := fun nb st => ⟨st.ef, fun b o e1 e2 e3 => by
            obtain ⟨z1, z2, z3⟩ := st.ou b o e1 e2 e3
            refine ⟨?_, z2, z3⟩
            rw [upd_ne (nb b o e1)]
            exact z1⟩
          refine ⟨accv6, o0.1, ?_, hjt, F0, Ω0, _, acc6 ++ [fr e], accv6 ++ [v0], ?_, ext (fun b o e1 => ne_of_none e1 hD) (((st6.trans e7.stp).trans s79).trans s0), rel_unb (rel_out r0 o0.2.1 o0.2.2) vs1 sl8 back1, q0, upd_same, o0.2.1, o0.2.2, ?_, ?_⟩
          · rw [← l6]
            refine Nat.lt_of_lt_of_le (show acc6.length < 1000001 by omega) (by decide)
          · exact s6.trans (e7.ef.trans (s79.ef.trans s0.ef))
          · exact FzL.append (FzL.mono (e7.ef.trans (s79.ef.trans s0.ef)) _ _ hf6) (FzL.cons ((Fz_fr _ _ _ _).mpr f0) FzL.nil)
          · rw [List.length_append, List.length_singleton]
            omega
        | false =>
          refine iteF ?_
          exact ⟨hjt, F9, Ω9, _, acc6, accv6, s6.trans (e7.ef.trans s79.ef), (st6.trans e7.stp).trans s79, rel_unb r9 vs1 sl8 back1, q9, o9.1, o9.2.1, o9.2.2, FzL.mono (e7.ef.trans s79.ef) _ _ hf6, by omega⟩
      · have e : j = ds1.length := by omega
        subst e
        rw [List.drop_eq_nil_of_le (Nat.le_refl _)] at hw6
        refine .inl ⟨jstop, hlt, F6, Ω6, _, acc6, accv6, st6, rel_unb r6 vs (by rw [sl, sl1, sl3]) (fun j hj => ?_), hw6, hD6, hF6, hΩ6, hf6⟩
        rw [wipe_get (σ := σ3) (fun z => hj (hv j z))]
        exact back j hj
    | false =>
      refine iteF ?_
      exact ⟨hlt, F4, Ω4, _, acc, accv, st4, rel_unb r4 vs (by rw [sl, sl3]) back, q4, o4.1, o4.2.1, o4.2.2, f4⟩
  · have e : i = ds.length := by omega
    subst e
    rw [List.drop_eq_nil_of_le (Nat.le_refl _)] at hw
    exact .inl ⟨istop, k acc ρ1 hw D accv F1 H' Ω1 s1 (rel_reb r s1.ef r1) hDl hDF hDΩ hf hD⟩
structure Blk2 (X : Cx) (c : Ct) (io io1 : List Nat) (scope : Scope) (own' : List (Str × Nat)) (tg : Expr) (ifs : List Expr) (tg1 iter1 : Expr) (ifs1 : List Expr) (elt : Expr) (G : DG) (C : DT) (T1 : DL) (G1 : DG) (C1 : DT) (E : DE) : Prop where
  ok : BlkOk X.N X.env.scope scope own'
  g : ∀ (s : Shared) (H : Hp) (C' : Addr) (cl : List (Str × Addr)) (fp : List Addr), PG (X.blk s H scope (PySem.compEnvC scope cl C' X.env) fp) tg (tOfG ⟨c, io⟩ G)
  t : ∀ (s : Shared) (H : Hp) (C' : Addr) (cl : List (Str × Addr)) (fp : List Addr), PTs (X.blk s H scope (PySem.compEnvC scope cl C' X.env) fp) ifs (tOfT c WF C)
  i1 : ∀ (s : Shared) (H : Hp) (C' : Addr) (cl : List (Str × Addr)) (fp : List Addr), PI (X.blk s H scope (PySem.compEnvC scope cl C' X.env) fp) tg1 iter1 (tOfI c WF T1)
  g1 : ∀ (s : Shared) (H : Hp) (C' : Addr) (cl : List (Str × Addr)) (fp : List Addr), PG (X.blk s H scope (PySem.compEnvC scope cl C' X.env) fp) tg1 (tOfG ⟨c, io1⟩ G1)
  t1 : ∀ (s : Shared) (H : Hp) (C' : Addr) (cl : List (Str × Addr)) (fp : List Addr), PTs (X.blk s H scope (PySem.compEnvC scope cl C' X.env) fp) ifs1 (tOfT c WF C1)
  e : ∀ (s : Shared) (H : Hp) (C' : Addr) (cl : List (Str × Addr)) (fp : List Addr), PE (X.blk s H scope (PySem.compEnvC scope cl C' X.env) fp) elt (tOfE c WF E)
theorem frz_lst {F H F1 H1 F' H' : Hp} {Ω Ω1 Ω' : Nm} {ρ' : Env} {σ : L2.St} {D : Addr} {accv : List V} {acc : List Vi.D} (s1 : Stp F H Ω F1 H1 Ω1) (s' : Stp F1 H1 Ω1 F' H' Ω') (r' : Rel c F' H' Ω' ρ' σ) (hD : H' D = some (.lst accv)) (hF : F' D = none) (hΩ : Ω' D = none) (hf : FzL c F' acc accv) (hn : H1 D = none) :
    Stp F H Ω (upd F' D (.lst accv)) H' Ω' ∧ Rel c (upd F' D (.lst accv)) H' Ω' ρ' σ ∧ Fz c (upd F' D (.lst accv)) (.lst false acc) (.ref D) := by
  have sb : Sub F' (upd F' D (.lst accv)) := fun b o e => by rw [upd_ne (ne_of_none e hF)]; exact e
  refine ⟨⟨(s1.trans s').ef.trans sb, fun b o e1 e2 e3 => ?_⟩, ⟨⟨fun b o e => ?_, fun b π e => ?_⟩, fun i d h1 h2 => ?_, r'.len⟩, ?_⟩
  · obtain ⟨z1, z2, z3⟩ := (s1.trans s').ou b o e1 e2 e3
    refine ⟨z1, ?_, z3⟩
    rw [upd_ne ?_]
    · exact z2
    · intro z
      obtain ⟨y1, _, _⟩ := s1.ou b o e1 e2 e3
      rw [z, hn] at y1
      cases y1
  · by_cases hb : b = D
    · rw [hb, upd_same] at e
      cases e
      rw [hb]
      exact hD
    · rw [upd_ne hb] at e
      exact r'.wf.sub b o e
  · obtain ⟨z1, z2⟩ := r'.wf.own b π e
    exact ⟨by rw [upd_ne fun z => by rw [z, hΩ] at e; cases e]; exact z1, z2⟩
  · obtain ⟨v, z1, z2⟩ := r'.sl i d h1 h2
    exact ⟨v, z1, Rv.move sb d _ _ v (fun b π z => ⟨z, rfl⟩) z2⟩
  · simp only [Fz]
    exact ⟨D, accv, rfl, upd_same, FzL.mono sb _ _ hf⟩
/-- [elt for target in iter if .. for target1 in iter1 if ..] -/
theorem E_lc2 {elt tg iter tg1 iter1 : Expr} {ifs ifs1 : List Expr} {scope : Scope} {own' : List (Str × Nat)} {vs1 : List Nat} {pos : Pos} {wi T1 : DL} {G G1 : DG} {C C1 : DT} {E : DE} {io io1 : List Nat} (hc : X.calm = true) (hN : X.N.Nodup) (hio : ∀ i, i < X.N.length → i ∉ own'.map (·.2) → i ∈ io) (hio1 : ∀ i, i < X.N.length → i ∉ vs1 → i ∈ io1) (hv : ∀ i ∈ vs1, i ∈ own'.map (·.2))
    (hi : PI X tg iter (tOfI c W wi)) (b : Blk2 X c io io1 scope own' tg ifs tg1 iter1 ifs1 elt G C T1 G1 C1 E)
    (hs : ∀ x, foldedSetIterable iter X.env x = pure x := by intro _; rfl) (hs1 : ∀ env x, foldedSetIterable iter1 env x = pure x := by intro _ _; rfl) :
    PE X (.ListComp elt [⟨tg, iter, ifs, 0⟩, ⟨tg1, iter1, ifs1, 0⟩] scope pos) (tOfE c W (dLc2 wi G C T1 G1 C1 E (own'.map (·.2)) vs1)) := by
  refine ⟨fun pins s σ H Q I h => (pe_lc2 hc hN hi b.ok hv b.g b.t b.i1 b.g1 b.t1 b.e hs hs1).run pins s σ H Q I ?_⟩
  obtain ⟨F, Ω, ρ, K, r, t, k, kx⟩ := h
  refine ⟨F, Ω, ρ, _, r, t, fun ds ρ1 q J F1 H1 Ω1 s1 r1 it => ?_, kx.imp (Stp.refl _ _ _) fun _ _ _ q => q⟩
  refine lc2_go (by rw [I.len]; exact hio) (by rw [I.len]; exact hio1) hv r1 it q fun acc ρ' q' D accv F' H' Ω' s' r' hD hF hΩ hf hn => ?_
  obtain ⟨a1, a2, a3⟩ := frz_lst s1 s' r' hD hF hΩ hf hn
  exact k _ _ q' (.ref D) _ H' Ω' a1 a2 a3
/-! ### unpacking -/
def dgSeq (n : Nat) (Gs : DGs) : DG := fun d ρ K => match d with
  | .lst _ ds => ds.length = n ∧ Gs ds ρ K
  | .klst ds => ds.length = n ∧ Gs ds ρ K
  | _ => False
theorem G_lst {x : Ct2} {es : List Expr} {k : Nat} {pos : Pos} {Gs : DGs} {n : Nat} (hc : X.calm = true) (hK : x.c.K = X.K) (h : PGs X es (tOfGs x Gs))
    (hn : (assignEach es X.env).length = n := by rfl) (hst : (assignEach es X.env).findIdx? (·.1) = none := by rfl) : PG X (.Tuple es k pos) (tOfG x (dgSeq n Gs)) :=
  (pg_lst hc h hn hst).imp fun v σ H Q h => by
    obtain ⟨F, Ω, ρ, K, d, rl, f, g, k⟩ := h
    cases d with
    | lst o ds =>
      simp only [Fz] at f
      obtain ⟨a, vs, e, h1, h2⟩ := f
      obtain ⟨gl, g⟩ := g
      exact ⟨a, vs, e, SqL.of (rl.wf.sub _ _ h1), by rw [← h2.length]; exact gl, F, Ω, ρ, K, ds, rl, h2, g, k⟩
    | klst ds =>
      simp only [Fz] at f
      obtain ⟨a, vs, e, h1, h2⟩ := f
      obtain ⟨gl, g⟩ := g
      exact ⟨a, vs, e, by rw [← hK]; exact sql_sub rl.wf.sub h1, by rw [← h2.length]; exact gl, F, Ω, ρ, K, ds, rl, h2, g, k⟩
    | _ => exact g.elim
end
end Vi
/-! Vi22: running the forms of Vi17 to Vi21. -/
namespace Vi
open PySem L2

def idK (s : List Nat) (a : Nat) (k : D → Prop) : Prop := match idx s a with
  | some i => k (.int i)
  | none => False
theorem idxK_ss (s : List Nat) (a : Nat) (k : D → Prop) : idxK (.str s) (.str [a]) k = idK s a k := rfl
theorem idK_of {s : List Nat} {a i : Nat} {k : D → Prop} (h : idx s a = some i) (q : k (.int i)) : idK s a k := by
  unfold idK
  rw [h]
  exact q
theorem isStr_s (s : List Nat) : dIdx.isStr (.str s) = true := rfl
theorem fldK_0 (C : Nat) (o : Bool) (d : D) (ds : List D) (k : D → Prop) : fldK C 0 (.ins o C (d :: ds)) k = (own d = false ∧ k d) := by
  apply propext
  exact ⟨fun h => h.2, fun h => ⟨rfl, h⟩⟩
theorem fldK_S (C j : Nat) (o : Bool) (d : D) (ds : List D) (k : D → Prop) : fldK C (j + 1) (.ins o C (d :: ds)) k = fldK C j (.ins o C ds) k := rfl
theorem fsetK_r (C j : Nat) (ds : List D) (v : D) (ρ : Env) (i : Nat) (k : Env → Prop) : fsetK C j (.ins true C ds) v ρ i k = (ds.length = j ∧ eAt (ρ.set i (.ins true C (ds ++ [fr v]))) k) := by
  apply propext
  exact ⟨fun h => h.2, fun h => ⟨rfl, h⟩⟩
theorem isIns_i (C : Nat) (o : Bool) (ds : List D) : isIns C (.ins o C ds) = true := by
  show (C == C) = true
  exact beq_self_eq_true C
/-- a construction -/
structure makeD (C n : Nat) (S : FS) (dds ds : List D) (ρ : Env) (K : R D → Env → Prop) : Prop where
  h1 : ds.length + dds.length + 1 = n
  h2 : S (.ins true C [] :: (ds ++ dds).map fr) fun r posts => match r with
    | .ok .non => ∃ d rest, posts = d :: rest ∧ nz d = true ∧ K (.ok d) ρ
    | .ok _ => False
    | .exc C w => K (.exc C w) ρ
theorem dMake_r {C n : Nat} {S : FS} {dds : List D} {L : DL} {ρ : Env} {K : R D → Env → Prop} : dMake C n S dds L ρ K = L ρ (onOk K fun ds ρ' => makeD C n S dds ds ρ' K) := by
  unfold dMake
  congr 2
  funext ds ρ'
  exact propext ⟨fun h => ⟨h.1, h.2⟩, fun h => ⟨h.1, h.2⟩⟩
theorem make_step {C n : Nat} {S : FS} {dds ds : List D} {ρ : Env} {K : R D → Env → Prop} (h1 : ds.length + dds.length + 1 = n) (h : S (.ins true C [] :: (ds ++ dds).map fr) fun r posts => match r with
    | .ok .non => ∃ d rest, posts = d :: rest ∧ nz d = true ∧ K (.ok d) ρ
    | .ok _ => False
    | .exc C w => K (.exc C w) ρ) : makeD C n S dds ds ρ K := ⟨h1, h⟩
theorem dgTup_t (n : Nat) (Gs : DGs) (ds : List D) (ρ : Env) (K : Env → Prop) : dgTup n Gs (.tup ds) ρ K = (ds.length = n ∧ Gs ds ρ K) := rfl
theorem dgSeq_l (n : Nat) (Gs : DGs) (o : Bool) (ds : List D) (ρ : Env) (K : Env → Prop) : dgSeq n Gs (.lst o ds) ρ K = (ds.length = n ∧ Gs ds ρ K) := rfl
theorem dgSeq_k (n : Nat) (Gs : DGs) (ds : List D) (ρ : Env) (K : Env → Prop) : dgSeq n Gs (.klst ds) ρ K = (ds.length = n ∧ Gs ds ρ K) := rfl
theorem dgCons_c (G : DG) (Gs : DGs) (d : D) (ds : List D) (ρ : Env) (K : Env → Prop) : dgCons G Gs (d :: ds) ρ K = G d ρ fun ρ' => Gs ds ρ' K := rfl
theorem dgNil_n (ρ : Env) (K : Env → Prop) : dgNil [] ρ K = K ρ := by
  apply propext
  exact ⟨fun h => h.2, fun h => ⟨rfl, h⟩⟩
/-- a comprehension of one's own by an invariant -/
theorem lcN_inv {G : DG} {C : DT} {E : DE} {vs : List Nat} {ρ : Env} {K : List D → Env → Prop} (Iv : Nat → List D → Env → Prop) : ∀ (ds : List D) (j : Nat) (acc : List D) (ρ : Env), Iv j acc ρ →
    (∀ i d acc ρ (N : List D → Env → Prop), ds[i]? = some d → Iv (j + i) acc ρ → (∀ acc' ρ', Iv (j + i + 1) acc' ρ' → N acc' ρ') → G d ρ fun ρ1 => C ρ1 fun b ρ2 => match b with
      | .ok true => E ρ2 fun e ρ3 => (match e with | .ok e => N (acc ++ [e]) (unb ρ3 vs) | .exc _ _ => False)
      | .ok false => N acc (unb ρ2 vs)
      | .exc _ _ => False) → (∀ acc ρ, Iv (j + ds.length) acc ρ → K acc ρ) → lcN G C E vs ds acc ρ K
  | [], j, acc, ρ, h0, _, he => he acc ρ h0
  | d :: ds, j, acc, ρ, h0, st, he => by
    refine st 0 d acc ρ (fun acc' ρ' => lcN G C E vs ds acc' ρ' K) rfl h0 fun acc' ρ' h1 => ?_
    refine lcN_inv (ρ := ρ) Iv ds (j + 1) acc' ρ' h1 (fun i d acc ρ N e h k => ?_) fun acc ρ h => he acc ρ ?_
    · have e1 : j + 1 + i = j + (i + 1) := by omega
      rw [e1] at h k
      exact st (i + 1) d acc ρ N (by simpa using e) h k
    · rw [List.length_cons, show j + (ds.length + 1) = j + 1 + ds.length by omega]
      exact h
/-- a comprehension (frozen) by an invariant of its list and the environment -/
theorem lcE_inv {G : DG} {C : DT} {E : DE} {vs : List Nat} {ρ : Env} {K : List D → Env → Prop} (Iv : Nat → List D → Env → Prop) : ∀ (ds : List D) (j : Nat) (acc : List D) (ρ : Env), Iv j acc ρ →
    (∀ i d acc ρ (N : List D → Env → Prop), ds[i]? = some d → Iv (j + i) acc ρ → (∀ acc' ρ', Iv (j + i + 1) acc' ρ' → N acc' ρ') → G d ρ fun ρ1 => C ρ1 fun b ρ2 => match b with
      | .ok true => E ρ2 fun e ρ3 => (match e with | .ok e => N (acc ++ [fr e]) (unb ρ3 vs) | .exc _ _ => False)
      | .ok false => N acc (unb ρ2 vs)
      | .exc _ _ => False) → (∀ acc ρ, Iv (j + ds.length) acc ρ → K acc ρ) → lcW G C E vs ds acc ρ K
  | [], j, acc, ρ, h0, _, he => he acc ρ h0
  | d :: ds, j, acc, ρ, h0, st, he => by
    refine st 0 d acc ρ (fun acc' ρ' => lcW G C E vs ds acc' ρ' K) rfl h0 fun acc' ρ' h1 => ?_
    refine lcE_inv (ρ := ρ) Iv ds (j + 1) acc' ρ' h1 (fun i d acc ρ N e h k => ?_) fun acc ρ h => he acc ρ ?_
    · have e1 : j + 1 + i = j + (i + 1) := by omega
      rw [e1] at h k
      exact st (i + 1) d acc ρ N (by simpa using e) h k
    · rw [List.length_cons, show j + (ds.length + 1) = j + 1 + ds.length by omega]
      exact h
/-- a two-for comprehension by an invariant: the inner loop stands as lcW -/
theorem lc2_inv {G : DG} {C : DT} {T1 : DL} {G1 : DG} {C1 : DT} {E : DE} {vs vs1 : List Nat} {ρ : Env} {K : List D → Env → Prop} (Iv : Nat → List D → Env → Prop) : ∀ (ds : List D) (j : Nat) (acc : List D) (ρ : Env), Iv j acc ρ →
    (∀ i d acc ρ (N : List D → Env → Prop), ds[i]? = some d → Iv (j + i) acc ρ → (∀ acc' ρ', Iv (j + i + 1) acc' ρ' → N acc' ρ') → G d ρ fun ρ1 => C ρ1 fun b ρ2 => match b with
      | .ok true => T1 ρ2 fun r ρ3 => (match r with
        | .ok ds1 => acc.length + ds1.length ≤ 1000000 ∧ lcW G1 C1 E vs1 ds1 acc (unb ρ3 vs1) fun acc' ρ4 => N acc' (unb ρ4 vs)
        | .exc _ _ => False)
      | .ok false => N acc (unb ρ2 vs)
      | .exc _ _ => False) → (∀ acc ρ, Iv (j + ds.length) acc ρ → K acc ρ) → lc2W G C T1 G1 C1 E vs vs1 ds acc ρ K
  | [], j, acc, ρ, h0, _, he => he acc ρ h0
  | d :: ds, j, acc, ρ, h0, st, he => by
    refine st 0 d acc ρ (fun acc' ρ' => lc2W G C T1 G1 C1 E vs vs1 ds acc' ρ' K) rfl h0 fun acc' ρ' h1 => ?_
    refine lc2_inv (ρ := ρ) Iv ds (j + 1) acc' ρ' h1 (fun i d acc ρ N e h k => ?_) fun acc ρ h => he acc ρ ?_
    · have e1 : j + 1 + i = j + (i + 1) := by omega
      rw [e1] at h k
      exact st (i + 1) d acc ρ N (by simpa using e) h k
    · rw [List.length_cons, show j + (ds.length + 1) = j + 1 + ds.length by omega]
      exact h
end Vi
/-! Vi23: dicts. A display of one pair whose key is a tuple. -/
namespace Vi
open PySem L2 PySem.Spec PyProof.Rows

section
variable {X : Cx}
theorem pe_disp1T {k v : Expr} {tk tv : TE} {pos : Pos} (hu : X.A.units + 1 < cLine) (hk : PE X k tk) (hv : PE X v tv) : PE X (.Dict [some k] [v] pos) (fun σ H Q => ∀ p, H p = none → tk σ (upd H p (.dT [])) fun x H1 => tv σ H1 fun y H2 => H2 p = some (.dT []) ∧
    ∃ (b : Addr) (key : List Key), x = .ref b ∧ H2 b = some (.tup (key.map kV)) ∧ Q (.ref p) (upd H2 p (.dT [(key, y)]))) := by
  refine ⟨fun pins s σ H Q I q => ?_⟩
  have hn := I.hok.fresh (Nat.le_refl s.heap.objs.size)
  have I1 := I.laid (a := s.heap.objs.size) (o := .dT []) (h' := s.heap.push { cls := .type "dict", data := .dict #[] }) (t' := s.toks) (fun _ _ q => Heap.get?_push_of_some _ q) (Nat.le_refl _) (dt_empty s.heap I.big)
  have q1 := q _ hn
  rw [arm_eval_Dict, zip_pairTrees [some k] [v] X.env pos rfl rfl, dictDisplay_pairs _ (by intro z; cases z) (by show 1 < 17; decide)]
  refine wpAny_bind (wpAny_standAt (wpAny_bind (wpAny_subDictH (knd := tupleKind (mixKind X.prog X.w)) (show X.A.units < cLine by omega) (by show 1 ≤ 15; decide) ?_)))
  refine pairTrees_cons_walk (thn (hk.run pins _ σ _ _ I1 q1) fun u s1 ⟨x, H1, I1', rx, q2⟩ => thn (hv.run pins s1 σ H1 _ I1' q2) fun w2 s2 ⟨y, H2, I2, ry, q3⟩ => pairTrees_nil_walk ?_)
  obtain ⟨e, b, key, ex, eb, q4⟩ := q3
  subst ex
  obtain rfl : u = Value.ref b := rx
  obtain ⟨z, hd, xs, rel, dd⟩ := dt_of I2.hok e
  cases rel
  refine ⟨[(key, b, w2)], ⟨rfl, rfl, key_of I2.hok eb, True.intro⟩, dd, fun h' tk' dd' hs => ?_⟩
  obtain ⟨q, es, ep, hq, h2, h3, h4, _, h5⟩ := dd'
  refine wpAny_pure ⟨.ref s.heap.objs.size, upd H2 s.heap.objs.size (.dT [(key, y)]), d_write I2 (by rw [e]; exact True.intro) hs ⟨q, hq⟩ ⟨by show 1 ≤ sizeLine; decide, hd, _, .cons ⟨rfl, ?_, ry⟩ .nil, q, es, ep, hq, h2, h3, h4, h5⟩, rfl, q4⟩
  rw [upd_ne (ne_of eb e (fun z => nomatch z))]
  exact eb
end
def keyOf : D → Option Key
  | .int i => some (.inl i)
  | .str s => some (.inr ⟨s.toArray⟩)
  | _ => none
def keysOf : List D → Option (List Key)
  | [] => some []
  | d :: ds => (keyOf d).bind fun k => (keysOf ds).map (k :: ·)
theorem keyOf_fz {c : Ct} {F : Hp} {d : D} {v : V} {k : Key} (h : keyOf d = some k) (f : Fz c F d v) : v = kV k := by
  cases d with
  | int i =>
    cases h
    have e : v = .int i := by simpa only [Fz] using f
    exact e
  | str s =>
    cases h
    have e : v = .str ⟨s.toArray⟩ := by simpa only [Fz] using f
    exact e
  | _ => cases h
theorem keysOf_fz {c : Ct} {F : Hp} : ∀ {ds : List D} {vs : List V} {ks : List Key}, keysOf ds = some ks → FzL c F ds vs → vs = ks.map kV
  | [], vs, ks, h, f => by
    cases h
    simp only [FzL] at f
    rw [f]
    rfl
  | d :: ds, vs, ks, h, f => by
    simp only [FzL] at f
    obtain ⟨v, r, e, h1, h2⟩ := f
    have h' : (keyOf d).bind (fun k => (keysOf ds).map (k :: ·)) = some ks := h
    obtain ⟨k, hk, h3⟩ := Option.bind_eq_some_iff.mp h'
    obtain ⟨ks', hks, h4⟩ := Option.map_eq_some_iff.mp h3
    subst h4
    rw [e, keyOf_fz hk h1, keysOf_fz hks h2]
    rfl
/-- the key that a tuple is -/
def tkK (d : D) (k : List Key → Prop) : Prop := match d with
  | .tup ds => (match keysOf ds with | some ks => k ks | none => False)
  | _ => False
theorem tkK_of {ds : List D} {ks : List Key} {k : List Key → Prop} (h : keysOf ds = some ks) (q : k ks) : tkK (.tup ds) k := by
  show (match keysOf ds with | some ks => k ks | none => False)
  rw [h]
  exact q
theorem tkK_get {d : D} {k : List Key → Prop} (h : tkK d k) : ∃ ds ks, d = .tup ds ∧ keysOf ds = some ks ∧ k ks := by
  cases d with
  | tup ds =>
    have h' : (match keysOf ds with | some ks => k ks | none => False) := h
    cases e : keysOf ds with
    | none => rw [e] at h'; exact h'.elim
    | some ks => rw [e] at h'; exact ⟨ds, ks, rfl, e, h'⟩
  | _ => exact h.elim
section
variable {X : Cx} {c : Ct} {W : WX}
/-- {k: v}, k a tuple: one's own -/
def dDisp1 (Tk Tv : DE) : DE := fun ρ K => Tk ρ (onOk K fun dk ρ1 => Tv ρ1 (onOk K fun dv ρ2 => tkK dk fun key => K (.ok (.dic true (.tup [key]) [fr dv])) ρ2))
theorem N_disp1 {k v : Expr} {Tk Tv : DE} {pos : Pos} (hu : X.A.units + 1 < cLine) (hk : PE X k (tOfE c W Tk)) (hv : PE X v (tOfE c W Tv)) : PE X (.Dict [some k] [v] pos) (tOfN c W (dDisp1 Tk Tv)) := by
  refine (pe_disp1T hu hk hv).imp fun σ H Q h => ?_
  obtain ⟨F, Ω, ρ, K, r0, ht, k, kx⟩ := h
  intro p hp
  obtain ⟨r1, s1⟩ := rel_new (o := .dT []) r0 hp
  obtain ⟨hF, hΩ, _, _⟩ := wf_new (o := .dT []) r0.wf hp
  refine ⟨F, Ω, ρ, _, r1, ht, fun dk ρ1 q1 x F1 H1 Ω1 st1 r2 f1 => ?_, kx.imp s1 fun _ _ _ q => q⟩
  have o1 := st1.ou p _ upd_same hF hΩ
  refine ⟨F1, Ω1, ρ1, _, r2, q1, fun dv ρ2 q2 y F2 H2 Ω2 st2 r3 f2 => ?_, kx.imp (s1.trans st1) fun _ _ _ q => q⟩
  have o2 := st2.ou p _ o1.1 o1.2.1 o1.2.2
  simp only [onOk_ok] at q2
  obtain ⟨ds, ks, rfl, hks, q3⟩ := tkK_get q2
  have f1' := Fz.mono st2.ef _ _ f1
  simp only [Fz] at f1'
  obtain ⟨b, vs, ex, hb, hfl⟩ := f1'
  have ev := keysOf_fz hks hfl
  subst ev
  refine ⟨o2.1, b, ks, ex, r3.wf.sub _ _ hb, ?_⟩
  refine k _ ρ2 q3 (.ref p) F2 _ Ω2 (fun b => if b = p then some [] else none) ⟨((s1.trans st1).trans st2).ef, fun b o e1 e2 e3 => ?_⟩ (rel_out r3 o2.2.1 o2.2.2) ⟨?_, fun b π e => ?_⟩ fun b o e1 e2 e3 => ?_
  · obtain ⟨z1, z2, z3⟩ := ((s1.trans st1).trans st2).ou b o e1 e2 e3
    refine ⟨?_, z2, z3⟩
    rw [upd_ne (ne_of_none e1 hp)]
    exact z1
  · simp only [Rv]
    refine ⟨p, [y], rfl, by simp, upd_same, rfl, ?_⟩
    simp only [RvL]
    exact ⟨y, [], rfl, (Rv_of_own (own_fr dv)).mpr ((Fz_fr _ _ _ _).mpr f2), rfl⟩
  · have e' : (if b = p then some ([] : List Nat) else none) = some π := e
    split at e'
    · rename_i hb
      subst hb
      exact ⟨o2.2.1, o2.2.2, _, upd_same⟩
    · cases e'
  · show (if b = p then some ([] : List Nat) else none) = none
    rw [if_neg (ne_of_none e1 hp)]
end
end Vi
/-! Vi24: what a dict holds: d[k], k in d, k not in d. -/
namespace Vi
open PySem L2 PySem.Spec PyProof.Rows

def vD {κ : Type} [DecidableEq κ] (ks : List κ) (ds : List D) (k : κ) : Option D := ((ks.zip ds).find? fun kv => decide (kv.1 = k)).map (·.2)
theorem vD_vw {κ : Type} [DecidableEq κ] {c : Ct} {F H : Hp} {k : κ} : ∀ {ks : List κ} {ds : List D} {vs : List V}, ks.length = ds.length → VwL c F H ds vs →
    match vD ks ds k with
    | none => valV (ks.zip vs) k = none
    | some d => ∃ v, valV (ks.zip vs) k = some v ∧ Vw c F H d v
  | [], _, _, _, _ => rfl
  | a :: ks, [], _, h, _ => by cases h
  | a :: ks, d :: ds, vs, hl, f => by
    match vs, f.1 with
    | v :: vs, hl2 =>
      have f' : VwL c F H ds vs := ⟨by simpa using f.1, fun i x e => f.2 (i + 1) x (by simpa using e)⟩
      have ih := vD_vw (k := k) (ks := ks) (by simpa using hl) f'
      by_cases hk : a = k
      · have e1 : vD (a :: ks) (d :: ds) k = some d := by unfold vD; simp [List.find?_cons, hk]
        have e2 : valV ((a :: ks).zip (v :: vs)) k = some v := by unfold valV; simp [List.find?_cons, hk]
        rw [e1, e2]
        obtain ⟨v', q1, q2⟩ := f.2 0 d rfl
        cases q1
        exact ⟨v, rfl, q2⟩
      · have e1 : vD (a :: ks) (d :: ds) k = vD ks ds k := by unfold vD; simp [List.find?_cons, hk]
        have e2 : valV ((a :: ks).zip (v :: vs)) k = valV (ks.zip vs) k := by unfold valV; simp [List.find?_cons, hk]
        rw [e1, e2]
        exact ih
/-- what the dict d holds at y -/
def dkK (d y : D) (k : Option D → Prop) : Prop := match d with
  | .dic _ (.one ks) ds => (match keyOf y with | some q => k (vD ks ds q) | none => False)
  | .dic _ (.tup ks) ds => tkK y fun q => k (vD ks ds q)
  | _ => False
theorem dkK_t {o : Bool} {ks : List (List Key)} {ds ys : List D} {q : List Key} {k : Option D → Prop} (h : keysOf ys = some q) (z : k (vD ks ds q)) : dkK (.dic o (.tup ks) ds) (.tup ys) k := tkK_of h z
theorem dkK_o {o : Bool} {ks : List Key} {ds : List D} {y : D} {q : Key} {k : Option D → Prop} (h : keyOf y = some q) (z : k (vD ks ds q)) : dkK (.dic o (.one ks) ds) y k := by
  show (match keyOf y with | some q => k (vD ks ds q) | none => False)
  rw [h]
  exact z
theorem dkK_get {c : Ct} {F H : Hp} {Ω : Nm} {d y : D} {v u : V} {k : Option D → Prop} (w : Wf F H Ω) (hd : Vw c F H d v) (hy : Fz c F y u) (h : dkK d y k) :
    ∃ a r rv, v = .ref a ∧ DGet H a u rv ∧ k r ∧ (match r with | none => rv = none | some e => ∃ z, rv = some z ∧ Vw c F H e z) := by
  cases d with
  | dic o ks ds =>
    cases ks with
    | one ks =>
      obtain ⟨a, vs, e, h1, h2, h3⟩ := hd.dic w
      have h' : (match keyOf y with | some q => k (vD ks ds q) | none => False) := h
      cases e1 : keyOf y with
      | none => rw [e1] at h'; exact h'.elim
      | some q =>
        rw [e1] at h'
        exact ⟨a, _, _, e, .inl ⟨ks.zip vs, q, h1, keyOf_fz e1 hy, rfl⟩, h', vD_vw h2 h3⟩
    | tup ks =>
      obtain ⟨a, vs, e, h1, h2, h3⟩ := hd.dic w
      obtain ⟨ys, q, ey, hq, hk⟩ := tkK_get (show tkK y fun q => k (vD ks ds q) from h)
      subst ey
      simp only [Fz] at hy
      obtain ⟨b, us, eu, hb, hf⟩ := hy
      have ev := keysOf_fz hq hf
      subst ev
      exact ⟨a, _, _, e, .inr ⟨ks.zip vs, q, b, h1, eu, w.sub _ _ hb, rfl⟩, hk, vD_vw h2 h3⟩
  | _ => exact h.elim
def haveK (r : Option D) (k : D → Prop) : Prop := match r with
  | some d => own d = false ∧ k d
  | none => False
theorem haveK_s (d : D) (k : D → Prop) : haveK (some d) k = (own d = false ∧ k d) := rfl
section
variable {X : Cx} {c : Ct} {W : WX}
def dDget (O : DO) (T : DE) : DE := fun ρ K => O ρ (onOk K fun o ρ1 => T ρ1 (onOk K fun y ρ2 => nz (see ρ2 o) = true ∧ dkK (see ρ2 o) y fun r => haveK r fun d => K (.ok d) ρ2))
theorem E_dget {o i : Expr} {O : DO} {T : DE} {pos : Pos} (hu : X.A.units + 1 < cLine) (ho : PE X o (tOfO c W O)) (hi : PE X i (tOfE c W T)) (hs : NoSl i) : PE X (.Subscript o i pos) (tOfE c W (dDget O T)) := by
  refine (pe_dget hu ho hi hs).imp fun σ H Q h => ?_
  obtain ⟨F, Ω, ρ, K, r0, ht, k, kx⟩ := h
  refine ⟨F, Ω, ρ, _, r0, ht, fun x ρ1 q1 v F1 H1 Ω1 s1 r1 f1 => ?_, kx.imp (Stp.refl _ _ _) fun _ _ _ q => q⟩
  refine ⟨F1, Ω1, ρ1, _, r1, q1, fun y ρ2 q2 u F2 H2 Ω2 s2 r2 f2 => ?_, kx.imp s1 fun _ _ _ q => q⟩
  simp only [onOk_ok] at q2
  obtain ⟨hn, q3⟩ := q2
  obtain ⟨a, r, rv, ev, g, hk, hr⟩ := dkK_get r2.wf ((f1.mono s2.ef).vw r2 hn) f2 q3
  cases r with
  | none => exact hk.elim
  | some d =>
    obtain ⟨z, ez, vz⟩ := hr
    subst ez
    exact ⟨a, z, ev, g, k d ρ2 hk.2 z F2 H2 Ω2 (s1.trans s2) r2 (vz.fz hk.1)⟩
def dDin (g : Bool → Bool) (T : DE) (O : DO) : DE := fun ρ K => T ρ (onOk K fun y ρ1 => O ρ1 (onOk K fun o ρ2 => nz (see ρ2 o) = true ∧ dkK (see ρ2 o) y fun r => K (.ok (.bl (g r.isSome))) ρ2))
theorem run_din {T : DE} {O : DO} {g : Bool → Bool} {σ : L2.St} {H : Hp} {Q : VK} (h : tOfE c W (dDin g T O) σ H Q) : tOfE c W T σ H fun y H1 => tOfO c W O σ H1 fun x H2 => ∃ a o, x = .ref a ∧ DGet H2 a y o ∧ Q (.bl (g o.isSome)) H2 := by
  obtain ⟨F, Ω, ρ, K, r0, ht, k, kx⟩ := h
  refine ⟨F, Ω, ρ, _, r0, ht, fun y ρ1 q1 u F1 H1 Ω1 s1 r1 f1 => ?_, kx.imp (Stp.refl _ _ _) fun _ _ _ q => q⟩
  refine ⟨F1, Ω1, ρ1, _, r1, q1, fun o ρ2 q2 v F2 H2 Ω2 s2 r2 f2 => ?_, kx.imp s1 fun _ _ _ q => q⟩
  simp only [onOk_ok] at q2
  obtain ⟨hn, q3⟩ := q2
  obtain ⟨a, r, rv, ev, gg, hk, hr⟩ := dkK_get r2.wf (f2.vw r2 hn) (Fz.mono s2.ef _ _ f1) q3
  have e : rv.isSome = r.isSome := by
    cases r with
    | none =>
      have hr' : rv = none := hr
      rw [hr']
      rfl
    | some d =>
      obtain ⟨z, ez, _⟩ := hr
      rw [ez]
      rfl
  refine ⟨a, rv, ev, gg, ?_⟩
  rw [e]
  exact k _ ρ2 hk _ F2 H2 Ω2 (s1.trans s2) r2 fz_bl
theorem E_din {i o : Expr} {T : DE} {O : DO} {pos : Pos} (hu : X.A.units + 1 < cLine) (hi : PE X i (tOfE c W T)) (ho : PE X o (tOfO c W O)) (hm : behindInMarks .In o = false) : PE X (.Compare i [.In] [o] pos) (tOfE c W (dDin id T O)) :=
  (pe_cmp (pc_din hu hi ho) hm).imp fun _ _ _ h => run_din h
theorem E_dnotin {i o : Expr} {T : DE} {O : DO} {pos : Pos} (hu : X.A.units + 1 < cLine) (hi : PE X i (tOfE c W T)) (ho : PE X o (tOfO c W O)) (hm : behindInMarks .NotIn o = false) : PE X (.Compare i [.NotIn] [o] pos) (tOfE c W (dDin not T O)) :=
  (pe_cmp (pc_dnotin hu hi ho) hm).imp fun _ _ _ h => run_din h
theorem T_din {i o : Expr} {T : DE} {O : DO} {pos : Pos} (hu : X.A.units + 1 < cLine) (hi : PE X i (tOfE c W T)) (ho : PE X o (tOfO c W O)) (hm : behindInMarks .In o = false) : PT X (.Compare i [.In] [o] pos) (tOfT c W (dB (dDin id T O))) :=
  (pt_cmp (pc_din hu hi ho) hm).imp fun _ _ _ h => run_din (tB_of h)
theorem T_dnotin {i o : Expr} {T : DE} {O : DO} {pos : Pos} (hu : X.A.units + 1 < cLine) (hi : PE X i (tOfE c W T)) (ho : PE X o (tOfO c W O)) (hm : behindInMarks .NotIn o = false) : PT X (.Compare i [.NotIn] [o] pos) (tOfT c W (dB (dDin not T O))) :=
  (pt_cmp (pc_dnotin hu hi ho) hm).imp fun _ _ _ h => run_din (tB_of h)
end
end Vi
/-! Vi25: a store into a dict of one's own. -/
namespace Vi
open PySem L2 PySem.Spec PyProof.Rows

/-- the values behind d[k] = v, and the keys -/
def pKs {κ : Type} [DecidableEq κ] (ks : List κ) (ds : List D) (k : κ) : List κ := if ((ks.zip ds).any fun kv => decide (kv.1 = k)) = true then ks else ks ++ [k]
def pDs {κ : Type} [DecidableEq κ] (ks : List κ) (ds : List D) (k : κ) (v : D) : List D := if ((ks.zip ds).any fun kv => decide (kv.1 = k)) = true then (ks.zip ds).map (fun kv => if kv.1 = k then v else kv.2) else ds ++ [v]
theorem any_zip {κ : Type} [DecidableEq κ] {k : κ} {α β : Type} : ∀ {ks : List κ} {ds : List α} {vs : List β}, ks.length = ds.length → ds.length = vs.length → ((ks.zip ds).any fun kv => decide (kv.1 = k)) = ((ks.zip vs).any fun kv => decide (kv.1 = k))
  | [], _, _, _, _ => rfl
  | a :: ks, [], _, h, _ => by cases h
  | a :: ks, d :: ds, [], _, h => by cases h
  | a :: ks, d :: ds, v :: vs, h, g => by
    simp only [List.zip_cons_cons, List.any_cons]
    rw [any_zip (ks := ks) (ds := ds) (vs := vs) (by simpa using h) (by simpa using g)]
theorem RvL.mapK {κ : Type} [DecidableEq κ] {c : Ct} {F H : Hp} {Θ : Nm} {k : κ} {d : D} {v : V} (hd : Fz c F d v) (ho : own d = false) : ∀ {ks : List κ} {ds : List D} {vs : List V} {π : List Nat} {j : Nat}, ks.length = ds.length → RvL c F H Θ ds π j vs →
    ∃ ws, (ks.zip vs).map (fun kv => if kv.1 = k then (kv.1, v) else kv) = ks.zip ws ∧ RvL c F H Θ ((ks.zip ds).map fun kv => if kv.1 = k then d else kv.2) π j ws
  | [], [], vs, π, j, _, h => ⟨[], rfl, by simp only [List.zip_nil_left, List.map_nil, RvL]⟩
  | [], d' :: ds, vs, π, j, hl, h => by cases hl
  | a :: ks, [], vs, π, j, hl, h => by cases hl
  | a :: ks, e :: ds, vs, π, j, hl, h => by
    simp only [RvL] at h
    obtain ⟨u, r, e1, h1, h2⟩ := h
    subst e1
    obtain ⟨ws, q1, q2⟩ := RvL.mapK (k := k) hd ho (ks := ks) (by simpa using hl) h2
    by_cases hk : a = k
    · refine ⟨v :: ws, by simp only [List.zip_cons_cons, List.map_cons, if_pos hk, q1], ?_⟩
      simp only [List.zip_cons_cons, List.map_cons, if_pos hk, RvL]
      exact ⟨v, ws, rfl, (Rv_of_own ho).mpr hd, q2⟩
    · refine ⟨u :: ws, by simp only [List.zip_cons_cons, List.map_cons, if_neg hk, q1], ?_⟩
      simp only [List.zip_cons_cons, List.map_cons, if_neg hk, RvL]
      exact ⟨u, ws, rfl, h1, q2⟩
theorem put_zip {κ : Type} [DecidableEq κ] {c : Ct} {F H : Hp} {Θ : Nm} {k : κ} {d : D} {v : V} (hd : Fz c F d v) (ho : own d = false) {ks : List κ} {ds : List D} {vs : List V} {π : List Nat} (hl : ks.length = ds.length) (h : RvL c F H Θ ds π 0 vs) :
    ∃ ws, L2.putK (ks.zip vs) k v = (pKs ks ds k).zip ws ∧ RvL c F H Θ (pDs ks ds k d) π 0 ws ∧ (pKs ks ds k).length = (pDs ks ds k d).length := by
  have e := any_zip (k := k) hl h.length
  unfold L2.putK pKs pDs
  rw [← e]
  by_cases hc : ((ks.zip ds).any fun kv => decide (kv.1 = k)) = true
  · rw [if_pos hc, if_pos hc, if_pos hc]
    obtain ⟨ws, q1, q2⟩ := RvL.mapK (k := k) hd ho hl h
    exact ⟨ws, q1, q2, by rw [List.length_map, List.length_zip, hl, Nat.min_self]⟩
  · rw [if_neg hc, if_neg hc, if_neg hc]
    refine ⟨vs ++ [v], ?_, RvL.append h ((Rv_of_own ho).mpr hd), by rw [List.length_append, List.length_append, hl]; rfl⟩
    rw [List.zip_append (by rw [hl, h.length])]
    rfl
/-- d[y] = v upon data -/
def dputK (d y v : D) (ρ : Env) (j : Nat) (k : Env → Prop) : Prop := match d with
  | .dic true (.one ks) ds => (match keyOf y with | some q => ds.length < 1000000 ∧ k (ρ.set j (.dic true (.one (pKs ks ds q)) (pDs ks ds q (fr v)))) | none => False)
  | .dic true (.tup ks) ds => tkK y fun q => ds.length < 1000000 ∧ k (ρ.set j (.dic true (.tup (pKs ks ds q)) (pDs ks ds q (fr v))))
  | _ => False
section
variable {X : Cx} {x : Ct2} {W : WX}
def dDput (j : Nat) (Tk Tv : DE) : DS := fun ρ K => Tv ρ (onFl K fun d ρ1 => nz (gt ρ1 j) = true ∧ Tk ρ1 fun r ρ2 => exF r fun y => dputK (gt ρ2 j) y d ρ2 j fun ρ3 => K .nx ρ3)
theorem S_dput {j : Nat} {y : Str} {ei ev : Expr} {Tk Tv : DE} {p tpos pos : Pos} (hu : X.A.units + 1 < cLine) (hN : X.N[j]? = some y) (hv : Vis X.env.scope y) (hi : PE X ei (tOfE x.c W Tk)) (he : PE X ev (tOfE x.c W Tv)) (hd : (y == ("__debug__" : Str)) = false := by decide) (hcd : (y == ("__classdict__" : Str)) = false := by decide)
    (hs : swapsWith ev (some (.Subscript (.Name y p) ei tpos)) pos.line X.env = pure false := by rfl) : PS X (.Assign [.Subscript (.Name y p) ei tpos] ev pos) (tOfS x W (dDput j Tk Tv)) := by
  refine (ps_dput hu (pe_var hN hv hd hcd) hi he hs).imp fun De σ H h => ?_
  obtain ⟨F, Ω, ρ, K, r, t, w⟩ := tOfS_iff.mp h
  refine ⟨F, Ω, ρ, _, r, t, fun d ρ1 q v F1 H1 Ω1 s1 r1 f1 => ?_, w.exw⟩
  obtain ⟨hn, q⟩ := q
  obtain ⟨u, q1, q2⟩ := r1.sl j _ (gt_some hn) (nz_ne hn)
  refine ⟨u, q1, F1, Ω1, ρ1, _, r1, q, fun ky ρ2 q3 vk F2 H2 Ω2 s2 r2 f2 => ?_, fun C w ρ' q => q.elim⟩
  have q3 : dputK (gt ρ2 j) ky d ρ2 j fun ρ3 => K .nx ρ3 := q3
  generalize hz : gt ρ2 j = z at q3
  have fd := Fz.mono s2.ef _ _ f1
  have ffr : Fz x.c F2 (fr d) v := (Fz_fr _ _ _ _).mpr fd
  -- the dict's object, and what stands behind the store
  have fin : ∀ (ks : DKs) (ds : List D) (ks' : DKs) (ds' : List D), z = .dic true ks ds → (∀ (a : Addr) (vs : List V), H2 a = some (ks.ho vs) → ks.len = ds.length → RvL x.c F2 H2 Ω2 ds [j] 0 vs → ∃ ws, DPut H2 a vk v (upd H2 a (ks'.ho ws)) ∧ ks'.len = ds'.length ∧ RvL x.c F2 H2 Ω2 ds' [j] 0 ws) →
      K .nx (ρ2.set j (.dic true ks' ds')) → ∃ a H4, u = .ref a ∧ DPut H2 a vk v H4 ∧ De.nx σ H4 := by
    intro ks ds ks' ds' ez hp hk
    rw [ez] at hz
    have hn1 : nz (gt ρ2 j) = true := by rw [hz]; rfl
    have hs1 := gt_some hn1
    obtain ⟨v', z1, z2⟩ := r2.sl j _ hs1 (nz_ne hn1)
    rw [q1] at z1
    cases z1
    rw [hz] at z2
    simp only [Rv] at z2
    obtain ⟨a, vs, e1, hA, hH, hl, hr⟩ := z2
    obtain ⟨ws, g1, g2, g3⟩ := hp a vs hH hl hr
    refine ⟨a, _, e1, g1, ?_⟩
    subst e1
    refine w.nx _ hk σ F2 _ Ω2 ⟨s1.trans (chg_stp s2 hA fun b o e1 e2 e3 => (s2.ou b o e1 e2 e3).2.2), chg_slot r2 (List.getElem?_eq_some_iff.mp hs1).1 q1 hA ?_ (fun _ _ e => e) fun b π e => r2.wf.own b π e, Io.refl _ _⟩
    simp only [Rv]
    refine ⟨a, ws, rfl, hA, upd_same, g2, RvL.move (Sub.refl _) ds' [j] [j] 0 ws (fun b i π e => ⟨e, upd_ne fun y => ?_⟩) g3⟩
    rw [y, hA] at e
    simp at e
  cases z with
  | dic o ks ds =>
    cases o with
    | false => exact q3.elim
    | true =>
      cases ks with
      | one ks =>
        have q4 : (match keyOf ky with | some q => ds.length < 1000000 ∧ K .nx (ρ2.set j (.dic true (.one (pKs ks ds q)) (pDs ks ds q (fr d)))) | none => False) := q3
        cases e : keyOf ky with
        | none => rw [e] at q4; exact q4.elim
        | some q =>
          rw [e] at q4
          refine fin (.one ks) ds (.one (pKs ks ds q)) (pDs ks ds q (fr d)) rfl (fun a vs hH hl hr => ?_) q4.2
          obtain ⟨ws, g1, g2, g3⟩ := put_zip (k := q) ffr (own_fr d) (by exact hl) hr
          refine ⟨ws, ?_, g3, g2⟩
          rw [keyOf_fz e f2]
          show DPut H2 a (kV q) v (upd H2 a (.dK ((pKs ks ds q).zip ws)))
          rw [← g1]
          refine DPut.k hH ?_
          rw [List.length_zip, ← hr.length]
          exact Nat.lt_of_le_of_lt (Nat.min_le_right _ _) (Nat.lt_of_lt_of_le q4.1 (by decide))
      | tup ks =>
        obtain ⟨ys, q, ey, hq, hk⟩ := tkK_get (show tkK ky fun q => ds.length < 1000000 ∧ K .nx (ρ2.set j (.dic true (.tup (pKs ks ds q)) (pDs ks ds q (fr d)))) from q3)
        subst ey
        simp only [Fz] at f2
        obtain ⟨b, us, eu, hb, hf⟩ := f2
        have ev := keysOf_fz hq hf
        subst ev
        refine fin (.tup ks) ds (.tup (pKs ks ds q)) (pDs ks ds q (fr d)) rfl (fun a vs hH hl hr => ?_) hk.2
        obtain ⟨ws, g1, g2, g3⟩ := put_zip (k := q) ffr (own_fr d) (by exact hl) hr
        refine ⟨ws, ?_, g3, g2⟩
        rw [eu]
        show DPut H2 a (.ref b) v (upd H2 a (.dT ((pKs ks ds q).zip ws)))
        rw [← g1]
        refine DPut.t hH (r2.wf.sub _ _ hb) ?_
        rw [List.length_zip, ← hr.length]
        exact Nat.lt_of_le_of_lt (Nat.min_le_right _ _) (Nat.lt_of_lt_of_le hk.1 (by decide))
  | _ => exact q3.elim
end
end Vi
/-! Vi26: running the forms of Vi23 to Vi25; while by an invariant; equality of mapped data. -/
namespace Vi
open PySem L2

theorem own_und : own .und = false := rfl
theorem wb_v4 (ρ : Env) (a b e f : D) (ds : List D) : wb ρ [.vl a, .vl b, .vl e, .vl f] ds = ρ := by
  cases ds with
  | nil => rfl
  | cons d ds => exact wb_v3 ρ b e f ds
theorem wb_v5 (ρ : Env) (a b e f g : D) (ds : List D) : wb ρ [.vl a, .vl b, .vl e, .vl f, .vl g] ds = ρ := by
  cases ds with
  | nil => rfl
  | cons d ds => exact wb_v4 ρ b e f g ds
theorem wb_v6 (ρ : Env) (a b e f g h : D) (ds : List D) : wb ρ [.vl a, .vl b, .vl e, .vl f, .vl g, .vl h] ds = ρ := by
  cases ds with
  | nil => rfl
  | cons d ds => exact wb_v5 ρ b e f g h ds
theorem while_dn {T : DT} {B : DS} {ρ : Env} {K : Fl → Env → Prop} (I : Env → Prop) (m : Env → Nat) (h0 : I ρ) (st : ∀ ρ, I ρ → T ρ (onFl K fun b ρ1 => if b = true then B ρ1 (turnK K fun ρ2 => I ρ2 ∧ m ρ2 < m ρ) else K .nx ρ1)) : dWhile T B ρ K := ⟨I, m, h0, st⟩
theorem dDisp1_r {Tk Tv : DE} {ρ : Env} {K : R D → Env → Prop} : dDisp1 Tk Tv ρ K = Tk ρ (onOk K fun dk ρ1 => Tv ρ1 (onOk K fun dv ρ2 => tkK dk fun key => dAt (fr dv) fun dv' => K (.ok (.dic true (.tup [key]) [dv'])) ρ2)) := rfl
theorem tkK_ii (a b : Int) (k : List Key → Prop) : tkK (.tup [.int a, .int b]) k = k [.inl a, .inl b] := rfl
theorem dkK_tr (o : Bool) (ks : List (List Key)) (ds : List D) (y : D) (k : Option D → Prop) : dkK (.dic o (.tup ks) ds) y k = tkK y fun q => k (vD ks ds q) := rfl
theorem dkK_or (o : Bool) (ks : List Key) (ds : List D) (y : D) (k : Option D → Prop) : dkK (.dic o (.one ks) ds) y k = (match keyOf y with | some q => k (vD ks ds q) | none => False) := rfl
theorem dkK_oi (o : Bool) (ks : List Key) (ds : List D) (y : Int) (k : Option D → Prop) : dkK (.dic o (.one ks) ds) (.int y) k = k (vD ks ds (.inl y)) := rfl
theorem dkK_os (o : Bool) (ks : List Key) (ds : List D) (y : List Nat) (k : Option D → Prop) : dkK (.dic o (.one ks) ds) (.str y) k = k (vD ks ds (.inr ⟨y.toArray⟩)) := rfl
theorem haveK_of {r : Option D} {d : D} {k : D → Prop} (h : r = some d) (h2 : own d = false) (q : k d) : haveK r k := by
  rw [h]
  exact ⟨h2, q⟩
theorem dputK_t (ks : List (List Key)) (ds : List D) (y v : D) (ρ : Env) (j : Nat) (k : Env → Prop) : dputK (.dic true (.tup ks) ds) y v ρ j k = tkK y fun q => ds.length < 1000000 ∧ eAt (ρ.set j (.dic true (.tup (pKs ks ds q)) (pDs ks ds q (fr v)))) k := rfl
theorem dputK_oi (ks : List Key) (ds : List D) (y : Int) (v : D) (ρ : Env) (j : Nat) (k : Env → Prop) : dputK (.dic true (.one ks) ds) (.int y) v ρ j k = (ds.length < 1000000 ∧ eAt (ρ.set j (.dic true (.one (pKs ks ds (.inl y))) (pDs ks ds (.inl y) (fr v)))) k) := rfl
theorem dputK_os (ks : List Key) (ds : List D) (y : List Nat) (v : D) (ρ : Env) (j : Nat) (k : Env → Prop) : dputK (.dic true (.one ks) ds) (.str y) v ρ j k = (ds.length < 1000000 ∧ eAt (ρ.set j (.dic true (.one (pKs ks ds (.inr ⟨y.toArray⟩))) (pDs ks ds (.inr ⟨y.toArray⟩) (fr v)))) k) := rfl
theorem own_all_map {α : Type} {f : α → D} (h : ∀ a, own (f a) = false) (l : List α) : ((l.map f).all fun d => !own d) = true := by
  rw [List.all_map]
  exact List.all_eq_true.mpr fun a _ => by show (!own (f a)) = true; rw [h]; rfl
theorem eqDs_map {α : Type} {f : α → D} : ∀ {l : List α}, (∀ a ∈ l, eqD (f a) (f a) = true) → eqDs (l.map f) (l.map f) = true
  | [], _ => eqDs_nn
  | a :: l, h => by
    rw [List.map_cons, eqDs_cc, h a List.mem_cons_self, eqDs_map fun b hb => h b (List.mem_cons_of_mem _ hb)]
    rfl
theorem shps_map {α : Type} {f : α → D} {n : Nat} : ∀ {l : List α}, (∀ a ∈ l, shp n (f a) = true) → shps n (l.map f) = true
  | [], _ => shps_n n
  | a :: l, h => by
    rw [List.map_cons, shps_c, h a List.mem_cons_self, shps_map fun b hb => h b (List.mem_cons_of_mem _ hb)]
    rfl
theorem joinL_nil : ∀ ys : List (List Nat), TL.joinL [] ys = ys.flatten
  | [] => rfl
  | [x] => by simp [TL.joinL]
  | x :: y :: ys => by
    have h := joinL_nil (y :: ys)
    show x ++ ([] ++ TL.joinL [] (y :: ys)) = _
    rw [h]
    rfl
theorem vD_at {κ : Type} [DecidableEq κ] {ks : List κ} {ds : List D} {i : Nat} {k : κ} {d : D} (nd : ks.Nodup) (hk : ks[i]? = some k) (hd : ds[i]? = some d) : vD ks ds k = some d := by
  unfold vD
  induction ks generalizing ds i with
  | nil => cases hk
  | cons a ks ih =>
    cases ds with
    | nil => cases hd
    | cons e ds =>
      rw [List.zip_cons_cons, List.find?_cons]
      cases i with
      | zero =>
        cases hk; cases hd
        simp
      | succ i =>
        have ne : ¬ a = k := fun e => by
          subst e
          exact (List.nodup_cons.mp nd).1 (List.mem_of_getElem? (by simpa using hk))
        simp only [ne, decide_false]
        exact ih (List.nodup_cons.mp nd).2 (by simpa using hk) (by simpa using hd)
theorem vD_none {κ : Type} [DecidableEq κ] {ks : List κ} {ds : List D} {k : κ} (h : k ∉ ks) : vD ks ds k = none := by
  unfold vD
  rw [Option.map_eq_none_iff, List.find?_eq_none]
  intro x hx e
  rw [decide_eq_true_iff] at e
  exact h (e ▸ (List.of_mem_zip (a := x.1) (b := x.2) hx).1)
theorem any_none {κ : Type} [DecidableEq κ] {ks : List κ} {ds : List D} {k : κ} (h : k ∉ ks) : ((ks.zip ds).any fun kv => decide (kv.1 = k)) = false := by
  rw [Bool.eq_false_iff, Ne, List.any_eq_true]
  rintro ⟨x, hx, e⟩
  rw [decide_eq_true_iff] at e
  exact h (e ▸ (List.of_mem_zip (a := x.1) (b := x.2) hx).1)
theorem pKs_new {κ : Type} [DecidableEq κ] {ks : List κ} {ds : List D} {k : κ} (h : k ∉ ks) : pKs ks ds k = ks ++ [k] := by
  unfold pKs
  rw [any_none h]
  rfl
theorem pDs_new {κ : Type} [DecidableEq κ] {ks : List κ} {ds : List D} {k : κ} {v : D} (h : k ∉ ks) : pDs ks ds k v = ds ++ [v] := by
  unfold pDs
  rw [any_none h]
  rfl
/-- the items of a variable that is a text, a tuple or a list -/
def itK (d : D) (k : List D → Prop) : Prop := match d with
  | .str s => k (s.map fun c => .str [c])
  | .tup ds => k ds
  | .lst _ ds => k ds
  | .klst ds => k ds
  | _ => False
theorem itK_s (s : List Nat) (k : List D → Prop) : itK (.str s) k = k (s.map fun c => .str [c]) := rfl
theorem itK_t (ds : List D) (k : List D → Prop) : itK (.tup ds) k = k ds := rfl
theorem itK_l (o : Bool) (ds : List D) (k : List D → Prop) : itK (.lst o ds) k = k ds := rfl
theorem itK_k (ds : List D) (k : List D → Prop) : itK (.klst ds) k = k ds := rfl
def dItV (i : Nat) : DL := fun ρ K => dVar i ρ (onOk K fun d ρ' => itK d fun s => K (.ok s) ρ')
section
variable {X : Cx} {c : Ct} {W : WX}
theorem I_var {tg iter : Expr} {i : Nat} (hl : PI X tg iter (tOfI c W (dItL (dVar i)))) (ht : PI X tg iter (tOfI c W (dItT (dVar i)))) (hs : PI X tg iter (tOfI c W (dItS (dVar i)))) : PI X tg iter (tOfI c W (dItV i)) := ⟨fun pins s σ H R I h => by
  obtain ⟨F, Ω, ρ, K, r, t, k, kx⟩ := h
  obtain ⟨hn, t⟩ := t
  simp only [onOk_ok] at t
  cases e : gt ρ i with
  | str x =>
    refine hs.run pins s σ H R I ⟨F, Ω, ρ, K, r, ⟨hn, ?_⟩, k, kx⟩
    simp only [onOk_ok]
    rw [e] at t ⊢
    exact t
  | tup x =>
    refine ht.run pins s σ H R I ⟨F, Ω, ρ, K, r, ⟨hn, ?_⟩, k, kx⟩
    simp only [onOk_ok]
    rw [e] at t ⊢
    exact t
  | lst o x =>
    refine hl.run pins s σ H R I ⟨F, Ω, ρ, K, r, ⟨hn, ?_⟩, k, kx⟩
    simp only [onOk_ok]
    rw [e] at t ⊢
    exact t
  | klst x =>
    refine hl.run pins s σ H R I ⟨F, Ω, ρ, K, r, ⟨hn, ?_⟩, k, kx⟩
    simp only [onOk_ok]
    rw [e] at t ⊢
    exact t
  | _ => rw [e] at t; exact t.elim⟩
theorem fr_id {d : D} (h : own d = false) : fr d = d := by
  cases d with
  | lst o xs => cases o with | true => cases h | false => rfl
  | dic o ks xs => cases o with | true => cases h | false => rfl
  | ins o C xs => cases o with | true => cases h | false => rfl
  | _ => rfl
theorem fr_id_all : ∀ {xs : List D}, xs.all (fun d => !own d) = true → xs.map fr = xs
  | [], _ => rfl
  | d :: xs, h => by
    rw [List.all_cons, Bool.and_eq_true] at h
    rw [List.map_cons, fr_id (by simpa using h.1), fr_id_all h.2]
/-- a + b of lists: one's own -/
def catK (d e : D) (k : List D → Prop) : Prop := match d, e with
  | .lst _ xs, .lst _ ys => (xs.all (fun d => !own d) = true ∧ ys.all (fun d => !own d) = true) ∧ xs.length + ys.length ≤ 1000000 ∧ k (xs ++ ys)
  | _, _ => False
theorem catK_l (o p : Bool) (xs ys : List D) (k : List D → Prop) : catK (.lst o xs) (.lst p ys) k = ((xs.all (fun d => !own d) = true ∧ ys.all (fun d => !own d) = true) ∧ xs.length + ys.length ≤ 1000000 ∧ k (xs ++ ys)) := rfl
def dCat (A B : DO) : DE := fun ρ K => A ρ (onOk K fun x ρ1 => B ρ1 (onOk K fun y ρ2 => nz (see ρ2 x) = true ∧ nz (see ρ2 y) = true ∧ catK (see ρ2 x) (see ρ2 y) fun ds => K (.ok (.lst true ds)) ρ2))
theorem N_cat {a b : Expr} {pos : Pos} {A B : DO} (h1 : PE X a (tOfO c W A)) (h2 : PE X b (tOfO c W B)) : PE X (.BinOp a .Add b pos) (tOfN c W (dCat A B)) := (pe_op op_cat h1 h2).imp fun σ H Q h => by
  obtain ⟨F, Ω, ρ, K, r0, ht, k, kx⟩ := h
  refine ⟨F, Ω, ρ, _, r0, ht, fun x ρ1 q1 v F1 H1 Ω1 s1 r1 f1 => ?_, kx.imp (Stp.refl _ _ _) fun _ _ _ q => q⟩
  refine ⟨F1, Ω1, ρ1, _, r1, q1, fun y ρ2 q2 w F2 H2 Ω2 s2 r2 f2 => ?_, kx.imp s1 fun _ _ _ q => q⟩
  obtain ⟨n1, n2, q3⟩ := q2
  have h1 := (f1.mono s2.ef).vw r2 n1
  have h2 := f2.vw r2 n2
  cases e3 : see ρ2 x with
  | lst o xs =>
    cases e4 : see ρ2 y with
    | lst o' ys =>
      rw [e3] at h1 q3
      rw [e4] at h2 q3
      obtain ⟨a, vs, e1, q1, f1⟩ := h1.lst r2.wf
      obtain ⟨b, ws, e2, q2, f2⟩ := h2.lst r2.wf
      obtain ⟨⟨m1, m2⟩, hl, hk⟩ := q3
      have g1 := f1.fz m1
      have g2 := f2.fz m2
      refine ⟨a, b, vs, ws, e1, e2, q1, q2, ?_, fun p hp => ?_⟩
      · rw [← f1.1, ← f2.1]
        exact sz_ok hl
      · obtain ⟨r3, s3⟩ := rel_new (o := .lst (vs ++ ws)) r2 hp
        obtain ⟨hF, hΩ, hs, _⟩ := wf_new (o := .lst (vs ++ ws)) r2.wf hp
        refine k _ ρ2 hk (.ref p) F2 _ Ω2 (fun b => if b = p then some [] else none) ((s1.trans s2).trans s3) r3 ⟨?_, fun b π e => ?_⟩ fun b o e1 e2 e3 => ?_
        · simp only [Rv]
          have z := RvL.of_fz (c := c) (H := upd H2 p (HO.lst (vs ++ ws))) (Θ := fun b => if b = p then some [] else none) (π := []) (j := 0) (FzL.append g1 g2)
          rw [fr_id_all (by rw [List.all_append, m1, m2]; rfl)] at z
          exact ⟨p, vs ++ ws, rfl, by simp, upd_same, z⟩
        · have e' : (if b = p then some ([] : List Nat) else none) = some π := e
          split at e'
          · rename_i hb
            subst hb
            exact ⟨hF, hΩ, _, upd_same⟩
          · cases e'
        · have := ((s1.trans s2).ou b o e1 e2 e3).1
          exact if_neg (ne_of_none this hp)
    | _ => rw [e3, e4] at q3; exact q3.elim
  | _ => rw [e3] at q3; exact q3.elim
end
end Vi
/-! Vi27: a loan: an expression that only reads own lists, and whose value has no list in it, may read them as frozen; they are one's own again behind it. -/
namespace Vi
open PySem L2

/-- lists alone, two deep -/
def ol1 : D → Bool
  | .lst _ ys => ys.all fun y => !own y
  | y => !own y
def ol : D → Bool
  | .lst _ xs => xs.all ol1
  | d => !own d
def fr2 : D → D
  | .lst _ xs => .lst false (xs.map fr)
  | d => fr d
mutual
/-- no list in it -/
def lf : D → Bool
  | .tup ds => lfs ds
  | .ins o _ ds => !o && lfs ds
  | .lst _ _ => false
  | .klst _ => false
  | .dic _ _ _ => false
  | .exo _ _ _ _ => false
  | _ => true
def lfs : List D → Bool
  | [] => true
  | d :: ds => lf d && lfs ds
end
def lnE : List Bool → Env → Env
  | b :: bs, d :: ρ => (if b = true then fr2 d else if own d = true then .und else d) :: lnE bs ρ
  | _, _ => []
def olE : List Bool → Env → Bool
  | b :: bs, d :: ρ => (!b || ol d) && olE bs ρ
  | [], [] => true
  | _, _ => false
theorem lnE_len : ∀ {ms : List Bool} {ρ : Env}, olE ms ρ = true → (lnE ms ρ).length = ρ.length
  | b :: bs, d :: ρ, h => by
    simp only [olE, Bool.and_eq_true] at h
    simp only [lnE, List.length_cons, lnE_len h.2]
  | [], [], _ => rfl
theorem lnE_get : ∀ {ms : List Bool} {ρ : Env} {i : Nat} {d : D}, olE ms ρ = true → (lnE ms ρ)[i]? = some d → ∃ e, ρ[i]? = some e ∧ ((ms[i]? = some true ∧ ol e = true ∧ d = fr2 e) ∨ (d = .und ∨ (own e = false ∧ d = e)))
  | b :: bs, e :: ρ, i, d, h, g => by
    simp only [olE, Bool.and_eq_true] at h
    cases i with
    | zero =>
      simp only [lnE, List.getElem?_cons_zero, Option.some.injEq] at g
      refine ⟨e, rfl, ?_⟩
      cases b with
      | true =>
        rw [if_pos rfl] at g
        exact .inl ⟨rfl, by simpa using h.1, g.symm⟩
      | false =>
        rw [if_neg Bool.false_ne_true] at g
        right
        cases ho : own e with
        | true => rw [ho, if_pos rfl] at g; exact .inl g.symm
        | false => rw [ho, if_neg Bool.false_ne_true] at g; exact .inr ⟨rfl, g.symm⟩
    | succ i =>
      simp only [lnE, List.getElem?_cons_succ] at g ⊢
      exact lnE_get h.2 g
  | [], [], i, d, h, g => by simp [lnE] at g
section
variable {c : Ct} {F F' F'' H : Hp} {Ω : Nm}
mutual
theorem Fz.free (k : ∀ b o, F' b = some o → (∀ l, o ≠ .lst l) → F'' b = some o) : ∀ (d : D) (v : V), lf d = true → Fz c F' d v → Fz c F'' d v
  | .und, _, _, h => h
  | .non, _, _, h => h
  | .bl _, _, _, h => h
  | .int _, _, _, h => h
  | .str _, _, _, h => h
  | .fn _, _, _, h => h
  | .tup ds, v, g, h => by
    simp only [lf] at g
    simp only [Fz] at h ⊢
    obtain ⟨a, vs, e1, h1, h2⟩ := h
    exact ⟨a, vs, e1, k _ _ h1 (fun l e => by cases e), FzL.free k ds vs g h2⟩
  | .ins o C ds, v, g, h => by
    simp only [lf, Bool.and_eq_true] at g
    simp only [Fz] at h ⊢
    obtain ⟨a, dx, vs, e1, h1, h3, h2⟩ := h
    exact ⟨a, dx, vs, e1, k _ _ h1 (fun l e => by cases e), h3, FzL.free k ds vs g.2 h2⟩
  | .lst _ _, _, g, _ => by simp [lf] at g
  | .klst _, _, g, _ => by simp [lf] at g
  | .dic _ _ _, _, g, _ => by simp [lf] at g
  | .exo _ _ _ _, _, g, _ => by simp [lf] at g
theorem FzL.free (k : ∀ b o, F' b = some o → (∀ l, o ≠ .lst l) → F'' b = some o) : ∀ (ds : List D) (vs : List V), lfs ds = true → FzL c F' ds vs → FzL c F'' ds vs
  | [], _, _, h => by simp only [FzL] at h ⊢; exact h
  | d :: ds, vs, g, h => by
    simp only [lfs, Bool.and_eq_true] at g
    simp only [FzL] at h ⊢
    obtain ⟨v, r, e1, h1, h2⟩ := h
    exact ⟨v, r, e1, Fz.free k d v g.1 h1, FzL.free k ds r g.2 h2⟩
end
theorem fzl_fr : ∀ {ds : List D} {vs : List V}, FzL c F ds vs → FzL c F (ds.map fr) vs
  | [], vs, h => h
  | d :: ds, vs, h => by
    simp only [FzL] at h
    simp only [List.map_cons, FzL]
    obtain ⟨v, r, e1, h1, h2⟩ := h
    exact ⟨v, r, e1, (Fz_fr _ _ _ _).mpr h1, fzl_fr h2⟩
theorem rvl_flat : ∀ {ds : List D} {π : List Nat} {j : Nat} {vs : List V}, (ds.all fun y => !own y) = true → RvL c F H Ω ds π j vs → FzL c F ds vs
  | [], π, j, vs, _, h => by simp only [RvL] at h; simp only [FzL]; exact h
  | d :: ds, π, j, vs, g, h => by
    rw [List.all_cons, Bool.and_eq_true] at g
    simp only [RvL] at h
    simp only [FzL]
    obtain ⟨v, r, e1, h1, h2⟩ := h
    exact ⟨v, r, e1, (Rv_of_own (by simpa using g.1)).mp h1, rvl_flat g.2 h2⟩
theorem rvl_loan {π : List Nat} (sF : Sub F F') (k : ∀ b ρ l, Ω b = some (π ++ ρ) → H b = some (.lst l) → F' b = some (.lst l)) : ∀ {ds : List D} {j : Nat} {vs : List V}, ds.all ol1 = true → RvL c F H Ω ds π j vs → FzL c F' (ds.map fr) vs
  | [], j, vs, _, h => by simp only [RvL] at h; simp only [List.map_nil, FzL]; exact h
  | d :: ds, j, vs, g, h => by
    rw [List.all_cons, Bool.and_eq_true] at g
    simp only [RvL] at h
    simp only [List.map_cons, FzL]
    obtain ⟨v, r, e1, h1, h2⟩ := h
    refine ⟨v, r, e1, (Fz_fr _ _ _ _).mpr ?_, rvl_loan sF k g.2 h2⟩
    cases ho : own d with
    | false => exact Fz.mono sF _ _ ((Rv_of_own ho).mp h1)
    | true =>
      cases d with
      | lst o ys =>
        cases o with
        | false => cases ho
        | true =>
          simp only [Rv] at h1
          obtain ⟨a, us, e2, q1, q2, q3⟩ := h1
          have g1 : (ys.all fun y => !own y) = true := g.1
          simp only [Fz]
          refine ⟨a, us, e2, k a [j] us q1 q2, FzL.mono sF _ _ (rvl_flat g1 q3)⟩
      | _ =>
        have g1 := g.1
        simp only [ol1] at g1
        rw [ho] at g1
        cases g1
end
/-- the answer's part -/
def lnK (K : R D → Env → Prop) (ρ : Env) : R D → Env → Prop
  | .ok d, _ => lf d = true ∧ K (.ok d) ρ
  | .exc C w, _ => lf w = true ∧ K (.exc C w) ρ
theorem lnK_ok (K : R D → Env → Prop) (ρ ρ' : Env) (d : D) : lnK K ρ (.ok d) ρ' = (lf d = true ∧ K (.ok d) ρ) := rfl
theorem lnK_exc (K : R D → Env → Prop) (ρ ρ' : Env) (C : Nat) (w : D) : lnK K ρ (.exc C w) ρ' = (lf w = true ∧ K (.exc C w) ρ) := rfl
def dLoan (ms : List Bool) (T : DE) : DE := fun ρ K => olE ms ρ = true ∧ T (lnE ms ρ) (lnK K ρ)
theorem dLoan_r {ms : List Bool} {T : DE} {ρ : Env} {K : R D → Env → Prop} : dLoan ms T ρ K = (olE ms ρ = true ∧ eAt (lnE ms ρ) fun ρ' => T ρ' (lnK K ρ)) := rfl
theorem lnE_t (ms : List Bool) (d : D) (ρ : Env) : lnE (true :: ms) (d :: ρ) = fr2 d :: lnE ms ρ := rfl
theorem lnE_f (ms : List Bool) (d : D) (ρ : Env) : lnE (false :: ms) (d :: ρ) = (if own d = true then .und else d) :: lnE ms ρ := rfl
theorem lnE_n : lnE [] [] = [] := rfl
theorem olE_c (b : Bool) (ms : List Bool) (d : D) (ρ : Env) : olE (b :: ms) (d :: ρ) = ((!b || ol d) && olE ms ρ) := rfl
theorem olE_n : olE [] [] = true := rfl
theorem fr2_l (o : Bool) (xs : List D) : fr2 (.lst o xs) = .lst false (xs.map fr) := rfl
theorem ol_l (o : Bool) (xs : List D) : ol (.lst o xs) = xs.all ol1 := rfl
theorem lf_non : lf .non = true := by simp only [lf]
theorem lf_bl (b : Bool) : lf (.bl b) = true := by simp only [lf]
theorem lf_int (b : Int) : lf (.int b) = true := by simp only [lf]
theorem lf_str (b : List Nat) : lf (.str b) = true := by simp only [lf]
theorem lf_tup (ds : List D) : lf (.tup ds) = lfs ds := by simp only [lf]
theorem lf_ins (o : Bool) (C : Nat) (ds : List D) : lf (.ins o C ds) = (!o && lfs ds) := by simp only [lf]
theorem lfs_n : lfs [] = true := by simp only [lfs]
theorem lfs_c (d : D) (ds : List D) : lfs (d :: ds) = (lf d && lfs ds) := by simp only [lfs]
theorem lfs_map {α : Type} {f : α → D} : ∀ {l : List α}, (∀ a ∈ l, lf (f a) = true) → lfs (l.map f) = true
  | [], _ => lfs_n
  | a :: l, h => by
    rw [List.map_cons, lfs_c, h a List.mem_cons_self, lfs_map fun b hb => h b (List.mem_cons_of_mem _ hb)]
    rfl
section
variable {X : Cx} {c : Ct} {W : WX}
open Classical in
theorem E_loan {e : Expr} {T : DE} (ms : List Bool) (he : PE X e (tOfE c W T)) : PE X e (tOfE c W (dLoan ms T)) := he.imp fun σ H Q h => by
  obtain ⟨F, Ω, ρ, K, r, ⟨ho, t⟩, k, kx⟩ := h
  let P : Addr → Prop := fun b => (∃ i π, ms[i]? = some true ∧ Ω b = some (i :: π)) ∧ ∃ l, H b = some (.lst l)
  let Fv : Hp := fun b => if P b then H b else F b
  have hP : ∀ b, P b → F b = none := fun b ⟨⟨i, π, _, e⟩, _⟩ => (r.wf.own b _ e).1
  have fv_p : ∀ b, P b → Fv b = H b := fun b h => if_pos h
  have fv_n : ∀ b, ¬ P b → Fv b = F b := fun b h => if_neg h
  have sF : Sub F Fv := fun b o e => by
    have np : ¬ P b := fun p => by rw [hP b p] at e; cases e
    rw [fv_n b np]
    exact e
  have sFH : Sub Fv H := fun b o e => by
    by_cases p : P b
    · rw [fv_p b p] at e; exact e
    · rw [fv_n b p] at e; exact r.wf.sub b o e
  have rv : Rel c Fv H (fun _ => none) (lnE ms ρ) σ := by
    refine ⟨⟨sFH, fun b π e => nomatch e⟩, fun i d h1 h2 => ?_, by rw [lnE_len ho]; exact r.len⟩
    obtain ⟨e, he, hc⟩ := lnE_get ho h1
    have hne : e ≠ .und := by
      rintro rfl
      rcases hc with ⟨_, _, rfl⟩ | rfl | ⟨_, rfl⟩
      · exact h2 rfl
      · exact h2 rfl
      · exact h2 rfl
    obtain ⟨v, q1, q2⟩ := r.sl i e he hne
    refine ⟨v, q1, ?_⟩
    rcases hc with ⟨hm, hol, rfl⟩ | rfl | ⟨hn, rfl⟩
    · have kk : ∀ b ρ' l, Ω b = some ([i] ++ ρ') → H b = some (.lst l) → Fv b = some (.lst l) := fun b ρ' l e1 e2 => by
        rw [fv_p b ⟨⟨i, ρ', hm, e1⟩, l, e2⟩]
        exact e2
      have hfz : Fz c Fv (fr2 e) v := by
        cases e with
        | lst o xs =>
          simp only [fr2, Fz]
          cases o with
          | true =>
            simp only [Rv] at q2
            obtain ⟨a, vs, e1, w1, w2, w3⟩ := q2
            exact ⟨a, vs, e1, kk a [] vs (by simpa using w1) w2, rvl_loan sF kk hol w3⟩
          | false =>
            simp only [Rv] at q2
            obtain ⟨a, vs, e1, w1, w2⟩ := q2
            exact ⟨a, vs, e1, sF _ _ w1, FzL.mono sF _ _ (fzl_fr w2)⟩
        | dic o ks xs =>
          have hn : own (.dic o ks xs) = false := by simpa only [ol, Bool.not_eq_true'] using hol
          exact (Fz_fr _ _ _ _).mpr (Fz.mono sF _ _ ((Rv_of_own hn).mp q2))
        | ins o C xs =>
          have hn : own (.ins o C xs) = false := by simpa only [ol, Bool.not_eq_true'] using hol
          exact (Fz_fr _ _ _ _).mpr (Fz.mono sF _ _ ((Rv_of_own hn).mp q2))
        | _ => exact Fz.mono sF _ _ ((Rv_of_own rfl).mp q2)
      have hown : own (fr2 e) = false := by cases e <;> rfl
      exact (Rv_of_own hown).mpr hfz
    · exact absurd rfl h2
    · exact (Rv_of_own hn).mpr (Fz.mono sF _ _ ((Rv_of_own hn).mp q2))
  -- behind it
  have back : ∀ {F' H' : Hp} {Ω' : Nm} {ρ' : Env}, Stp Fv H (fun _ => none) F' H' Ω' → Rel c F' H' Ω' ρ' σ → ∃ F'' : Hp, Stp F H Ω F'' H' Ω ∧ Rel c F'' H' Ω ρ σ ∧ ∀ b o, F' b = some o → (∀ l, o ≠ .lst l) → F'' b = some o := fun {F' H' Ω' ρ'} s r' => by
    have sH : Sub H H' := fun b o e => by
      cases q : Fv b with
      | none => exact (s.ou b o e q rfl).1
      | some o' =>
        have e2 := sFH b o' q
        rw [e] at e2
        cases e2
        exact r'.wf.sub b o (s.ef b o q)
    refine ⟨fun b => if P b then none else F' b, ?_⟩
    have sFF : Sub F (fun b => if P b then none else F' b) := fun b o e => by
      have np : ¬ P b := fun p => by rw [hP b p] at e; cases e
      show (if P b then none else F' b) = some o
      rw [if_neg np]
      exact s.ef b o (sF b o e)
    have out : ∀ b o, H b = some o → F b = none → (if P b then none else F' b) = none := fun b o e1 e2 => by
      by_cases p : P b
      · rw [if_pos p]
      · rw [if_neg p]
        exact (s.ou b o e1 (by rw [fv_n b p]; exact e2) rfl).2.1
    refine ⟨⟨sFF, fun b o e1 e2 e3 => ⟨sH b o e1, out b o e1 e2, e3⟩⟩, ⟨⟨fun b o e => ?_, fun b π e => ?_⟩, fun i d e1 e2 => ?_, r.len⟩, fun b o e hl => ?_⟩
    · have e' : (if P b then none else F' b) = some o := e
      by_cases p : P b
      · rw [if_pos p] at e'; cases e'
      · rw [if_neg p] at e'; exact r'.wf.sub b o e'
    · obtain ⟨q1, o, q2⟩ := r.wf.own b π e
      exact ⟨out b o q2 q1, o, sH b o q2⟩
    · obtain ⟨v, q1, q2⟩ := r.sl i d e1 e2
      refine ⟨v, q1, Rv.move sFF d _ _ v (fun b π z => ⟨z, ?_⟩) q2⟩
      obtain ⟨_, o, q3⟩ := r.wf.own b _ z
      rw [q3, sH b o q3]
    · show (if P b then none else F' b) = some o
      by_cases p : P b
      · obtain ⟨l, q⟩ := p.2
        have z := s.ef b (.lst l) (by rw [fv_p b p]; exact q)
        rw [e] at z
        cases z
        exact absurd rfl (hl l)
      · rw [if_neg p]
        exact e
  refine ⟨Fv, fun _ => none, lnE ms ρ, lnK K ρ, rv, t, fun d ρ' q v F' H' Ω' s r' f => ?_, fun C w ρ' q cd vw F' H' Ω' s r' e1 e2 => ?_⟩
  · obtain ⟨F'', s2, r2, kf⟩ := back s r'
    exact k d ρ q.2 v F'' H' Ω s2 r2 (Fz.free kf d v q.1 f)
  · obtain ⟨F'', s2, r2, kf⟩ := back s r'
    exact kx C w ρ q.2 cd vw F'' H' Ω s2 r2 (kf _ _ e1 fun l z => by cases z) (Fz.free kf w vw q.1 e2)
end
end Vi
/-! Vi28: a text times an int, minus; own lists within own lists; an own list's items frozen. -/
namespace Vi
open PySem L2 PySem.Spec PyProof.Rows

section
variable {X : Cx} {c : Ct} {W : WX}
theorem tl_foldl (c : Array Nat) : ∀ (k : Nat) (acc : Array Nat), ((List.replicate k c).foldl (· ++ ·) acc).toList = acc.toList ++ (List.replicate k c.toList).flatten
  | 0, acc => by simp
  | k + 1, acc => by
    rw [List.replicate_succ, List.foldl_cons, tl_foldl c k, List.replicate_succ, List.flatten_cons, Array.toList_append, List.append_assoc]
theorem tl_mul (s : List Nat) (k : Int) : (Txt.mul ⟨s.toArray⟩ k).cps.toList = (List.replicate k.toNat s).flatten := by
  unfold Txt.mul
  by_cases h1 : k < 1
  · rw [if_pos h1, show k.toNat = 0 by omega]
    rfl
  · rw [if_neg h1]
    split
    · rename_i h
      rw [Bool.or_eq_true, beq_iff_eq, beq_iff_eq] at h
      rcases h with h | h
      · rw [h]
        simp
      · have e : s = [] := by
          have : s.toArray.size = 0 := h
          simpa using this
        subst e
        simp
    · show ((List.replicate k.toNat s.toArray).foldl (· ++ ·) #[]).toList = _
      rw [tl_foldl]
      simp
def rRepS : R2 := fun x y H Q => ∃ z k, x = .str z ∧ y = .int k ∧ 0 ≤ k ∧ k ≤ 1000000 ∧ z.length * k.toNat ≤ 16777216 ∧ Q (.str (Txt.mul z k)) H
theorem op_repS : OpR X (binaryOp .Mult) rRepS := by
  intro pins s σ H x y v u Q I rx ry h
  obtain ⟨z, k, rfl, rfl, h0, h1, hz, q⟩ := h
  obtain ⟨t, rfl⟩ := rx
  obtain ⟨t', rfl⟩ := ry
  exact PySem.SB.mul (mulOk_of z.length k.toNat (Nat.le_refl _) (by omega) (by omega) (by omega) hz) fun t' tk => ⟨.str (Txt.mul z k), H, I.tok _, ⟨_, rfl⟩, q⟩
def oRepS : D → D → (D → Prop) → Prop
  | .str s, .int k, K => 0 ≤ k ∧ k ≤ 1000000 ∧ s.length * k.toNat ≤ 1000000 ∧ K (.str (List.replicate k.toNat s).flatten)
  | _, _, _ => False
theorem oRepS_r (s : List Nat) (k : Int) (K : D → Prop) : oRepS (.str s) (.int k) K = (0 ≤ k ∧ k ≤ 1000000 ∧ s.length * k.toNat ≤ 1000000 ∧ K (.str (List.replicate k.toNat s).flatten)) := rfl
theorem b2_repS {c : Ct} : B2 c rRepS oRepS := ⟨fun F H Ω w d e v u h1 h2 K q Q k => by
  match d, e, q with
  | .str s, .int n, q =>
    refine ⟨_, _, vw_str h1, vw_int h2, q.1, q.2.1, ?_, k _ q.2.2.2 _ F H (Ext.refl w) (fz_str (tl_mul s n))⟩
    have : s.toArray.size = s.length := by simp
    show s.toArray.size * n.toNat ≤ _
    rw [this]
    exact Nat.le_trans q.2.2.1 (by decide)⟩
/-- minus -/
def ngK (d : D) (k : D → Prop) : Prop := match d with
  | .int i => k (.int (-i))
  | _ => False
theorem ngK_i (i : Int) (k : D → Prop) : ngK (.int i) k = k (.int (-i)) := rfl
def dNeg (T : DE) : DE := fun ρ K => T ρ (onOk K fun d ρ' => ngK d fun z => K (.ok z) ρ')
theorem E_neg {e : Expr} {T : DE} {pos : Pos} (h : PE X e (tOfE c W T)) : PE X (.UnaryOp .USub e pos) (tOfE c W (dNeg T)) := (pe_un un_neg h).imp fun σ H Q h => by
  obtain ⟨F, Ω, ρ, K, r0, ht, k, kx⟩ := h
  refine ⟨F, Ω, ρ, _, r0, ht, fun d ρ1 q v F1 H1 Ω1 s1 r1 f1 => ?_, kx.imp (Stp.refl _ _ _) fun _ _ _ q => q⟩
  cases d with
  | int i =>
    have ev : v = .int i := by simpa only [Fz] using f1
    exact ⟨i, ev, k (.int (-i)) ρ1 q (.int (-i)) F1 H1 Ω1 s1 r1 fz_int⟩
  | _ => exact q.elim
/-! ### simple expressions: a name, a constant -/
structure Sm (X : Cx) (e : Expr) (f : Env → D) : Prop where
  run : ∀ c : Ct, PE X e (fun σ H Q => ∃ F Ω ρ, Rel c F H Ω ρ σ ∧ nz (f ρ) = true ∧ own (f ρ) = false ∧ ∀ v, Fz c F (f ρ) v → Q v H)
theorem Sm_var (i : Nat) {x : Str} {pos : Pos} (hN : X.N[i]? = some x := by rfl) (hv : Vis X.env.scope x := by first | exact Or.inl rfl | exact Or.inr (Or.inl rfl) | exact Or.inr (Or.inr rfl)) (hd : (x == ("__debug__" : Str)) = false := by decide)
    (hcd : (x == ("__classdict__" : Str)) = false := by decide) : Sm X (.Name x pos) (fun ρ => gt ρ i) := ⟨fun c => (pe_var hN hv hd hcd).imp fun σ H Q h => by
  obtain ⟨F, Ω, ρ, r, hn, ho, k⟩ := h
  obtain ⟨v, q1, q2⟩ := r.sl i _ (gt_some hn) (nz_ne hn)
  exact ⟨v, q1, k v ((Rv_of_own ho).mp q2)⟩⟩
theorem Sm_int {i : Int} {j pos} : Sm X (.Constant (.int i) j pos) (fun _ => .int i) := ⟨fun c => pe_int.imp fun σ H Q h => by
  obtain ⟨F, Ω, ρ, r, hn, ho, k⟩ := h
  exact k (.int i) (by simp only [Fz])⟩
theorem Sm_non {j pos} : Sm X (.Constant .none j pos) (fun _ => .non) := ⟨fun c => pe_non.imp fun σ H Q h => by
  obtain ⟨F, Ω, ρ, r, hn, ho, k⟩ := h
  exact k .non (by simp only [Fz])⟩
end
theorem RvL.putH {c : Ct} {F H H' : Hp} {Θ : Nm} {d : D} {v : V} : ∀ {ds : List D} {vs : List V} {π : List Nat} {j i : Nat}, (∀ b k ρ, k ≠ j + i → Θ b = some (π ++ k :: ρ) → H' b = H b) → RvL c F H Θ ds π j vs → vs[i]? = some v → Rv c F H' Θ d (π ++ [j + i]) v → RvL c F H' Θ (ds.set i d) π j vs
  | [], vs, π, j, i, _, h, hv, g => by
    simp only [RvL] at h
    subst h
    simp at hv
  | e :: ds, vs, π, j, 0, mv, h, hv, g => by
    simp only [RvL] at h
    obtain ⟨u, r, e1, h1, h2⟩ := h
    subst e1
    simp only [List.getElem?_cons_zero, Option.some.injEq] at hv
    subst hv
    simp only [List.set_cons_zero, RvL]
    refine ⟨u, r, rfl, by simpa using g, ?_⟩
    -- the rest
    clear g h1
    have go : ∀ {ds : List D} {vs : List V} {m : Nat}, j + 1 ≤ m → RvL c F H Θ ds π m vs → RvL c F H' Θ ds π m vs := fun {ds} => by
      induction ds with
      | nil => intro vs m _ h; simp only [RvL] at h ⊢; exact h
      | cons d ds ih =>
        intro vs m hm h
        simp only [RvL] at h ⊢
        obtain ⟨u, r, e1, h1, h2⟩ := h
        refine ⟨u, r, e1, Rv.move (Sub.refl _) d _ _ u (fun b ρ z => ⟨z, mv b m ρ (by omega) (by rw [z, List.append_assoc]; rfl)⟩) h1, ih (by omega) h2⟩
    exact go (Nat.le_refl _) h2
  | e :: ds, vs, π, j, i + 1, mv, h, hv, g => by
    simp only [RvL] at h
    obtain ⟨u, r, e1, h1, h2⟩ := h
    subst e1
    simp only [List.set_cons_succ, RvL]
    refine ⟨u, r, rfl, Rv.move (Sub.refl _) e _ _ u (fun b ρ z => ⟨z, mv b j ρ (by omega) (by rw [z, List.append_assoc]; rfl)⟩) h1, RvL.putH (fun b k ρ hk z => mv b k ρ (by omega) z) h2 (by simpa using hv) ?_⟩
    rw [show j + 1 + i = j + (i + 1) by omega]
    exact g
/-- the list at place q of the list in slot j -/
structure Sb (c : Ct) (F H : Hp) (Ω : Nm) (ρ : Env) (σ : L2.St) (j : Nat) (xs : List D) (q : Nat) (ds : List D) (a b : Addr) (vs us : List V) : Prop where
  hσ : σ[j]? = some (some (.ref a))
  ha : H a = some (.lst vs)
  hv : vs[q]? = some (.ref b)
  hl : xs.length = vs.length
  hb : H b = some (.lst us)
  nb : Ω b = some [j, q]
  rl : RvL c F H Ω ds [j, q] 0 us
  chg : ∀ (ds' : List D) (us' : List V), RvL c F (upd H b (.lst us')) Ω ds' [j, q] 0 us' → Rel c F (upd H b (.lst us')) Ω (ρ.set j (.lst true (xs.set q (.lst true ds')))) σ
theorem sb_of {c : Ct} {F H : Hp} {Ω : Nm} {ρ : Env} {σ : L2.St} {j : Nat} {xs : List D} {q : Nat} {ds : List D} (r : Rel c F H Ω ρ σ) (hj : gt ρ j = .lst true xs) (hq : xs[q]? = some (.lst true ds)) : ∃ a b vs us, Sb c F H Ω ρ σ j xs q ds a b vs us := by
  have hn : nz (gt ρ j) = true := by rw [hj]; rfl
  have hs := gt_some hn
  have hlt := (List.getElem?_eq_some_iff.mp hs).1
  obtain ⟨v, q1, q2⟩ := r.sl j _ hs (nz_ne hn)
  rw [hj] at q2
  simp only [Rv] at q2
  obtain ⟨a, vs, e1, na, ha, hr⟩ := q2
  subst e1
  obtain ⟨u, hu, hR⟩ := hr.get hq
  simp only [Rv] at hR
  obtain ⟨b, us, e2, nb, hb, hR2⟩ := hR
  subst e2
  have nb' : Ω b = some [j, q] := by rw [nb]; simp
  have hR2' : RvL c F H Ω ds [j, q] 0 us := by simpa using hR2
  refine ⟨a, b, vs, us, q1, ha, hu, hr.length, hb, nb', hR2', fun ds' us' hd => ?_⟩
  have hFb : F b = none := (r.wf.own b _ nb').1
  have hab : a ≠ b := fun e => by rw [e, nb'] at na; simp at na
  refine ⟨⟨fun x u e => ?_, fun x π e => ?_⟩, fun k d h1 h2 => ?_, by rw [List.length_set]; exact r.len⟩
  · have hx : x ≠ b := fun z => by rw [z, hFb] at e; cases e
    rw [upd_ne hx]
    exact r.wf.sub x u e
  · obtain ⟨z1, u, z2⟩ := r.wf.own x π e
    refine ⟨z1, ?_⟩
    by_cases hx : x = b
    · exact ⟨_, by rw [hx, upd_same]⟩
    · exact ⟨u, by rw [upd_ne hx]; exact z2⟩
  · by_cases hk : k = j
    · subst hk
      rw [List.getElem?_set_self hlt] at h1
      cases h1
      refine ⟨.ref a, q1, ?_⟩
      simp only [Rv]
      refine ⟨a, vs, rfl, na, by rw [upd_ne hab]; exact ha, RvL.putH (fun x m ρ' hm z => upd_ne fun e => ?_) hr hu ?_⟩
      · rw [e, nb'] at z
        simp at z
        omega
      · simp only [Rv]
        refine ⟨b, us', rfl, by rw [nb']; simp, upd_same, ?_⟩
        simpa using hd
    · rw [List.getElem?_set_ne (Ne.symm hk)] at h1
      obtain ⟨v, z1, z2⟩ := r.sl k d h1 h2
      refine ⟨v, z1, Rv.move (Sub.refl _) d _ _ v (fun x π z => ⟨z, upd_ne fun e => ?_⟩) z2⟩
      rw [e, nb'] at z
      have z' := Option.some.inj z
      simp at z'
      exact hk z'.1.symm
theorem Sb.mv {c : Ct} {F H : Hp} {Ω : Nm} {ρ : Env} {σ : L2.St} {j : Nat} {xs : List D} {q : Nat} {ds : List D} {a b : Addr} {vs us us' : List V} (s : Sb c F H Ω ρ σ j xs q ds a b vs us) : RvL c F (upd H b (.lst us')) Ω ds [j, q] 0 us := RvL.move (Sub.refl _) ds _ _ 0 us (fun x i ρ z => ⟨z, upd_ne fun e => by rw [e, s.nb] at z; simp at z⟩) s.rl
section
variable {X : Cx} {x : Ct2} {W : WX}
/-- an operation upon the list at xs[i] -/
def sbK (d i : D) (op : List D → (List D → Prop) → Prop) (ρ : Env) (j : Nat) (k : Env → Prop) : Prop := match d, i with
  | .lst true xs, .int n => ∃ q ds, ixN xs.length n = some q ∧ xs[q]? = some (.lst true ds) ∧ op ds fun ds' => k (ρ.set j (.lst true (xs.set q (.lst true ds'))))
  | _, _ => False
theorem sbK_l (xs : List D) (n : Int) (op : List D → (List D → Prop) → Prop) (ρ : Env) (j : Nat) (k : Env → Prop) : sbK (.lst true xs) (.int n) op ρ j k = ∃ q ds, ixN xs.length n = some q ∧ xs[q]? = some (.lst true ds) ∧ op ds fun ds' => eAt (ρ.set j (.lst true (xs.set q (.lst true ds')))) k := rfl
def opApp (e : D) : List D → (List D → Prop) → Prop := fun ds k => nz e = true ∧ own e = false ∧ ds.length < 1000000 ∧ k (ds ++ [e])
def dApp2 (j : Nat) (fi fe : Env → D) : DS := fun ρ K => sbK (gt ρ j) (fi ρ) (opApp (fe ρ)) ρ j fun ρ' => K .nx ρ'
theorem atI_ixN {α : Type} {xs : List α} {n : Int} {q : Nat} (h : ixN xs.length n = some q) : atI xs n = xs[q]? := by
  unfold atI
  rw [h]
  rfl
theorem S_app2 {j : Nat} {y : Str} {ei e : Expr} {fi fe : Env → D} {p spos apos cpos pos : Pos} (hN : X.N[j]? = some y) (hv : Vis X.env.scope y) (hi : Sm X ei fi) (he : Sm X e fe) (hs : PlainIx ei) (hd : (y == ("__debug__" : Str)) = false := by decide) (hcd : (y == ("__classdict__" : Str)) = false := by decide)
    (hbase : attributeBase (.Subscript (.Name y p) ei spos) "append" X.env (eval (.Subscript (.Name y p) ei spos) X.env) = eval (.Subscript (.Name y p) ei spos) X.env := by rfl)
    (hfew : ((backTo cpos (starEach [e] X.env)).all (fun x => !x.1) && (backToKw cpos (keywordEach [] X.env)).all (fun x => x.1.isSome) && decide (([e]).length + ([] : List Keyword).length + (if ([] : List Keyword).isEmpty then 0 else 1) < 30)) = true := by rfl)
    (hline : (apos.endLine == cpos.line) = true := by rfl) (hst : starEach [e] X.env = (false, eval e X.env) :: starEach [] X.env := by rfl) (hsw : swapsWith (.Call (.Attribute (.Subscript (.Name y p) ei spos) "append" apos) [e] [] cpos) none pos.line X.env = pure false := by rfl) (hK : x.c.K = X.K := by rfl) :
    PS X (.Expr (.Call (.Attribute (.Subscript (.Name y p) ei spos) "append" apos) [e] [] cpos) pos) (tOfS x W (dApp2 j fi fe)) := by
  have base := ps_expr (pos := pos) (pe_bm PySem.F.plainAttrs_list PySem.F.slot_list_append PySem.F.type_list_append (mt_append (X := X)) (pe_ix ix_list (pe_var hN hv hd hcd) (hi.run x.c) hs) (pa_cons (he.run x.c) pa_nil hst) hbase hfew hline hst rfl) hsw
  refine base.imp fun De σ H h => ?_
  obtain ⟨F, Ω, ρ, K, r, t, w⟩ := tOfS_iff.mp h
  have t' : sbK (gt ρ j) (fi ρ) (opApp (fe ρ)) ρ j fun ρ' => K .nx ρ' := t
  generalize hz : gt ρ j = z at t'
  generalize hz2 : fi ρ = z2 at t'
  match z, z2, t', hz, hz2 with
  | .lst true xs, .int n, t', hz, hz2 =>
    obtain ⟨q, ds, hq, hx, hn, ho, hlen, hk⟩ := t'
    obtain ⟨a, b, vs, us, sb⟩ := sb_of r hz hx
    refine ⟨.ref a, sb.hσ, F, Ω, ρ, r, by rw [hz2]; rfl, by rw [hz2]; rfl, fun vi fi' => ?_⟩
    have ei : vi = .int n := by
      rw [hz2] at fi'
      simpa only [Fz] using fi'
    refine ⟨a, vs, n, .ref b, rfl, ei, SqL.of sb.ha, ?_, .inl ⟨rfl, us, SqL.of sb.hb⟩, F, Ω, ρ, r, hn, ho, fun ve fe' => ?_⟩
    · rw [atI_ixN (by rw [← sb.hl]; exact hq)]
      exact sb.hv
    · have hl2 := sb.rl.length
      refine ⟨b, us, ve, rfl, rfl, sb.hb, by rw [← hl2]; exact Nat.lt_of_lt_of_le hlen (by decide), ?_⟩
      refine w.nx _ hk σ F _ Ω ⟨chg_stp (Stp.refl _ _ _) sb.nb fun b o e1 e2 e3 => e3, sb.chg _ _ (RvL.append sb.mv ((Rv_of_own ho).mpr fe')), Io.refl _ _⟩
end
end Vi
/-! Vi29: xs[i].pop(k), xs[i][k] = e, xs.append(xs[i]) at the list's end, a, b, c = (e, own, own). -/
namespace Vi
open PySem L2 PySem.Spec PyProof.Rows

theorem FzL.erase {c : Ct} {F : Hp} : ∀ {ds : List D} {vs : List V} {k : Nat}, FzL c F ds vs → FzL c F (ds.eraseIdx k) (vs.eraseIdx k)
  | [], vs, k, h => by
    simp only [FzL] at h
    subst h
    simp only [List.eraseIdx_nil, FzL]
  | d :: ds, vs, 0, h => by
    simp only [FzL] at h
    obtain ⟨v, r, e, h1, h2⟩ := h
    subst e
    simpa only [List.eraseIdx_cons_zero] using h2
  | d :: ds, vs, k + 1, h => by
    simp only [FzL] at h
    obtain ⟨v, r, e, h1, h2⟩ := h
    subst e
    simp only [List.eraseIdx_cons_succ, FzL]
    exact ⟨v, r.eraseIdx k, rfl, h1, FzL.erase h2⟩
theorem all_erase {p : D → Bool} : ∀ {ds : List D} {k : Nat}, ds.all p = true → (ds.eraseIdx k).all p = true := fun {ds k} h => List.all_eq_true.mpr fun x hx => List.all_eq_true.mp h x (List.mem_of_mem_eraseIdx hx)
section
variable {X : Cx} {x : Ct2} {W : WX}
def opPop (i : D) : List D → (List D → Prop) → Prop := fun ds k => match i with
  | .int n => (ds.all fun y => !own y) = true ∧ -(2 ^ 63) ≤ n ∧ n < 2 ^ 63 ∧ ∃ m, seqIndex? n ds.length = some m ∧ m < ds.length ∧ k (ds.eraseIdx m)
  | _ => False
def dPop2 (j : Nat) (fi fk : Env → D) : DS := fun ρ K => sbK (gt ρ j) (fi ρ) (opPop (fk ρ)) ρ j fun ρ' => K .nx ρ'
theorem S_pop2 {j : Nat} {y : Str} {ei e : Expr} {fi fe : Env → D} {p spos apos cpos pos : Pos} (hN : X.N[j]? = some y) (hv : Vis X.env.scope y) (hi : Sm X ei fi) (he : Sm X e fe) (hs : PlainIx ei) (hd : (y == ("__debug__" : Str)) = false := by decide) (hcd : (y == ("__classdict__" : Str)) = false := by decide)
    (hbase : attributeBase (.Subscript (.Name y p) ei spos) "pop" X.env (eval (.Subscript (.Name y p) ei spos) X.env) = eval (.Subscript (.Name y p) ei spos) X.env := by rfl)
    (hfew : ((backTo cpos (starEach [e] X.env)).all (fun x => !x.1) && (backToKw cpos (keywordEach [] X.env)).all (fun x => x.1.isSome) && decide (([e]).length + ([] : List Keyword).length + (if ([] : List Keyword).isEmpty then 0 else 1) < 30)) = true := by rfl)
    (hline : (apos.endLine == cpos.line) = true := by rfl) (hst : starEach [e] X.env = (false, eval e X.env) :: starEach [] X.env := by rfl) (hsw : swapsWith (.Call (.Attribute (.Subscript (.Name y p) ei spos) "pop" apos) [e] [] cpos) none pos.line X.env = pure false := by rfl) :
    PS X (.Expr (.Call (.Attribute (.Subscript (.Name y p) ei spos) "pop" apos) [e] [] cpos) pos) (tOfS x W (dPop2 j fi fe)) := by
  have base := ps_expr (pos := pos) (pe_bm PySem.F.plainAttrs_list PySem.F.slot_list_pop PySem.F.type_list_pop (mt_popAt (X := X)) (pe_ix ix_list (pe_var hN hv hd hcd) (hi.run x.c) hs) (pa_cons (he.run x.c) pa_nil hst) hbase hfew hline hst rfl) hsw
  refine base.imp fun De σ H h => ?_
  obtain ⟨F, Ω, ρ, K, r, t, w⟩ := tOfS_iff.mp h
  have t' : sbK (gt ρ j) (fi ρ) (opPop (fe ρ)) ρ j fun ρ' => K .nx ρ' := t
  generalize hz : gt ρ j = z at t'
  generalize hz2 : fi ρ = z2 at t'
  match z, z2, t', hz, hz2 with
  | .lst true xs, .int n, t', hz, hz2 =>
    obtain ⟨q, ds, hq, hx, hop⟩ := t'
    unfold opPop at hop
    generalize hz3 : fe ρ = z3 at hop
    match z3, hop, hz3 with
    | .int m, hop, hz3 =>
      obtain ⟨hall, h1, h2, e, he1, he2, hk⟩ := hop
      obtain ⟨a, b, vs, us, sb⟩ := sb_of r hz hx
      refine ⟨.ref a, sb.hσ, F, Ω, ρ, r, by rw [hz2]; rfl, by rw [hz2]; rfl, fun vi fi' => ?_⟩
      have ei : vi = .int n := by
        rw [hz2] at fi'
        simpa only [Fz] using fi'
      refine ⟨a, vs, n, .ref b, rfl, ei, SqL.of sb.ha, ?_, .inl ⟨rfl, us, SqL.of sb.hb⟩, F, Ω, ρ, r, by rw [hz3]; rfl, by rw [hz3]; rfl, fun ve fe' => ?_⟩
      · rw [atI_ixN (by rw [← sb.hl]; exact hq)]
        exact sb.hv
      · have ev : ve = .int m := by
          rw [hz3] at fe'
          simpa only [Fz] using fe'
        have hl2 := sb.rl.length
        have hlt : e < us.length := by rw [← hl2]; exact he2
        refine ⟨b, us, m, e, us[e], rfl, by rw [ev], sb.hb, h1, h2, by rw [← hl2]; exact he1, List.getElem?_eq_getElem hlt, ?_⟩
        have fz := FzL.erase (k := e) (rvl_flat hall sb.rl)
        have rl := RvL.of_fz (c := x.c) (H := upd H b (.lst (us.eraseIdx e))) (Θ := Ω) (π := [j, q]) (j := 0) fz
        rw [fr_id_all (all_erase hall)] at rl
        exact w.nx _ hk σ F _ Ω ⟨chg_stp (Stp.refl _ _ _) sb.nb fun b o e1 e2 e3 => e3, sb.chg _ _ rl, Io.refl _ _⟩
def opPut (i v : D) : List D → (List D → Prop) → Prop := fun ds k => match i with
  | .int n => ∃ m, ixN ds.length n = some m ∧ k (ds.set m (fr v))
  | _ => False
def dPut2 (j : Nat) (fi fk : Env → D) (T : DE) : DS := fun ρ K => T ρ (onFl K fun d ρ1 => sbK (gt ρ1 j) (fi ρ1) (opPut (fk ρ1) d) ρ1 j fun ρ2 => K .nx ρ2)
theorem S_put2 {j : Nat} {y : Str} {ei ek ev : Expr} {fi fk : Env → D} {T : DE} {p spos tpos pos : Pos} (hN : X.N[j]? = some y) (hv : Vis X.env.scope y) (hi : Sm X ei fi) (hk : Sm X ek fk) (hs0 : PlainIx ei) (he : PE X ev (tOfE x.c W T)) (hd : (y == ("__debug__" : Str)) = false := by decide) (hcd : (y == ("__classdict__" : Str)) = false := by decide)
    (ha : ∀ v, assign (.Subscript (.Subscript (.Name y p) ei spos) ek tpos) X.env v = (do
      let ov ← holding [v] (eval (.Subscript (.Name y p) ei spos) X.env)
      let iv ← holding [v, ov] (eval ek X.env)
      standAt tpos
      holding [v, ov, iv] (setItem ov iv v)
      release [v, ov, iv] []) := by intro _; rfl)
    (hs : swapsWithSole [.Subscript (.Subscript (.Name y p) ei spos) ek tpos] ev pos.line X.env = pure false := by rfl) (hw : swappedStores [.Subscript (.Subscript (.Name y p) ei spos) ek tpos] ev X.env = pure none := by rfl)
    (h1 : (assignEach [.Subscript (.Subscript (.Name y p) ei spos) ek tpos] X.env).map (·.2) = [assign (.Subscript (.Subscript (.Name y p) ei spos) ek tpos) X.env] := by rfl) :
    PS X (.Assign [.Subscript (.Subscript (.Name y p) ei spos) ek tpos] ev pos) (tOfS x W (dPut2 j fi fk T)) := by
  refine (ps_asg he (pg_sub (pe_ix ix_list (pe_var hN hv hd hcd) (hi.run x.c) hs0) (hk.run x.c) set_list ha) hs hw h1).imp fun De σ H h => ?_
  obtain ⟨F, Ω, ρ, K, r, t, w⟩ := tOfS_iff.mp h
  refine ⟨F, Ω, ρ, _, r, t, fun d ρ1 t1 v F1 H1 Ω1 s1 r1 f1 => ?_, w.exw⟩
  simp only [onFl_ok] at t1
  generalize hz : gt ρ1 j = z at t1
  generalize hz2 : fi ρ1 = z2 at t1
  match z, z2, t1, hz, hz2 with
  | .lst true xs, .int n, t1, hz, hz2 =>
    obtain ⟨q, ds, hq, hx, hop⟩ := t1
    unfold opPut at hop
    generalize hz3 : fk ρ1 = z3 at hop
    match z3, hop, hz3 with
    | .int m, hop, hz3 =>
      obtain ⟨e, he1, hk⟩ := hop
      obtain ⟨a, b, vs, us, sb⟩ := sb_of r1 hz hx
      refine ⟨.ref a, sb.hσ, F1, Ω1, ρ1, r1, by rw [hz2]; rfl, by rw [hz2]; rfl, fun vi fi' => ?_⟩
      have ei : vi = .int n := by
        rw [hz2] at fi'
        simpa only [Fz] using fi'
      refine ⟨a, vs, n, .ref b, rfl, ei, SqL.of sb.ha, ?_, F1, Ω1, ρ1, r1, by rw [hz3]; rfl, by rw [hz3]; rfl, fun ve fe' => ?_⟩
      · rw [atI_ixN (by rw [← sb.hl]; exact hq)]
        exact sb.hv
      · have ev : ve = .int m := by
          rw [hz3] at fe'
          simpa only [Fz] using fe'
        have hl2 := sb.rl.length
        refine ⟨b, us, m, e, rfl, ev, sb.hb, by rw [← hl2]; exact he1, ?_⟩
        exact w.nx _ hk σ F1 _ Ω1 ⟨chg_stp s1 sb.nb fun b o e1 e2 e3 => (s1.ou b o e1 e2 e3).2.2, sb.chg _ _ (RvL.put sb.mv ((Rv_of_own (own_fr d)).mpr ((Fz_fr _ _ _ _).mpr f1))), Io.refl _ _⟩
/-- xs.append(xs[i]), xs not read any more -/
def dAppSelf (j : Nat) (fi : Env → D) : DS := fun ρ K => match gt ρ j, fi ρ with
  | .lst true xs, .int n => ∃ q, ixN xs.length n = some q ∧ q < xs.length ∧ xs.length < 1000000 ∧ eAt (ρ.set j .und) fun ρ' => K .nx ρ'
  | _, _ => False
theorem S_appSelf {j : Nat} {y : Str} {ei : Expr} {fi : Env → D} {p p2 spos apos cpos pos : Pos} (hN : X.N[j]? = some y) (hv : Vis X.env.scope y) (hi : Sm X ei fi) (hs : PlainIx ei) (hd : (y == ("__debug__" : Str)) = false := by decide) (hcd : (y == ("__classdict__" : Str)) = false := by decide)
    (hbase : attributeBase (.Name y p) "append" X.env (eval (.Name y p) X.env) = eval (.Name y p) X.env := by rfl)
    (hfew : ((backTo cpos (starEach [.Subscript (.Name y p2) ei spos] X.env)).all (fun x => !x.1) && (backToKw cpos (keywordEach [] X.env)).all (fun x => x.1.isSome) && decide (([Expr.Subscript (.Name y p2) ei spos]).length + ([] : List Keyword).length + (if ([] : List Keyword).isEmpty then 0 else 1) < 30)) = true := by rfl)
    (hline : (apos.endLine == cpos.line) = true := by rfl) (hst : starEach [.Subscript (.Name y p2) ei spos] X.env = (false, eval (.Subscript (.Name y p2) ei spos) X.env) :: starEach [] X.env := by rfl) (hsw : swapsWith (.Call (.Attribute (.Name y p) "append" apos) [.Subscript (.Name y p2) ei spos] [] cpos) none pos.line X.env = pure false := by rfl) :
    PS X (.Expr (.Call (.Attribute (.Name y p) "append" apos) [.Subscript (.Name y p2) ei spos] [] cpos) pos) (tOfS x W (dAppSelf j fi)) := by
  have base := ps_expr (pos := pos) (pe_bm PySem.F.plainAttrs_list PySem.F.slot_list_append PySem.F.type_list_append (mt_append (X := X)) (pe_var hN hv hd hcd) (pa_cons (pe_ix ix_list (pe_var hN hv hd hcd) (hi.run x.c) hs) pa_nil hst) hbase hfew hline hst rfl) hsw
  refine base.imp fun De σ H h => ?_
  obtain ⟨F, Ω, ρ, K, r, t, w⟩ := tOfS_iff.mp h
  unfold dAppSelf at t
  generalize hz : gt ρ j = z at t
  generalize hz2 : fi ρ = z2 at t
  match z, z2, t, hz, hz2 with
  | .lst true xs, .int n, t, hz, hz2 =>
    obtain ⟨q, hq, hql, hlen, hk⟩ := t
    have hn : nz (gt ρ j) = true := by rw [hz]; rfl
    have hs := gt_some hn
    have hlt := (List.getElem?_eq_some_iff.mp hs).1
    obtain ⟨v, q1, q2⟩ := r.sl j _ hs (nz_ne hn)
    rw [hz] at q2
    simp only [Rv] at q2
    obtain ⟨a, vs, e1, na, ha, hr⟩ := q2
    subst e1
    have hl := hr.length
    refine ⟨.ref a, q1, .inl ⟨rfl, vs, SqL.of ha⟩, .ref a, q1, F, Ω, ρ, r, by rw [hz2]; rfl, by rw [hz2]; rfl, fun vi fi' => ?_⟩
    have ei : vi = .int n := by
      rw [hz2] at fi'
      simpa only [Fz] using fi'
    have hqv : q < vs.length := by rw [← hl]; exact hql
    refine ⟨a, vs, n, vs[q], rfl, ei, SqL.of ha, ?_, a, vs, vs[q], rfl, rfl, ha, by rw [← hl]; exact Nat.lt_of_lt_of_le hlen (by decide), ?_⟩
    · rw [atI_ixN (by rw [← hl]; exact hq)]
      exact List.getElem?_eq_getElem hqv
    · have hFa : F a = none := (r.wf.own a _ na).1
      refine w.nx _ hk σ F _ (drp j Ω) ⟨chg_stp (Stp.refl _ _ _) na fun b o e1 e2 e3 => ?_, ⟨⟨fun b u e => ?_, fun b π e => ?_⟩, fun k d h1 h2 => ?_, by rw [List.length_set]; exact r.len⟩, Io.refl _ _⟩
      · unfold drp
        rw [e3]
        rfl
      · have hb : b ≠ a := fun z => by rw [z, hFa] at e; cases e
        rw [upd_ne hb]
        exact r.wf.sub b u e
      · unfold drp at e
        split at e
        · cases e
        · obtain ⟨z1, u, z2⟩ := r.wf.own b π e
          refine ⟨z1, ?_⟩
          by_cases hb : b = a
          · exact ⟨_, by rw [hb, upd_same]⟩
          · exact ⟨u, by rw [upd_ne hb]; exact z2⟩
      · by_cases hkj : k = j
        · subst hkj
          rw [List.getElem?_set_self hlt] at h1
          cases h1
          exact absurd rfl h2
        · rw [List.getElem?_set_ne (Ne.symm hkj)] at h1
          obtain ⟨v, z1, z2⟩ := r.sl k d h1 h2
          refine ⟨v, z1, Rv.move (Sub.refl _) d _ _ v (fun b π z => ⟨?_, upd_ne fun e => ?_⟩) z2⟩
          · unfold drp
            rw [z, if_neg (by rw [pre_ne hkj]; exact Bool.false_ne_true)]
          · rw [e, na] at z
            have z' := Option.some.inj z
            simp at z'
            exact hkj z'.1.symm
/-- a, b, c = (e1, e2, e3), e2 and e3 one's own -/
def dAsg3 (i1 i2 i3 : Nat) (T1 T2 T3 : DE) : DS := fun ρ K => T1 ρ (onFl K fun d1 ρ1 => T2 ρ1 (onFl K fun d2 ρ2 => T3 ρ2 (onFl K fun d3 ρ3 => (i1 < ρ3.length ∧ i2 < ρ3.length ∧ i3 < ρ3.length) ∧ eAt (ρ3.set i1 (fr d1)) fun ρ4 => eAt (ρ4.set i2 d2) fun ρ5 => eAt (ρ5.set i3 d3) fun ρ6 => K .nx ρ6)))
theorem S_asg3 {i1 i2 i3 : Nat} {y1 y2 y3 : Str} {e1 e2 e3 : Expr} {p1 p2 p3 pt pt2 pos : Pos} {kt k2} {T1 T2 T3 : DE} (hc : X.calm = true) (hN : X.N.Nodup) (h1 : X.N[i1]? = some y1) (h2 : X.N[i2]? = some y2) (h3 : X.N[i3]? = some y3) (n12 : i1 ≠ i2) (n13 : i1 ≠ i3) (n23 : i2 ≠ i3)
    (l1 : X.env.scope.names.lookup y1 = some .local) (l2 : X.env.scope.names.lookup y2 = some .local) (l3 : X.env.scope.names.lookup y3 = some .local) (o1 : i1 ∉ x.io) (o2 : i2 ∉ x.io) (o3 : i3 ∉ x.io) (he1 : PE X e1 (tOfE x.c W T1)) (he2 : PE X e2 (tOfN x.c W T2)) (he3 : PE X e3 (tOfN x.c W T3))
    (hw : swappedStores [.Tuple [.Name y1 p1, .Name y2 p2, .Name y3 p3] kt pt] (.Tuple [e1, e2, e3] k2 pt2) X.env = pure (some [y1, y2, y3]) := by rfl)
    (hs : swapsWithSole [.Tuple [.Name y1 p1, .Name y2 p2, .Name y3 p3] kt pt] (.Tuple [e1, e2, e3] k2 pt2) pos.line X.env = pure false := by rfl)
    (st3 : starEach [e3] X.env = (false, eval e3 X.env) :: starEach [] X.env := by rfl) (st2 : starEach [e2, e3] X.env = (false, eval e2 X.env) :: starEach [e3] X.env := by rfl) (st1 : starEach [e1, e2, e3] X.env = (false, eval e1 X.env) :: starEach [e2, e3] X.env := by rfl) :
    PS X (.Assign [.Tuple [.Name y1 p1, .Name y2 p2, .Name y3 p3] kt pt] (.Tuple [e1, e2, e3] k2 pt2) pos) (tOfS x W (dAsg3 i1 i2 i3 T1 T2 T3)) := by
  refine (ps_par3 hc hN h1 h2 h3 n12 n13 n23 l1 l2 l3 (pa_cons he1 (pa_cons he2 (pa_cons he3 pa_nil st3) st2) st1) hw hs).imp fun De σ H h => ?_
  obtain ⟨F, Ω, ρ, K, r, t, w⟩ := tOfS_iff.mp h
  refine ⟨F, Ω, ρ, _, r, t, fun d1 ρ1 t1 v1 F1 H1 Ω1 s1 r1 g1 => ?_, w.exw⟩
  have w1 := w.later s1 (Io.refl _ _)
  refine ⟨F1, Ω1, ρ1, _, r1, t1, fun d2 ρ2 t2 v2 F2 H2 Ω2 Θ2 s2 r2 a2 n2 => ?_, w1.exw⟩
  have w2 := w1.later s2 (Io.refl _ _)
  refine ⟨F2, Ω2, ρ2, _, r2, t2, fun d3 ρ3 t3 v3 F3 H3 Ω3 Θ3 s3 r3 a3 n3 => ?_, w2.exw⟩
  obtain ⟨⟨b1, b2, b3⟩, hk⟩ := t3
  refine ⟨v1, v2, v3, rfl, ?_⟩
  have r4 := r3
  have s4 := Stp.refl F3 H3 Ω3
  have a2' := a2.stp s3
  have a3' := a3
  have g1' : Fz x.c F3 d1 v1 := Fz.mono (s2.ef.trans s3.ef) _ _ g1
  have len := r4.len
  have q1 := set_slot (i := i1) r4 (by rw [← len]; exact b1) (Air.fz ((Fz_fr _ _ _ _).mpr g1') (own_fr d1))
  have e1 : putN i1 (fun _ => none) Ω3 = Ω3 := by
    funext b
    rfl
  rw [e1] at q1
  have q2 := set_slot (i := i2) q1 (by rw [List.length_set, ← len]; exact b2) a2'
  have a3'' : Air x.c F3 H3 (putN i2 Θ2 Ω3) d3 v3 Θ3 := ⟨a3'.rv, fun b π e => by
    obtain ⟨z1, z2, z3⟩ := a3'.nm b π e
    refine ⟨z1, ?_, z3⟩
    unfold putN
    cases q : Θ2 b with
    | none => exact z2
    | some π2 =>
      obtain ⟨y1, y2, o, y3⟩ := a2.nm b π2 q
      rw [n3 b o y3 y1 y2] at e
      cases e⟩
  have q3 := set_slot (i := i3) q2 (by rw [List.length_set, List.length_set, ← len]; exact b3) a3''
  refine w.nx _ hk _ F3 _ _ ⟨⟨((s1.ef.trans s2.ef).trans s3.ef), fun b o e1 e2 e3 => ?_⟩, q3, ?_⟩
  · obtain ⟨z1, z2, z3⟩ := (((s1.trans s2).trans s3).trans s4).ou b o e1 e2 e3
    refine ⟨z1, z2, ?_⟩
    have y2 := (n2.step s1) b o e1 e2 e3
    have y3 := (n3.step (s1.trans s2)) b o e1 e2 e3
    unfold putN
    rw [y3]
    show (match Θ2 b with | some π => _ | none => Ω3 b) = none
    rw [y2]
    exact z3
  · exact ((Io.set o1).trans (Io.set o2)).trans (Io.set o3)
end
end Vi
/-! Vi30: sorted(set(t)), sorted(xs), xs.extend(ys), i in xs, min(i, j), is of truth values, a value's truth. -/
namespace Vi
open PySem L2 PySem.Spec PyProof.Rows

/-- the names inside a comprehension, by the scope around it -/
def relN (names : List (Str × NameKind)) (s : Scope) : List (Str × NameKind) := names.map fun (n, k) => if (k == NameKind.free && s.kind == ScopeKind.function && s.names.lookup n == some NameKind.cell) then (n, NameKind.cell) else (n, k)
theorem comp_names (sc : Scope) (cl : List (Str × Addr)) (C : Addr) (env : PySem.Env) : (compEnvC sc cl C env).scope.names = relN sc.names env.scope := rfl
def intsD : List D → Option (List Int)
  | [] => some []
  | .int i :: ds => (intsD ds).map (i :: ·)
  | _ => none
theorem intsD_map : ∀ l : List Int, intsD (l.map D.int) = some l
  | [] => rfl
  | i :: l => by
    show (intsD (l.map D.int)).map (i :: ·) = _
    rw [intsD_map l]
    rfl
theorem intsD_eq : ∀ {ds : List D} {ns : List Int}, intsD ds = some ns → ds = ns.map D.int
  | [], ns, h => by cases h; rfl
  | .int i :: ds, ns, h => by
    have h' : (intsD ds).map (i :: ·) = some ns := h
    cases e : intsD ds with
    | none => rw [e] at h'; cases h'
    | some l =>
      rw [e] at h'
      cases h'
      rw [intsD_eq e]
      rfl
  | .und :: _, _, h => nomatch h
  | .non :: _, _, h => nomatch h
  | .bl _ :: _, _, h => nomatch h
  | .str _ :: _, _, h => nomatch h
  | .tup _ :: _, _, h => nomatch h
  | .lst _ _ :: _, _, h => nomatch h
  | .klst _ :: _, _, h => nomatch h
  | .dic _ _ _ :: _, _, h => nomatch h
  | .ins _ _ _ :: _, _, h => nomatch h
  | .exo _ _ _ _ :: _, _, h => nomatch h
  | .fn _ :: _, _, h => nomatch h
theorem fzl_ints_inv {c : Ct} {F : Hp} : ∀ {ns : List Int} {vs : List V}, FzL c F (ns.map D.int) vs → vs = ns.map V.int
  | [], vs, h => by simpa only [List.map_nil, FzL] using h
  | n :: ns, vs, h => by
    simp only [List.map_cons, FzL] at h
    obtain ⟨v, r, e, h1, h2⟩ := h
    have ev : v = .int n := by simpa only [Fz] using h1
    rw [e, ev, fzl_ints_inv h2]
    rfl
theorem vwl_ints_inv {c : Ct} {F H : Hp} {ns : List Int} {vs : List V} (h : VwL c F H (ns.map D.int) vs) : vs = ns.map V.int := fzl_ints_inv (h.fz (by rw [List.all_map]; exact List.all_eq_true.mpr fun _ _ => rfl))
section
variable {X : Cx} {c : Ct} {W : WX}
def rSetT (K : PySem.W.Frag) (w : World) : List V → Hp → VK → Prop := fun xs H Q => ∃ (p : Addr) (ns : List Int), xs = [.ref p] ∧ SqT K H p (ns.map V.int) ∧ ns.length ≤ 1000 ∧ ∀ a n, H a = none → n ≤ ns.length → Q (.ref a) (upd H a (SetO w a (fun j => decide (j ∈ ns)) n))
theorem cr_setT (hc : X.calm = true) : CallR X (.type "set") (rSetT X.K X.w) := by
  intro pins s σ H xs us Q I r h
  obtain ⟨p, ns, rfl, hq, hl, q⟩ := h
  rw [Vals.ref1 r]
  obtain ⟨its, rv, pt, hz⟩ := I.tuple hq
  have hi : IntsAre its.toArray.toList ns := ints_of_vals rv
  refine call_set_tupI ns (I.ok.hd hc) (show s.heap.IsTuple p its.toArray from pt) hi (by unfold scanBound; omega) fun h' tk n R hcn k => ?_
  exact ⟨.ref _, upd H s.heap.objs.size (SetO X.w s.heap.objs.size (fun j => decide (j ∈ ns)) n), I.laid (t' := tk) k (Nat.le_refl _) (setO_new R), rfl, q _ n (I.hok.fresh (Nat.le_refl _)) hcn⟩
def ssK (d : D) (k : D → Prop) : Prop := match d with
  | .tup xs => ∃ ns, intsD xs = some ns ∧ ns.length < 64 ∧ ∀ ms : List Int, ms.Pairwise (· < ·) → (∀ j, j ∈ ms ↔ j ∈ ns) → k (.lst false (ms.map .int))
  | _ => False
theorem ssK_t {ns : List Int} {k : D → Prop} (hl : ns.length < 64) (h : ∀ ms : List Int, ms.Pairwise (· < ·) → (∀ j, j ∈ ms ↔ j ∈ ns) → k (.lst false (ms.map .int))) : ssK (.tup (ns.map .int)) k := ⟨ns, intsD_map ns, hl, h⟩
def dSortSet (O : DO) : DE := fun ρ K => O ρ (onOk K fun o ρ' => nz (see ρ' o) = true ∧ ssK (see ρ' o) fun d => K (.ok d) ρ')
theorem E_sortSet {e : Expr} {O : DO} {p1 p2 p3 p4 : Pos} (hc : X.calm = true) (hK : c.K = X.K) (he : PE X e (tOfO c W O)) (g1 : Gl X "sorted") (m1 : X.mg "sorted" = none) (g2 : Gl X "set") (m2 : X.mg "set" = none)
    (hs2 : starEach [e] X.env = [(false, eval e X.env)] := by rfl) (hs1 : starEach [Expr.Call (.Name "set" p2) [e] [] p3] X.env = [(false, eval (Expr.Call (.Name "set" p2) [e] [] p3) X.env)] := by rfl)
    (hp2 : (backTo p3 (starEach [] X.env)).any (·.1) = false := by rfl) (hp1 : (backTo p4 (starEach [] X.env)).any (·.1) = false := by rfl) :
    PE X (.Call (.Name "sorted" p1) [.Call (.Name "set" p2) [e] [] p3] [] p4) (tOfE c W (dSortSet O)) := by
  refine (pe_callB (cr_sortedSet hc) g1 m1 (by rfl) (pa_cons (pe_callTy (T := "set") (cr_setT hc) g2 m2 (by rfl) (pa_cons he pa_nil hs2) (by decide) (by decide) hs2 hp2) pa_nil hs1) (by decide) (by decide) hs1 hp1).imp fun σ H Q h => ?_
  obtain ⟨F, Ω, ρ, K, r0, ht, k, kx⟩ := h
  refine ⟨F, Ω, ρ, _, r0, ht, fun o ρ1 q1 v F1 H1 Ω1 s1 r1 f1 => ?_, kx.imp (Stp.refl _ _ _) fun _ _ _ q => q⟩
  simp only [onOk_ok] at q1
  obtain ⟨hn, q2⟩ := q1
  have vw := f1.vw r1 hn
  cases e : see ρ1 o with
  | tup xs =>
    rw [e] at q2 vw
    obtain ⟨ns, hi, hl, hk⟩ := q2
    have ex := intsD_eq hi
    subst ex
    obtain ⟨a, vs, e1, h0, h1, h2⟩ := vw.tup r1.wf
    have ev := fzl_ints_inv h2
    subst ev
    refine ⟨a, ns, by rw [e1], by rw [← hK]; exact h1, by omega, fun b n hb hn => ?_⟩
    obtain ⟨r2, s2⟩ := rel_new (o := SetO X.w b (fun j => decide (j ∈ ns)) n) r1 hb
    refine ⟨b, fun j => decide (j ∈ ns), n, rfl, upd_same, by omega, fun ms p hp hm hlen hpn => ?_⟩
    have x3 := Ext.new (o := .lst (ms.map V.int)) r2.wf hpn
    refine k _ ρ1 (hk ms hp fun j => by rw [hm j, decide_eq_true_iff]) _ _ _ _ ((s1.trans s2).trans x3.stp) (r2.ext x3) ?_
    simp only [Fz]
    exact ⟨p, _, rfl, upd_same, fzl_ints ms⟩
  | _ => rw [e] at q2; exact q2.elim
/-! sorted(xs) -/
def oSort : List D → (D → Prop) → Prop
  | [.lst _ xs], K => ∃ ns, intsD xs = some ns ∧ ∀ ms : List Int, ms.Perm ns → ms.Pairwise (· ≤ ·) → K (.lst false (ms.map .int))
  | _, _ => False
theorem oSort_l {o : Bool} {ns : List Int} {k : D → Prop} (h : ∀ ms : List Int, ms.Perm ns → ms.Pairwise (· ≤ ·) → k (.lst false (ms.map .int))) : oSort [.lst o (ns.map .int)] k := ⟨ns, intsD_map ns, h⟩
theorem ba_sort {c : Ct} : BA c (rSortedI c.K) oSort := ⟨fun F H Ω w ds vs hl hv K q Q k => by
  match ds, hl, hv, q with
  | [.lst o xs], hl, hv, q =>
    obtain ⟨ns, hi, hk⟩ := q
    have ex := intsD_eq hi
    subst ex
    obtain ⟨v, e, h⟩ := one_of hl hv
    obtain ⟨a, ys, e1, h1, h2⟩ := h.lst w
    have ev := vwl_ints_inv h2
    subst ev
    refine ⟨a, ns, by rw [e, e1], SqL.of h1, fun ms p hp hs hpn => ?_⟩
    have x3 := Ext.new (o := .lst (ms.map V.int)) w hpn
    refine k _ (hk ms hp hs) _ _ _ x3 ?_
    simp only [Fz]
    exact ⟨p, _, rfl, upd_same, fzl_ints ms⟩⟩
def oMin2 : List D → (D → Prop) → Prop
  | [.int i, .int j], K => K (.int (if j < i then j else i))
  | _, _ => False
theorem oMin2_r (i j : Int) (k : D → Prop) : oMin2 [.int i, .int j] k = k (.int (if j < i then j else i)) := rfl
theorem ba_min2 {c : Ct} : BA c (fun xs H Q => ∃ i j, xs = [.int i, .int j] ∧ Q (.int (if j < i then j else i)) H) oMin2 := ⟨fun F H Ω w ds vs hl hv K q Q k => by
  match ds, hl, hv, q with
  | [.int i, .int j], hl, hv, q =>
    match vs, hl with
    | [v, u], _ =>
      exact ⟨i, j, by rw [vw_int (hv 0 _ v rfl rfl), vw_int (hv 1 _ u rfl rfl)], k _ q _ F H (Ext.refl w) fz_int⟩⟩
/-! i in xs -/
def oInL (g : Bool → Bool) : D → D → (D → Prop) → Prop
  | .int i, .lst _ xs, K => ∃ ns, intsD xs = some ns ∧ K (.bl (g (decide (i ∈ ns))))
  | .int i, .tup xs, K => ∃ ns, intsD xs = some ns ∧ K (.bl (g (decide (i ∈ ns))))
  | _, _, _ => False
theorem oInL_l {g : Bool → Bool} {i : Int} {o : Bool} {ns : List Int} {k : D → Prop} (h : k (.bl (g (decide (i ∈ ns))))) : oInL g (.int i) (.lst o (ns.map .int)) k := ⟨ns, intsD_map ns, h⟩
theorem inV_ints (i : Int) : ∀ ns : List Int, inV (.int i) (ns.map V.int) = decide (i ∈ ns)
  | [] => rfl
  | n :: ns => by
    show (eqV (.int n) (.int i) || inV (.int i) (ns.map V.int)) = _
    rw [inV_ints i ns]
    have e : eqV (.int n) (.int i) = decide (i = n) := by
      show (n == i) = _
      rw [Bool.eq_iff_iff, beq_iff_eq, decide_eq_true_iff]
      exact eq_comm
    rw [e, Bool.eq_iff_iff]
    simp [Bool.or_eq_true]
theorem flat_ints (ns : List Int) : (ns.map V.int).all flatV = true := by
  rw [List.all_map]
  exact List.all_eq_true.mpr fun _ _ => rfl
theorem b2_inL {c : Ct} {neg : Bool} : B2 c (rIn c.K neg) (oInL fun b => if neg = true then !b else b) := ⟨fun F H Ω w d e v u h1 h2 K q Q k => by
  match d, e, q with
  | .int i, .lst o xs, q =>
    obtain ⟨ns, hi, hk⟩ := q
    have ex := intsD_eq hi
    subst ex
    obtain ⟨a, ys, e1, q1, f1⟩ := h2.lst w
    have ev := vwl_ints_inv f1
    subst ev
    have e0 := vw_int h1
    subst e0
    refine ⟨a, _, e1, .inl (SqL.of q1), rfl, flat_ints ns, ?_⟩
    rw [inV_ints]
    cases neg <;> exact k _ hk _ F H (Ext.refl w) (by simp only [Fz] <;> rfl)
  | .int i, .tup xs, q =>
    obtain ⟨ns, hi, hk⟩ := q
    have ex := intsD_eq hi
    subst ex
    obtain ⟨a, ys, e1, _, q1, f1⟩ := h2.tup w
    have ev := fzl_ints_inv f1
    subst ev
    have e0 := vw_int h1
    subst e0
    refine ⟨a, _, e1, .inr q1, rfl, flat_ints ns, ?_⟩
    rw [inV_ints]
    cases neg <;> exact k _ hk _ F H (Ext.refl w) (by simp only [Fz] <;> rfl)⟩
theorem b2_in {c : Ct} : B2 c (rIn c.K false) (oInL id) := b2_inL (neg := false)
theorem b2_nin {c : Ct} : B2 c (rIn c.K true) (oInL not) := b2_inL (neg := true)
/-! is of truth values -/
def oIsB (g : Bool → Bool) : D → D → (D → Prop) → Prop
  | .bl a, .bl b, K => K (.bl (g (decide (a = b))))
  | _, _, _ => False
theorem oIsB_r {g : Bool → Bool} (a b : Bool) (k : D → Prop) : oIsB g (.bl a) (.bl b) k = k (.bl (g (decide (a = b)))) := rfl
theorem b2_isB {c : Ct} : B2 c rIsB (oIsB id) := ⟨fun F H Ω w d e v u h1 h2 K q Q k => by
  match d, e, q with
  | .bl a, .bl b, q => exact ⟨a, b, vw_bl h1, vw_bl h2, k _ q _ F H (Ext.refl w) (by simp only [Fz] <;> rfl)⟩⟩
theorem b2_notB {c : Ct} : B2 c rNotB (oIsB not) := ⟨fun F H Ω w d e v u h1 h2 K q Q k => by
  match d, e, q with
  | .bl a, .bl b, q => exact ⟨a, b, vw_bl h1, vw_bl h2, k _ q _ F H (Ext.refl w) (by simp only [Fz] <;> rfl)⟩⟩
/-! a value's truth -/
def truK (d : D) (k : Bool → Prop) : Prop := match d with
  | .bl b => k b
  | .lst _ xs => k (!xs.isEmpty)
  | _ => False
theorem truK_b (b : Bool) (k : Bool → Prop) : truK (.bl b) k = k b := rfl
theorem truK_l (o : Bool) (xs : List D) (k : Bool → Prop) : truK (.lst o xs) k = k (!xs.isEmpty) := rfl
def dTru (O : DO) : DT := fun ρ K => O ρ (onOk K fun o ρ' => nz (see ρ' o) = true ∧ truK (see ρ' o) fun b => K (.ok b) ρ')
theorem T_tru {a : Expr} {O : DO} (hK : c.K = X.K) (ho : PE X a (tOfO c W O)) (he : ∀ whole, isTrue a X.env whole = (do let v ← whole; standAt a.pos; holding [v] (truthy v))) : PT X a (tOfT c W (dTru O)) := (pt_truth ho he).imp fun σ H Q h => by
  obtain ⟨F, Ω, ρ, K, r0, ht, k, kx⟩ := h
  refine ⟨F, Ω, ρ, _, r0, ht, fun o ρ1 q1 v F1 H1 Ω1 s1 r1 f1 => ?_, kx.imp (Stp.refl _ _ _) fun _ _ _ q => q⟩
  simp only [onOk_ok] at q1
  obtain ⟨hn, q2⟩ := q1
  have vw := f1.vw r1 hn
  cases e : see ρ1 o with
  | bl b =>
    rw [e] at q2 vw
    have ev := vw_bl vw
    subst ev
    exact ⟨b, rfl, k b ρ1 q2 F1 H1 Ω1 s1 r1⟩
  | lst b xs =>
    rw [e] at q2 vw
    obtain ⟨p, vs, e1, h1, h2⟩ := vw.lst r1.wf
    have hl := h2.1
    refine ⟨!xs.isEmpty, ?_, k _ ρ1 q2 F1 H1 Ω1 s1 r1⟩
    rw [e1]
    refine .inl ⟨vs, SqL.of h1, ?_⟩
    cases xs <;> cases vs <;> first | rfl | (simp at hl)
  | _ => rw [e] at q2; exact q2.elim
end
section
variable {X : Cx} {x : Ct2} {W : WX}
/-- xs.extend(ys) -/
def extK (d v : D) (ρ : Env) (j : Nat) (k : Env → Prop) : Prop := match d, v with
  | .lst true xs, .lst false ys => (ys.all fun y => !own y) = true ∧ xs.length + ys.length ≤ 1000000 ∧ k (ρ.set j (.lst true (xs ++ ys)))
  | _, _ => False
theorem extK_l (xs ys : List D) (ρ : Env) (j : Nat) (k : Env → Prop) : extK (.lst true xs) (.lst false ys) ρ j k = ((ys.all fun y => !own y) = true ∧ xs.length + ys.length ≤ 1000000 ∧ eAt (ρ.set j (.lst true (xs ++ ys))) k) := rfl
def dExt (j : Nat) (T : DE) : DS := fun ρ K => isLst (gt ρ j) = true ∧ T ρ (onFl K fun d ρ1 => dAt (fr d) fun d' => extK (gt ρ1 j) d' ρ1 j fun ρ2 => K .nx ρ2)
theorem RvL.app {c : Ct} {F H : Hp} {Θ : Nm} : ∀ {es ds : List D} {ws vs : List V} {π : List Nat} {j : Nat}, RvL c F H Θ ds π j vs → FzL c F es ws → (es.all fun y => !own y) = true → RvL c F H Θ (ds ++ es) π j (vs ++ ws)
  | [], ds, ws, vs, π, j, h, g, _ => by
    simp only [FzL] at g
    subst g
    simpa using h
  | e :: es, ds, ws, vs, π, j, h, g, ho => by
    simp only [FzL] at g
    obtain ⟨w, r, e1, g1, g2⟩ := g
    subst e1
    rw [List.all_cons, Bool.and_eq_true] at ho
    have z := RvL.app (RvL.append h ((Rv_of_own (by simpa using ho.1)).mpr g1)) g2 ho.2
    simpa using z
theorem S_ext {j : Nat} {y : Str} {e : Expr} {T : DE} {p apos cpos pos : Pos} (hN : X.N[j]? = some y) (hv : Vis X.env.scope y) (he : PE X e (tOfE x.c W T)) (hd : (y == ("__debug__" : Str)) = false := by decide) (hcd : (y == ("__classdict__" : Str)) = false := by decide)
    (hbase : attributeBase (.Name y p) "extend" X.env (eval (.Name y p) X.env) = eval (.Name y p) X.env := by rfl)
    (hfew : ((backTo cpos (starEach [e] X.env)).all (fun x => !x.1) && (backToKw cpos (keywordEach [] X.env)).all (fun x => x.1.isSome) && decide (([e]).length + ([] : List Keyword).length + (if ([] : List Keyword).isEmpty then 0 else 1) < 30)) = true := by rfl)
    (hline : (apos.endLine == cpos.line) = true := by rfl) (hst : starEach [e] X.env = (false, eval e X.env) :: starEach [] X.env := by rfl) (hsw : swapsWith (.Call (.Attribute (.Name y p) "extend" apos) [e] [] cpos) none pos.line X.env = pure false := by rfl) :
    PS X (.Expr (.Call (.Attribute (.Name y p) "extend" apos) [e] [] cpos) pos) (tOfS x W (dExt j T)) := by
  have base := ps_expr (pos := pos) (pe_bm PySem.F.plainAttrs_list PySem.F.slot_list_extend PySem.F.type_list_extend (mt_extend (X := X)) (pe_var hN hv hd hcd) (pa_cons he pa_nil hst) hbase hfew hline hst rfl) hsw
  refine base.imp fun De σ H h => ?_
  obtain ⟨F, Ω, ρ, K, r, ⟨hn, t⟩, w⟩ := tOfS_iff.mp h
  have hn' : nz (gt ρ j) = true := by
    cases e : gt ρ j <;> rw [e] at hn <;> first | rfl | cases hn
  obtain ⟨v, q1, q2⟩ := r.sl j _ (gt_some hn') (nz_ne hn')
  refine ⟨v, q1, ?_, F, Ω, ρ, _, r, t, fun d ρ1 q u F1 H1 Ω1 s1 r1 f1 => ?_, w.exw⟩
  · cases e : gt ρ j with
    | lst o ds =>
      rw [e] at q2
      obtain ⟨a, vs, e1, h1, _⟩ := Vw.lst r.wf (.inr ⟨_, _, q2⟩)
      subst e1
      exact .inl ⟨rfl, vs, SqL.of h1⟩
    | _ => rw [e] at hn; cases hn
  · simp only [onFl_ok] at q
    have q' : extK (gt ρ1 j) (fr d) ρ1 j fun ρ2 => K .nx ρ2 := q
    have f1' : Fz x.c F1 (fr d) u := (Fz_fr _ _ _ _).mpr f1
    generalize hz : gt ρ1 j = z at q'
    generalize fr d = d' at q' f1'
    match z, d', q', hz, f1' with
    | .lst true xs, .lst false ys, ⟨hall, hl, hk⟩, hz, f1' =>
      have hn1 : nz (gt ρ1 j) = true := by rw [hz]; rfl
      have hs1 := gt_some hn1
      obtain ⟨v', z1, z2⟩ := r1.sl j _ hs1 (nz_ne hn1)
      rw [q1] at z1
      cases z1
      rw [hz] at z2
      simp only [Rv] at z2
      obtain ⟨a, vs, e1, ha, hH, hr⟩ := z2
      subst e1
      simp only [Fz] at f1'
      obtain ⟨b, ws, e2, hb, hw⟩ := f1'
      subst e2
      have lenv := hr.length
      have lenw := hw.length
      refine ⟨a, b, vs, ws, rfl, rfl, hH, r1.wf.sub _ _ hb, by rw [← lenv, ← lenw]; exact sz_ok hl, ?_⟩
      refine w.nx _ hk σ F1 _ Ω1 ⟨chg_stp s1 ha fun b o e1 e2 e3 => (s1.ou b o e1 e2 e3).2.2, chg_slot r1 (List.getElem?_eq_some_iff.mp hs1).1 q1 ha ?_ (fun _ _ e => e) fun b π e => r1.wf.own b π e, Io.refl _ _⟩
      simp only [Rv]
      refine ⟨a, vs ++ ws, rfl, ha, upd_same, RvL.app (RvL.move (Sub.refl _) xs [j] [j] 0 vs (fun b i π e => ⟨e, upd_ne fun y => ?_⟩) hr) hw hall⟩
      rw [y, ha] at e
      simp at e
end
end Vi
/-! Vi31: repr of nested tuples and lists; the law's def where it is known that no repr is under way (callerA). -/
namespace Vi
open PySem L2 PySem.Spec PyProof.Rows

mutual
def pdd : D → PyData
  | .bl b => .bool b
  | .int i => .int i
  | .str x => .str ⟨x.toArray⟩
  | .tup ds => .tuple (pdds ds)
  | .lst _ ds => .list (pdds ds)
  | _ => .none
def pdds : List D → List PyData
  | [] => []
  | d :: ds => pdd d :: pdds ds
end
mutual
def nice : D → Bool
  | .bl _ | .int _ | .str _ | .non => true
  | .tup ds => nices ds
  | .lst _ ds => nices ds
  | _ => false
def nices : List D → Bool
  | [] => true
  | d :: ds => nice d && nices ds
end
def deepD : D → Bool
  | .tup _ | .lst _ _ => true
  | _ => false
/-- repr's text -/
def shD (d : D) : List Nat := (pdd d).shown.cps.toList
def shOk (d : D) : Prop := deepD d = true ∧ nice d = true ∧ (pdd d).showable = true ∧ (pdd d).hasDict = false ∧ (pdd d).depth ≤ 40 ∧ (pdd d).shown.length ≤ sizeLine
section
variable {P : Program} {w : World} {c : Ct} {F H : Hp} {h : Heap}
mutual
theorem rds (ok : HOk P w H h) (sb : Sub F H) : ∀ (d : D) (v : V) (u : Value), nice d = true → Fz c F d v → RelV v u → ∃ as, Reads h u (pdd d) as
  | .und, _, _, n, _, _ => by simp [nice] at n
  | .klst _, _, _, n, _, _ => by simp [nice] at n
  | .dic _ _ _, _, _, n, _, _ => by simp [nice] at n
  | .ins _ _ _, _, _, n, _, _ => by simp [nice] at n
  | .exo _ _ _ _, _, _, n, _, _ => by simp [nice] at n
  | .fn _, _, _, n, _, _ => by simp [nice] at n
  | .non, v, u, _, f, r => by
    simp only [Fz] at f
    subst f
    obtain rfl : u = .none := r
    exact ⟨[], by simp only [pdd]; exact .none⟩
  | .bl b, v, u, _, f, r => by
    simp only [Fz] at f
    subst f
    obtain rfl : u = .bool b := r
    exact ⟨[], by simp only [pdd]; exact .bool b⟩
  | .int i, v, u, _, f, r => by
    simp only [Fz] at f
    subst f
    obtain ⟨t, rfl⟩ : ∃ t, u = .int i t := r
    exact ⟨[], by simp only [pdd]; exact .int i t⟩
  | .str x, v, u, _, f, r => by
    simp only [Fz] at f
    subst f
    obtain ⟨t, rfl⟩ : ∃ t, u = .str ⟨x.toArray⟩ t := r
    exact ⟨[], by simp only [pdd]; exact .str _ t⟩
  | .tup ds, v, u, n, f, r => by
    simp only [Fz] at f
    obtain ⟨a, vs, rfl, e, fl⟩ := f
    obtain rfl : u = .ref a := r
    obtain ⟨_, its, q, o, g, hc, m, hd⟩ := ok _ _ (sb _ _ e)
    obtain ⟨as, z⟩ := rdsL ok sb ds vs its (by simpa [nice] using n) fl q
    exact ⟨as, by simp only [pdd]; exact .tuple g hc hd (by simpa using z)⟩
  | .lst b ds, v, u, n, f, r => by
    simp only [Fz] at f
    obtain ⟨a, vs, rfl, e, fl⟩ := f
    obtain rfl : u = .ref a := r
    obtain ⟨_, its, m, q, g⟩ := ok _ _ (sb _ _ e)
    obtain ⟨as, z⟩ := rdsL ok sb ds vs its (by simpa [nice] using n) fl q
    exact ⟨a :: as, by simp only [pdd]; exact .list g rfl rfl (by simpa using z)⟩
theorem rdsL (ok : HOk P w H h) (sb : Sub F H) : ∀ (ds : List D) (vs : List V) (us : List Value), nices ds = true → FzL c F ds vs → Vals vs us → ∃ as, ReadsAll h us (pdds ds) as
  | [], vs, us, _, f, r => by
    simp only [Fz, FzL] at f
    subst f
    cases r
    exact ⟨[], by simp only [pdds]; exact .nil⟩
  | d :: ds, vs, us, n, f, r => by
    simp only [FzL] at f
    obtain ⟨v, vr, rfl, f1, f2⟩ := f
    simp only [nices, Bool.and_eq_true] at n
    match us, r with
    | _ :: _, .cons r1 r2 =>
      obtain ⟨as, z1⟩ := rds ok sb d v _ n.1 f1 r1
      obtain ⟨bs, z2⟩ := rdsL ok sb ds vr _ n.2 f2 r2
      exact ⟨as ++ bs, by simp only [pdds]; exact .cons z1 z2⟩
end
end
section
variable {X : Cx} {c : Ct} {W : WX}
theorem call_repr_deep (hg : X.A.guards = some []) (hu : X.A.units + 64 < cLine) : CallR X (.builtin "repr") (fun xs H Q => ∃ (F : Hp) (d : D) (v : V), xs = [v] ∧ Sub F H ∧ Fz c F d v ∧ shOk d ∧ Q (.str (pdd d).shown) H) := by
  intro pins s σ H xs us Q I r h
  obtain ⟨F, d, v, rfl, sb, f, ⟨o1, o2, o3, o4, o5, o6⟩, q⟩ := h
  obtain ⟨u, rfl, ru⟩ := vals1 r
  obtain ⟨as, z⟩ := rds I.hok sb d v u o2 f ru
  obtain ⟨a, rfl⟩ : ∃ a, u = .ref a := by
    cases d <;> simp only [deepD] at o1 <;> first | (cases o1; done) | (simp only [pdd] at z; cases z; exact ⟨_, rfl⟩)
  exact repr_of_reads' z o3 (PyData.noDict_hsm o4) hg (by omega) (fun _ _ e => e) (fun h' t tk k => ⟨.str (pdd d).shown, H, I.kept k, ⟨_, rfl⟩, q⟩) o6
/-- repr(e), e nested -/
def dReprT (T : DE) : DE := fun ρ K => T ρ (onOk K fun d ρ' => shOk d ∧ K (.ok (.str (shD d))) ρ')
theorem E_reprT {e : Expr} {T : DE} {p1 p2 : Pos} (hgd : X.A.guards = some []) (hu : X.A.units + 64 < cLine) (he : PE X e (tOfE c W T)) (hg : Gl X "repr") (hm : X.mg "repr" = none)
    (hs : starEach [e] X.env = (false, eval e X.env) :: starEach [] X.env := by rfl) (hpl : (backTo p2 (starEach [] X.env)).any (·.1) = false := by rfl) :
    PE X (.Call (.Name "repr" p1) [e] [] p2) (tOfE c W (dReprT T)) := by
  refine (pe_callB (id := "repr") (call_repr_deep (c := c) hgd hu) hg hm (by decide +kernel) (pa_cons he pa_nil hs) (by decide) (by decide) hs hpl).imp fun σ H Q h => ?_
  obtain ⟨F, Ω, ρ, K, r, t, k, kx⟩ := h
  refine ⟨F, Ω, ρ, _, r, t, fun d ρ' q v F' H' Ω' s r' f => ?_, kx.imp (Stp.refl _ _ _) fun _ _ _ q => q⟩
  simp only [onOk_ok] at q
  refine ⟨F', d, v, rfl, r'.wf.sub, f, q.1, ?_⟩
  refine k _ ρ' q.2 _ _ _ Ω' s r' ?_
  simp only [Fz, shD]
/-! ### text == text, of any signs -/
def oEqS (g : Bool → Bool) : D → D → (D → Prop) → Prop := fun d e K => match d, e with
  | .str s, .str t => K (.bl (g (decide (s = t))))
  | _, _ => False
theorem oEqS_r (g : Bool → Bool) (s t : List Nat) (K : D → Prop) : oEqS g (.str s) (.str t) K = K (.bl (g (decide (s = t)))) := rfl
theorem dec_txt (s t : List Nat) : decide (V.str ⟨s.toArray⟩ = V.str ⟨t.toArray⟩) = decide (s = t) := by
  rw [Bool.eq_iff_iff]
  simp
theorem b2_eqS {c : Ct} : B2 c rEq (oEqS id) := ⟨fun F H Ω w d e v u h1 h2 K q Q k => by
  match d, e, q with
  | .str s, .str t, q =>
    rw [vw_str h1, vw_str h2]
    exact ⟨rfl, k _ q _ F H (Ext.refl w) (by rw [dec_txt]; simp only [Fz]; rfl)⟩⟩
theorem b2_neS {c : Ct} : B2 c rNe (oEqS not) := ⟨fun F H Ω w d e v u h1 h2 K q Q k => by
  match d, e, q with
  | .str s, .str t, q =>
    rw [vw_str h1, vw_str h2]
    exact ⟨rfl, k _ q _ F H (Ext.refl w) (by rw [dec_txt]; simp only [Fz])⟩⟩
end
end Vi
/-! Vi32: the law's def at callerA alone, where it is known that no repr is under way. -/
namespace Vi
open PySem L2 PySem.Spec PyProof.Rows

/-- one run of a def, at one place -/
theorem run_at {P : Program} {w : World} {K : PySem.W.Frag} {mg : Str → Option Value} {base : Heap} {x qual : Str} {st : Stmt} {f : Addr} {fd : FuncData} {N ps : List Str} {k : Nat} {A : Around} {outer : List PySem.Env} {s : Shared} {H : Hp} {Q : VK} {E : XK} {args : Args} {us : List Value} {vs : List V}
    (Fn : Fun K x qual st f fd) (Sc : FnScope N ps (defScope st)) (room : Room (k + 1) A) (en : Env0 P w K mg base A outer s H) (bind : BindsTo s fd args (ps.zip us)) (vals : Vals vs us) (len : vs.length = ps.length)
    (body : ∀ cdv : Value, ∃ t, PSs (cxOf (L2.CX P w) P w K mg base N qual (defScope st) f cdv A outer s H E) (defBody st) t ∧ t { nx := fun _ H' => Q .non H', rt := Q } (L2.start N vs) H) :
    codeAny (model P w) A (.call (.ref f) args) (CR (L2.CX P w) outer P w H s Q E) s := by
  obtain ⟨_, _, _, _, _, _, cdv, _, _, efd, look, code⟩ := Fn.ex
  subst efd
  have known : K.In s.heap := en.mod.kin.keeps (fun b o h => (en.bs b o h).1)
  have limit : s.heap.NoLimit := en.mod.nolimit.keeps (fun b o h => (en.bs b o h).1)
  apply codeAny_call_function room.depth (known _ _ look) rfl Sc.co Sc.gen rfl (PySem.W.codeRec_of known code)
  apply bind
  apply wpAny_newFunctionEnv_cells Sc.kind
  · rintro ⟨n, v⟩ hn
    exact (Sc.par n (List.of_mem_zip hn).1).imp id fun q => ⟨q, PySem.W.cellsFrom_some _ _ _ (Or.inl q)⟩
  · rintro env rfl s1 made
    refine ⟨limit.keeps made.toInCall.keep, ?_⟩
    obtain ⟨t, ht, hq⟩ := body cdv
    have inv := inv_start (CX := L2.CX P w) (E := E) Sc room.hd en len vals made
    refine codeAny_func (wpAny_mono (ht.run [] s1 (L2.start N vs) H _ inv hq) ?_ ?_)
    · rintro (_ | _ | _ | u) s' hs
      · obtain ⟨σ', H', J, q⟩ := hs
        exact ⟨.non, H', J.os, J.bare, J.base, J.hok, rfl, q⟩
      · obtain ⟨_, _, _, q⟩ := hs
        exact False.elim q
      · obtain ⟨_, _, _, q⟩ := hs
        exact False.elim q
      · obtain ⟨v, σ', H', J, rv, q⟩ := hs
        exact ⟨v, H', J.os, J.bare, J.base, J.hok, rv, q⟩
    · exact fun e s' hs => hs

/-- a def's promise at the law's own call -/
def TopOk (P : Program) (w : World) (K : PySem.W.Frag) (mg : Str → Option Value) (base : Heap) (f : Addr) (fd : FuncData) (ps : List Str) (sp : Sp) : Prop :=
  ∀ (s : Shared) (H : Hp) (us : List Value) (vs : List V) (Q : VK) (E : XK), Env0 P w K mg base callerA [] s H → BindsTo s fd ⟨us, []⟩ (ps.zip us) → Vals vs us → sp vs H Q E → codeAny (model P w) callerA (.call (.ref f) ⟨us, []⟩) (CR (L2.CX P w) [] P w H s Q E) s
theorem TopOk.imp {P : Program} {w : World} {K : PySem.W.Frag} {mg : Str → Option Value} {base : Heap} {f : Addr} {fd : FuncData} {ps : List Str} {sp sp' : Sp} (T : TopOk P w K mg base f fd ps sp) (h : ∀ vs H Q E, sp' vs H Q E → sp vs H Q E) : TopOk P w K mg base f fd ps sp' :=
  fun s H us vs Q E e b v q => T s H us vs Q E e b v (h _ _ _ _ q)
theorem fn_top {P : Program} {w : World} {K : PySem.W.Frag} {mg : Str → Option Value} {base : Heap} {x qual : Str} {st : Stmt} {f : Addr} {fd : FuncData} {N ps : List Str} {k : Nat} {c : Ct} {S : FS} {B : DS} (Fn : Fun K x qual st f fd) (Sc : FnScope N ps (defScope st)) (room : Room (k + 1) callerA)
    (hb : ∀ (cdv : Value) (s : Shared) (H : Hp) (E : XK), Room k (callerA.deeper (envOfC qual (defScope st) s.heap.objs.size f cdv)) → (callerA.deeper (envOfC qual (defScope st) s.heap.objs.size f cdv)).guards = some [] →
      PSs (cxOf (L2.CX P w) P w K mg base N qual (defScope st) f cdv callerA [] s H E) (defBody st) (tOfS ⟨c, []⟩ (fun cls d _ H => E cls d H) B))
    (hd : ∀ args K', args.length = ps.length → S args K' → B (args ++ List.replicate (N.length - ps.length) .und) (endK ps.length K')) : TopOk P w K mg base f fd ps (spOf c [] ps.length S) := by
  intro s H us vs Q E en bind vals hsp
  obtain ⟨F, Ω, args, K', hl, r, hS, kr, kx⟩ := hsp
  have lv : vs.length = ps.length := by
    have := r.len
    rw [List.length_map] at this
    omega
  refine run_at Fn Sc room en bind vals lv fun cdv => ⟨_, hb cdv s H E (room.deeper _) rfl, ?_⟩
  have r0 : Rel c F H Ω (args ++ List.replicate (N.length - ps.length) .und) (L2.start N vs) := by
    refine ⟨r.wf, fun i d h1 h2 => ?_, by unfold L2.start; simp only [List.length_append, List.length_replicate, List.length_map]; omega⟩
    by_cases hi : i < args.length
    · rw [List.getElem?_append_left hi] at h1
      obtain ⟨v, q1, q2⟩ := r.sl i d h1 h2
      refine ⟨v, ?_, q2⟩
      unfold L2.start
      rwa [List.getElem?_append_left (by simpa [lv] using (hl ▸ hi))]
    · rw [List.getElem?_append_right (by omega), List.getElem?_replicate] at h1
      split at h1 <;> first | (cases h1; exact absurd rfl h2) | cases h1
  have none_io : ∀ {F' H' : Hp} {Ω' : Nm} {ρ' : Vi.Env} {σ' : L2.St}, PostS ⟨c, []⟩ F H Ω (L2.start N vs) F' H' Ω' ρ' σ' → IoP c [] F' H' Ω' (ρ'.take ps.length) vs := fun p => ⟨p.2.1.wf, fun _ z => by cases z⟩
  refine tOfS_iff.mpr ⟨F, Ω, _, _, r0, hd args K' hl hS, ⟨fun ρ' q σ' F' H' Ω' p => ?_, fun ρ' q => q.elim, fun ρ' q => q.elim, fun d ρ' q σ' v F' H' Ω' Θ p a n => ?_, fun C u ρ' q cd vw σ' F' H' Ω' p e1 e2 => ?_⟩⟩
  · exact kr .non _ q .non F' H' Ω' _ p.1 (none_io p) (Air.fz (by simp only [Fz]) rfl) New.none
  · exact kr d _ q v F' H' Ω' Θ p.1 (none_io p) a n
  · exact kx C u _ q cd vw F' H' Ω' p.1 (none_io p) e1 e2

/-- the script's heap: the list, where it is none of the module's own -/
def scr (K : PySem.W.Frag) (a : Addr) (o : Obj) (xs : List V) : Hp := fun b => if b = a ∧ K.lookup a = none then some (.frz o (.lst xs)) else none
theorem scr_none {K : PySem.W.Frag} {a b : Addr} {o : Obj} {xs : List V} (h : ¬ (b = a ∧ K.lookup a = none)) : scr K a o xs b = none := if_neg h
theorem scr_some {K : PySem.W.Frag} {a b : Addr} {o : Obj} {xs : List V} {u : HO} (h : scr K a o xs b = some u) : b = a ∧ K.lookup a = none ∧ u = .frz o (.lst xs) := by
  unfold scr at h
  split at h
  · rename_i y
    cases h
    exact ⟨y.1, y.2, rfl⟩
  · cases h
theorem top_call {P : Program} {w : World} {K : PySem.W.Frag} {mg mb : Str → Option Value} {f a : Addr} {fd : FuncData} {x : Str} {s : Shared} {vs : List Value} {ns : List Int}
    (KX : K.In s.heap) (glob : s.heap.Ns mainGlobals mg) (blt : s.heap.Ns builtinsNs mb) (bb : ∀ x : Str, x ≠ "__name__" → mb x = bootBuiltins x) (lim : s.heap.NoLimit) (gens : s.gens = #[])
    (obj : s.heap.get? a = some { cls := .type "list", data := .seq vs.toArray }) (nums : IntsAre vs ns) (size : ns.length ≤ 63)
    (F : ∀ base : Heap, K.In base → base.Ns mainGlobals mg → TopOk P w K mg base f fd [x] (spLaw K)) (bind : ∀ (s : Shared) (u : Value), BindsTo s fd ⟨[u], []⟩ [(x, u)]) :
    codeAny (model P w) callerA (.call (.ref f) ⟨[.ref a], []⟩) (fun r s' => r = .ok (.ret (.bool true)) ∧ OldK s.heap s'.heap ∧ s'.os = s.os ∧ AllBare s'.gens) s := by
  let o : Obj := { cls := .type "list", data := .seq vs.toArray }
  let H := scr K a o (ns.map V.int)
  have hl : vs.length = ns.length := nums.length
  have sz : ns.length ≤ sizeLine := Nat.le_trans size (by decide)
  have sql : SqL K H a (ns.map V.int) := by
    cases hk : K.lookup a with
    | none => exact .inl (.inr ⟨o, if_pos ⟨rfl, hk⟩⟩)
    | some o' =>
      have e := KX a o' hk
      rw [obj] at e
      cases e
      exact .inr ⟨_, vs.toArray, _, hk, rfl, rfl, rfl, by simpa [hl] using sz, by simpa using vals_ints nums⟩
  have ok : HOk P w H s.heap := fun b u e => by
    obtain ⟨rfl, _, rfl⟩ := scr_some e
    exact ⟨obj, by simpa using sz, vs, _, vals_ints nums, obj⟩
  -- what a module's thing is stays in the base
  have stay : ∀ {b : Addr} {u : Obj}, s.heap.get? b = some u → (b = a → K.lookup a ≠ none ∨ ∃ es n, u.data = .dict es n) → (hidT s.heap H).get? b = some u := fun {b u} e n => hidT_get e (scr_none fun ⟨y1, y2⟩ => by
    rcases n y1 with z | ⟨es, m, z⟩
    · exact z y2
    · subst y1
      rw [obj] at e
      cases e
      cases z)
  have names : ∀ {b : Addr} {m : Str → Option Value}, s.heap.Ns b m → (hidT s.heap H).Ns b m := fun ⟨u, es, n, e, d, r⟩ => ⟨u, es, n, stay e fun _ => .inr ⟨es, n, d⟩, d, r⟩
  have kin : K.In (hidT s.heap H) := fun b u e => stay (KX b u e) fun y => .inl (by subst y; rw [e]; simp)
  have mod : Mod K mg (hidT s.heap H) := ⟨kin, names glob, ⟨mb, names blt, bb⟩, by obtain ⟨m, h1, h2⟩ := lim; exact ⟨m, names h1, h2⟩⟩
  have en : Env0 P w K mg (hidT s.heap H) callerA [] s H := ⟨rfl, mod, fun b u e => of_hidT e, (by rw [hidT_size]; exact Nat.le_refl _), trivial, (fun b hb => by cases hb), ok, .of_eq gens⟩
  refine codeAny_mono (F _ kin (names glob) s H [.ref a] [.ref a] (fun v _ => v = .bl true) (fun _ _ _ => False) en (bind s _) (.cons rfl .nil) ⟨a, ns, rfl, sql, size, fun _ => rfl⟩) ?_
  rintro (e | fl) s' q
  · obtain ⟨_, _, _, _, _, _, _, _, _, _, _, _, z⟩ := q
    exact False.elim z
  · cases fl with
    | next => exact False.elim q
    | brk => exact False.elim q
    | cont => exact False.elim q
    | ret u =>
      obtain ⟨v, H', os, bare, un, ok', rel, rfl⟩ := q
      obtain rfl : u = .bool true := rel
      refine ⟨rfl, OldK.of_keep fun b u e => ?_, os, bare⟩
      cases hb : H b with
      | none => exact un.keep b u e hb (by rintro ⟨⟩) (by simp)
      | some t =>
        obtain ⟨rfl, _, rfl⟩ := scr_some hb
        rw [obj] at e
        cases e
        exact (ok' _ _ (un.frzs b o _ hb)).1
theorem walkG {l : PySem.W.OpenLaw} {q : Program} {loose : List Str} {XP : (Str → Option Value) → Heap → Prop} {YP : World → Heap → Prop} {d : DefRec} {K : Params → PySem.W.Frag} (hn : l.most = some 63) (hdf : d.params.defaults = [])
    (hY : ∀ (w : World) (h : Heap), YP w h → (K w.params).In h)
    (F : ∀ (w : World) (mg : Str → Option Value) (fa : Addr) (h : Heap), (K w.params).In h → h.Ns mainGlobals mg → mg d.name = some (.ref fa) →
      ∃ fd : FuncData, (∀ (s : Shared) (u : Value), BindsTo s fd ⟨[u], []⟩ [("_law_script", u)]) ∧ ∀ base : Heap, (K w.params).In base → base.Ns mainGlobals mg → TopOk l.prog w (K w.params) mg base fa fd ["_law_script"] (spLaw (K w.params))) :
    PySem.W.WalkO q loose XP YP l.row.toRowW d [] (fun f vs => PySem.call f vs) := by
  refine Att.attach_call hn hdf fun w _ s mg mb fa _ _ _ _ a vs ns G Y _ _ _ hmg obj nums size gens => ?_
  obtain ⟨fd, bind, T⟩ := F w mg fa _ (hY w _ Y) G.T.g hmg
  exact top_call (hY w _ Y) G.T.g G.T.b G.T.builtins G.T.nolimit gens obj nums size T bind
end Vi

namespace K07
open PySem L2 Vi PySem.Spec PyProof.Rows

def inCls (s : Stmt) (j : Nat) : Stmt := match s with
  | .ClassDef (body := b) .. => b.getD j (.Pass ⟨0, 0, 0, 0⟩)
  | _ => .Pass ⟨0, 0, 0, 0⟩
def top (i : Nat) : Stmt := PySem.Challenge.pw_anytext_k07_machines.main.body.getD i (.Pass ⟨0, 0, 0, 0⟩)
/-- subTab[j][C]: the class C is one of the class j -/
def subTab : List (List Bool) := [[true, true, true, true, true], [false, true, true, true, false], [false, false, true, false, false], [false, false, false, true, false], [false, false, false, false, true]]
def nErr : Nat := 5
def fldT : Nat → List Str := fun i => [[], [], [], [], [], [("letters" : Str), ("accepting" : Str), ("table" : Str)]].getD i []
def subE (j C : Nat) : Option Bool := (subTab[j]?).bind fun r => r[C]?
def subsE (js : List Nat) (C : Nat) : Option Bool := if C < nErr then some (js.any fun j => subE j C == some true) else none
def allE (C : Nat) : Option Bool := if C < nErr then some true else none
def fam (C : Nat) : Bool := decide (C < nErr)
def errNm (j : Nat) : Option Str := [("AnytextError" : Str), ("MachineError" : Str), ("BadMachine" : Str), ("BadRewriter" : Str), ("ProgramError" : Str)][j]?
/-! _law_cell: slots _law_script, _law_k -/
abbrev st__law_cell : Stmt := top 9
theorem sc__law_cell : FnScope ["_law_script", "_law_k"] ["_law_script", "_law_k"] (defScope st__law_cell) := ⟨rfl, rfl, rfl, by decide +kernel, rfl, by decide +kernel, by decide +kernel⟩
/-! _law_numbers: slots _law_cell_here, _law_many, _law_rest, _law_whole, _law_numbers_here, _law_k, _law_mixed -/
abbrev st__law_numbers : Stmt := top 10
theorem sc__law_numbers : FnScope ["_law_cell_here", "_law_many", "_law_rest", "_law_whole", "_law_numbers_here", "_law_k", "_law_mixed"] ["_law_cell_here", "_law_many"] (defScope st__law_numbers) := ⟨rfl, rfl, rfl, by decide +kernel, rfl, by decide +kernel, by decide +kernel⟩
/-! _law_state: slots _law_script, _law_start, _law_many, _law_numbers_here, _law_k, _law_cell_here -/
abbrev st__law_state : Stmt := top 11
theorem sc__law_state : FnScope ["_law_script", "_law_start", "_law_many", "_law_numbers_here", "_law_k", "_law_cell_here"] ["_law_script", "_law_start", "_law_many"] (defScope st__law_state) := ⟨rfl, rfl, rfl, by decide +kernel, rfl, by decide +kernel, by decide +kernel⟩
/-! _law_next: slots _law_state_here, _law_many, _law_numbers_here, _law_place -/
abbrev st__law_next : Stmt := top 12
theorem sc__law_next : FnScope ["_law_state_here", "_law_many", "_law_numbers_here", "_law_place"] ["_law_state_here", "_law_many"] (defScope st__law_next) := ⟨rfl, rfl, rfl, by decide +kernel, rfl, by decide +kernel, by decide +kernel⟩
/-! _law_letters: slots _law_state_here, _law_most, _law_pool, _law_letters_here, _law_k, _law_letter -/
abbrev st__law_letters : Stmt := top 13
theorem sc__law_letters : FnScope ["_law_state_here", "_law_most", "_law_pool", "_law_letters_here", "_law_k", "_law_letter"] ["_law_state_here", "_law_most"] (defScope st__law_letters) := ⟨rfl, rfl, rfl, by decide +kernel, rfl, by decide +kernel, by decide +kernel⟩
/-! Machine._is_whole: slots self, many, row, state -/
abbrev st_Machine__is_whole : Stmt := inCls (top 7) 1
theorem sc_Machine__is_whole : FnScope ["self", "many", "row", "state"] ["self"] (defScope st_Machine__is_whole) := ⟨rfl, rfl, rfl, by decide +kernel, rfl, by decide +kernel, by decide +kernel⟩
/-! Machine.__init__: slots self, letters, accepting, table, row -/
abbrev st_Machine___init__ : Stmt := inCls (top 7) 0
theorem sc_Machine___init__ : FnScope ["self", "letters", "accepting", "table", "row"] ["self", "letters", "accepting", "table"] (defScope st_Machine___init__) := ⟨rfl, rfl, rfl, by decide +kernel, rfl, by decide +kernel, by decide +kernel⟩
/-! _law_made: slots _law_letters_here, _law_accepting, _law_table, e -/
abbrev st__law_made : Stmt := top 14
theorem sc__law_made : FnScope ["_law_letters_here", "_law_accepting", "_law_table", "e"] ["_law_letters_here", "_law_accepting", "_law_table"] (defScope st__law_made) := ⟨rfl, rfl, rfl, by decide +kernel, rfl, by decide +kernel, by decide +kernel⟩
/-! _law_faulty: slots _law_letters_here, _law_accepting, _law_table, _law_state_here, _law_kind, _law_rows, _law_row, _law_at, _law_place -/
abbrev st__law_faulty : Stmt := top 15
theorem sc__law_faulty : FnScope ["_law_letters_here", "_law_accepting", "_law_table", "_law_state_here", "_law_kind", "_law_rows", "_law_row", "_law_at", "_law_place"] ["_law_letters_here", "_law_accepting", "_law_table", "_law_state_here"] (defScope st__law_faulty) := ⟨rfl, rfl, rfl, by decide +kernel, rfl, by decide +kernel, by decide +kernel⟩
/-! Machine.run: slots self, text, state, letter -/
abbrev st_Machine_run : Stmt := inCls (top 7) 2
theorem sc_Machine_run : FnScope ["self", "text", "state", "letter"] ["self", "text"] (defScope st_Machine_run) := ⟨rfl, rfl, rfl, by decide +kernel, rfl, by decide +kernel, by decide +kernel⟩
/-! Machine.accepts: slots self, text -/
abbrev st_Machine_accepts : Stmt := inCls (top 7) 3
theorem sc_Machine_accepts : FnScope ["self", "text"] ["self", "text"] (defScope st_Machine_accepts) := ⟨rfl, rfl, rfl, by decide +kernel, rfl, by decide +kernel, by decide +kernel⟩
/-! _law_ring: slots _law_letters_here, _law_many, _law_step, _law_accepting, _law_k, _law_machine, _law_j, _law_text, _law_due -/
abbrev st__law_ring : Stmt := top 16
theorem sc__law_ring : FnScope ["_law_letters_here", "_law_many", "_law_step", "_law_accepting", "_law_k", "_law_machine", "_law_j", "_law_text", "_law_due"] ["_law_letters_here", "_law_many", "_law_step"] (defScope st__law_ring) := ⟨rfl, rfl, rfl, by decide +kernel, rfl, by decide +kernel, by decide +kernel⟩
/-! Machine.picture: slots self -/
abbrev st_Machine_picture : Stmt := inCls (top 7) 4
theorem sc_Machine_picture : FnScope ["self"] ["self"] (defScope st_Machine_picture) := ⟨rfl, rfl, rfl, by decide +kernel, rfl, by decide +kernel, by decide +kernel⟩
/-! law: slots _law_script, _law_state_here, _law_letters_here, _law_many, _law_accepting, _law_k, _law_table, _law_letter, _law_passed, _law_rows, _law_row, _law_machine, _law_twin, _law_due, _law_text, _law_at, _law_j, _law_shown -/
abbrev st_law : Stmt := top 17
theorem sc_law : FnScope ["_law_script", "_law_state_here", "_law_letters_here", "_law_many", "_law_accepting", "_law_k", "_law_table", "_law_letter", "_law_passed", "_law_rows", "_law_row", "_law_machine", "_law_twin", "_law_due", "_law_text", "_law_at", "_law_j", "_law_shown"] ["_law_script"] (defScope st_law) := ⟨rfl, rfl, rfl, by decide +kernel, rfl, by decide +kernel, by decide +kernel⟩
/-! ### what all laws share: cells, numbers, the state of the draws -/
theorem atI_ok {α : Type} {xs : List α} {i : Int} (h0 : 0 ≤ i) (h1 : i < xs.length) : ∃ x, atI xs i = some x ∧ xs[i.toNat]? = some x := by
  unfold atI ixN
  rw [if_pos h0, if_pos h1]
  have hl : i.toNat < xs.length := by omega
  exact ⟨xs[i.toNat], by simp [hl], List.getElem?_eq_getElem hl⟩
theorem if_d {p : Prop} [Decidable p] {A B : Prop} (h1 : p → A) (h2 : ¬ p → B) : if decide p = true then A else B := by
  by_cases h : p
  · rw [if_pos (decide_eq_true h)]; exact h1 h
  · rw [if_neg (by simpa using h)]; exact h2 h
theorem if_b {b : Bool} {A B : Prop} (h1 : b = true → A) (h2 : b = false → B) : if b = true then A else B := by
  cases b with
  | true => exact h1 rfl
  | false => exact h2 rfl
theorem atI_ints {ns : List Int} {i : Int} (h0 : 0 ≤ i) (h1 : i < ns.length) : ∃ v : Int, atI (ns.map D.int) i = some (.int v) ∧ v ∈ ns := by
  obtain ⟨x, h2, h3⟩ := atI_ok (xs := ns.map D.int) h0 (by simpa using h1)
  rw [List.getElem?_map] at h3
  cases e : ns[i.toNat]? with
  | none => rw [e] at h3; cases h3
  | some v => rw [e] at h3; cases h3; exact ⟨v, h2, List.mem_of_getElem? e⟩
def S__law_cell : FS := fun args K => ∃ (ns : List Int) (k : Int), args = [.klst (ns.map .int), .int k] ∧ 0 ≤ k ∧ ∀ v posts, posts.length = 2 → K (.ok (.int v)) posts
def b__law_cell : DS :=
  dSeq (dIfS (dB (d2 oLt (dPk 1) (dO (dBI oLen (dCons (dPk 0) (dNil)))))) (dRet (dFr (d2 oIx (dPk 0) (dPk 1)))) (dSkip))
  (dRet (dFr (dC (.int 0))))
theorem p__law_cell : ∀ args K', args.length = 2 → S__law_cell args K' → b__law_cell (args ++ List.replicate 0 .und) (endK 2 K') := by
  rintro args K' - ⟨ns, k, rfl, h0, kk⟩
  show b__law_cell [.klst (ns.map .int), .int k] _
  unfold b__law_cell
  simp only [↓dSeq, ↓dIfS, ↓dRet, ↓dRetN, ↓dSkip, ↓dBrk, ↓dCnt, ↓dPk, ↓dC, ↓dO, ↓d2, ↓dNotT, ↓dAndT, ↓dOrT, ↓dIf, ↓dNil, ↓dCons, ↓dNilL, ↓dConsL, ↓dTup, ↓dLst, ↓dBI, ↓dOwnL, ↓dCall, ↓dRng1, ↓dRng2, ↓dFor, ↓dRaise, ↓dRaise0, ↓dPn, ↓dYes, ↓dLc, ↓dExp, ↓onOk_ok, ↓onOk_exc, ↓onFl_ok, ↓onFl_exc, gt0, gtS, Vi.frs, fr_non, own_non, own_und, nz_non, fr_bl, own_bl, nz_bl, fr_int, own_int, nz_int, fr_str, own_str, nz_str, fr_tup, own_tup, nz_tup, fr_lst, own_lst, nz_lst, fr_klst, own_klst, nz_klst, fr_dic, own_dic, nz_dic, fr_ins, own_ins, nz_ins, fr_exo, own_exo, nz_exo, fr_fn, own_fn, nz_fn, eqD_ii, eqD_ss, eqD_bb, eqD_nn, eqD_sn, eqD_ns, eqD_ll, eqD_tt, eqDs_nn, eqDs_cn, eqDs_nc, eqDs_cc, shp_i, shp_b, shp_n, shp_s, shp_l, shp_t, shps_n, shps_c, id_eq, ↓dTry, ↓dIs_eq, ↓dWhat_eq, endT_rt, endT_nx, oEq, oIsN, isN, ↓endK_rt, ↓endK_nx, ↓endK_exc, ↓turnK_nx, ↓turnK_ct, ↓turnK_bk, ↓turnK_rt, ↓turnK_exc, List.set_cons_zero, List.set_cons_succ, List.all_cons, List.all_nil, List.map_cons, List.map_nil, Bool.and_true, Bool.and_self, Bool.true_and, Bool.not_true, Bool.not_false, true_and, and_true, List.take_succ_cons, List.take_zero, List.cons_append, List.nil_append, Bool.false_eq_true, if_false, if_true, ite_false, ite_true, wb_n, wb_sl, wb_vc, wb_vn, wb_v1, wb_v2, wb_v3, wb_v4, wb_v5, wb_v6, unb, reb, List.length_cons, List.length_nil, ↓dVar_r, ↓dFr_r, ↓dSet_r, ↓dgN_r, ↓dPut_r, ↓dApp_r, ↓dB_r, ↓dAndV_r, ↓dOrV_r, ↓dNotV_r, ↓dChn_r, ↓dSl_r, ↓dLenSet_r, ↓dItS_r, ↓dItL_r, ↓dItT_r, ↓dPs_r, eAt_c, exF_ok, putK_li, appK_l, blK_b, slK_s, slK_l, oIx_l, oIx_k, oIx_t, oIx_s, oAll_m, stK_b, seqK_l, seqK_k, tupK_t, inK_b, dAt_non, dAt_bl, dAt_int, dAt_str, dAt_tup, dAt_lst, dAt_klst, dAt_dic, dAt_ins, dAt_exo, dAt_fn, dAt_und, oAdd_ii, oAdd_ss, oAdd_ll, oAdd_tt, oOrd_ii, oOrd_ss, oInS_r, oInt_r, oInt0_r, oLen_l, oLen_k, oLen_t, oLen_s, oAbs_r, oInt1_i, oInt1_b, oReprB_r, int1_r, int2_r, isLst_l, see_v, see_s, sea_v, sea_s, ↓dIdx, ↓dFld, ↓dFset, ↓dJoin, ↓dListOf, ↓dMeth, ↓dMake_r, ↓dAsgG, ↓dLcN, ↓dLc2, idxK_ss, isStr_s, fldK_0, fldK_S, fsetK_r, isIns_i, dgTup_t, dgSeq_l, dgSeq_k, dgCons_c, dgNil_n, rowK_l, rowK_k, rowK_t, oTup_l, oTup_k, oTup_t, ↓dLoan_r, lnK_ok, lnK_exc, lnE_t, lnE_f, lnE_n, olE_c, olE_n, Bool.true_or, Bool.or_true, Bool.false_or, lf_non, lf_bl, lf_int, lf_str, lf_tup, lf_ins, lfs_n, lfs_c, fr2_l, ol_l, ↓dNeg, ngK_i, oRepS_r, ↓dApp2, ↓dPop2, ↓dPut2, sbK_l, opApp, opPop, opPut, ↓dAppSelf, ↓dAsg3, ↓dTru, truK_b, truK_l, ↓dExt, extK_l, oMin2_r, oIsB_r, ↓dSortSet, ↓dReprT, oEqS_r, ↓dCat, catK_l, ↓dItV, itK_s, itK_t, itK_l, itK_k, ↓dDisp1_r, tkK_ii, ↓dDget, ↓dDin, ↓dDput, dkK_tr, dkK_oi, dkK_os, dputK_t, dputK_oi, dputK_os]
  refine if_d (fun h => ?_) fun _ => kk _ _ rfl
  obtain ⟨v, h2, _⟩ := atI_ints h0 (by simpa using h)
  exact atD_of h2 rfl (kk _ _ rfl)
def S__law_numbers : FS := fun args K => ∃ (c : Int) (m : Int), args = [.int c, .int m] ∧ 0 ≤ m ∧ m ≤ 1000 ∧ ∀ (nums : List Int) posts, nums.length = m.toNat → posts.length = 2 → K (.ok (.lst false (nums.map .int))) posts
def b__law_numbers : DS :=
  dSeq (dSet 2 (dFr (dBI oAbs (dCons (dPk 0) (dNil)))))
  (dSeq (dSet 3 (dFr (dVar 2)))
  (dSeq (dSet 4 (dOwnL (dNilL)))
  (dSeq (dFor (dRng1 (dConsL (dVar 1) (dNilL))) (dgN 5) (dIfS (dAndT (dB (d2 oGe (dPk 3) (dO (d2 (oInt CPow gPow) (dO (dC (.int 10))) (dO (dC (.int 18))))))) (dB (d2 oGt (dPk 2) (dO (dC (.int 0)))))) (dSeq (dApp 4 (dFr (d2 (oInt cMod gMod) (dO (dBI oInt1 (dCons (dPk 2) (dNil)))) (dO (dC (.int 1000))))))
  (dSet 2 (dFr (d2 (oInt CDiv gDiv) (dPk 2) (dO (dC (.int 1000))))))) (dSeq (dSet 6 (dFr (d2 (oInt cMod gMod) (dO (dBI oInt1 (dCons (dO (d2 oAdd (dO (d2 oAdd (dO (d2 (oInt CMul gMul) (dPk 3) (dO (dC (.int 48271))))) (dO (d2 (oInt CMul gMul) (dPk 5) (dO (dC (.int 69621))))))) (dO (dC (.int 11))))) (dNil)))) (dO (dC (.int 2147483647))))))
  (dSeq (dSet 6 (dFr (d2 (oInt cMod gMod) (dO (dBI oInt1 (dCons (dO (d2 oAdd (dO (d2 oAdd (dO (d2 (oInt CMul gMul) (dPk 6) (dPk 6))) (dO (d2 (oInt CMul gMul) (dO (dC (.int 40692))) (dPk 5))))) (dO (dC (.int 3))))) (dNil)))) (dO (dC (.int 2147483629))))))
  (dApp 4 (dFr (d2 (oInt cMod gMod) (dO (dBI oInt1 (dCons (dO (d2 (oInt CDiv gDiv) (dPk 6) (dO (dC (.int 7))))) (dNil)))) (dO (dC (.int 1000))))))))))
  (dRet (dFr (dVar 4))))))
theorem p__law_numbers : ∀ args K', args.length = 2 → S__law_numbers args K' → b__law_numbers (args ++ List.replicate 5 .und) (endK 2 K') := by
  rintro args K' - ⟨c, m, rfl, h0, h1, kk⟩
  show b__law_numbers [.int c, .int m, .und, .und, .und, .und, .und] _
  unfold b__law_numbers
  simp only [↓dSeq, ↓dIfS, ↓dRet, ↓dRetN, ↓dSkip, ↓dBrk, ↓dCnt, ↓dPk, ↓dC, ↓dO, ↓d2, ↓dNotT, ↓dAndT, ↓dOrT, ↓dIf, ↓dNil, ↓dCons, ↓dNilL, ↓dConsL, ↓dTup, ↓dLst, ↓dBI, ↓dOwnL, ↓dCall, ↓dRng1, ↓dRng2, ↓dFor, ↓dRaise, ↓dRaise0, ↓dPn, ↓dYes, ↓dLc, ↓dExp, ↓onOk_ok, ↓onOk_exc, ↓onFl_ok, ↓onFl_exc, gt0, gtS, Vi.frs, fr_non, own_non, own_und, nz_non, fr_bl, own_bl, nz_bl, fr_int, own_int, nz_int, fr_str, own_str, nz_str, fr_tup, own_tup, nz_tup, fr_lst, own_lst, nz_lst, fr_klst, own_klst, nz_klst, fr_dic, own_dic, nz_dic, fr_ins, own_ins, nz_ins, fr_exo, own_exo, nz_exo, fr_fn, own_fn, nz_fn, eqD_ii, eqD_ss, eqD_bb, eqD_nn, eqD_sn, eqD_ns, eqD_ll, eqD_tt, eqDs_nn, eqDs_cn, eqDs_nc, eqDs_cc, shp_i, shp_b, shp_n, shp_s, shp_l, shp_t, shps_n, shps_c, id_eq, ↓dTry, ↓dIs_eq, ↓dWhat_eq, endT_rt, endT_nx, oEq, oIsN, isN, ↓endK_rt, ↓endK_nx, ↓endK_exc, ↓turnK_nx, ↓turnK_ct, ↓turnK_bk, ↓turnK_rt, ↓turnK_exc, List.set_cons_zero, List.set_cons_succ, List.all_cons, List.all_nil, List.map_cons, List.map_nil, Bool.and_true, Bool.and_self, Bool.true_and, Bool.not_true, Bool.not_false, true_and, and_true, List.take_succ_cons, List.take_zero, List.cons_append, List.nil_append, Bool.false_eq_true, if_false, if_true, ite_false, ite_true, wb_n, wb_sl, wb_vc, wb_vn, wb_v1, wb_v2, wb_v3, wb_v4, wb_v5, wb_v6, unb, reb, List.length_cons, List.length_nil, ↓dVar_r, ↓dFr_r, ↓dSet_r, ↓dgN_r, ↓dPut_r, ↓dApp_r, ↓dB_r, ↓dAndV_r, ↓dOrV_r, ↓dNotV_r, ↓dChn_r, ↓dSl_r, ↓dLenSet_r, ↓dItS_r, ↓dItL_r, ↓dItT_r, ↓dPs_r, eAt_c, exF_ok, putK_li, appK_l, blK_b, slK_s, slK_l, oIx_l, oIx_k, oIx_t, oIx_s, oAll_m, stK_b, seqK_l, seqK_k, tupK_t, inK_b, dAt_non, dAt_bl, dAt_int, dAt_str, dAt_tup, dAt_lst, dAt_klst, dAt_dic, dAt_ins, dAt_exo, dAt_fn, dAt_und, oAdd_ii, oAdd_ss, oAdd_ll, oAdd_tt, oOrd_ii, oOrd_ss, oInS_r, oInt_r, oInt0_r, oLen_l, oLen_k, oLen_t, oLen_s, oAbs_r, oInt1_i, oInt1_b, oReprB_r, int1_r, int2_r, isLst_l, see_v, see_s, sea_v, sea_s, ↓dIdx, ↓dFld, ↓dFset, ↓dJoin, ↓dListOf, ↓dMeth, ↓dMake_r, ↓dAsgG, ↓dLcN, ↓dLc2, idxK_ss, isStr_s, fldK_0, fldK_S, fsetK_r, isIns_i, dgTup_t, dgSeq_l, dgSeq_k, dgCons_c, dgNil_n, rowK_l, rowK_k, rowK_t, oTup_l, oTup_k, oTup_t, ↓dLoan_r, lnK_ok, lnK_exc, lnE_t, lnE_f, lnE_n, olE_c, olE_n, Bool.true_or, Bool.or_true, Bool.false_or, lf_non, lf_bl, lf_int, lf_str, lf_tup, lf_ins, lfs_n, lfs_c, fr2_l, ol_l, ↓dNeg, ngK_i, oRepS_r, ↓dApp2, ↓dPop2, ↓dPut2, sbK_l, opApp, opPop, opPut, ↓dAppSelf, ↓dAsg3, ↓dTru, truK_b, truK_l, ↓dExt, extK_l, oMin2_r, oIsB_r, ↓dSortSet, ↓dReprT, oEqS_r, ↓dCat, catK_l, ↓dItV, itK_s, itK_t, itK_l, itK_k, ↓dDisp1_r, tkK_ii, ↓dDget, ↓dDin, ↓dDput, dkK_tr, dkK_oi, dkK_os, dputK_t, dputK_oi, dputK_os]
  refine ⟨by decide, ⟨by omega, by omega⟩, ?_⟩
  generalize (if c < 0 then -c else c) = whole
  refine for_dn (fun i ρ => ∃ (rest : Int) (nums : List Int) (x y : D), ρ = [.int c, .int m, .int rest, .int whole, .lst true (nums.map .int), x, y] ∧ nums.length = i) ⟨whole, [], .und, .und, rfl, rfl⟩ ?_ ?_
  · rintro i d ρ N hd ⟨rest, nums, x, y, rfl, hl⟩ kN
    obtain ⟨hi, rfl⟩ := rngD_get hd
    have hl2 : nums.length < 1000000 := by omega
    simp only [↓dSeq, ↓dIfS, ↓dRet, ↓dRetN, ↓dSkip, ↓dBrk, ↓dCnt, ↓dPk, ↓dC, ↓dO, ↓d2, ↓dNotT, ↓dAndT, ↓dOrT, ↓dIf, ↓dNil, ↓dCons, ↓dNilL, ↓dConsL, ↓dTup, ↓dLst, ↓dBI, ↓dOwnL, ↓dCall, ↓dRng1, ↓dRng2, ↓dFor, ↓dRaise, ↓dRaise0, ↓dPn, ↓dYes, ↓dLc, ↓dExp, ↓onOk_ok, ↓onOk_exc, ↓onFl_ok, ↓onFl_exc, gt0, gtS, Vi.frs, fr_non, own_non, own_und, nz_non, fr_bl, own_bl, nz_bl, fr_int, own_int, nz_int, fr_str, own_str, nz_str, fr_tup, own_tup, nz_tup, fr_lst, own_lst, nz_lst, fr_klst, own_klst, nz_klst, fr_dic, own_dic, nz_dic, fr_ins, own_ins, nz_ins, fr_exo, own_exo, nz_exo, fr_fn, own_fn, nz_fn, eqD_ii, eqD_ss, eqD_bb, eqD_nn, eqD_sn, eqD_ns, eqD_ll, eqD_tt, eqDs_nn, eqDs_cn, eqDs_nc, eqDs_cc, shp_i, shp_b, shp_n, shp_s, shp_l, shp_t, shps_n, shps_c, id_eq, ↓dTry, ↓dIs_eq, ↓dWhat_eq, endT_rt, endT_nx, oEq, oIsN, isN, ↓endK_rt, ↓endK_nx, ↓endK_exc, ↓turnK_nx, ↓turnK_ct, ↓turnK_bk, ↓turnK_rt, ↓turnK_exc, List.set_cons_zero, List.set_cons_succ, List.all_cons, List.all_nil, List.map_cons, List.map_nil, Bool.and_true, Bool.and_self, Bool.true_and, Bool.not_true, Bool.not_false, true_and, and_true, List.take_succ_cons, List.take_zero, List.cons_append, List.nil_append, Bool.false_eq_true, if_false, if_true, ite_false, ite_true, wb_n, wb_sl, wb_vc, wb_vn, wb_v1, wb_v2, wb_v3, wb_v4, wb_v5, wb_v6, unb, reb, List.length_cons, List.length_nil, ↓dVar_r, ↓dFr_r, ↓dSet_r, ↓dgN_r, ↓dPut_r, ↓dApp_r, ↓dB_r, ↓dAndV_r, ↓dOrV_r, ↓dNotV_r, ↓dChn_r, ↓dSl_r, ↓dLenSet_r, ↓dItS_r, ↓dItL_r, ↓dItT_r, ↓dPs_r, eAt_c, exF_ok, putK_li, appK_l, blK_b, slK_s, slK_l, oIx_l, oIx_k, oIx_t, oIx_s, oAll_m, stK_b, seqK_l, seqK_k, tupK_t, inK_b, dAt_non, dAt_bl, dAt_int, dAt_str, dAt_tup, dAt_lst, dAt_klst, dAt_dic, dAt_ins, dAt_exo, dAt_fn, dAt_und, oAdd_ii, oAdd_ss, oAdd_ll, oAdd_tt, oOrd_ii, oOrd_ss, oInS_r, oInt_r, oInt0_r, oLen_l, oLen_k, oLen_t, oLen_s, oAbs_r, oInt1_i, oInt1_b, oReprB_r, int1_r, int2_r, isLst_l, see_v, see_s, sea_v, sea_s, ↓dIdx, ↓dFld, ↓dFset, ↓dJoin, ↓dListOf, ↓dMeth, ↓dMake_r, ↓dAsgG, ↓dLcN, ↓dLc2, idxK_ss, isStr_s, fldK_0, fldK_S, fsetK_r, isIns_i, dgTup_t, dgSeq_l, dgSeq_k, dgCons_c, dgNil_n, rowK_l, rowK_k, rowK_t, oTup_l, oTup_k, oTup_t, ↓dLoan_r, lnK_ok, lnK_exc, lnE_t, lnE_f, lnE_n, olE_c, olE_n, Bool.true_or, Bool.or_true, Bool.false_or, lf_non, lf_bl, lf_int, lf_str, lf_tup, lf_ins, lfs_n, lfs_c, fr2_l, ol_l, ↓dNeg, ngK_i, oRepS_r, ↓dApp2, ↓dPop2, ↓dPut2, sbK_l, opApp, opPop, opPut, ↓dAppSelf, ↓dAsg3, ↓dTru, truK_b, truK_l, ↓dExt, extK_l, oMin2_r, oIsB_r, ↓dSortSet, ↓dReprT, oEqS_r, ↓dCat, catK_l, ↓dItV, itK_s, itK_t, itK_l, itK_k, ↓dDisp1_r, tkK_ii, ↓dDget, ↓dDin, ↓dDput, dkK_tr, dkK_oi, dkK_os, dputK_t, dputK_oi, dputK_os]
    have e2 : ∀ v : Int, List.map D.int nums ++ [D.int v] = (nums ++ [v]).map D.int := fun v => by simp
    have l2 : ∀ v : Int, (nums ++ [v]).length = i + 1 := fun v => by simp [hl]
    have l3 : (List.map D.int nums).length < 1000000 := by simpa using hl2
    have mixed : CMul whole 48271 ∧ CMul (0 + (i : Int)) 69621 ∧ cMod (whole * 48271 + (0 + (i : Int)) * 69621 + 11) 2147483647 := ⟨.inr ⟨by decide, by decide⟩, .inr ⟨by decide, by decide⟩, by show (0 : Int) < 2147483647; decide⟩
    have more : ∀ z : Int, CMul (z % 2147483647) (z % 2147483647) := fun z => .inl ⟨by omega, by omega⟩
    refine ⟨⟨by decide, by decide, by decide⟩, ?_⟩
    rw [e2, e2]
    refine if_d (fun _ => if_d (fun _ => ⟨by show (0 : Int) < 1000; decide, l3, ⟨by decide, by decide⟩, kN _ ⟨_, _, _, _, rfl, l2 _⟩⟩) fun _ => ?_) fun _ => ?_
    all_goals exact ⟨mixed.1, mixed.2.1, mixed.2.2, more _, .inl ⟨by decide, by decide⟩, by show (0 : Int) < 2147483629; decide, ⟨by decide, by decide⟩, by show (0 : Int) < 1000; decide, l3, kN _ ⟨_, _, _, _, rfl, l2 _⟩⟩
  · rintro ρ ⟨rest, nums, x, y, rfl, hl⟩
    rw [rngD_len] at hl
    simp only [↓dSeq, ↓dIfS, ↓dRet, ↓dRetN, ↓dSkip, ↓dBrk, ↓dCnt, ↓dPk, ↓dC, ↓dO, ↓d2, ↓dNotT, ↓dAndT, ↓dOrT, ↓dIf, ↓dNil, ↓dCons, ↓dNilL, ↓dConsL, ↓dTup, ↓dLst, ↓dBI, ↓dOwnL, ↓dCall, ↓dRng1, ↓dRng2, ↓dFor, ↓dRaise, ↓dRaise0, ↓dPn, ↓dYes, ↓dLc, ↓dExp, ↓onOk_ok, ↓onOk_exc, ↓onFl_ok, ↓onFl_exc, gt0, gtS, Vi.frs, fr_non, own_non, own_und, nz_non, fr_bl, own_bl, nz_bl, fr_int, own_int, nz_int, fr_str, own_str, nz_str, fr_tup, own_tup, nz_tup, fr_lst, own_lst, nz_lst, fr_klst, own_klst, nz_klst, fr_dic, own_dic, nz_dic, fr_ins, own_ins, nz_ins, fr_exo, own_exo, nz_exo, fr_fn, own_fn, nz_fn, eqD_ii, eqD_ss, eqD_bb, eqD_nn, eqD_sn, eqD_ns, eqD_ll, eqD_tt, eqDs_nn, eqDs_cn, eqDs_nc, eqDs_cc, shp_i, shp_b, shp_n, shp_s, shp_l, shp_t, shps_n, shps_c, id_eq, ↓dTry, ↓dIs_eq, ↓dWhat_eq, endT_rt, endT_nx, oEq, oIsN, isN, ↓endK_rt, ↓endK_nx, ↓endK_exc, ↓turnK_nx, ↓turnK_ct, ↓turnK_bk, ↓turnK_rt, ↓turnK_exc, List.set_cons_zero, List.set_cons_succ, List.all_cons, List.all_nil, List.map_cons, List.map_nil, Bool.and_true, Bool.and_self, Bool.true_and, Bool.not_true, Bool.not_false, true_and, and_true, List.take_succ_cons, List.take_zero, List.cons_append, List.nil_append, Bool.false_eq_true, if_false, if_true, ite_false, ite_true, wb_n, wb_sl, wb_vc, wb_vn, wb_v1, wb_v2, wb_v3, wb_v4, wb_v5, wb_v6, unb, reb, List.length_cons, List.length_nil, ↓dVar_r, ↓dFr_r, ↓dSet_r, ↓dgN_r, ↓dPut_r, ↓dApp_r, ↓dB_r, ↓dAndV_r, ↓dOrV_r, ↓dNotV_r, ↓dChn_r, ↓dSl_r, ↓dLenSet_r, ↓dItS_r, ↓dItL_r, ↓dItT_r, ↓dPs_r, eAt_c, exF_ok, putK_li, appK_l, blK_b, slK_s, slK_l, oIx_l, oIx_k, oIx_t, oIx_s, oAll_m, stK_b, seqK_l, seqK_k, tupK_t, inK_b, dAt_non, dAt_bl, dAt_int, dAt_str, dAt_tup, dAt_lst, dAt_klst, dAt_dic, dAt_ins, dAt_exo, dAt_fn, dAt_und, oAdd_ii, oAdd_ss, oAdd_ll, oAdd_tt, oOrd_ii, oOrd_ss, oInS_r, oInt_r, oInt0_r, oLen_l, oLen_k, oLen_t, oLen_s, oAbs_r, oInt1_i, oInt1_b, oReprB_r, int1_r, int2_r, isLst_l, see_v, see_s, sea_v, sea_s, ↓dIdx, ↓dFld, ↓dFset, ↓dJoin, ↓dListOf, ↓dMeth, ↓dMake_r, ↓dAsgG, ↓dLcN, ↓dLc2, idxK_ss, isStr_s, fldK_0, fldK_S, fsetK_r, isIns_i, dgTup_t, dgSeq_l, dgSeq_k, dgCons_c, dgNil_n, rowK_l, rowK_k, rowK_t, oTup_l, oTup_k, oTup_t, ↓dLoan_r, lnK_ok, lnK_exc, lnE_t, lnE_f, lnE_n, olE_c, olE_n, Bool.true_or, Bool.or_true, Bool.false_or, lf_non, lf_bl, lf_int, lf_str, lf_tup, lf_ins, lfs_n, lfs_c, fr2_l, ol_l, ↓dNeg, ngK_i, oRepS_r, ↓dApp2, ↓dPop2, ↓dPut2, sbK_l, opApp, opPop, opPut, ↓dAppSelf, ↓dAsg3, ↓dTru, truK_b, truK_l, ↓dExt, extK_l, oMin2_r, oIsB_r, ↓dSortSet, ↓dReprT, oEqS_r, ↓dCat, catK_l, ↓dItV, itK_s, itK_t, itK_l, itK_k, ↓dDisp1_r, tkK_ii, ↓dDget, ↓dDin, ↓dDput, dkK_tr, dkK_oi, dkK_os, dputK_t, dputK_oi, dputK_os]
    exact kk nums _ hl rfl
abbrev stD (nums : List Int) (p : Int) : D := .lst true [.lst false (nums.map .int), .int p]
def S__law_state : FS := fun args K => ∃ (ns : List Int) (s m : Int), args = [.klst (ns.map .int), .int s, .int m] ∧ 0 ≤ s ∧ s ≤ 1000 ∧ 0 ≤ m ∧ m ≤ 1000 ∧ ∀ (nums : List Int) posts, nums.length = 20 * m.toNat → posts.length = 3 → K (.ok (stD nums 0)) posts
def b__law_state : DS :=
  dSeq (dSet 3 (dOwnL (dNilL)))
  (dSeq (dFor (dRng2 (dConsL (dVar 1) (dConsL (d2 oAdd (dPk 1) (dPk 2)) (dNilL)))) (dgN 4) (dSeq (dSet 5 (dCall [] 2 S__law_cell [] (dCons (dO (dVar 0)) (dCons (dO (dVar 4)) (dNil)))))
  (dSeq (dIfS (dB (d2 oLt (dO (dBI oAbs (dCons (dPk 5) (dNil)))) (dO (d2 (oInt CPow gPow) (dO (dC (.int 10))) (dO (dC (.int 18))))))) (dSet 5 (dFr (d2 oAdd (dO (d2 (oInt CMul gMul) (dPk 5) (dO (dC (.int 61))))) (dPk 4)))) (dSkip))
  (dSet 3 (dFr (d2 oAdd (dPk 3) (dO (dFr (dCall [] 2 S__law_numbers [] (dCons (dO (dVar 5)) (dCons (dO (dC (.int 20))) (dNil))))))))))))
  (dRet (dOwnL (dConsL (dVar 3) (dConsL (dC (.int 0)) (dNilL))))))
theorem p__law_state : ∀ args K', args.length = 3 → S__law_state args K' → b__law_state (args ++ List.replicate 3 .und) (endK 3 K') := by
  rintro args K' - ⟨ns, s, m, rfl, h0, h1, h2, h3, kk⟩
  show b__law_state [.klst (ns.map .int), .int s, .int m, .und, .und, .und] _
  unfold b__law_state
  simp only [↓dSeq, ↓dIfS, ↓dRet, ↓dRetN, ↓dSkip, ↓dBrk, ↓dCnt, ↓dPk, ↓dC, ↓dO, ↓d2, ↓dNotT, ↓dAndT, ↓dOrT, ↓dIf, ↓dNil, ↓dCons, ↓dNilL, ↓dConsL, ↓dTup, ↓dLst, ↓dBI, ↓dOwnL, ↓dCall, ↓dRng1, ↓dRng2, ↓dFor, ↓dRaise, ↓dRaise0, ↓dPn, ↓dYes, ↓dLc, ↓dExp, ↓onOk_ok, ↓onOk_exc, ↓onFl_ok, ↓onFl_exc, gt0, gtS, Vi.frs, fr_non, own_non, own_und, nz_non, fr_bl, own_bl, nz_bl, fr_int, own_int, nz_int, fr_str, own_str, nz_str, fr_tup, own_tup, nz_tup, fr_lst, own_lst, nz_lst, fr_klst, own_klst, nz_klst, fr_dic, own_dic, nz_dic, fr_ins, own_ins, nz_ins, fr_exo, own_exo, nz_exo, fr_fn, own_fn, nz_fn, eqD_ii, eqD_ss, eqD_bb, eqD_nn, eqD_sn, eqD_ns, eqD_ll, eqD_tt, eqDs_nn, eqDs_cn, eqDs_nc, eqDs_cc, shp_i, shp_b, shp_n, shp_s, shp_l, shp_t, shps_n, shps_c, id_eq, ↓dTry, ↓dIs_eq, ↓dWhat_eq, endT_rt, endT_nx, oEq, oIsN, isN, ↓endK_rt, ↓endK_nx, ↓endK_exc, ↓turnK_nx, ↓turnK_ct, ↓turnK_bk, ↓turnK_rt, ↓turnK_exc, List.set_cons_zero, List.set_cons_succ, List.all_cons, List.all_nil, List.map_cons, List.map_nil, Bool.and_true, Bool.and_self, Bool.true_and, Bool.not_true, Bool.not_false, true_and, and_true, List.take_succ_cons, List.take_zero, List.cons_append, List.nil_append, Bool.false_eq_true, if_false, if_true, ite_false, ite_true, wb_n, wb_sl, wb_vc, wb_vn, wb_v1, wb_v2, wb_v3, wb_v4, wb_v5, wb_v6, unb, reb, List.length_cons, List.length_nil, ↓dVar_r, ↓dFr_r, ↓dSet_r, ↓dgN_r, ↓dPut_r, ↓dApp_r, ↓dB_r, ↓dAndV_r, ↓dOrV_r, ↓dNotV_r, ↓dChn_r, ↓dSl_r, ↓dLenSet_r, ↓dItS_r, ↓dItL_r, ↓dItT_r, ↓dPs_r, eAt_c, exF_ok, putK_li, appK_l, blK_b, slK_s, slK_l, oIx_l, oIx_k, oIx_t, oIx_s, oAll_m, stK_b, seqK_l, seqK_k, tupK_t, inK_b, dAt_non, dAt_bl, dAt_int, dAt_str, dAt_tup, dAt_lst, dAt_klst, dAt_dic, dAt_ins, dAt_exo, dAt_fn, dAt_und, oAdd_ii, oAdd_ss, oAdd_ll, oAdd_tt, oOrd_ii, oOrd_ss, oInS_r, oInt_r, oInt0_r, oLen_l, oLen_k, oLen_t, oLen_s, oAbs_r, oInt1_i, oInt1_b, oReprB_r, int1_r, int2_r, isLst_l, see_v, see_s, sea_v, sea_s, ↓dIdx, ↓dFld, ↓dFset, ↓dJoin, ↓dListOf, ↓dMeth, ↓dMake_r, ↓dAsgG, ↓dLcN, ↓dLc2, idxK_ss, isStr_s, fldK_0, fldK_S, fsetK_r, isIns_i, dgTup_t, dgSeq_l, dgSeq_k, dgCons_c, dgNil_n, rowK_l, rowK_k, rowK_t, oTup_l, oTup_k, oTup_t, ↓dLoan_r, lnK_ok, lnK_exc, lnE_t, lnE_f, lnE_n, olE_c, olE_n, Bool.true_or, Bool.or_true, Bool.false_or, lf_non, lf_bl, lf_int, lf_str, lf_tup, lf_ins, lfs_n, lfs_c, fr2_l, ol_l, ↓dNeg, ngK_i, oRepS_r, ↓dApp2, ↓dPop2, ↓dPut2, sbK_l, opApp, opPop, opPut, ↓dAppSelf, ↓dAsg3, ↓dTru, truK_b, truK_l, ↓dExt, extK_l, oMin2_r, oIsB_r, ↓dSortSet, ↓dReprT, oEqS_r, ↓dCat, catK_l, ↓dItV, itK_s, itK_t, itK_l, itK_k, ↓dDisp1_r, tkK_ii, ↓dDget, ↓dDin, ↓dDput, dkK_tr, dkK_oi, dkK_os, dputK_t, dputK_oi, dputK_os]
  refine ⟨by decide, ⟨by omega, by omega⟩, ⟨by omega, by omega⟩, ?_⟩
  have ek : (s + m - s).toNat = m.toNat := by congr 1; omega
  rw [ek]
  refine for_dn (fun i ρ => ∃ (o : Bool) (nums : List Int) (x y : D), ρ = [.klst (ns.map .int), .int s, .int m, .lst o (nums.map .int), x, y] ∧ nums.length = 20 * i) ⟨true, [], .und, .und, rfl, rfl⟩ ?_ ?_
  · rintro i d ρ N hd ⟨o, nums, x, y, rfl, hl⟩ kN
    obtain ⟨hi, rfl⟩ := rngD_get hd
    simp only [↓dSeq, ↓dIfS, ↓dRet, ↓dRetN, ↓dSkip, ↓dBrk, ↓dCnt, ↓dPk, ↓dC, ↓dO, ↓d2, ↓dNotT, ↓dAndT, ↓dOrT, ↓dIf, ↓dNil, ↓dCons, ↓dNilL, ↓dConsL, ↓dTup, ↓dLst, ↓dBI, ↓dOwnL, ↓dCall, ↓dRng1, ↓dRng2, ↓dFor, ↓dRaise, ↓dRaise0, ↓dPn, ↓dYes, ↓dLc, ↓dExp, ↓onOk_ok, ↓onOk_exc, ↓onFl_ok, ↓onFl_exc, gt0, gtS, Vi.frs, fr_non, own_non, own_und, nz_non, fr_bl, own_bl, nz_bl, fr_int, own_int, nz_int, fr_str, own_str, nz_str, fr_tup, own_tup, nz_tup, fr_lst, own_lst, nz_lst, fr_klst, own_klst, nz_klst, fr_dic, own_dic, nz_dic, fr_ins, own_ins, nz_ins, fr_exo, own_exo, nz_exo, fr_fn, own_fn, nz_fn, eqD_ii, eqD_ss, eqD_bb, eqD_nn, eqD_sn, eqD_ns, eqD_ll, eqD_tt, eqDs_nn, eqDs_cn, eqDs_nc, eqDs_cc, shp_i, shp_b, shp_n, shp_s, shp_l, shp_t, shps_n, shps_c, id_eq, ↓dTry, ↓dIs_eq, ↓dWhat_eq, endT_rt, endT_nx, oEq, oIsN, isN, ↓endK_rt, ↓endK_nx, ↓endK_exc, ↓turnK_nx, ↓turnK_ct, ↓turnK_bk, ↓turnK_rt, ↓turnK_exc, List.set_cons_zero, List.set_cons_succ, List.all_cons, List.all_nil, List.map_cons, List.map_nil, Bool.and_true, Bool.and_self, Bool.true_and, Bool.not_true, Bool.not_false, true_and, and_true, List.take_succ_cons, List.take_zero, List.cons_append, List.nil_append, Bool.false_eq_true, if_false, if_true, ite_false, ite_true, wb_n, wb_sl, wb_vc, wb_vn, wb_v1, wb_v2, wb_v3, wb_v4, wb_v5, wb_v6, unb, reb, List.length_cons, List.length_nil, ↓dVar_r, ↓dFr_r, ↓dSet_r, ↓dgN_r, ↓dPut_r, ↓dApp_r, ↓dB_r, ↓dAndV_r, ↓dOrV_r, ↓dNotV_r, ↓dChn_r, ↓dSl_r, ↓dLenSet_r, ↓dItS_r, ↓dItL_r, ↓dItT_r, ↓dPs_r, eAt_c, exF_ok, putK_li, appK_l, blK_b, slK_s, slK_l, oIx_l, oIx_k, oIx_t, oIx_s, oAll_m, stK_b, seqK_l, seqK_k, tupK_t, inK_b, dAt_non, dAt_bl, dAt_int, dAt_str, dAt_tup, dAt_lst, dAt_klst, dAt_dic, dAt_ins, dAt_exo, dAt_fn, dAt_und, oAdd_ii, oAdd_ss, oAdd_ll, oAdd_tt, oOrd_ii, oOrd_ss, oInS_r, oInt_r, oInt0_r, oLen_l, oLen_k, oLen_t, oLen_s, oAbs_r, oInt1_i, oInt1_b, oReprB_r, int1_r, int2_r, isLst_l, see_v, see_s, sea_v, sea_s, ↓dIdx, ↓dFld, ↓dFset, ↓dJoin, ↓dListOf, ↓dMeth, ↓dMake_r, ↓dAsgG, ↓dLcN, ↓dLc2, idxK_ss, isStr_s, fldK_0, fldK_S, fsetK_r, isIns_i, dgTup_t, dgSeq_l, dgSeq_k, dgCons_c, dgNil_n, rowK_l, rowK_k, rowK_t, oTup_l, oTup_k, oTup_t, ↓dLoan_r, lnK_ok, lnK_exc, lnE_t, lnE_f, lnE_n, olE_c, olE_n, Bool.true_or, Bool.or_true, Bool.false_or, lf_non, lf_bl, lf_int, lf_str, lf_tup, lf_ins, lfs_n, lfs_c, fr2_l, ol_l, ↓dNeg, ngK_i, oRepS_r, ↓dApp2, ↓dPop2, ↓dPut2, sbK_l, opApp, opPop, opPut, ↓dAppSelf, ↓dAsg3, ↓dTru, truK_b, truK_l, ↓dExt, extK_l, oMin2_r, oIsB_r, ↓dSortSet, ↓dReprT, oEqS_r, ↓dCat, catK_l, ↓dItV, itK_s, itK_t, itK_l, itK_k, ↓dDisp1_r, tkK_ii, ↓dDget, ↓dDin, ↓dDput, dkK_tr, dkK_oi, dkK_os, dputK_t, dputK_oi, dputK_os]
    refine call_step rfl rfl rfl ⟨ns, s + i, rfl, by omega, fun v posts hp => ⟨hp, ?_⟩⟩
    simp only [↓dSeq, ↓dIfS, ↓dRet, ↓dRetN, ↓dSkip, ↓dBrk, ↓dCnt, ↓dPk, ↓dC, ↓dO, ↓d2, ↓dNotT, ↓dAndT, ↓dOrT, ↓dIf, ↓dNil, ↓dCons, ↓dNilL, ↓dConsL, ↓dTup, ↓dLst, ↓dBI, ↓dOwnL, ↓dCall, ↓dRng1, ↓dRng2, ↓dFor, ↓dRaise, ↓dRaise0, ↓dPn, ↓dYes, ↓dLc, ↓dExp, ↓onOk_ok, ↓onOk_exc, ↓onFl_ok, ↓onFl_exc, gt0, gtS, Vi.frs, fr_non, own_non, own_und, nz_non, fr_bl, own_bl, nz_bl, fr_int, own_int, nz_int, fr_str, own_str, nz_str, fr_tup, own_tup, nz_tup, fr_lst, own_lst, nz_lst, fr_klst, own_klst, nz_klst, fr_dic, own_dic, nz_dic, fr_ins, own_ins, nz_ins, fr_exo, own_exo, nz_exo, fr_fn, own_fn, nz_fn, eqD_ii, eqD_ss, eqD_bb, eqD_nn, eqD_sn, eqD_ns, eqD_ll, eqD_tt, eqDs_nn, eqDs_cn, eqDs_nc, eqDs_cc, shp_i, shp_b, shp_n, shp_s, shp_l, shp_t, shps_n, shps_c, id_eq, ↓dTry, ↓dIs_eq, ↓dWhat_eq, endT_rt, endT_nx, oEq, oIsN, isN, ↓endK_rt, ↓endK_nx, ↓endK_exc, ↓turnK_nx, ↓turnK_ct, ↓turnK_bk, ↓turnK_rt, ↓turnK_exc, List.set_cons_zero, List.set_cons_succ, List.all_cons, List.all_nil, List.map_cons, List.map_nil, Bool.and_true, Bool.and_self, Bool.true_and, Bool.not_true, Bool.not_false, true_and, and_true, List.take_succ_cons, List.take_zero, List.cons_append, List.nil_append, Bool.false_eq_true, if_false, if_true, ite_false, ite_true, wb_n, wb_sl, wb_vc, wb_vn, wb_v1, wb_v2, wb_v3, wb_v4, wb_v5, wb_v6, unb, reb, List.length_cons, List.length_nil, ↓dVar_r, ↓dFr_r, ↓dSet_r, ↓dgN_r, ↓dPut_r, ↓dApp_r, ↓dB_r, ↓dAndV_r, ↓dOrV_r, ↓dNotV_r, ↓dChn_r, ↓dSl_r, ↓dLenSet_r, ↓dItS_r, ↓dItL_r, ↓dItT_r, ↓dPs_r, eAt_c, exF_ok, putK_li, appK_l, blK_b, slK_s, slK_l, oIx_l, oIx_k, oIx_t, oIx_s, oAll_m, stK_b, seqK_l, seqK_k, tupK_t, inK_b, dAt_non, dAt_bl, dAt_int, dAt_str, dAt_tup, dAt_lst, dAt_klst, dAt_dic, dAt_ins, dAt_exo, dAt_fn, dAt_und, oAdd_ii, oAdd_ss, oAdd_ll, oAdd_tt, oOrd_ii, oOrd_ss, oInS_r, oInt_r, oInt0_r, oLen_l, oLen_k, oLen_t, oLen_s, oAbs_r, oInt1_i, oInt1_b, oReprB_r, int1_r, int2_r, isLst_l, see_v, see_s, sea_v, sea_s, ↓dIdx, ↓dFld, ↓dFset, ↓dJoin, ↓dListOf, ↓dMeth, ↓dMake_r, ↓dAsgG, ↓dLcN, ↓dLc2, idxK_ss, isStr_s, fldK_0, fldK_S, fsetK_r, isIns_i, dgTup_t, dgSeq_l, dgSeq_k, dgCons_c, dgNil_n, rowK_l, rowK_k, rowK_t, oTup_l, oTup_k, oTup_t, ↓dLoan_r, lnK_ok, lnK_exc, lnE_t, lnE_f, lnE_n, olE_c, olE_n, Bool.true_or, Bool.or_true, Bool.false_or, lf_non, lf_bl, lf_int, lf_str, lf_tup, lf_ins, lfs_n, lfs_c, fr2_l, ol_l, ↓dNeg, ngK_i, oRepS_r, ↓dApp2, ↓dPop2, ↓dPut2, sbK_l, opApp, opPop, opPut, ↓dAppSelf, ↓dAsg3, ↓dTru, truK_b, truK_l, ↓dExt, extK_l, oMin2_r, oIsB_r, ↓dSortSet, ↓dReprT, oEqS_r, ↓dCat, catK_l, ↓dItV, itK_s, itK_t, itK_l, itK_k, ↓dDisp1_r, tkK_ii, ↓dDget, ↓dDin, ↓dDput, dkK_tr, dkK_oi, dkK_os, dputK_t, dputK_oi, dputK_os]
    refine ⟨⟨by decide, by decide, by decide⟩, ?_⟩
    refine if_d (fun _ => ⟨.inr ⟨by decide, by decide⟩, ?_⟩) fun _ => ?_
    all_goals
      refine call_step rfl rfl rfl ⟨_, 20, rfl, by decide, by decide, fun nums2 posts2 hl2 hp2 => ⟨hp2, ?_⟩⟩
      simp only [↓dSeq, ↓dIfS, ↓dRet, ↓dRetN, ↓dSkip, ↓dBrk, ↓dCnt, ↓dPk, ↓dC, ↓dO, ↓d2, ↓dNotT, ↓dAndT, ↓dOrT, ↓dIf, ↓dNil, ↓dCons, ↓dNilL, ↓dConsL, ↓dTup, ↓dLst, ↓dBI, ↓dOwnL, ↓dCall, ↓dRng1, ↓dRng2, ↓dFor, ↓dRaise, ↓dRaise0, ↓dPn, ↓dYes, ↓dLc, ↓dExp, ↓onOk_ok, ↓onOk_exc, ↓onFl_ok, ↓onFl_exc, gt0, gtS, Vi.frs, fr_non, own_non, own_und, nz_non, fr_bl, own_bl, nz_bl, fr_int, own_int, nz_int, fr_str, own_str, nz_str, fr_tup, own_tup, nz_tup, fr_lst, own_lst, nz_lst, fr_klst, own_klst, nz_klst, fr_dic, own_dic, nz_dic, fr_ins, own_ins, nz_ins, fr_exo, own_exo, nz_exo, fr_fn, own_fn, nz_fn, eqD_ii, eqD_ss, eqD_bb, eqD_nn, eqD_sn, eqD_ns, eqD_ll, eqD_tt, eqDs_nn, eqDs_cn, eqDs_nc, eqDs_cc, shp_i, shp_b, shp_n, shp_s, shp_l, shp_t, shps_n, shps_c, id_eq, ↓dTry, ↓dIs_eq, ↓dWhat_eq, endT_rt, endT_nx, oEq, oIsN, isN, ↓endK_rt, ↓endK_nx, ↓endK_exc, ↓turnK_nx, ↓turnK_ct, ↓turnK_bk, ↓turnK_rt, ↓turnK_exc, List.set_cons_zero, List.set_cons_succ, List.all_cons, List.all_nil, List.map_cons, List.map_nil, Bool.and_true, Bool.and_self, Bool.true_and, Bool.not_true, Bool.not_false, true_and, and_true, List.take_succ_cons, List.take_zero, List.cons_append, List.nil_append, Bool.false_eq_true, if_false, if_true, ite_false, ite_true, wb_n, wb_sl, wb_vc, wb_vn, wb_v1, wb_v2, wb_v3, wb_v4, wb_v5, wb_v6, unb, reb, List.length_cons, List.length_nil, ↓dVar_r, ↓dFr_r, ↓dSet_r, ↓dgN_r, ↓dPut_r, ↓dApp_r, ↓dB_r, ↓dAndV_r, ↓dOrV_r, ↓dNotV_r, ↓dChn_r, ↓dSl_r, ↓dLenSet_r, ↓dItS_r, ↓dItL_r, ↓dItT_r, ↓dPs_r, eAt_c, exF_ok, putK_li, appK_l, blK_b, slK_s, slK_l, oIx_l, oIx_k, oIx_t, oIx_s, oAll_m, stK_b, seqK_l, seqK_k, tupK_t, inK_b, dAt_non, dAt_bl, dAt_int, dAt_str, dAt_tup, dAt_lst, dAt_klst, dAt_dic, dAt_ins, dAt_exo, dAt_fn, dAt_und, oAdd_ii, oAdd_ss, oAdd_ll, oAdd_tt, oOrd_ii, oOrd_ss, oInS_r, oInt_r, oInt0_r, oLen_l, oLen_k, oLen_t, oLen_s, oAbs_r, oInt1_i, oInt1_b, oReprB_r, int1_r, int2_r, isLst_l, see_v, see_s, sea_v, sea_s, ↓dIdx, ↓dFld, ↓dFset, ↓dJoin, ↓dListOf, ↓dMeth, ↓dMake_r, ↓dAsgG, ↓dLcN, ↓dLc2, idxK_ss, isStr_s, fldK_0, fldK_S, fsetK_r, isIns_i, dgTup_t, dgSeq_l, dgSeq_k, dgCons_c, dgNil_n, rowK_l, rowK_k, rowK_t, oTup_l, oTup_k, oTup_t, ↓dLoan_r, lnK_ok, lnK_exc, lnE_t, lnE_f, lnE_n, olE_c, olE_n, Bool.true_or, Bool.or_true, Bool.false_or, lf_non, lf_bl, lf_int, lf_str, lf_tup, lf_ins, lfs_n, lfs_c, fr2_l, ol_l, ↓dNeg, ngK_i, oRepS_r, ↓dApp2, ↓dPop2, ↓dPut2, sbK_l, opApp, opPop, opPut, ↓dAppSelf, ↓dAsg3, ↓dTru, truK_b, truK_l, ↓dExt, extK_l, oMin2_r, oIsB_r, ↓dSortSet, ↓dReprT, oEqS_r, ↓dCat, catK_l, ↓dItV, itK_s, itK_t, itK_l, itK_k, ↓dDisp1_r, tkK_ii, ↓dDget, ↓dDin, ↓dDput, dkK_tr, dkK_oi, dkK_os, dputK_t, dputK_oi, dputK_os]
      have e4 : List.map D.int nums ++ List.map D.int nums2 = (nums ++ nums2).map D.int := by rw [List.map_append]
      have e5 : ∀ l : List Int, ((List.map D.int l).all fun d => !own d) = true := fun l => by rw [List.all_map]; exact List.all_eq_true.mpr fun _ _ => rfl
      have l4 : (nums ++ nums2).length = 20 * (i + 1) := by rw [List.length_append, hl, hl2]; show 20 * i + 20 = _; omega
      refine ⟨⟨e5 _, e5 _⟩, ?_, ?_⟩
      · rw [List.length_map, List.length_map, hl, hl2]
        show 20 * i + 20 ≤ 1000000
        omega
      · rw [e4]
        exact kN _ ⟨_, _, _, _, rfl, l4⟩
  · rintro ρ ⟨o, nums, x, y, rfl, hl⟩
    rw [rngD_len] at hl
    simp only [↓dSeq, ↓dIfS, ↓dRet, ↓dRetN, ↓dSkip, ↓dBrk, ↓dCnt, ↓dPk, ↓dC, ↓dO, ↓d2, ↓dNotT, ↓dAndT, ↓dOrT, ↓dIf, ↓dNil, ↓dCons, ↓dNilL, ↓dConsL, ↓dTup, ↓dLst, ↓dBI, ↓dOwnL, ↓dCall, ↓dRng1, ↓dRng2, ↓dFor, ↓dRaise, ↓dRaise0, ↓dPn, ↓dYes, ↓dLc, ↓dExp, ↓onOk_ok, ↓onOk_exc, ↓onFl_ok, ↓onFl_exc, gt0, gtS, Vi.frs, fr_non, own_non, own_und, nz_non, fr_bl, own_bl, nz_bl, fr_int, own_int, nz_int, fr_str, own_str, nz_str, fr_tup, own_tup, nz_tup, fr_lst, own_lst, nz_lst, fr_klst, own_klst, nz_klst, fr_dic, own_dic, nz_dic, fr_ins, own_ins, nz_ins, fr_exo, own_exo, nz_exo, fr_fn, own_fn, nz_fn, eqD_ii, eqD_ss, eqD_bb, eqD_nn, eqD_sn, eqD_ns, eqD_ll, eqD_tt, eqDs_nn, eqDs_cn, eqDs_nc, eqDs_cc, shp_i, shp_b, shp_n, shp_s, shp_l, shp_t, shps_n, shps_c, id_eq, ↓dTry, ↓dIs_eq, ↓dWhat_eq, endT_rt, endT_nx, oEq, oIsN, isN, ↓endK_rt, ↓endK_nx, ↓endK_exc, ↓turnK_nx, ↓turnK_ct, ↓turnK_bk, ↓turnK_rt, ↓turnK_exc, List.set_cons_zero, List.set_cons_succ, List.all_cons, List.all_nil, List.map_cons, List.map_nil, Bool.and_true, Bool.and_self, Bool.true_and, Bool.not_true, Bool.not_false, true_and, and_true, List.take_succ_cons, List.take_zero, List.cons_append, List.nil_append, Bool.false_eq_true, if_false, if_true, ite_false, ite_true, wb_n, wb_sl, wb_vc, wb_vn, wb_v1, wb_v2, wb_v3, wb_v4, wb_v5, wb_v6, unb, reb, List.length_cons, List.length_nil, ↓dVar_r, ↓dFr_r, ↓dSet_r, ↓dgN_r, ↓dPut_r, ↓dApp_r, ↓dB_r, ↓dAndV_r, ↓dOrV_r, ↓dNotV_r, ↓dChn_r, ↓dSl_r, ↓dLenSet_r, ↓dItS_r, ↓dItL_r, ↓dItT_r, ↓dPs_r, eAt_c, exF_ok, putK_li, appK_l, blK_b, slK_s, slK_l, oIx_l, oIx_k, oIx_t, oIx_s, oAll_m, stK_b, seqK_l, seqK_k, tupK_t, inK_b, dAt_non, dAt_bl, dAt_int, dAt_str, dAt_tup, dAt_lst, dAt_klst, dAt_dic, dAt_ins, dAt_exo, dAt_fn, dAt_und, oAdd_ii, oAdd_ss, oAdd_ll, oAdd_tt, oOrd_ii, oOrd_ss, oInS_r, oInt_r, oInt0_r, oLen_l, oLen_k, oLen_t, oLen_s, oAbs_r, oInt1_i, oInt1_b, oReprB_r, int1_r, int2_r, isLst_l, see_v, see_s, sea_v, sea_s, ↓dIdx, ↓dFld, ↓dFset, ↓dJoin, ↓dListOf, ↓dMeth, ↓dMake_r, ↓dAsgG, ↓dLcN, ↓dLc2, idxK_ss, isStr_s, fldK_0, fldK_S, fsetK_r, isIns_i, dgTup_t, dgSeq_l, dgSeq_k, dgCons_c, dgNil_n, rowK_l, rowK_k, rowK_t, oTup_l, oTup_k, oTup_t, ↓dLoan_r, lnK_ok, lnK_exc, lnE_t, lnE_f, lnE_n, olE_c, olE_n, Bool.true_or, Bool.or_true, Bool.false_or, lf_non, lf_bl, lf_int, lf_str, lf_tup, lf_ins, lfs_n, lfs_c, fr2_l, ol_l, ↓dNeg, ngK_i, oRepS_r, ↓dApp2, ↓dPop2, ↓dPut2, sbK_l, opApp, opPop, opPut, ↓dAppSelf, ↓dAsg3, ↓dTru, truK_b, truK_l, ↓dExt, extK_l, oMin2_r, oIsB_r, ↓dSortSet, ↓dReprT, oEqS_r, ↓dCat, catK_l, ↓dItV, itK_s, itK_t, itK_l, itK_k, ↓dDisp1_r, tkK_ii, ↓dDget, ↓dDin, ↓dDput, dkK_tr, dkK_oi, dkK_os, dputK_t, dputK_oi, dputK_os]
    refine ⟨by decide, ?_⟩
    have e3 : (List.take 3 (if o = true then [D.klst (List.map D.int ns), D.int s, D.int m, D.lst false (List.map D.int nums), x, y] else [D.klst (List.map D.int ns), D.int s, D.int m, D.lst o (List.map D.int nums), x, y])).length = 3 := by cases o <;> rfl
    exact kk nums _ hl e3
def S__law_next : FS := fun args K => ∃ (nums : List Int) (p many : Int), args = [stD nums p, .int many] ∧ 0 < nums.length ∧ nums.length ≤ 100000 ∧ 0 < many ∧ ∀ (v : Int) (x : D), 0 ≤ v → v < many → K (.ok (.int v)) [stD nums (p + 1), x]
def b__law_next : DS :=
  dSeq (dSet 2 (dFr (d2 oIx (dPk 0) (dO (dC (.int 0))))))
  (dSeq (dSet 3 (dFr (d2 oIx (dPk 0) (dO (dC (.int 1))))))
  (dSeq (dPut 0 (dC (.int 1)) (d2 oAdd (dPk 3) (dO (dC (.int 1)))))
  (dRet (dFr (d2 (oInt cMod gMod) (dO (dBI oInt1 (dCons (dO (d2 oAdd (dO (d2 oIx (dPk 2) (dO (d2 (oInt cMod gMod) (dPk 3) (dO (dBI oLen (dCons (dPk 2) (dNil)))))))) (dO (d2 (oInt CMul gMul) (dO (d2 (oInt CDiv gDiv) (dPk 3) (dO (dBI oLen (dCons (dPk 2) (dNil)))))) (dO (dC (.int 7))))))) (dNil)))) (dPk 1))))))
theorem p__law_next : ∀ args K', args.length = 2 → S__law_next args K' → b__law_next (args ++ List.replicate 2 .und) (endK 2 K') := by
  rintro args K' - ⟨nums, p, many, rfl, h0, h1, h2, kk⟩
  show b__law_next [stD nums p, .int many, .und, .und] _
  unfold b__law_next stD
  have a0 : ∀ y z : D, atI [y, z] 0 = some y := fun _ _ => rfl
  have a1 : ∀ y z : D, atI [y, z] 1 = some z := fun _ _ => rfl
  have i1 : ixN (0 + 1 + 1) 1 = some 1 := rfl
  simp only [↓dSeq, ↓dIfS, ↓dRet, ↓dRetN, ↓dSkip, ↓dBrk, ↓dCnt, ↓dPk, ↓dC, ↓dO, ↓d2, ↓dNotT, ↓dAndT, ↓dOrT, ↓dIf, ↓dNil, ↓dCons, ↓dNilL, ↓dConsL, ↓dTup, ↓dLst, ↓dBI, ↓dOwnL, ↓dCall, ↓dRng1, ↓dRng2, ↓dFor, ↓dRaise, ↓dRaise0, ↓dPn, ↓dYes, ↓dLc, ↓dExp, ↓onOk_ok, ↓onOk_exc, ↓onFl_ok, ↓onFl_exc, gt0, gtS, Vi.frs, fr_non, own_non, own_und, nz_non, fr_bl, own_bl, nz_bl, fr_int, own_int, nz_int, fr_str, own_str, nz_str, fr_tup, own_tup, nz_tup, fr_lst, own_lst, nz_lst, fr_klst, own_klst, nz_klst, fr_dic, own_dic, nz_dic, fr_ins, own_ins, nz_ins, fr_exo, own_exo, nz_exo, fr_fn, own_fn, nz_fn, eqD_ii, eqD_ss, eqD_bb, eqD_nn, eqD_sn, eqD_ns, eqD_ll, eqD_tt, eqDs_nn, eqDs_cn, eqDs_nc, eqDs_cc, shp_i, shp_b, shp_n, shp_s, shp_l, shp_t, shps_n, shps_c, id_eq, ↓dTry, ↓dIs_eq, ↓dWhat_eq, endT_rt, endT_nx, oEq, oIsN, isN, ↓endK_rt, ↓endK_nx, ↓endK_exc, ↓turnK_nx, ↓turnK_ct, ↓turnK_bk, ↓turnK_rt, ↓turnK_exc, List.set_cons_zero, List.set_cons_succ, List.all_cons, List.all_nil, List.map_cons, List.map_nil, Bool.and_true, Bool.and_self, Bool.true_and, Bool.not_true, Bool.not_false, true_and, and_true, List.take_succ_cons, List.take_zero, List.cons_append, List.nil_append, Bool.false_eq_true, if_false, if_true, ite_false, ite_true, wb_n, wb_sl, wb_vc, wb_vn, wb_v1, wb_v2, wb_v3, wb_v4, wb_v5, wb_v6, unb, reb, List.length_cons, List.length_nil, ↓dVar_r, ↓dFr_r, ↓dSet_r, ↓dgN_r, ↓dPut_r, ↓dApp_r, ↓dB_r, ↓dAndV_r, ↓dOrV_r, ↓dNotV_r, ↓dChn_r, ↓dSl_r, ↓dLenSet_r, ↓dItS_r, ↓dItL_r, ↓dItT_r, ↓dPs_r, eAt_c, exF_ok, putK_li, appK_l, blK_b, slK_s, slK_l, oIx_l, oIx_k, oIx_t, oIx_s, oAll_m, stK_b, seqK_l, seqK_k, tupK_t, inK_b, dAt_non, dAt_bl, dAt_int, dAt_str, dAt_tup, dAt_lst, dAt_klst, dAt_dic, dAt_ins, dAt_exo, dAt_fn, dAt_und, oAdd_ii, oAdd_ss, oAdd_ll, oAdd_tt, oOrd_ii, oOrd_ss, oInS_r, oInt_r, oInt0_r, oLen_l, oLen_k, oLen_t, oLen_s, oAbs_r, oInt1_i, oInt1_b, oReprB_r, int1_r, int2_r, isLst_l, see_v, see_s, sea_v, sea_s, ↓dIdx, ↓dFld, ↓dFset, ↓dJoin, ↓dListOf, ↓dMeth, ↓dMake_r, ↓dAsgG, ↓dLcN, ↓dLc2, idxK_ss, isStr_s, fldK_0, fldK_S, fsetK_r, isIns_i, dgTup_t, dgSeq_l, dgSeq_k, dgCons_c, dgNil_n, rowK_l, rowK_k, rowK_t, oTup_l, oTup_k, oTup_t, ↓dLoan_r, lnK_ok, lnK_exc, lnE_t, lnE_f, lnE_n, olE_c, olE_n, Bool.true_or, Bool.or_true, Bool.false_or, lf_non, lf_bl, lf_int, lf_str, lf_tup, lf_ins, lfs_n, lfs_c, fr2_l, ol_l, ↓dNeg, ngK_i, oRepS_r, ↓dApp2, ↓dPop2, ↓dPut2, sbK_l, opApp, opPop, opPut, ↓dAppSelf, ↓dAsg3, ↓dTru, truK_b, truK_l, ↓dExt, extK_l, oMin2_r, oIsB_r, ↓dSortSet, ↓dReprT, oEqS_r, ↓dCat, catK_l, ↓dItV, itK_s, itK_t, itK_l, itK_k, ↓dDisp1_r, tkK_ii, ↓dDget, ↓dDin, ↓dDput, dkK_tr, dkK_oi, dkK_os, dputK_t, dputK_oi, dputK_os]
  refine atD_of (a0 _ _) rfl ?_
  simp only [↓dSeq, ↓dIfS, ↓dRet, ↓dRetN, ↓dSkip, ↓dBrk, ↓dCnt, ↓dPk, ↓dC, ↓dO, ↓d2, ↓dNotT, ↓dAndT, ↓dOrT, ↓dIf, ↓dNil, ↓dCons, ↓dNilL, ↓dConsL, ↓dTup, ↓dLst, ↓dBI, ↓dOwnL, ↓dCall, ↓dRng1, ↓dRng2, ↓dFor, ↓dRaise, ↓dRaise0, ↓dPn, ↓dYes, ↓dLc, ↓dExp, ↓onOk_ok, ↓onOk_exc, ↓onFl_ok, ↓onFl_exc, gt0, gtS, Vi.frs, fr_non, own_non, own_und, nz_non, fr_bl, own_bl, nz_bl, fr_int, own_int, nz_int, fr_str, own_str, nz_str, fr_tup, own_tup, nz_tup, fr_lst, own_lst, nz_lst, fr_klst, own_klst, nz_klst, fr_dic, own_dic, nz_dic, fr_ins, own_ins, nz_ins, fr_exo, own_exo, nz_exo, fr_fn, own_fn, nz_fn, eqD_ii, eqD_ss, eqD_bb, eqD_nn, eqD_sn, eqD_ns, eqD_ll, eqD_tt, eqDs_nn, eqDs_cn, eqDs_nc, eqDs_cc, shp_i, shp_b, shp_n, shp_s, shp_l, shp_t, shps_n, shps_c, id_eq, ↓dTry, ↓dIs_eq, ↓dWhat_eq, endT_rt, endT_nx, oEq, oIsN, isN, ↓endK_rt, ↓endK_nx, ↓endK_exc, ↓turnK_nx, ↓turnK_ct, ↓turnK_bk, ↓turnK_rt, ↓turnK_exc, List.set_cons_zero, List.set_cons_succ, List.all_cons, List.all_nil, List.map_cons, List.map_nil, Bool.and_true, Bool.and_self, Bool.true_and, Bool.not_true, Bool.not_false, true_and, and_true, List.take_succ_cons, List.take_zero, List.cons_append, List.nil_append, Bool.false_eq_true, if_false, if_true, ite_false, ite_true, wb_n, wb_sl, wb_vc, wb_vn, wb_v1, wb_v2, wb_v3, wb_v4, wb_v5, wb_v6, unb, reb, List.length_cons, List.length_nil, ↓dVar_r, ↓dFr_r, ↓dSet_r, ↓dgN_r, ↓dPut_r, ↓dApp_r, ↓dB_r, ↓dAndV_r, ↓dOrV_r, ↓dNotV_r, ↓dChn_r, ↓dSl_r, ↓dLenSet_r, ↓dItS_r, ↓dItL_r, ↓dItT_r, ↓dPs_r, eAt_c, exF_ok, putK_li, appK_l, blK_b, slK_s, slK_l, oIx_l, oIx_k, oIx_t, oIx_s, oAll_m, stK_b, seqK_l, seqK_k, tupK_t, inK_b, dAt_non, dAt_bl, dAt_int, dAt_str, dAt_tup, dAt_lst, dAt_klst, dAt_dic, dAt_ins, dAt_exo, dAt_fn, dAt_und, oAdd_ii, oAdd_ss, oAdd_ll, oAdd_tt, oOrd_ii, oOrd_ss, oInS_r, oInt_r, oInt0_r, oLen_l, oLen_k, oLen_t, oLen_s, oAbs_r, oInt1_i, oInt1_b, oReprB_r, int1_r, int2_r, isLst_l, see_v, see_s, sea_v, sea_s, ↓dIdx, ↓dFld, ↓dFset, ↓dJoin, ↓dListOf, ↓dMeth, ↓dMake_r, ↓dAsgG, ↓dLcN, ↓dLc2, idxK_ss, isStr_s, fldK_0, fldK_S, fsetK_r, isIns_i, dgTup_t, dgSeq_l, dgSeq_k, dgCons_c, dgNil_n, rowK_l, rowK_k, rowK_t, oTup_l, oTup_k, oTup_t, ↓dLoan_r, lnK_ok, lnK_exc, lnE_t, lnE_f, lnE_n, olE_c, olE_n, Bool.true_or, Bool.or_true, Bool.false_or, lf_non, lf_bl, lf_int, lf_str, lf_tup, lf_ins, lfs_n, lfs_c, fr2_l, ol_l, ↓dNeg, ngK_i, oRepS_r, ↓dApp2, ↓dPop2, ↓dPut2, sbK_l, opApp, opPop, opPut, ↓dAppSelf, ↓dAsg3, ↓dTru, truK_b, truK_l, ↓dExt, extK_l, oMin2_r, oIsB_r, ↓dSortSet, ↓dReprT, oEqS_r, ↓dCat, catK_l, ↓dItV, itK_s, itK_t, itK_l, itK_k, ↓dDisp1_r, tkK_ii, ↓dDget, ↓dDin, ↓dDput, dkK_tr, dkK_oi, dkK_os, dputK_t, dputK_oi, dputK_os]
  refine atD_of (a1 _ _) rfl ?_
  simp only [↓dSeq, ↓dIfS, ↓dRet, ↓dRetN, ↓dSkip, ↓dBrk, ↓dCnt, ↓dPk, ↓dC, ↓dO, ↓d2, ↓dNotT, ↓dAndT, ↓dOrT, ↓dIf, ↓dNil, ↓dCons, ↓dNilL, ↓dConsL, ↓dTup, ↓dLst, ↓dBI, ↓dOwnL, ↓dCall, ↓dRng1, ↓dRng2, ↓dFor, ↓dRaise, ↓dRaise0, ↓dPn, ↓dYes, ↓dLc, ↓dExp, ↓onOk_ok, ↓onOk_exc, ↓onFl_ok, ↓onFl_exc, gt0, gtS, Vi.frs, fr_non, own_non, own_und, nz_non, fr_bl, own_bl, nz_bl, fr_int, own_int, nz_int, fr_str, own_str, nz_str, fr_tup, own_tup, nz_tup, fr_lst, own_lst, nz_lst, fr_klst, own_klst, nz_klst, fr_dic, own_dic, nz_dic, fr_ins, own_ins, nz_ins, fr_exo, own_exo, nz_exo, fr_fn, own_fn, nz_fn, eqD_ii, eqD_ss, eqD_bb, eqD_nn, eqD_sn, eqD_ns, eqD_ll, eqD_tt, eqDs_nn, eqDs_cn, eqDs_nc, eqDs_cc, shp_i, shp_b, shp_n, shp_s, shp_l, shp_t, shps_n, shps_c, id_eq, ↓dTry, ↓dIs_eq, ↓dWhat_eq, endT_rt, endT_nx, oEq, oIsN, isN, ↓endK_rt, ↓endK_nx, ↓endK_exc, ↓turnK_nx, ↓turnK_ct, ↓turnK_bk, ↓turnK_rt, ↓turnK_exc, List.set_cons_zero, List.set_cons_succ, List.all_cons, List.all_nil, List.map_cons, List.map_nil, Bool.and_true, Bool.and_self, Bool.true_and, Bool.not_true, Bool.not_false, true_and, and_true, List.take_succ_cons, List.take_zero, List.cons_append, List.nil_append, Bool.false_eq_true, if_false, if_true, ite_false, ite_true, wb_n, wb_sl, wb_vc, wb_vn, wb_v1, wb_v2, wb_v3, wb_v4, wb_v5, wb_v6, unb, reb, List.length_cons, List.length_nil, ↓dVar_r, ↓dFr_r, ↓dSet_r, ↓dgN_r, ↓dPut_r, ↓dApp_r, ↓dB_r, ↓dAndV_r, ↓dOrV_r, ↓dNotV_r, ↓dChn_r, ↓dSl_r, ↓dLenSet_r, ↓dItS_r, ↓dItL_r, ↓dItT_r, ↓dPs_r, eAt_c, exF_ok, putK_li, appK_l, blK_b, slK_s, slK_l, oIx_l, oIx_k, oIx_t, oIx_s, oAll_m, stK_b, seqK_l, seqK_k, tupK_t, inK_b, dAt_non, dAt_bl, dAt_int, dAt_str, dAt_tup, dAt_lst, dAt_klst, dAt_dic, dAt_ins, dAt_exo, dAt_fn, dAt_und, oAdd_ii, oAdd_ss, oAdd_ll, oAdd_tt, oOrd_ii, oOrd_ss, oInS_r, oInt_r, oInt0_r, oLen_l, oLen_k, oLen_t, oLen_s, oAbs_r, oInt1_i, oInt1_b, oReprB_r, int1_r, int2_r, isLst_l, see_v, see_s, sea_v, sea_s, ↓dIdx, ↓dFld, ↓dFset, ↓dJoin, ↓dListOf, ↓dMeth, ↓dMake_r, ↓dAsgG, ↓dLcN, ↓dLc2, idxK_ss, isStr_s, fldK_0, fldK_S, fsetK_r, isIns_i, dgTup_t, dgSeq_l, dgSeq_k, dgCons_c, dgNil_n, rowK_l, rowK_k, rowK_t, oTup_l, oTup_k, oTup_t, ↓dLoan_r, lnK_ok, lnK_exc, lnE_t, lnE_f, lnE_n, olE_c, olE_n, Bool.true_or, Bool.or_true, Bool.false_or, lf_non, lf_bl, lf_int, lf_str, lf_tup, lf_ins, lfs_n, lfs_c, fr2_l, ol_l, ↓dNeg, ngK_i, oRepS_r, ↓dApp2, ↓dPop2, ↓dPut2, sbK_l, opApp, opPop, opPut, ↓dAppSelf, ↓dAsg3, ↓dTru, truK_b, truK_l, ↓dExt, extK_l, oMin2_r, oIsB_r, ↓dSortSet, ↓dReprT, oEqS_r, ↓dCat, catK_l, ↓dItV, itK_s, itK_t, itK_l, itK_k, ↓dDisp1_r, tkK_ii, ↓dDget, ↓dDin, ↓dDput, dkK_tr, dkK_oi, dkK_os, dputK_t, dputK_oi, dputK_os]
  refine ⟨1, i1, ?_⟩
  have hl : (0 : Int) < (List.map D.int nums).length := by rw [List.length_map]; omega
  have hl2 : ((List.map D.int nums).length : Int) = nums.length := by rw [List.length_map]
  have m0 : 0 ≤ p % ((List.map D.int nums).length : Int) := Int.emod_nonneg _ (by omega)
  have m1 : p % ((List.map D.int nums).length : Int) < nums.length := by rw [hl2]; exact Int.emod_lt_of_pos _ (by omega)
  obtain ⟨v, e, _⟩ := atI_ints m0 m1
  simp only [↓dSeq, ↓dIfS, ↓dRet, ↓dRetN, ↓dSkip, ↓dBrk, ↓dCnt, ↓dPk, ↓dC, ↓dO, ↓d2, ↓dNotT, ↓dAndT, ↓dOrT, ↓dIf, ↓dNil, ↓dCons, ↓dNilL, ↓dConsL, ↓dTup, ↓dLst, ↓dBI, ↓dOwnL, ↓dCall, ↓dRng1, ↓dRng2, ↓dFor, ↓dRaise, ↓dRaise0, ↓dPn, ↓dYes, ↓dLc, ↓dExp, ↓onOk_ok, ↓onOk_exc, ↓onFl_ok, ↓onFl_exc, gt0, gtS, Vi.frs, fr_non, own_non, own_und, nz_non, fr_bl, own_bl, nz_bl, fr_int, own_int, nz_int, fr_str, own_str, nz_str, fr_tup, own_tup, nz_tup, fr_lst, own_lst, nz_lst, fr_klst, own_klst, nz_klst, fr_dic, own_dic, nz_dic, fr_ins, own_ins, nz_ins, fr_exo, own_exo, nz_exo, fr_fn, own_fn, nz_fn, eqD_ii, eqD_ss, eqD_bb, eqD_nn, eqD_sn, eqD_ns, eqD_ll, eqD_tt, eqDs_nn, eqDs_cn, eqDs_nc, eqDs_cc, shp_i, shp_b, shp_n, shp_s, shp_l, shp_t, shps_n, shps_c, id_eq, ↓dTry, ↓dIs_eq, ↓dWhat_eq, endT_rt, endT_nx, oEq, oIsN, isN, ↓endK_rt, ↓endK_nx, ↓endK_exc, ↓turnK_nx, ↓turnK_ct, ↓turnK_bk, ↓turnK_rt, ↓turnK_exc, List.set_cons_zero, List.set_cons_succ, List.all_cons, List.all_nil, List.map_cons, List.map_nil, Bool.and_true, Bool.and_self, Bool.true_and, Bool.not_true, Bool.not_false, true_and, and_true, List.take_succ_cons, List.take_zero, List.cons_append, List.nil_append, Bool.false_eq_true, if_false, if_true, ite_false, ite_true, wb_n, wb_sl, wb_vc, wb_vn, wb_v1, wb_v2, wb_v3, wb_v4, wb_v5, wb_v6, unb, reb, List.length_cons, List.length_nil, ↓dVar_r, ↓dFr_r, ↓dSet_r, ↓dgN_r, ↓dPut_r, ↓dApp_r, ↓dB_r, ↓dAndV_r, ↓dOrV_r, ↓dNotV_r, ↓dChn_r, ↓dSl_r, ↓dLenSet_r, ↓dItS_r, ↓dItL_r, ↓dItT_r, ↓dPs_r, eAt_c, exF_ok, putK_li, appK_l, blK_b, slK_s, slK_l, oIx_l, oIx_k, oIx_t, oIx_s, oAll_m, stK_b, seqK_l, seqK_k, tupK_t, inK_b, dAt_non, dAt_bl, dAt_int, dAt_str, dAt_tup, dAt_lst, dAt_klst, dAt_dic, dAt_ins, dAt_exo, dAt_fn, dAt_und, oAdd_ii, oAdd_ss, oAdd_ll, oAdd_tt, oOrd_ii, oOrd_ss, oInS_r, oInt_r, oInt0_r, oLen_l, oLen_k, oLen_t, oLen_s, oAbs_r, oInt1_i, oInt1_b, oReprB_r, int1_r, int2_r, isLst_l, see_v, see_s, sea_v, sea_s, ↓dIdx, ↓dFld, ↓dFset, ↓dJoin, ↓dListOf, ↓dMeth, ↓dMake_r, ↓dAsgG, ↓dLcN, ↓dLc2, idxK_ss, isStr_s, fldK_0, fldK_S, fsetK_r, isIns_i, dgTup_t, dgSeq_l, dgSeq_k, dgCons_c, dgNil_n, rowK_l, rowK_k, rowK_t, oTup_l, oTup_k, oTup_t, ↓dLoan_r, lnK_ok, lnK_exc, lnE_t, lnE_f, lnE_n, olE_c, olE_n, Bool.true_or, Bool.or_true, Bool.false_or, lf_non, lf_bl, lf_int, lf_str, lf_tup, lf_ins, lfs_n, lfs_c, fr2_l, ol_l, ↓dNeg, ngK_i, oRepS_r, ↓dApp2, ↓dPop2, ↓dPut2, sbK_l, opApp, opPop, opPut, ↓dAppSelf, ↓dAsg3, ↓dTru, truK_b, truK_l, ↓dExt, extK_l, oMin2_r, oIsB_r, ↓dSortSet, ↓dReprT, oEqS_r, ↓dCat, catK_l, ↓dItV, itK_s, itK_t, itK_l, itK_k, ↓dDisp1_r, tkK_ii, ↓dDget, ↓dDin, ↓dDput, dkK_tr, dkK_oi, dkK_os, dputK_t, dputK_oi, dputK_os]
  refine ⟨hl, atD_of e rfl ?_⟩
  simp only [↓dSeq, ↓dIfS, ↓dRet, ↓dRetN, ↓dSkip, ↓dBrk, ↓dCnt, ↓dPk, ↓dC, ↓dO, ↓d2, ↓dNotT, ↓dAndT, ↓dOrT, ↓dIf, ↓dNil, ↓dCons, ↓dNilL, ↓dConsL, ↓dTup, ↓dLst, ↓dBI, ↓dOwnL, ↓dCall, ↓dRng1, ↓dRng2, ↓dFor, ↓dRaise, ↓dRaise0, ↓dPn, ↓dYes, ↓dLc, ↓dExp, ↓onOk_ok, ↓onOk_exc, ↓onFl_ok, ↓onFl_exc, gt0, gtS, Vi.frs, fr_non, own_non, own_und, nz_non, fr_bl, own_bl, nz_bl, fr_int, own_int, nz_int, fr_str, own_str, nz_str, fr_tup, own_tup, nz_tup, fr_lst, own_lst, nz_lst, fr_klst, own_klst, nz_klst, fr_dic, own_dic, nz_dic, fr_ins, own_ins, nz_ins, fr_exo, own_exo, nz_exo, fr_fn, own_fn, nz_fn, eqD_ii, eqD_ss, eqD_bb, eqD_nn, eqD_sn, eqD_ns, eqD_ll, eqD_tt, eqDs_nn, eqDs_cn, eqDs_nc, eqDs_cc, shp_i, shp_b, shp_n, shp_s, shp_l, shp_t, shps_n, shps_c, id_eq, ↓dTry, ↓dIs_eq, ↓dWhat_eq, endT_rt, endT_nx, oEq, oIsN, isN, ↓endK_rt, ↓endK_nx, ↓endK_exc, ↓turnK_nx, ↓turnK_ct, ↓turnK_bk, ↓turnK_rt, ↓turnK_exc, List.set_cons_zero, List.set_cons_succ, List.all_cons, List.all_nil, List.map_cons, List.map_nil, Bool.and_true, Bool.and_self, Bool.true_and, Bool.not_true, Bool.not_false, true_and, and_true, List.take_succ_cons, List.take_zero, List.cons_append, List.nil_append, Bool.false_eq_true, if_false, if_true, ite_false, ite_true, wb_n, wb_sl, wb_vc, wb_vn, wb_v1, wb_v2, wb_v3, wb_v4, wb_v5, wb_v6, unb, reb, List.length_cons, List.length_nil, ↓dVar_r, ↓dFr_r, ↓dSet_r, ↓dgN_r, ↓dPut_r, ↓dApp_r, ↓dB_r, ↓dAndV_r, ↓dOrV_r, ↓dNotV_r, ↓dChn_r, ↓dSl_r, ↓dLenSet_r, ↓dItS_r, ↓dItL_r, ↓dItT_r, ↓dPs_r, eAt_c, exF_ok, putK_li, appK_l, blK_b, slK_s, slK_l, oIx_l, oIx_k, oIx_t, oIx_s, oAll_m, stK_b, seqK_l, seqK_k, tupK_t, inK_b, dAt_non, dAt_bl, dAt_int, dAt_str, dAt_tup, dAt_lst, dAt_klst, dAt_dic, dAt_ins, dAt_exo, dAt_fn, dAt_und, oAdd_ii, oAdd_ss, oAdd_ll, oAdd_tt, oOrd_ii, oOrd_ss, oInS_r, oInt_r, oInt0_r, oLen_l, oLen_k, oLen_t, oLen_s, oAbs_r, oInt1_i, oInt1_b, oReprB_r, int1_r, int2_r, isLst_l, see_v, see_s, sea_v, sea_s, ↓dIdx, ↓dFld, ↓dFset, ↓dJoin, ↓dListOf, ↓dMeth, ↓dMake_r, ↓dAsgG, ↓dLcN, ↓dLc2, idxK_ss, isStr_s, fldK_0, fldK_S, fsetK_r, isIns_i, dgTup_t, dgSeq_l, dgSeq_k, dgCons_c, dgNil_n, rowK_l, rowK_k, rowK_t, oTup_l, oTup_k, oTup_t, ↓dLoan_r, lnK_ok, lnK_exc, lnE_t, lnE_f, lnE_n, olE_c, olE_n, Bool.true_or, Bool.or_true, Bool.false_or, lf_non, lf_bl, lf_int, lf_str, lf_tup, lf_ins, lfs_n, lfs_c, fr2_l, ol_l, ↓dNeg, ngK_i, oRepS_r, ↓dApp2, ↓dPop2, ↓dPut2, sbK_l, opApp, opPop, opPut, ↓dAppSelf, ↓dAsg3, ↓dTru, truK_b, truK_l, ↓dExt, extK_l, oMin2_r, oIsB_r, ↓dSortSet, ↓dReprT, oEqS_r, ↓dCat, catK_l, ↓dItV, itK_s, itK_t, itK_l, itK_k, ↓dDisp1_r, tkK_ii, ↓dDget, ↓dDin, ↓dDput, dkK_tr, dkK_oi, dkK_os, dputK_t, dputK_oi, dputK_os]
  refine ⟨⟨hl, by rw [hl2]; omega⟩, .inr ⟨by decide, by decide⟩, h2, ?_⟩
  exact kk _ _ (Int.emod_nonneg _ (by omega)) (Int.emod_lt_of_pos _ h2)
def asc (t : List Nat) : Prop := ∀ c ∈ t, c < 128
theorem asc_app {s t : List Nat} (h : asc s) (g : asc t) : asc (s ++ t) := fun c hc => (List.mem_append.mp hc).elim (h c) (g c)
theorem asc_one {s : List Nat} (h : asc s) {c : Nat} (hc : c ∈ s) : asc [c] := fun d hd => by rw [List.mem_singleton.mp hd]; exact h c hc
theorem sg_get {t : List Nat} {i : Nat} {d : D} (h : (t.map fun c => D.str [c])[i]? = some d) : ∃ c, t[i]? = some c ∧ d = .str [c] := by
  rw [List.getElem?_map] at h
  cases e : t[i]? with
  | none => rw [e] at h; cases h
  | some c => rw [e] at h; cases h; exact ⟨c, rfl, rfl⟩
theorem take_get {α : Type} {l : List α} {i : Nat} {x : α} (h : l[i]? = some x) : l.take (i + 1) = l.take i ++ [x] := by
  have hl := (List.getElem?_eq_some_iff.mp h)
  rw [List.take_succ_eq_append_getElem hl.1, hl.2]
theorem all_map_id (t : List Nat) (p : Nat → Bool) : ((t.map p).all id) = t.all p := by rw [List.all_map]; rfl
theorem cut_take {t : List Nat} {k : Nat} (h : k ≤ t.length) : cut t none (some (0 + (k : Int))) = t.take k := by
  unfold cut HT.sIx
  simp
  rw [if_neg (by omega)]
  omega

/-! ### machines, plainly -/
structure MA where
  acc : List Bool
  tab : List (List Int)
def MA.E (m : MA) (p q : Int) : Prop := ∃ row, m.tab[p.toNat]? = some row ∧ q ∈ row
def MA.W (m : MA) : Nat → Int → Int → Prop
  | 0, p, q => p = q
  | k + 1, p, q => ∃ r, m.E p r ∧ m.W k r q
def MA.A (m : MA) (q : Int) : Prop := m.acc.getD q.toNat false = true
theorem MA.W_add (m : MA) : ∀ {a b : Nat} {p q r : Int}, m.W a p q → m.W b q r → m.W (a + b) p r
  | 0, b, p, q, r, h, g => by
    have e : p = q := h
    rw [Nat.zero_add, e]
    exact g
  | a + 1, b, p, q, r, ⟨x, h1, h2⟩, g => by
    rw [Nat.add_right_comm]
    exact ⟨x, h1, MA.W_add m h2 g⟩
theorem MA.W_one (m : MA) {p q : Int} (h : m.E p q) : m.W 1 p q := ⟨q, h, rfl⟩
theorem MA.W_split (m : MA) : ∀ {a b : Nat} {p r : Int}, m.W (a + b) p r → ∃ q, m.W a p q ∧ m.W b q r
  | 0, b, p, r, h => ⟨p, rfl, by rw [Nat.zero_add] at h; exact h⟩
  | a + 1, b, p, r, h => by
    rw [Nat.add_right_comm] at h
    obtain ⟨x, h1, h2⟩ := h
    obtain ⟨q, g1, g2⟩ := MA.W_split m h2
    exact ⟨q, ⟨x, h1, g1⟩, g2⟩
structure MA.Ok (m : MA) (L : List Nat) : Prop where
  pos : 0 < m.acc.length
  tl : m.tab.length = m.acc.length
  rl : ∀ row ∈ m.tab, row.length = L.length
  nx : ∀ row ∈ m.tab, ∀ q ∈ row, 0 ≤ q ∧ q < (m.acc.length : Int)
abbrev MA.In (m : MA) (q : Int) : Prop := 0 ≤ q ∧ q < (m.acc.length : Int)
theorem MA.Ok.eIn {m : MA} {L : List Nat} (o : m.Ok L) {p q : Int} (h : m.E p q) : m.In q := by
  obtain ⟨row, h1, h2⟩ := h
  exact o.nx row (List.mem_of_getElem? h1) q h2
theorem MA.Ok.wIn {m : MA} {L : List Nat} (o : m.Ok L) : ∀ {k : Nat} {p q : Int}, m.In p → m.W k p q → m.In q
  | 0, p, q, hp, h => by
    have e : p = q := h
    rw [← e]
    exact hp
  | k + 1, p, q, hp, ⟨r, h1, h2⟩ => MA.Ok.wIn o (o.eIn h1) h2
def MA.whole (m : MA) (L : List Nat) : Bool := decide (m.acc.length ≠ 0) && decide (m.tab.length = m.acc.length) && m.tab.all fun row => decide (row.length = L.length) && row.all fun q => decide (0 ≤ q) && decide (q < (m.acc.length : Int))
theorem MA.Ok.whole {m : MA} {L : List Nat} (o : m.Ok L) : m.whole L = true := by
  unfold MA.whole
  simp only [Bool.and_eq_true, decide_eq_true_iff, List.all_eq_true]
  exact ⟨⟨by have := o.pos; omega, o.tl⟩, fun row hr => ⟨o.rl row hr, fun q hq => o.nx row hr q hq⟩⟩
/-- the states, each once -/
def MA.states (m : MA) : List Int := (List.range m.acc.length).map fun (i : Nat) => (i : Int)
theorem MA.few {m : MA} {qs : List Int} (nd : qs.Nodup) (h : ∀ q ∈ qs, m.In q) : qs.length ≤ m.acc.length := by
  have z := nd.length_le_of_subset (l₂ := m.states) fun q hq => by
    obtain ⟨h0, h1⟩ := h q hq
    exact List.mem_map.mpr ⟨q.toNat, List.mem_range.mpr (by omega), Int.toNat_of_nonneg h0⟩
  unfold MA.states at z
  rw [List.length_map, List.length_range] at z
  exact z
/-! ### finitely many -/
/-- some accepted text has from n to 2n - 1 letters -/
def MA.Long (m : MA) : Prop := ∃ k q, m.acc.length ≤ k ∧ k < 2 * m.acc.length ∧ m.W k 0 q ∧ m.A q
/-- the useful states -/
structure MA.Use (m : MA) (us : List Int) : Prop where
  nd : us.Nodup
  re : ∀ q ∈ us, m.In q ∧ ∃ k, m.W k 0 q
  li : ∀ q ∈ us, ∃ k r, k < m.acc.length ∧ m.W k q r ∧ m.A r
  all : ∀ q k j r, m.W k 0 q → m.W j q r → m.A r → q ∈ us
/-- what has been taken away: walks among the useful states are short -/
structure MA.Off (m : MA) (us left : List Int) : Prop where
  sub : ∀ q ∈ left, q ∈ us
  nd : left.Nodup
  sh : ∀ q ∈ us, q ∉ left → ∀ k r, (∀ j s, j ≤ k → m.W j q s → m.W (k - j) s r → s ∈ us) → m.W k q r → k + left.length < us.length
theorem MA.Off.start {m : MA} {us : List Int} (nd : us.Nodup) : m.Off us us := ⟨fun _ h => h, nd, fun q h g => absurd h g⟩
theorem mem_filter_not {l xs : List Int} {q : Int} : q ∈ l.filter (fun q => !decide (q ∈ xs)) ↔ q ∈ l ∧ q ∉ xs := by
  rw [List.mem_filter]
  simp
theorem filter_len {l xs : List Int} (nd : l.Nodup) (nx : xs.Nodup) (sub : ∀ q ∈ xs, q ∈ l) : (l.filter fun q => !decide (q ∈ xs)).length + xs.length ≤ l.length := by
  have nd2 : (l.filter (fun q => !decide (q ∈ xs)) ++ xs).Nodup := by
    rw [List.nodup_append]
    refine ⟨nd.filter _, nx, fun a ha b hb e => ?_⟩
    exact (mem_filter_not.mp ha).2 (e ▸ hb)
  have z := nd2.length_le_of_subset (l₂ := l) fun q hq => (List.mem_append.mp hq).elim (fun h => (mem_filter_not.mp h).1) (sub q)
  rw [List.length_append] at z
  exact z
/-- one more layer is taken away -/
theorem MA.Off.step {m : MA} {us left last : List Int} (o : m.Off us left) (nd : us.Nodup) (hl : ∀ q, q ∈ last ↔ q ∈ left ∧ ∀ s, m.E q s → s ∉ left) (nl : last.Nodup) (ne : last ≠ []) : m.Off us (left.filter fun q => !decide (q ∈ last)) := by
  have sub : ∀ q ∈ last, q ∈ left := fun q h => ((hl q).mp h).1
  have len := filter_len o.nd nl sub
  have pos : 0 < last.length := List.length_pos_iff.mpr ne
  refine ⟨fun q h => o.sub q (mem_filter_not.mp h).1, o.nd.filter _, fun q hq hn k r hs hw => ?_⟩
  by_cases hql : q ∈ left
  · have hla : q ∈ last := Classical.byContradiction fun h => hn (mem_filter_not.mpr ⟨hql, h⟩)
    have hE := ((hl q).mp hla).2
    have lu : left.length ≤ us.length := o.nd.length_le_of_subset fun q h => o.sub q h
    cases k with
    | zero => omega
    | succ k =>
      obtain ⟨s, h1, h2⟩ := hw
      have hsu : s ∈ us := hs 1 s (by omega) (m.W_one h1) (by rw [Nat.add_sub_cancel]; exact h2)
      have z := o.sh s hsu (hE s h1) k r (fun j t hj w1 w2 => hs (j + 1) t (by omega) ⟨s, h1, w1⟩ (by rw [show k + 1 - (j + 1) = k - j by omega]; exact w2)) h2
      omega
  · have z := o.sh q hq hql k r hs hw
    omega
/-- all is taken away: nothing long is accepted -/
theorem MA.Off.done {m : MA} {us : List Int} {L : List Nat} (ok : m.Ok L) (o : m.Off us []) (u : m.Use us) : ∀ k q, m.acc.length ≤ k → m.W k 0 q → ¬ m.A q := fun k q hk hw ha => by
  have h0 : (0 : Int) ∈ us := u.all 0 0 k q rfl hw ha
  have z := o.sh 0 h0 (fun h => nomatch h) k q (fun j s hj w1 w2 => u.all s j (k - j) q w1 w2 ha) hw
  have f := MA.few u.nd fun q h => (u.re q h).1
  have e : ([] : List Int).length = 0 := rfl
  omega
/-- nothing can be taken away: something long is accepted -/
theorem MA.stuck {m : MA} {us left : List Int} {L : List Nat} (ok : m.Ok L) (u : m.Use us) (sub : ∀ q ∈ left, q ∈ us) (ne : left ≠ []) (st : ∀ q ∈ left, ∃ s, m.E q s ∧ s ∈ left) : m.Long := by
  have far : ∀ k q, q ∈ left → ∃ s, m.W k q s ∧ s ∈ left := fun k => by
    induction k with
    | zero => exact fun q h => ⟨q, rfl, h⟩
    | succ k ih =>
      intro q h
      obtain ⟨s, h1, h2⟩ := st q h
      obtain ⟨t, g1, g2⟩ := ih s h2
      exact ⟨t, ⟨s, h1, g1⟩, g2⟩
  obtain ⟨q, hq⟩ : ∃ q, q ∈ left := by
    cases left with
    | nil => exact absurd rfl ne
    | cons q _ => exact ⟨q, List.mem_cons_self⟩
  obtain ⟨a, ha⟩ := (u.re q (sub q hq)).2
  obtain ⟨s, hs, hsl⟩ := far m.acc.length q hq
  obtain ⟨j, r, hj, hw, hr⟩ := u.li s (sub s hsl)
  -- the state that the walk has reached behind n letters
  have w : m.W (m.acc.length + a) 0 s := by rw [Nat.add_comm]; exact m.W_add ha hs
  obtain ⟨t, t1, t2⟩ := m.W_split w
  have ht : t ∈ us := u.all t m.acc.length (a + j) r t1 (m.W_add t2 hw) hr
  obtain ⟨b, x, hb, hwx, hx⟩ := u.li t ht
  exact ⟨m.acc.length + b, x, by omega, by omega, m.W_add t1 hwx, hx⟩

--@@SPLIT
/-! ### machines as data -/
def rowI (row : List Int) : D := .tup (row.map .int)
abbrev maL (L : List Nat) (m : MA) : List D := [.str L, .tup (m.acc.map .bl), .tup (m.tab.map rowI)]
abbrev maD (L : List Nat) (m : MA) : D := .ins false 5 (maL L m)
abbrev rowJ (row : List Int) : D := .lst false (row.map .int)
theorem own_bls (l : List Bool) : ((l.map D.bl).all fun d => !own d) = true := own_all_map (fun _ => rfl) l
theorem own_ints (l : List Int) : ((l.map D.int).all fun d => !own d) = true := own_all_map (fun _ => rfl) l
theorem map_get {α β : Type} {f : α → β} {l : List α} {i : Nat} {d : β} (h : (l.map f)[i]? = some d) : ∃ x, l[i]? = some x ∧ d = f x := by
  rw [List.getElem?_map] at h
  cases e : l[i]? with
  | none => rw [e] at h; cases h
  | some c => rw [e] at h; cases h; exact ⟨c, rfl, rfl⟩
theorem all_take {α : Type} {l : List α} {i : Nat} {x : α} (h : l[i]? = some x) (p : α → Bool) : (l.take (i + 1)).all p = ((l.take i).all p && p x) := by
  rw [take_get h, List.all_append, List.all_cons, List.all_nil, Bool.and_true]
theorem map_at {α : Type} {f : α → D} {l : List α} {i : Nat} {d : α} (h : i < l.length) : atI (l.map f) (i : Int) = some (f (l.getD i d)) := by
  obtain ⟨x, h2, h3⟩ := atI_ok (xs := l.map f) (Int.natCast_nonneg i) (by rw [List.length_map]; omega)
  obtain ⟨y, h4, rfl⟩ := map_get h3
  rw [Int.toNat_natCast] at h4
  rw [h2, List.getD_eq_getElem?_getD, h4]
  rfl
theorem map_atI {α : Type} {f : α → D} {l : List α} {q : Int} {d : α} (h0 : 0 ≤ q) (h : q < l.length) : atI (l.map f) q = some (f (l.getD q.toNat d)) := by
  have z := map_at (f := f) (l := l) (i := q.toNat) (d := d) (by omega)
  rw [Int.toNat_of_nonneg h0] at z
  exact z
/-- the bounds -/
structure MA.Bd (m : MA) (L : List Nat) : Prop where
  l0 : L.length ≤ 1000
  n0 : m.acc.length ≤ 100000
  n3 : m.tab.length ≤ 100000
  n4 : ∀ row ∈ m.tab, row.length ≤ 100000
theorem MA.Ok.bd {m : MA} {L : List Nat} (o : m.Ok L) (l0 : L.length ≤ 1000) (n0 : m.acc.length ≤ 100000) : m.Bd L := ⟨l0, n0, by rw [o.tl]; exact n0, fun row h => by rw [o.rl row h]; omega⟩
theorem mwhole_no0 {m : MA} {L : List Nat} (h : m.acc.length = 0) : m.whole L = false := by
  unfold MA.whole
  rw [decide_eq_false (by omega : ¬ m.acc.length ≠ 0)]
  rfl
theorem mwhole_no1 {m : MA} {L : List Nat} (h : m.tab.length ≠ m.acc.length) : m.whole L = false := by
  unfold MA.whole
  rw [decide_eq_false h, Bool.and_false]
  rfl
abbrev rowOkB (m : MA) (L : List Nat) (row : List Int) : Bool := decide (row.length = L.length) && row.all fun q => decide (0 ≤ q) && decide (q < (m.acc.length : Int))
theorem mwhole_no2 {m : MA} {L : List Nat} {row} (hr : row ∈ m.tab) (h : rowOkB m L row = false) : m.whole L = false := by
  have e : (m.tab.all fun row => decide (row.length = L.length) && row.all fun q => decide (0 ≤ q) && decide (q < (m.acc.length : Int))) = false := List.all_eq_false.mpr ⟨row, hr, by show ¬ rowOkB m L row = true; rw [h]; exact Bool.false_ne_true⟩
  unfold MA.whole
  rw [e, Bool.and_false]
def S_Machine__is_whole : FS := fun args K => ∃ (L : List Nat) (m : MA), args = [maD L m] ∧ m.Bd L ∧ ∀ posts, posts.length = 1 → K (.ok (.bl (m.whole L))) posts
def b_Machine__is_whole : DS :=
  dSeq (dSet 1 (dFr (dBI oLen (dCons (dO (dFld 5 1 (dPk 0))) (dNil)))))
  (dSeq (dIfS (dOrT (dB (d2 (oEq id) (dPk 1) (dO (dC (.int 0))))) (dB (d2 (oEq not) (dO (dBI oLen (dCons (dO (dFld 5 2 (dPk 0))) (dNil)))) (dPk 1)))) (dRet (dFr (dC (.bl false)))) (dSkip))
  (dSeq (dFor (dItT (dFld 5 2 (dPk 0))) (dgN 2) (dIfS (dOrT (dB (d2 (oEq not) (dO (dBI oLen (dCons (dPk 2) (dNil)))) (dO (dBI oLen (dCons (dO (dFld 5 0 (dPk 0))) (dNil)))))) (dNotT (dB (dBI (oAll allG) (dCons (dO (dLc (dItV 2) (dgN 3) (dYes) (dChn oLe oLt (dO (dC (.int 0))) (dPk 3) (dPk 1)) [3])) (dNil)))))) (dRet (dFr (dC (.bl false)))) (dSkip)))
  (dRet (dFr (dC (.bl true))))))
theorem p_Machine__is_whole : ∀ args K', args.length = 1 → S_Machine__is_whole args K' → b_Machine__is_whole (args ++ List.replicate 3 .und) (endK 1 K') := by
  rintro args K' - ⟨L, m, rfl, bd, kk⟩
  show b_Machine__is_whole [maD L m, .und, .und, .und] _
  unfold b_Machine__is_whole
  have no : m.whole L = false → K' (R.ok (.bl false)) [maD L m] := fun h => by
    have k2 := kk [maD L m] rfl
    rw [h] at k2
    exact k2
  simp only [List.length_map, ↓dSeq, ↓dIfS, ↓dRet, ↓dRetN, ↓dSkip, ↓dBrk, ↓dCnt, ↓dPk, ↓dC, ↓dO, ↓d2, ↓dNotT, ↓dAndT, ↓dOrT, ↓dIf, ↓dNil, ↓dCons, ↓dNilL, ↓dConsL, ↓dTup, ↓dLst, ↓dBI, ↓dOwnL, ↓dCall, ↓dRng1, ↓dRng2, ↓dFor, ↓dRaise, ↓dRaise0, ↓dPn, ↓dYes, ↓dLc, ↓dExp, ↓onOk_ok, ↓onOk_exc, ↓onFl_ok, ↓onFl_exc, gt0, gtS, Vi.frs, fr_non, own_non, own_und, nz_non, fr_bl, own_bl, nz_bl, fr_int, own_int, nz_int, fr_str, own_str, nz_str, fr_tup, own_tup, nz_tup, fr_lst, own_lst, nz_lst, fr_klst, own_klst, nz_klst, fr_dic, own_dic, nz_dic, fr_ins, own_ins, nz_ins, fr_exo, own_exo, nz_exo, fr_fn, own_fn, nz_fn, eqD_ii, eqD_ss, eqD_bb, eqD_nn, eqD_sn, eqD_ns, eqD_ll, eqD_tt, eqDs_nn, eqDs_cn, eqDs_nc, eqDs_cc, shp_i, shp_b, shp_n, shp_s, shp_l, shp_t, shps_n, shps_c, id_eq, ↓dTry, ↓dIs_eq, ↓dWhat_eq, endT_rt, endT_nx, oEq, oIsN, isN, ↓endK_rt, ↓endK_nx, ↓endK_exc, ↓turnK_nx, ↓turnK_ct, ↓turnK_bk, ↓turnK_rt, ↓turnK_exc, List.set_cons_zero, List.set_cons_succ, List.all_cons, List.all_nil, List.map_cons, List.map_nil, Bool.and_true, Bool.and_self, Bool.true_and, Bool.not_true, Bool.not_false, true_and, and_true, List.take_succ_cons, List.take_zero, List.cons_append, List.nil_append, Bool.false_eq_true, if_false, if_true, ite_false, ite_true, wb_n, wb_sl, wb_vc, wb_vn, wb_v1, wb_v2, wb_v3, wb_v4, wb_v5, wb_v6, unb, reb, List.length_cons, List.length_nil, ↓dVar_r, ↓dFr_r, ↓dSet_r, ↓dgN_r, ↓dPut_r, ↓dApp_r, ↓dB_r, ↓dAndV_r, ↓dOrV_r, ↓dNotV_r, ↓dChn_r, ↓dSl_r, ↓dLenSet_r, ↓dItS_r, ↓dItL_r, ↓dItT_r, ↓dPs_r, eAt_c, exF_ok, putK_li, appK_l, blK_b, slK_s, slK_l, oIx_l, oIx_k, oIx_t, oIx_s, oAll_m, stK_b, seqK_l, seqK_k, tupK_t, inK_b, dAt_non, dAt_bl, dAt_int, dAt_str, dAt_tup, dAt_lst, dAt_klst, dAt_dic, dAt_ins, dAt_exo, dAt_fn, dAt_und, oAdd_ii, oAdd_ss, oAdd_ll, oAdd_tt, oOrd_ii, oOrd_ss, oInS_r, oInt_r, oInt0_r, oLen_l, oLen_k, oLen_t, oLen_s, oAbs_r, oInt1_i, oInt1_b, oReprB_r, int1_r, int2_r, isLst_l, see_v, see_s, sea_v, sea_s, ↓dIdx, ↓dFld, ↓dFset, ↓dJoin, ↓dListOf, ↓dMeth, ↓dMake_r, ↓dAsgG, ↓dLcN, ↓dLc2, idxK_ss, isStr_s, fldK_0, fldK_S, fsetK_r, isIns_i, dgTup_t, dgSeq_l, dgSeq_k, dgCons_c, dgNil_n, rowK_l, rowK_k, rowK_t, oTup_l, oTup_k, oTup_t, ↓dLoan_r, lnK_ok, lnK_exc, lnE_t, lnE_f, lnE_n, olE_c, olE_n, Bool.true_or, Bool.or_true, Bool.false_or, lf_non, lf_bl, lf_int, lf_str, lf_tup, lf_ins, lfs_n, lfs_c, fr2_l, ol_l, ↓dNeg, ngK_i, oRepS_r, ↓dApp2, ↓dPop2, ↓dPut2, sbK_l, opApp, opPop, opPut, ↓dAppSelf, ↓dAsg3, ↓dTru, truK_b, truK_l, ↓dExt, extK_l, oMin2_r, oIsB_r, ↓dSortSet, ↓dReprT, oEqS_r, ↓dCat, catK_l, ↓dItV, itK_s, itK_t, itK_l, itK_k, ↓dDisp1_r, tkK_ii, ↓dDget, ↓dDin, ↓dDput, dkK_tr, dkK_oi, dkK_os, dputK_t, dputK_oi, dputK_os]
  refine if_b (fun h => no (mwhole_no0 (by simpa using h))) fun h => if_b (fun h2 => no (mwhole_no1 fun e => ?_)) fun h2 => ?_
  · rw [e] at h2
    simp at h2
  have h2' : m.tab.length = m.acc.length := by
    have h3 : ((m.tab.length : Int) == (m.acc.length : Int)) = true := by simpa using h2
    rw [beq_iff_eq] at h3
    omega
  have hn : m.acc.length ≠ 0 := by
    intro e
    rw [e] at h
    simp at h
  refine for_dn (fun i ρ => ∃ (x2 : D), ρ = [maD L m, .int m.acc.length, x2, .und] ∧ (m.tab.take i).all (rowOkB m L) = true) ⟨.und, rfl, rfl⟩ ?_ ?_
  · rintro i d ρ N hd ⟨x2, rfl, hgood⟩ kN
    obtain ⟨row, hr, rfl⟩ := map_get hd
    have hm := List.mem_of_getElem? hr
    have l0 := bd.l0
    have r0 := bd.n4 row hm
    simp only [rowI, List.length_map, ↓dSeq, ↓dIfS, ↓dRet, ↓dRetN, ↓dSkip, ↓dBrk, ↓dCnt, ↓dPk, ↓dC, ↓dO, ↓d2, ↓dNotT, ↓dAndT, ↓dOrT, ↓dIf, ↓dNil, ↓dCons, ↓dNilL, ↓dConsL, ↓dTup, ↓dLst, ↓dBI, ↓dOwnL, ↓dCall, ↓dRng1, ↓dRng2, ↓dFor, ↓dRaise, ↓dRaise0, ↓dPn, ↓dYes, ↓dLc, ↓dExp, ↓onOk_ok, ↓onOk_exc, ↓onFl_ok, ↓onFl_exc, gt0, gtS, Vi.frs, fr_non, own_non, own_und, nz_non, fr_bl, own_bl, nz_bl, fr_int, own_int, nz_int, fr_str, own_str, nz_str, fr_tup, own_tup, nz_tup, fr_lst, own_lst, nz_lst, fr_klst, own_klst, nz_klst, fr_dic, own_dic, nz_dic, fr_ins, own_ins, nz_ins, fr_exo, own_exo, nz_exo, fr_fn, own_fn, nz_fn, eqD_ii, eqD_ss, eqD_bb, eqD_nn, eqD_sn, eqD_ns, eqD_ll, eqD_tt, eqDs_nn, eqDs_cn, eqDs_nc, eqDs_cc, shp_i, shp_b, shp_n, shp_s, shp_l, shp_t, shps_n, shps_c, id_eq, ↓dTry, ↓dIs_eq, ↓dWhat_eq, endT_rt, endT_nx, oEq, oIsN, isN, ↓endK_rt, ↓endK_nx, ↓endK_exc, ↓turnK_nx, ↓turnK_ct, ↓turnK_bk, ↓turnK_rt, ↓turnK_exc, List.set_cons_zero, List.set_cons_succ, List.all_cons, List.all_nil, List.map_cons, List.map_nil, Bool.and_true, Bool.and_self, Bool.true_and, Bool.not_true, Bool.not_false, true_and, and_true, List.take_succ_cons, List.take_zero, List.cons_append, List.nil_append, Bool.false_eq_true, if_false, if_true, ite_false, ite_true, wb_n, wb_sl, wb_vc, wb_vn, wb_v1, wb_v2, wb_v3, wb_v4, wb_v5, wb_v6, unb, reb, List.length_cons, List.length_nil, ↓dVar_r, ↓dFr_r, ↓dSet_r, ↓dgN_r, ↓dPut_r, ↓dApp_r, ↓dB_r, ↓dAndV_r, ↓dOrV_r, ↓dNotV_r, ↓dChn_r, ↓dSl_r, ↓dLenSet_r, ↓dItS_r, ↓dItL_r, ↓dItT_r, ↓dPs_r, eAt_c, exF_ok, putK_li, appK_l, blK_b, slK_s, slK_l, oIx_l, oIx_k, oIx_t, oIx_s, oAll_m, stK_b, seqK_l, seqK_k, tupK_t, inK_b, dAt_non, dAt_bl, dAt_int, dAt_str, dAt_tup, dAt_lst, dAt_klst, dAt_dic, dAt_ins, dAt_exo, dAt_fn, dAt_und, oAdd_ii, oAdd_ss, oAdd_ll, oAdd_tt, oOrd_ii, oOrd_ss, oInS_r, oInt_r, oInt0_r, oLen_l, oLen_k, oLen_t, oLen_s, oAbs_r, oInt1_i, oInt1_b, oReprB_r, int1_r, int2_r, isLst_l, see_v, see_s, sea_v, sea_s, ↓dIdx, ↓dFld, ↓dFset, ↓dJoin, ↓dListOf, ↓dMeth, ↓dMake_r, ↓dAsgG, ↓dLcN, ↓dLc2, idxK_ss, isStr_s, fldK_0, fldK_S, fsetK_r, isIns_i, dgTup_t, dgSeq_l, dgSeq_k, dgCons_c, dgNil_n, rowK_l, rowK_k, rowK_t, oTup_l, oTup_k, oTup_t, ↓dLoan_r, lnK_ok, lnK_exc, lnE_t, lnE_f, lnE_n, olE_c, olE_n, Bool.true_or, Bool.or_true, Bool.false_or, lf_non, lf_bl, lf_int, lf_str, lf_tup, lf_ins, lfs_n, lfs_c, fr2_l, ol_l, ↓dNeg, ngK_i, oRepS_r, ↓dApp2, ↓dPop2, ↓dPut2, sbK_l, opApp, opPop, opPut, ↓dAppSelf, ↓dAsg3, ↓dTru, truK_b, truK_l, ↓dExt, extK_l, oMin2_r, oIsB_r, ↓dSortSet, ↓dReprT, oEqS_r, ↓dCat, catK_l, ↓dItV, itK_s, itK_t, itK_l, itK_k, ↓dDisp1_r, tkK_ii, ↓dDget, ↓dDin, ↓dDput, dkK_tr, dkK_oi, dkK_os, dputK_t, dputK_oi, dputK_os]
    have eb : ((row.length : Int) == (L.length : Int)) = decide (row.length = L.length) := by
      rw [Bool.eq_iff_iff]
      simp only [beq_iff_eq, decide_eq_true_iff]
      omega
    rw [eb]
    refine ⟨by omega, if_b (fun h3 => no (mwhole_no2 hm ?_)) fun h3 => ⟨by omega, ?_⟩⟩
    · have h4 : decide (row.length = L.length) = false := by simpa using h3
      show (decide (row.length = L.length) && _) = false
      rw [h4, Bool.false_and]
    have h3' : decide (row.length = L.length) = true := by simpa using h3
    refine lc_dn (fun j acc => acc = ((row.take j).map fun q => decide (0 ≤ q) && decide (q < (m.acc.length : Int))).map D.bl) rfl ?_ ?_
    · rintro j d acc N2 hd2 rfl kN2
      obtain ⟨q, hq, rfl⟩ := map_get hd2
      simp only [↓dSeq, ↓dIfS, ↓dRet, ↓dRetN, ↓dSkip, ↓dBrk, ↓dCnt, ↓dPk, ↓dC, ↓dO, ↓d2, ↓dNotT, ↓dAndT, ↓dOrT, ↓dIf, ↓dNil, ↓dCons, ↓dNilL, ↓dConsL, ↓dTup, ↓dLst, ↓dBI, ↓dOwnL, ↓dCall, ↓dRng1, ↓dRng2, ↓dFor, ↓dRaise, ↓dRaise0, ↓dPn, ↓dYes, ↓dLc, ↓dExp, ↓onOk_ok, ↓onOk_exc, ↓onFl_ok, ↓onFl_exc, gt0, gtS, Vi.frs, fr_non, own_non, own_und, nz_non, fr_bl, own_bl, nz_bl, fr_int, own_int, nz_int, fr_str, own_str, nz_str, fr_tup, own_tup, nz_tup, fr_lst, own_lst, nz_lst, fr_klst, own_klst, nz_klst, fr_dic, own_dic, nz_dic, fr_ins, own_ins, nz_ins, fr_exo, own_exo, nz_exo, fr_fn, own_fn, nz_fn, eqD_ii, eqD_ss, eqD_bb, eqD_nn, eqD_sn, eqD_ns, eqD_ll, eqD_tt, eqDs_nn, eqDs_cn, eqDs_nc, eqDs_cc, shp_i, shp_b, shp_n, shp_s, shp_l, shp_t, shps_n, shps_c, id_eq, ↓dTry, ↓dIs_eq, ↓dWhat_eq, endT_rt, endT_nx, oEq, oIsN, isN, ↓endK_rt, ↓endK_nx, ↓endK_exc, ↓turnK_nx, ↓turnK_ct, ↓turnK_bk, ↓turnK_rt, ↓turnK_exc, List.set_cons_zero, List.set_cons_succ, List.all_cons, List.all_nil, List.map_cons, List.map_nil, Bool.and_true, Bool.and_self, Bool.true_and, Bool.not_true, Bool.not_false, true_and, and_true, List.take_succ_cons, List.take_zero, List.cons_append, List.nil_append, Bool.false_eq_true, if_false, if_true, ite_false, ite_true, wb_n, wb_sl, wb_vc, wb_vn, wb_v1, wb_v2, wb_v3, wb_v4, wb_v5, wb_v6, unb, reb, List.length_cons, List.length_nil, ↓dVar_r, ↓dFr_r, ↓dSet_r, ↓dgN_r, ↓dPut_r, ↓dApp_r, ↓dB_r, ↓dAndV_r, ↓dOrV_r, ↓dNotV_r, ↓dChn_r, ↓dSl_r, ↓dLenSet_r, ↓dItS_r, ↓dItL_r, ↓dItT_r, ↓dPs_r, eAt_c, exF_ok, putK_li, appK_l, blK_b, slK_s, slK_l, oIx_l, oIx_k, oIx_t, oIx_s, oAll_m, stK_b, seqK_l, seqK_k, tupK_t, inK_b, dAt_non, dAt_bl, dAt_int, dAt_str, dAt_tup, dAt_lst, dAt_klst, dAt_dic, dAt_ins, dAt_exo, dAt_fn, dAt_und, oAdd_ii, oAdd_ss, oAdd_ll, oAdd_tt, oOrd_ii, oOrd_ss, oInS_r, oInt_r, oInt0_r, oLen_l, oLen_k, oLen_t, oLen_s, oAbs_r, oInt1_i, oInt1_b, oReprB_r, int1_r, int2_r, isLst_l, see_v, see_s, sea_v, sea_s, ↓dIdx, ↓dFld, ↓dFset, ↓dJoin, ↓dListOf, ↓dMeth, ↓dMake_r, ↓dAsgG, ↓dLcN, ↓dLc2, idxK_ss, isStr_s, fldK_0, fldK_S, fsetK_r, isIns_i, dgTup_t, dgSeq_l, dgSeq_k, dgCons_c, dgNil_n, rowK_l, rowK_k, rowK_t, oTup_l, oTup_k, oTup_t, ↓dLoan_r, lnK_ok, lnK_exc, lnE_t, lnE_f, lnE_n, olE_c, olE_n, Bool.true_or, Bool.or_true, Bool.false_or, lf_non, lf_bl, lf_int, lf_str, lf_tup, lf_ins, lfs_n, lfs_c, fr2_l, ol_l, ↓dNeg, ngK_i, oRepS_r, ↓dApp2, ↓dPop2, ↓dPut2, sbK_l, opApp, opPop, opPut, ↓dAppSelf, ↓dAsg3, ↓dTru, truK_b, truK_l, ↓dExt, extK_l, oMin2_r, oIsB_r, ↓dSortSet, ↓dReprT, oEqS_r, ↓dCat, catK_l, ↓dItV, itK_s, itK_t, itK_l, itK_k, ↓dDisp1_r, tkK_ii, ↓dDget, ↓dDin, ↓dDput, dkK_tr, dkK_oi, dkK_os, dputK_t, dputK_oi, dputK_os]
      refine if_d (fun h5 => ?_) fun h5 => ?_
      · refine kN2 _ ?_
        rw [take_get hq, List.map_append, List.map_append]
        simp [h5]
      · refine kN2 _ ?_
        rw [take_get hq, List.map_append, List.map_append]
        simp [h5]
    · rintro acc rfl
      rw [List.length_map, List.take_length]
      simp only [↓dSeq, ↓dIfS, ↓dRet, ↓dRetN, ↓dSkip, ↓dBrk, ↓dCnt, ↓dPk, ↓dC, ↓dO, ↓d2, ↓dNotT, ↓dAndT, ↓dOrT, ↓dIf, ↓dNil, ↓dCons, ↓dNilL, ↓dConsL, ↓dTup, ↓dLst, ↓dBI, ↓dOwnL, ↓dCall, ↓dRng1, ↓dRng2, ↓dFor, ↓dRaise, ↓dRaise0, ↓dPn, ↓dYes, ↓dLc, ↓dExp, ↓onOk_ok, ↓onOk_exc, ↓onFl_ok, ↓onFl_exc, gt0, gtS, Vi.frs, fr_non, own_non, own_und, nz_non, fr_bl, own_bl, nz_bl, fr_int, own_int, nz_int, fr_str, own_str, nz_str, fr_tup, own_tup, nz_tup, fr_lst, own_lst, nz_lst, fr_klst, own_klst, nz_klst, fr_dic, own_dic, nz_dic, fr_ins, own_ins, nz_ins, fr_exo, own_exo, nz_exo, fr_fn, own_fn, nz_fn, eqD_ii, eqD_ss, eqD_bb, eqD_nn, eqD_sn, eqD_ns, eqD_ll, eqD_tt, eqDs_nn, eqDs_cn, eqDs_nc, eqDs_cc, shp_i, shp_b, shp_n, shp_s, shp_l, shp_t, shps_n, shps_c, id_eq, ↓dTry, ↓dIs_eq, ↓dWhat_eq, endT_rt, endT_nx, oEq, oIsN, isN, ↓endK_rt, ↓endK_nx, ↓endK_exc, ↓turnK_nx, ↓turnK_ct, ↓turnK_bk, ↓turnK_rt, ↓turnK_exc, List.set_cons_zero, List.set_cons_succ, List.all_cons, List.all_nil, List.map_cons, List.map_nil, Bool.and_true, Bool.and_self, Bool.true_and, Bool.not_true, Bool.not_false, true_and, and_true, List.take_succ_cons, List.take_zero, List.cons_append, List.nil_append, Bool.false_eq_true, if_false, if_true, ite_false, ite_true, wb_n, wb_sl, wb_vc, wb_vn, wb_v1, wb_v2, wb_v3, wb_v4, wb_v5, wb_v6, unb, reb, List.length_cons, List.length_nil, ↓dVar_r, ↓dFr_r, ↓dSet_r, ↓dgN_r, ↓dPut_r, ↓dApp_r, ↓dB_r, ↓dAndV_r, ↓dOrV_r, ↓dNotV_r, ↓dChn_r, ↓dSl_r, ↓dLenSet_r, ↓dItS_r, ↓dItL_r, ↓dItT_r, ↓dPs_r, eAt_c, exF_ok, putK_li, appK_l, blK_b, slK_s, slK_l, oIx_l, oIx_k, oIx_t, oIx_s, oAll_m, stK_b, seqK_l, seqK_k, tupK_t, inK_b, dAt_non, dAt_bl, dAt_int, dAt_str, dAt_tup, dAt_lst, dAt_klst, dAt_dic, dAt_ins, dAt_exo, dAt_fn, dAt_und, oAdd_ii, oAdd_ss, oAdd_ll, oAdd_tt, oOrd_ii, oOrd_ss, oInS_r, oInt_r, oInt0_r, oLen_l, oLen_k, oLen_t, oLen_s, oAbs_r, oInt1_i, oInt1_b, oReprB_r, int1_r, int2_r, isLst_l, see_v, see_s, sea_v, sea_s, ↓dIdx, ↓dFld, ↓dFset, ↓dJoin, ↓dListOf, ↓dMeth, ↓dMake_r, ↓dAsgG, ↓dLcN, ↓dLc2, idxK_ss, isStr_s, fldK_0, fldK_S, fsetK_r, isIns_i, dgTup_t, dgSeq_l, dgSeq_k, dgCons_c, dgNil_n, rowK_l, rowK_k, rowK_t, oTup_l, oTup_k, oTup_t, ↓dLoan_r, lnK_ok, lnK_exc, lnE_t, lnE_f, lnE_n, olE_c, olE_n, Bool.true_or, Bool.or_true, Bool.false_or, lf_non, lf_bl, lf_int, lf_str, lf_tup, lf_ins, lfs_n, lfs_c, fr2_l, ol_l, ↓dNeg, ngK_i, oRepS_r, ↓dApp2, ↓dPop2, ↓dPut2, sbK_l, opApp, opPop, opPut, ↓dAppSelf, ↓dAsg3, ↓dTru, truK_b, truK_l, ↓dExt, extK_l, oMin2_r, oIsB_r, ↓dSortSet, ↓dReprT, oEqS_r, ↓dCat, catK_l, ↓dItV, itK_s, itK_t, itK_l, itK_k, ↓dDisp1_r, tkK_ii, ↓dDget, ↓dDin, ↓dDput, dkK_tr, dkK_oi, dkK_os, dputK_t, dputK_oi, dputK_os]
      have e6 : allG (row.map fun q => decide (0 ≤ q) && decide (q < (m.acc.length : Int))) = row.all fun q => decide (0 ≤ q) && decide (q < (m.acc.length : Int)) := by
        show (row.map _).all id = _
        rw [List.all_map]
        rfl
      rw [e6]
      refine if_b (fun h6 => no (mwhole_no2 hm ?_)) fun h6 => kN _ ⟨_, rfl, ?_⟩
      · have h7 : (row.all fun q => decide (0 ≤ q) && decide (q < (m.acc.length : Int))) = false := by simpa using h6
        show (_ && row.all _) = false
        rw [h7, Bool.and_false]
      · have h7 : (row.all fun q => decide (0 ≤ q) && decide (q < (m.acc.length : Int))) = true := by simpa using h6
        rw [all_take hr, hgood]
        show (true && (decide (row.length = L.length) && row.all _)) = true
        rw [h3', h7]
        rfl
  · rintro ρ ⟨x2, rfl, hgood⟩
    rw [List.length_map, List.take_length] at hgood
    simp only [↓dSeq, ↓dIfS, ↓dRet, ↓dRetN, ↓dSkip, ↓dBrk, ↓dCnt, ↓dPk, ↓dC, ↓dO, ↓d2, ↓dNotT, ↓dAndT, ↓dOrT, ↓dIf, ↓dNil, ↓dCons, ↓dNilL, ↓dConsL, ↓dTup, ↓dLst, ↓dBI, ↓dOwnL, ↓dCall, ↓dRng1, ↓dRng2, ↓dFor, ↓dRaise, ↓dRaise0, ↓dPn, ↓dYes, ↓dLc, ↓dExp, ↓onOk_ok, ↓onOk_exc, ↓onFl_ok, ↓onFl_exc, gt0, gtS, Vi.frs, fr_non, own_non, own_und, nz_non, fr_bl, own_bl, nz_bl, fr_int, own_int, nz_int, fr_str, own_str, nz_str, fr_tup, own_tup, nz_tup, fr_lst, own_lst, nz_lst, fr_klst, own_klst, nz_klst, fr_dic, own_dic, nz_dic, fr_ins, own_ins, nz_ins, fr_exo, own_exo, nz_exo, fr_fn, own_fn, nz_fn, eqD_ii, eqD_ss, eqD_bb, eqD_nn, eqD_sn, eqD_ns, eqD_ll, eqD_tt, eqDs_nn, eqDs_cn, eqDs_nc, eqDs_cc, shp_i, shp_b, shp_n, shp_s, shp_l, shp_t, shps_n, shps_c, id_eq, ↓dTry, ↓dIs_eq, ↓dWhat_eq, endT_rt, endT_nx, oEq, oIsN, isN, ↓endK_rt, ↓endK_nx, ↓endK_exc, ↓turnK_nx, ↓turnK_ct, ↓turnK_bk, ↓turnK_rt, ↓turnK_exc, List.set_cons_zero, List.set_cons_succ, List.all_cons, List.all_nil, List.map_cons, List.map_nil, Bool.and_true, Bool.and_self, Bool.true_and, Bool.not_true, Bool.not_false, true_and, and_true, List.take_succ_cons, List.take_zero, List.cons_append, List.nil_append, Bool.false_eq_true, if_false, if_true, ite_false, ite_true, wb_n, wb_sl, wb_vc, wb_vn, wb_v1, wb_v2, wb_v3, wb_v4, wb_v5, wb_v6, unb, reb, List.length_cons, List.length_nil, ↓dVar_r, ↓dFr_r, ↓dSet_r, ↓dgN_r, ↓dPut_r, ↓dApp_r, ↓dB_r, ↓dAndV_r, ↓dOrV_r, ↓dNotV_r, ↓dChn_r, ↓dSl_r, ↓dLenSet_r, ↓dItS_r, ↓dItL_r, ↓dItT_r, ↓dPs_r, eAt_c, exF_ok, putK_li, appK_l, blK_b, slK_s, slK_l, oIx_l, oIx_k, oIx_t, oIx_s, oAll_m, stK_b, seqK_l, seqK_k, tupK_t, inK_b, dAt_non, dAt_bl, dAt_int, dAt_str, dAt_tup, dAt_lst, dAt_klst, dAt_dic, dAt_ins, dAt_exo, dAt_fn, dAt_und, oAdd_ii, oAdd_ss, oAdd_ll, oAdd_tt, oOrd_ii, oOrd_ss, oInS_r, oInt_r, oInt0_r, oLen_l, oLen_k, oLen_t, oLen_s, oAbs_r, oInt1_i, oInt1_b, oReprB_r, int1_r, int2_r, isLst_l, see_v, see_s, sea_v, sea_s, ↓dIdx, ↓dFld, ↓dFset, ↓dJoin, ↓dListOf, ↓dMeth, ↓dMake_r, ↓dAsgG, ↓dLcN, ↓dLc2, idxK_ss, isStr_s, fldK_0, fldK_S, fsetK_r, isIns_i, dgTup_t, dgSeq_l, dgSeq_k, dgCons_c, dgNil_n, rowK_l, rowK_k, rowK_t, oTup_l, oTup_k, oTup_t, ↓dLoan_r, lnK_ok, lnK_exc, lnE_t, lnE_f, lnE_n, olE_c, olE_n, Bool.true_or, Bool.or_true, Bool.false_or, lf_non, lf_bl, lf_int, lf_str, lf_tup, lf_ins, lfs_n, lfs_c, fr2_l, ol_l, ↓dNeg, ngK_i, oRepS_r, ↓dApp2, ↓dPop2, ↓dPut2, sbK_l, opApp, opPop, opPut, ↓dAppSelf, ↓dAsg3, ↓dTru, truK_b, truK_l, ↓dExt, extK_l, oMin2_r, oIsB_r, ↓dSortSet, ↓dReprT, oEqS_r, ↓dCat, catK_l, ↓dItV, itK_s, itK_t, itK_l, itK_k, ↓dDisp1_r, tkK_ii, ↓dDget, ↓dDin, ↓dDput, dkK_tr, dkK_oi, dkK_os, dputK_t, dputK_oi, dputK_os]
    have e : m.whole L = true := by
      unfold MA.whole
      rw [decide_eq_true hn, decide_eq_true h2']
      exact hgood
    have k2 := kk [maD L m] rfl
    rw [e] at k2
    exact k2
/-- a list or a tuple -/
def sqm (k : Bool) (xs : List D) : D := if k then .tup xs else .lst false xs
theorem sqm_t (xs : List D) : sqm true xs = .tup xs := rfl
theorem sqm_f (xs : List D) : sqm false xs = .lst false xs := rfl
/-- parts: lists, or tuples of tuples -/
def S_Machine___init__ : FS := fun args K => ∃ (L : List Nat) (m : MA) (k1 k2 k3 : Bool), args = [.ins true 5 [], .str L, sqm k1 (m.acc.map .bl), sqm k2 (m.tab.map fun row => sqm k3 (row.map .int))] ∧ m.Bd L ∧
  ∀ a b c, K (if m.whole L = true then .ok .non else .exc 2 .non) [maD L m, a, b, c]
def b_Machine___init__ : DS :=
  dSeq (dFset 5 0 0 (dVar 1))
  (dSeq (dFset 5 0 1 (dBI oTup (dCons (dPk 2) (dNil))))
  (dSeq (dFset 5 0 2 (dBI oTup (dCons (dO (dLc (dItV 3) (dgN 4) (dYes) (dBI oTup (dCons (dPk 4) (dNil))) [4])) (dNil))))
  (dIfS (dNotT (dB (dFr (dMeth 5 [] 1 S_Machine__is_whole [] (dO (dVar 0)) (dNil))))) (dRaise0 2) (dSkip))))
theorem p_Machine___init__ : ∀ args K', args.length = 4 → S_Machine___init__ args K' → b_Machine___init__ (args ++ List.replicate 1 .und) (endK 4 K') := by
  rintro args K' - ⟨L, m, k1, k2, k3, rfl, bd, kk⟩
  show b_Machine___init__ [.ins true 5 [], .str L, sqm k1 (m.acc.map .bl), sqm k2 (m.tab.map fun row => sqm k3 (row.map .int)), .und] _
  unfold b_Machine___init__
  have b3 := bd.n3
  cases k1 <;> cases k2
  all_goals
    simp only [sqm_t, sqm_f, own_bls, List.length_map, ↓dSeq, ↓dIfS, ↓dRet, ↓dRetN, ↓dSkip, ↓dBrk, ↓dCnt, ↓dPk, ↓dC, ↓dO, ↓d2, ↓dNotT, ↓dAndT, ↓dOrT, ↓dIf, ↓dNil, ↓dCons, ↓dNilL, ↓dConsL, ↓dTup, ↓dLst, ↓dBI, ↓dOwnL, ↓dCall, ↓dRng1, ↓dRng2, ↓dFor, ↓dRaise, ↓dRaise0, ↓dPn, ↓dYes, ↓dLc, ↓dExp, ↓onOk_ok, ↓onOk_exc, ↓onFl_ok, ↓onFl_exc, gt0, gtS, Vi.frs, fr_non, own_non, own_und, nz_non, fr_bl, own_bl, nz_bl, fr_int, own_int, nz_int, fr_str, own_str, nz_str, fr_tup, own_tup, nz_tup, fr_lst, own_lst, nz_lst, fr_klst, own_klst, nz_klst, fr_dic, own_dic, nz_dic, fr_ins, own_ins, nz_ins, fr_exo, own_exo, nz_exo, fr_fn, own_fn, nz_fn, eqD_ii, eqD_ss, eqD_bb, eqD_nn, eqD_sn, eqD_ns, eqD_ll, eqD_tt, eqDs_nn, eqDs_cn, eqDs_nc, eqDs_cc, shp_i, shp_b, shp_n, shp_s, shp_l, shp_t, shps_n, shps_c, id_eq, ↓dTry, ↓dIs_eq, ↓dWhat_eq, endT_rt, endT_nx, oEq, oIsN, isN, ↓endK_rt, ↓endK_nx, ↓endK_exc, ↓turnK_nx, ↓turnK_ct, ↓turnK_bk, ↓turnK_rt, ↓turnK_exc, List.set_cons_zero, List.set_cons_succ, List.all_cons, List.all_nil, List.map_cons, List.map_nil, Bool.and_true, Bool.and_self, Bool.true_and, Bool.not_true, Bool.not_false, true_and, and_true, List.take_succ_cons, List.take_zero, List.cons_append, List.nil_append, Bool.false_eq_true, if_false, if_true, ite_false, ite_true, wb_n, wb_sl, wb_vc, wb_vn, wb_v1, wb_v2, wb_v3, wb_v4, wb_v5, wb_v6, unb, reb, List.length_cons, List.length_nil, ↓dVar_r, ↓dFr_r, ↓dSet_r, ↓dgN_r, ↓dPut_r, ↓dApp_r, ↓dB_r, ↓dAndV_r, ↓dOrV_r, ↓dNotV_r, ↓dChn_r, ↓dSl_r, ↓dLenSet_r, ↓dItS_r, ↓dItL_r, ↓dItT_r, ↓dPs_r, eAt_c, exF_ok, putK_li, appK_l, blK_b, slK_s, slK_l, oIx_l, oIx_k, oIx_t, oIx_s, oAll_m, stK_b, seqK_l, seqK_k, tupK_t, inK_b, dAt_non, dAt_bl, dAt_int, dAt_str, dAt_tup, dAt_lst, dAt_klst, dAt_dic, dAt_ins, dAt_exo, dAt_fn, dAt_und, oAdd_ii, oAdd_ss, oAdd_ll, oAdd_tt, oOrd_ii, oOrd_ss, oInS_r, oInt_r, oInt0_r, oLen_l, oLen_k, oLen_t, oLen_s, oAbs_r, oInt1_i, oInt1_b, oReprB_r, int1_r, int2_r, isLst_l, see_v, see_s, sea_v, sea_s, ↓dIdx, ↓dFld, ↓dFset, ↓dJoin, ↓dListOf, ↓dMeth, ↓dMake_r, ↓dAsgG, ↓dLcN, ↓dLc2, idxK_ss, isStr_s, fldK_0, fldK_S, fsetK_r, isIns_i, dgTup_t, dgSeq_l, dgSeq_k, dgCons_c, dgNil_n, rowK_l, rowK_k, rowK_t, oTup_l, oTup_k, oTup_t, ↓dLoan_r, lnK_ok, lnK_exc, lnE_t, lnE_f, lnE_n, olE_c, olE_n, Bool.true_or, Bool.or_true, Bool.false_or, lf_non, lf_bl, lf_int, lf_str, lf_tup, lf_ins, lfs_n, lfs_c, fr2_l, ol_l, ↓dNeg, ngK_i, oRepS_r, ↓dApp2, ↓dPop2, ↓dPut2, sbK_l, opApp, opPop, opPut, ↓dAppSelf, ↓dAsg3, ↓dTru, truK_b, truK_l, ↓dExt, extK_l, oMin2_r, oIsB_r, ↓dSortSet, ↓dReprT, oEqS_r, ↓dCat, catK_l, ↓dItV, itK_s, itK_t, itK_l, itK_k, ↓dDisp1_r, tkK_ii, ↓dDget, ↓dDin, ↓dDput, dkK_tr, dkK_oi, dkK_os, dputK_t, dputK_oi, dputK_os]
    refine ⟨by omega, ?_⟩
    refine lc_dn (fun i acc => acc = (m.tab.take i).map rowI) rfl ?_ ?_
    · rintro i d acc N hd rfl kN
      obtain ⟨row, hr, rfl⟩ := map_get hd
      have e : (m.tab.take (i + 1)).map rowI = (m.tab.take i).map rowI ++ [.tup (row.map .int)] := by
        rw [take_get hr, List.map_append]
        rfl
      cases k3
      all_goals
        simp only [sqm_t, sqm_f, own_ints, ↓dSeq, ↓dIfS, ↓dRet, ↓dRetN, ↓dSkip, ↓dBrk, ↓dCnt, ↓dPk, ↓dC, ↓dO, ↓d2, ↓dNotT, ↓dAndT, ↓dOrT, ↓dIf, ↓dNil, ↓dCons, ↓dNilL, ↓dConsL, ↓dTup, ↓dLst, ↓dBI, ↓dOwnL, ↓dCall, ↓dRng1, ↓dRng2, ↓dFor, ↓dRaise, ↓dRaise0, ↓dPn, ↓dYes, ↓dLc, ↓dExp, ↓onOk_ok, ↓onOk_exc, ↓onFl_ok, ↓onFl_exc, gt0, gtS, Vi.frs, fr_non, own_non, own_und, nz_non, fr_bl, own_bl, nz_bl, fr_int, own_int, nz_int, fr_str, own_str, nz_str, fr_tup, own_tup, nz_tup, fr_lst, own_lst, nz_lst, fr_klst, own_klst, nz_klst, fr_dic, own_dic, nz_dic, fr_ins, own_ins, nz_ins, fr_exo, own_exo, nz_exo, fr_fn, own_fn, nz_fn, eqD_ii, eqD_ss, eqD_bb, eqD_nn, eqD_sn, eqD_ns, eqD_ll, eqD_tt, eqDs_nn, eqDs_cn, eqDs_nc, eqDs_cc, shp_i, shp_b, shp_n, shp_s, shp_l, shp_t, shps_n, shps_c, id_eq, ↓dTry, ↓dIs_eq, ↓dWhat_eq, endT_rt, endT_nx, oEq, oIsN, isN, ↓endK_rt, ↓endK_nx, ↓endK_exc, ↓turnK_nx, ↓turnK_ct, ↓turnK_bk, ↓turnK_rt, ↓turnK_exc, List.set_cons_zero, List.set_cons_succ, List.all_cons, List.all_nil, List.map_cons, List.map_nil, Bool.and_true, Bool.and_self, Bool.true_and, Bool.not_true, Bool.not_false, true_and, and_true, List.take_succ_cons, List.take_zero, List.cons_append, List.nil_append, Bool.false_eq_true, if_false, if_true, ite_false, ite_true, wb_n, wb_sl, wb_vc, wb_vn, wb_v1, wb_v2, wb_v3, wb_v4, wb_v5, wb_v6, unb, reb, List.length_cons, List.length_nil, ↓dVar_r, ↓dFr_r, ↓dSet_r, ↓dgN_r, ↓dPut_r, ↓dApp_r, ↓dB_r, ↓dAndV_r, ↓dOrV_r, ↓dNotV_r, ↓dChn_r, ↓dSl_r, ↓dLenSet_r, ↓dItS_r, ↓dItL_r, ↓dItT_r, ↓dPs_r, eAt_c, exF_ok, putK_li, appK_l, blK_b, slK_s, slK_l, oIx_l, oIx_k, oIx_t, oIx_s, oAll_m, stK_b, seqK_l, seqK_k, tupK_t, inK_b, dAt_non, dAt_bl, dAt_int, dAt_str, dAt_tup, dAt_lst, dAt_klst, dAt_dic, dAt_ins, dAt_exo, dAt_fn, dAt_und, oAdd_ii, oAdd_ss, oAdd_ll, oAdd_tt, oOrd_ii, oOrd_ss, oInS_r, oInt_r, oInt0_r, oLen_l, oLen_k, oLen_t, oLen_s, oAbs_r, oInt1_i, oInt1_b, oReprB_r, int1_r, int2_r, isLst_l, see_v, see_s, sea_v, sea_s, ↓dIdx, ↓dFld, ↓dFset, ↓dJoin, ↓dListOf, ↓dMeth, ↓dMake_r, ↓dAsgG, ↓dLcN, ↓dLc2, idxK_ss, isStr_s, fldK_0, fldK_S, fsetK_r, isIns_i, dgTup_t, dgSeq_l, dgSeq_k, dgCons_c, dgNil_n, rowK_l, rowK_k, rowK_t, oTup_l, oTup_k, oTup_t, ↓dLoan_r, lnK_ok, lnK_exc, lnE_t, lnE_f, lnE_n, olE_c, olE_n, Bool.true_or, Bool.or_true, Bool.false_or, lf_non, lf_bl, lf_int, lf_str, lf_tup, lf_ins, lfs_n, lfs_c, fr2_l, ol_l, ↓dNeg, ngK_i, oRepS_r, ↓dApp2, ↓dPop2, ↓dPut2, sbK_l, opApp, opPop, opPut, ↓dAppSelf, ↓dAsg3, ↓dTru, truK_b, truK_l, ↓dExt, extK_l, oMin2_r, oIsB_r, ↓dSortSet, ↓dReprT, oEqS_r, ↓dCat, catK_l, ↓dItV, itK_s, itK_t, itK_l, itK_k, ↓dDisp1_r, tkK_ii, ↓dDget, ↓dDin, ↓dDput, dkK_tr, dkK_oi, dkK_os, dputK_t, dputK_oi, dputK_os]
        exact kN _ e.symm
    · rintro acc rfl
      rw [List.length_map, List.take_length]
      have oo : ((m.tab.map rowI).all fun d => !own d) = true := own_all_map (fun _ => rfl) _
      simp only [oo, ↓dSeq, ↓dIfS, ↓dRet, ↓dRetN, ↓dSkip, ↓dBrk, ↓dCnt, ↓dPk, ↓dC, ↓dO, ↓d2, ↓dNotT, ↓dAndT, ↓dOrT, ↓dIf, ↓dNil, ↓dCons, ↓dNilL, ↓dConsL, ↓dTup, ↓dLst, ↓dBI, ↓dOwnL, ↓dCall, ↓dRng1, ↓dRng2, ↓dFor, ↓dRaise, ↓dRaise0, ↓dPn, ↓dYes, ↓dLc, ↓dExp, ↓onOk_ok, ↓onOk_exc, ↓onFl_ok, ↓onFl_exc, gt0, gtS, Vi.frs, fr_non, own_non, own_und, nz_non, fr_bl, own_bl, nz_bl, fr_int, own_int, nz_int, fr_str, own_str, nz_str, fr_tup, own_tup, nz_tup, fr_lst, own_lst, nz_lst, fr_klst, own_klst, nz_klst, fr_dic, own_dic, nz_dic, fr_ins, own_ins, nz_ins, fr_exo, own_exo, nz_exo, fr_fn, own_fn, nz_fn, eqD_ii, eqD_ss, eqD_bb, eqD_nn, eqD_sn, eqD_ns, eqD_ll, eqD_tt, eqDs_nn, eqDs_cn, eqDs_nc, eqDs_cc, shp_i, shp_b, shp_n, shp_s, shp_l, shp_t, shps_n, shps_c, id_eq, ↓dTry, ↓dIs_eq, ↓dWhat_eq, endT_rt, endT_nx, oEq, oIsN, isN, ↓endK_rt, ↓endK_nx, ↓endK_exc, ↓turnK_nx, ↓turnK_ct, ↓turnK_bk, ↓turnK_rt, ↓turnK_exc, List.set_cons_zero, List.set_cons_succ, List.all_cons, List.all_nil, List.map_cons, List.map_nil, Bool.and_true, Bool.and_self, Bool.true_and, Bool.not_true, Bool.not_false, true_and, and_true, List.take_succ_cons, List.take_zero, List.cons_append, List.nil_append, Bool.false_eq_true, if_false, if_true, ite_false, ite_true, wb_n, wb_sl, wb_vc, wb_vn, wb_v1, wb_v2, wb_v3, wb_v4, wb_v5, wb_v6, unb, reb, List.length_cons, List.length_nil, ↓dVar_r, ↓dFr_r, ↓dSet_r, ↓dgN_r, ↓dPut_r, ↓dApp_r, ↓dB_r, ↓dAndV_r, ↓dOrV_r, ↓dNotV_r, ↓dChn_r, ↓dSl_r, ↓dLenSet_r, ↓dItS_r, ↓dItL_r, ↓dItT_r, ↓dPs_r, eAt_c, exF_ok, putK_li, appK_l, blK_b, slK_s, slK_l, oIx_l, oIx_k, oIx_t, oIx_s, oAll_m, stK_b, seqK_l, seqK_k, tupK_t, inK_b, dAt_non, dAt_bl, dAt_int, dAt_str, dAt_tup, dAt_lst, dAt_klst, dAt_dic, dAt_ins, dAt_exo, dAt_fn, dAt_und, oAdd_ii, oAdd_ss, oAdd_ll, oAdd_tt, oOrd_ii, oOrd_ss, oInS_r, oInt_r, oInt0_r, oLen_l, oLen_k, oLen_t, oLen_s, oAbs_r, oInt1_i, oInt1_b, oReprB_r, int1_r, int2_r, isLst_l, see_v, see_s, sea_v, sea_s, ↓dIdx, ↓dFld, ↓dFset, ↓dJoin, ↓dListOf, ↓dMeth, ↓dMake_r, ↓dAsgG, ↓dLcN, ↓dLc2, idxK_ss, isStr_s, fldK_0, fldK_S, fsetK_r, isIns_i, dgTup_t, dgSeq_l, dgSeq_k, dgCons_c, dgNil_n, rowK_l, rowK_k, rowK_t, oTup_l, oTup_k, oTup_t, ↓dLoan_r, lnK_ok, lnK_exc, lnE_t, lnE_f, lnE_n, olE_c, olE_n, Bool.true_or, Bool.or_true, Bool.false_or, lf_non, lf_bl, lf_int, lf_str, lf_tup, lf_ins, lfs_n, lfs_c, fr2_l, ol_l, ↓dNeg, ngK_i, oRepS_r, ↓dApp2, ↓dPop2, ↓dPut2, sbK_l, opApp, opPop, opPut, ↓dAppSelf, ↓dAsg3, ↓dTru, truK_b, truK_l, ↓dExt, extK_l, oMin2_r, oIsB_r, ↓dSortSet, ↓dReprT, oEqS_r, ↓dCat, catK_l, ↓dItV, itK_s, itK_t, itK_l, itK_k, ↓dDisp1_r, tkK_ii, ↓dDget, ↓dDin, ↓dDput, dkK_tr, dkK_oi, dkK_os, dputK_t, dputK_oi, dputK_os]
      refine call_step rfl rfl rfl ⟨L, m, rfl, bd, fun posts hp => ⟨hp, ?_⟩⟩
      have k2 := kk
      cases hw : m.whole L with
      | true =>
        simp only [↓dSeq, ↓dIfS, ↓dRet, ↓dRetN, ↓dSkip, ↓dBrk, ↓dCnt, ↓dPk, ↓dC, ↓dO, ↓d2, ↓dNotT, ↓dAndT, ↓dOrT, ↓dIf, ↓dNil, ↓dCons, ↓dNilL, ↓dConsL, ↓dTup, ↓dLst, ↓dBI, ↓dOwnL, ↓dCall, ↓dRng1, ↓dRng2, ↓dFor, ↓dRaise, ↓dRaise0, ↓dPn, ↓dYes, ↓dLc, ↓dExp, ↓onOk_ok, ↓onOk_exc, ↓onFl_ok, ↓onFl_exc, gt0, gtS, Vi.frs, fr_non, own_non, own_und, nz_non, fr_bl, own_bl, nz_bl, fr_int, own_int, nz_int, fr_str, own_str, nz_str, fr_tup, own_tup, nz_tup, fr_lst, own_lst, nz_lst, fr_klst, own_klst, nz_klst, fr_dic, own_dic, nz_dic, fr_ins, own_ins, nz_ins, fr_exo, own_exo, nz_exo, fr_fn, own_fn, nz_fn, eqD_ii, eqD_ss, eqD_bb, eqD_nn, eqD_sn, eqD_ns, eqD_ll, eqD_tt, eqDs_nn, eqDs_cn, eqDs_nc, eqDs_cc, shp_i, shp_b, shp_n, shp_s, shp_l, shp_t, shps_n, shps_c, id_eq, ↓dTry, ↓dIs_eq, ↓dWhat_eq, endT_rt, endT_nx, oEq, oIsN, isN, ↓endK_rt, ↓endK_nx, ↓endK_exc, ↓turnK_nx, ↓turnK_ct, ↓turnK_bk, ↓turnK_rt, ↓turnK_exc, List.set_cons_zero, List.set_cons_succ, List.all_cons, List.all_nil, List.map_cons, List.map_nil, Bool.and_true, Bool.and_self, Bool.true_and, Bool.not_true, Bool.not_false, true_and, and_true, List.take_succ_cons, List.take_zero, List.cons_append, List.nil_append, Bool.false_eq_true, if_false, if_true, ite_false, ite_true, wb_n, wb_sl, wb_vc, wb_vn, wb_v1, wb_v2, wb_v3, wb_v4, wb_v5, wb_v6, unb, reb, List.length_cons, List.length_nil, ↓dVar_r, ↓dFr_r, ↓dSet_r, ↓dgN_r, ↓dPut_r, ↓dApp_r, ↓dB_r, ↓dAndV_r, ↓dOrV_r, ↓dNotV_r, ↓dChn_r, ↓dSl_r, ↓dLenSet_r, ↓dItS_r, ↓dItL_r, ↓dItT_r, ↓dPs_r, eAt_c, exF_ok, putK_li, appK_l, blK_b, slK_s, slK_l, oIx_l, oIx_k, oIx_t, oIx_s, oAll_m, stK_b, seqK_l, seqK_k, tupK_t, inK_b, dAt_non, dAt_bl, dAt_int, dAt_str, dAt_tup, dAt_lst, dAt_klst, dAt_dic, dAt_ins, dAt_exo, dAt_fn, dAt_und, oAdd_ii, oAdd_ss, oAdd_ll, oAdd_tt, oOrd_ii, oOrd_ss, oInS_r, oInt_r, oInt0_r, oLen_l, oLen_k, oLen_t, oLen_s, oAbs_r, oInt1_i, oInt1_b, oReprB_r, int1_r, int2_r, isLst_l, see_v, see_s, sea_v, sea_s, ↓dIdx, ↓dFld, ↓dFset, ↓dJoin, ↓dListOf, ↓dMeth, ↓dMake_r, ↓dAsgG, ↓dLcN, ↓dLc2, idxK_ss, isStr_s, fldK_0, fldK_S, fsetK_r, isIns_i, dgTup_t, dgSeq_l, dgSeq_k, dgCons_c, dgNil_n, rowK_l, rowK_k, rowK_t, oTup_l, oTup_k, oTup_t, ↓dLoan_r, lnK_ok, lnK_exc, lnE_t, lnE_f, lnE_n, olE_c, olE_n, Bool.true_or, Bool.or_true, Bool.false_or, lf_non, lf_bl, lf_int, lf_str, lf_tup, lf_ins, lfs_n, lfs_c, fr2_l, ol_l, ↓dNeg, ngK_i, oRepS_r, ↓dApp2, ↓dPop2, ↓dPut2, sbK_l, opApp, opPop, opPut, ↓dAppSelf, ↓dAsg3, ↓dTru, truK_b, truK_l, ↓dExt, extK_l, oMin2_r, oIsB_r, ↓dSortSet, ↓dReprT, oEqS_r, ↓dCat, catK_l, ↓dItV, itK_s, itK_t, itK_l, itK_k, ↓dDisp1_r, tkK_ii, ↓dDget, ↓dDin, ↓dDput, dkK_tr, dkK_oi, dkK_os, dputK_t, dputK_oi, dputK_os]
        rw [hw] at k2
        exact k2 _ _ _
      | false =>
        simp only [↓dSeq, ↓dIfS, ↓dRet, ↓dRetN, ↓dSkip, ↓dBrk, ↓dCnt, ↓dPk, ↓dC, ↓dO, ↓d2, ↓dNotT, ↓dAndT, ↓dOrT, ↓dIf, ↓dNil, ↓dCons, ↓dNilL, ↓dConsL, ↓dTup, ↓dLst, ↓dBI, ↓dOwnL, ↓dCall, ↓dRng1, ↓dRng2, ↓dFor, ↓dRaise, ↓dRaise0, ↓dPn, ↓dYes, ↓dLc, ↓dExp, ↓onOk_ok, ↓onOk_exc, ↓onFl_ok, ↓onFl_exc, gt0, gtS, Vi.frs, fr_non, own_non, own_und, nz_non, fr_bl, own_bl, nz_bl, fr_int, own_int, nz_int, fr_str, own_str, nz_str, fr_tup, own_tup, nz_tup, fr_lst, own_lst, nz_lst, fr_klst, own_klst, nz_klst, fr_dic, own_dic, nz_dic, fr_ins, own_ins, nz_ins, fr_exo, own_exo, nz_exo, fr_fn, own_fn, nz_fn, eqD_ii, eqD_ss, eqD_bb, eqD_nn, eqD_sn, eqD_ns, eqD_ll, eqD_tt, eqDs_nn, eqDs_cn, eqDs_nc, eqDs_cc, shp_i, shp_b, shp_n, shp_s, shp_l, shp_t, shps_n, shps_c, id_eq, ↓dTry, ↓dIs_eq, ↓dWhat_eq, endT_rt, endT_nx, oEq, oIsN, isN, ↓endK_rt, ↓endK_nx, ↓endK_exc, ↓turnK_nx, ↓turnK_ct, ↓turnK_bk, ↓turnK_rt, ↓turnK_exc, List.set_cons_zero, List.set_cons_succ, List.all_cons, List.all_nil, List.map_cons, List.map_nil, Bool.and_true, Bool.and_self, Bool.true_and, Bool.not_true, Bool.not_false, true_and, and_true, List.take_succ_cons, List.take_zero, List.cons_append, List.nil_append, Bool.false_eq_true, if_false, if_true, ite_false, ite_true, wb_n, wb_sl, wb_vc, wb_vn, wb_v1, wb_v2, wb_v3, wb_v4, wb_v5, wb_v6, unb, reb, List.length_cons, List.length_nil, ↓dVar_r, ↓dFr_r, ↓dSet_r, ↓dgN_r, ↓dPut_r, ↓dApp_r, ↓dB_r, ↓dAndV_r, ↓dOrV_r, ↓dNotV_r, ↓dChn_r, ↓dSl_r, ↓dLenSet_r, ↓dItS_r, ↓dItL_r, ↓dItT_r, ↓dPs_r, eAt_c, exF_ok, putK_li, appK_l, blK_b, slK_s, slK_l, oIx_l, oIx_k, oIx_t, oIx_s, oAll_m, stK_b, seqK_l, seqK_k, tupK_t, inK_b, dAt_non, dAt_bl, dAt_int, dAt_str, dAt_tup, dAt_lst, dAt_klst, dAt_dic, dAt_ins, dAt_exo, dAt_fn, dAt_und, oAdd_ii, oAdd_ss, oAdd_ll, oAdd_tt, oOrd_ii, oOrd_ss, oInS_r, oInt_r, oInt0_r, oLen_l, oLen_k, oLen_t, oLen_s, oAbs_r, oInt1_i, oInt1_b, oReprB_r, int1_r, int2_r, isLst_l, see_v, see_s, sea_v, sea_s, ↓dIdx, ↓dFld, ↓dFset, ↓dJoin, ↓dListOf, ↓dMeth, ↓dMake_r, ↓dAsgG, ↓dLcN, ↓dLc2, idxK_ss, isStr_s, fldK_0, fldK_S, fsetK_r, isIns_i, dgTup_t, dgSeq_l, dgSeq_k, dgCons_c, dgNil_n, rowK_l, rowK_k, rowK_t, oTup_l, oTup_k, oTup_t, ↓dLoan_r, lnK_ok, lnK_exc, lnE_t, lnE_f, lnE_n, olE_c, olE_n, Bool.true_or, Bool.or_true, Bool.false_or, lf_non, lf_bl, lf_int, lf_str, lf_tup, lf_ins, lfs_n, lfs_c, fr2_l, ol_l, ↓dNeg, ngK_i, oRepS_r, ↓dApp2, ↓dPop2, ↓dPut2, sbK_l, opApp, opPop, opPut, ↓dAppSelf, ↓dAsg3, ↓dTru, truK_b, truK_l, ↓dExt, extK_l, oMin2_r, oIsB_r, ↓dSortSet, ↓dReprT, oEqS_r, ↓dCat, catK_l, ↓dItV, itK_s, itK_t, itK_l, itK_k, ↓dDisp1_r, tkK_ii, ↓dDget, ↓dDin, ↓dDput, dkK_tr, dkK_oi, dkK_os, dputK_t, dputK_oi, dputK_os]
        rw [hw] at k2
        exact k2 _ _ _
theorem make_ma {L : List Nat} {m : MA} {ρ : Vi.Env} {K : R D → Vi.Env → Prop} (ok : m.Ok L) (bd : m.Bd L) (h : K (.ok (maD L m)) ρ) : makeD 5 4 S_Machine___init__ [] [.str L, .lst false (m.acc.map .bl), .lst false (m.tab.map rowJ)] ρ K := by
  refine make_step rfl ⟨L, m, false, false, false, rfl, bd, fun a b c => ?_⟩
  rw [if_pos ok.whole]
  exact ⟨_, _, rfl, rfl, h⟩

--@@SPLIT
/-! ### a machine's methods -/
def MA.nx (m : MA) (L : List Nat) (q : Int) (c : Nat) : Int := (m.tab.getD q.toNat []).getD ((idx L c).getD 0) 0
def MA.run (m : MA) (L : List Nat) (q : Int) (t : List Nat) : Int := t.foldl (m.nx L) q
theorem MA.run_snoc {m : MA} {L t : List Nat} {q : Int} {i c : Nat} (h : t[i]? = some c) : m.run L q (t.take (i + 1)) = m.nx L (m.run L q (t.take i)) c := by
  unfold MA.run
  rw [take_get h, List.foldl_append]
  rfl
theorem MA.Ok.row {m : MA} {L : List Nat} (o : m.Ok L) {q : Int} (h : m.In q) : m.tab.getD q.toNat [] ∈ m.tab := by
  obtain ⟨h0, h1⟩ := h
  have z : q.toNat < m.tab.length := by have := o.tl; omega
  rw [List.getD_eq_getElem?_getD, List.getElem?_eq_getElem z]
  exact List.getElem_mem z
theorem MA.Ok.nxIn {m : MA} {L : List Nat} (o : m.Ok L) {q : Int} {c : Nat} (h : m.In q) (hc : c ∈ L) : m.In (m.nx L q c) := by
  have hr := o.row h
  have hl := o.rl _ hr
  refine o.nx _ hr _ ?_
  unfold MA.nx
  obtain ⟨k, hk, hL⟩ := idx_mem hc
  have hk2 := (List.getElem?_eq_some_iff.mp hL).1
  rw [hk, Option.getD_some]
  generalize m.tab.getD q.toNat [] = row at *
  have hi : k < row.length := by omega
  rw [List.getD_eq_getElem?_getD, List.getElem?_eq_getElem hi]
  exact List.getElem_mem hi
theorem MA.Ok.runIn {m : MA} {L : List Nat} (o : m.Ok L) : ∀ {t : List Nat} {q : Int}, m.In q → (∀ c ∈ t, c ∈ L) → m.In (m.run L q t)
  | [], q, h, _ => h
  | c :: t, q, h, ht => MA.Ok.runIn o (t := t) (o.nxIn h (ht c List.mem_cons_self)) fun d hd => ht d (List.mem_cons_of_mem _ hd)
theorem MA.Ok.zero {m : MA} {L : List Nat} (o : m.Ok L) : m.In 0 := ⟨Int.le_refl 0, by have := o.pos; omega⟩
theorem tabI_at {tab : List (List Int)} {q : Int} (h0 : 0 ≤ q) (h1 : q < tab.length) : atI (tab.map rowI) q = some (.tup ((tab.getD q.toNat []).map .int)) := map_atI (f := rowI) h0 h1
def S_Machine_run : FS := fun args K => ∃ (L : List Nat) (m : MA) (t : List Nat), args = [maD L m, .str t] ∧ m.Ok L ∧ (∀ c ∈ t, c ∈ L) ∧ t.length ≤ 100000 ∧ ∀ posts, posts.length = 2 → K (.ok (.int (m.run L 0 t))) posts
def b_Machine_run : DS :=
  dSeq (dSet 2 (dFr (dC (.int 0))))
  (dSeq (dFor (dItV 1) (dgN 3) (dSet 2 (dFr (d2 oIx (dO (d2 oIx (dO (dFld 5 2 (dPk 0))) (dPk 2))) (dO (dIdx (dO (dFld 5 0 (dPk 0))) (dVar 3)))))))
  (dRet (dFr (dVar 2))))
theorem p_Machine_run : ∀ args K', args.length = 2 → S_Machine_run args K' → b_Machine_run (args ++ List.replicate 2 .und) (endK 2 K') := by
  rintro args K' - ⟨L, m, t, rfl, ok, ht, tl, kk⟩
  show b_Machine_run [maD L m, .str t, .und, .und] _
  unfold b_Machine_run
  simp only [↓dSeq, ↓dIfS, ↓dRet, ↓dRetN, ↓dSkip, ↓dBrk, ↓dCnt, ↓dPk, ↓dC, ↓dO, ↓d2, ↓dNotT, ↓dAndT, ↓dOrT, ↓dIf, ↓dNil, ↓dCons, ↓dNilL, ↓dConsL, ↓dTup, ↓dLst, ↓dBI, ↓dOwnL, ↓dCall, ↓dRng1, ↓dRng2, ↓dFor, ↓dRaise, ↓dRaise0, ↓dPn, ↓dYes, ↓dLc, ↓dExp, ↓onOk_ok, ↓onOk_exc, ↓onFl_ok, ↓onFl_exc, gt0, gtS, Vi.frs, fr_non, own_non, own_und, nz_non, fr_bl, own_bl, nz_bl, fr_int, own_int, nz_int, fr_str, own_str, nz_str, fr_tup, own_tup, nz_tup, fr_lst, own_lst, nz_lst, fr_klst, own_klst, nz_klst, fr_dic, own_dic, nz_dic, fr_ins, own_ins, nz_ins, fr_exo, own_exo, nz_exo, fr_fn, own_fn, nz_fn, eqD_ii, eqD_ss, eqD_bb, eqD_nn, eqD_sn, eqD_ns, eqD_ll, eqD_tt, eqDs_nn, eqDs_cn, eqDs_nc, eqDs_cc, shp_i, shp_b, shp_n, shp_s, shp_l, shp_t, shps_n, shps_c, id_eq, ↓dTry, ↓dIs_eq, ↓dWhat_eq, endT_rt, endT_nx, oEq, oIsN, isN, ↓endK_rt, ↓endK_nx, ↓endK_exc, ↓turnK_nx, ↓turnK_ct, ↓turnK_bk, ↓turnK_rt, ↓turnK_exc, List.set_cons_zero, List.set_cons_succ, List.all_cons, List.all_nil, List.map_cons, List.map_nil, Bool.and_true, Bool.and_self, Bool.true_and, Bool.not_true, Bool.not_false, true_and, and_true, List.take_succ_cons, List.take_zero, List.cons_append, List.nil_append, Bool.false_eq_true, if_false, if_true, ite_false, ite_true, wb_n, wb_sl, wb_vc, wb_vn, wb_v1, wb_v2, wb_v3, wb_v4, wb_v5, wb_v6, unb, reb, List.length_cons, List.length_nil, ↓dVar_r, ↓dFr_r, ↓dSet_r, ↓dgN_r, ↓dPut_r, ↓dApp_r, ↓dB_r, ↓dAndV_r, ↓dOrV_r, ↓dNotV_r, ↓dChn_r, ↓dSl_r, ↓dLenSet_r, ↓dItS_r, ↓dItL_r, ↓dItT_r, ↓dPs_r, eAt_c, exF_ok, putK_li, appK_l, blK_b, slK_s, slK_l, oIx_l, oIx_k, oIx_t, oIx_s, oAll_m, stK_b, seqK_l, seqK_k, tupK_t, inK_b, dAt_non, dAt_bl, dAt_int, dAt_str, dAt_tup, dAt_lst, dAt_klst, dAt_dic, dAt_ins, dAt_exo, dAt_fn, dAt_und, oAdd_ii, oAdd_ss, oAdd_ll, oAdd_tt, oOrd_ii, oOrd_ss, oInS_r, oInt_r, oInt0_r, oLen_l, oLen_k, oLen_t, oLen_s, oAbs_r, oInt1_i, oInt1_b, oReprB_r, int1_r, int2_r, isLst_l, see_v, see_s, sea_v, sea_s, ↓dIdx, ↓dFld, ↓dFset, ↓dJoin, ↓dListOf, ↓dMeth, ↓dMake_r, ↓dAsgG, ↓dLcN, ↓dLc2, idxK_ss, isStr_s, fldK_0, fldK_S, fsetK_r, isIns_i, dgTup_t, dgSeq_l, dgSeq_k, dgCons_c, dgNil_n, rowK_l, rowK_k, rowK_t, oTup_l, oTup_k, oTup_t, ↓dLoan_r, lnK_ok, lnK_exc, lnE_t, lnE_f, lnE_n, olE_c, olE_n, Bool.true_or, Bool.or_true, Bool.false_or, lf_non, lf_bl, lf_int, lf_str, lf_tup, lf_ins, lfs_n, lfs_c, fr2_l, ol_l, ↓dNeg, ngK_i, oRepS_r, ↓dApp2, ↓dPop2, ↓dPut2, sbK_l, opApp, opPop, opPut, ↓dAppSelf, ↓dAsg3, ↓dTru, truK_b, truK_l, ↓dExt, extK_l, oMin2_r, oIsB_r, ↓dSortSet, ↓dReprT, oEqS_r, ↓dCat, catK_l, ↓dItV, itK_s, itK_t, itK_l, itK_k, ↓dDisp1_r, tkK_ii, ↓dDget, ↓dDin, ↓dDput, dkK_tr, dkK_oi, dkK_os, dputK_t, dputK_oi, dputK_os]
  refine for_dn (fun i ρ => ∃ y : D, ρ = [maD L m, .str t, .int (m.run L 0 (t.take i)), y]) ⟨.und, rfl⟩ ?_ ?_
  · rintro i d ρ N hd ⟨y, rfl⟩ kN
    obtain ⟨c, hc, rfl⟩ := sg_get hd
    have hcL := ht c (List.mem_of_getElem? hc)
    have hq := ok.runIn (t := t.take i) ok.zero fun d h => ht d (List.mem_of_mem_take h)
    have e := MA.run_snoc (m := m) (L := L) (q := 0) hc
    generalize m.run L 0 (t.take i) = q at hq e
    have hr := ok.row hq
    obtain ⟨k, hk, hL⟩ := idx_mem hcL
    have hk2 := (List.getElem?_eq_some_iff.mp hL).1
    simp only [↓dSeq, ↓dIfS, ↓dRet, ↓dRetN, ↓dSkip, ↓dBrk, ↓dCnt, ↓dPk, ↓dC, ↓dO, ↓d2, ↓dNotT, ↓dAndT, ↓dOrT, ↓dIf, ↓dNil, ↓dCons, ↓dNilL, ↓dConsL, ↓dTup, ↓dLst, ↓dBI, ↓dOwnL, ↓dCall, ↓dRng1, ↓dRng2, ↓dFor, ↓dRaise, ↓dRaise0, ↓dPn, ↓dYes, ↓dLc, ↓dExp, ↓onOk_ok, ↓onOk_exc, ↓onFl_ok, ↓onFl_exc, gt0, gtS, Vi.frs, fr_non, own_non, own_und, nz_non, fr_bl, own_bl, nz_bl, fr_int, own_int, nz_int, fr_str, own_str, nz_str, fr_tup, own_tup, nz_tup, fr_lst, own_lst, nz_lst, fr_klst, own_klst, nz_klst, fr_dic, own_dic, nz_dic, fr_ins, own_ins, nz_ins, fr_exo, own_exo, nz_exo, fr_fn, own_fn, nz_fn, eqD_ii, eqD_ss, eqD_bb, eqD_nn, eqD_sn, eqD_ns, eqD_ll, eqD_tt, eqDs_nn, eqDs_cn, eqDs_nc, eqDs_cc, shp_i, shp_b, shp_n, shp_s, shp_l, shp_t, shps_n, shps_c, id_eq, ↓dTry, ↓dIs_eq, ↓dWhat_eq, endT_rt, endT_nx, oEq, oIsN, isN, ↓endK_rt, ↓endK_nx, ↓endK_exc, ↓turnK_nx, ↓turnK_ct, ↓turnK_bk, ↓turnK_rt, ↓turnK_exc, List.set_cons_zero, List.set_cons_succ, List.all_cons, List.all_nil, List.map_cons, List.map_nil, Bool.and_true, Bool.and_self, Bool.true_and, Bool.not_true, Bool.not_false, true_and, and_true, List.take_succ_cons, List.take_zero, List.cons_append, List.nil_append, Bool.false_eq_true, if_false, if_true, ite_false, ite_true, wb_n, wb_sl, wb_vc, wb_vn, wb_v1, wb_v2, wb_v3, wb_v4, wb_v5, wb_v6, unb, reb, List.length_cons, List.length_nil, ↓dVar_r, ↓dFr_r, ↓dSet_r, ↓dgN_r, ↓dPut_r, ↓dApp_r, ↓dB_r, ↓dAndV_r, ↓dOrV_r, ↓dNotV_r, ↓dChn_r, ↓dSl_r, ↓dLenSet_r, ↓dItS_r, ↓dItL_r, ↓dItT_r, ↓dPs_r, eAt_c, exF_ok, putK_li, appK_l, blK_b, slK_s, slK_l, oIx_l, oIx_k, oIx_t, oIx_s, oAll_m, stK_b, seqK_l, seqK_k, tupK_t, inK_b, dAt_non, dAt_bl, dAt_int, dAt_str, dAt_tup, dAt_lst, dAt_klst, dAt_dic, dAt_ins, dAt_exo, dAt_fn, dAt_und, oAdd_ii, oAdd_ss, oAdd_ll, oAdd_tt, oOrd_ii, oOrd_ss, oInS_r, oInt_r, oInt0_r, oLen_l, oLen_k, oLen_t, oLen_s, oAbs_r, oInt1_i, oInt1_b, oReprB_r, int1_r, int2_r, isLst_l, see_v, see_s, sea_v, sea_s, ↓dIdx, ↓dFld, ↓dFset, ↓dJoin, ↓dListOf, ↓dMeth, ↓dMake_r, ↓dAsgG, ↓dLcN, ↓dLc2, idxK_ss, isStr_s, fldK_0, fldK_S, fsetK_r, isIns_i, dgTup_t, dgSeq_l, dgSeq_k, dgCons_c, dgNil_n, rowK_l, rowK_k, rowK_t, oTup_l, oTup_k, oTup_t, ↓dLoan_r, lnK_ok, lnK_exc, lnE_t, lnE_f, lnE_n, olE_c, olE_n, Bool.true_or, Bool.or_true, Bool.false_or, lf_non, lf_bl, lf_int, lf_str, lf_tup, lf_ins, lfs_n, lfs_c, fr2_l, ol_l, ↓dNeg, ngK_i, oRepS_r, ↓dApp2, ↓dPop2, ↓dPut2, sbK_l, opApp, opPop, opPut, ↓dAppSelf, ↓dAsg3, ↓dTru, truK_b, truK_l, ↓dExt, extK_l, oMin2_r, oIsB_r, ↓dSortSet, ↓dReprT, oEqS_r, ↓dCat, catK_l, ↓dItV, itK_s, itK_t, itK_l, itK_k, ↓dDisp1_r, tkK_ii, ↓dDget, ↓dDin, ↓dDput, dkK_tr, dkK_oi, dkK_os, dputK_t, dputK_oi, dputK_os]
    refine atD_of (tabI_at hq.1 (by rw [ok.tl]; exact hq.2)) rfl ?_
    simp only [↓dSeq, ↓dIfS, ↓dRet, ↓dRetN, ↓dSkip, ↓dBrk, ↓dCnt, ↓dPk, ↓dC, ↓dO, ↓d2, ↓dNotT, ↓dAndT, ↓dOrT, ↓dIf, ↓dNil, ↓dCons, ↓dNilL, ↓dConsL, ↓dTup, ↓dLst, ↓dBI, ↓dOwnL, ↓dCall, ↓dRng1, ↓dRng2, ↓dFor, ↓dRaise, ↓dRaise0, ↓dPn, ↓dYes, ↓dLc, ↓dExp, ↓onOk_ok, ↓onOk_exc, ↓onFl_ok, ↓onFl_exc, gt0, gtS, Vi.frs, fr_non, own_non, own_und, nz_non, fr_bl, own_bl, nz_bl, fr_int, own_int, nz_int, fr_str, own_str, nz_str, fr_tup, own_tup, nz_tup, fr_lst, own_lst, nz_lst, fr_klst, own_klst, nz_klst, fr_dic, own_dic, nz_dic, fr_ins, own_ins, nz_ins, fr_exo, own_exo, nz_exo, fr_fn, own_fn, nz_fn, eqD_ii, eqD_ss, eqD_bb, eqD_nn, eqD_sn, eqD_ns, eqD_ll, eqD_tt, eqDs_nn, eqDs_cn, eqDs_nc, eqDs_cc, shp_i, shp_b, shp_n, shp_s, shp_l, shp_t, shps_n, shps_c, id_eq, ↓dTry, ↓dIs_eq, ↓dWhat_eq, endT_rt, endT_nx, oEq, oIsN, isN, ↓endK_rt, ↓endK_nx, ↓endK_exc, ↓turnK_nx, ↓turnK_ct, ↓turnK_bk, ↓turnK_rt, ↓turnK_exc, List.set_cons_zero, List.set_cons_succ, List.all_cons, List.all_nil, List.map_cons, List.map_nil, Bool.and_true, Bool.and_self, Bool.true_and, Bool.not_true, Bool.not_false, true_and, and_true, List.take_succ_cons, List.take_zero, List.cons_append, List.nil_append, Bool.false_eq_true, if_false, if_true, ite_false, ite_true, wb_n, wb_sl, wb_vc, wb_vn, wb_v1, wb_v2, wb_v3, wb_v4, wb_v5, wb_v6, unb, reb, List.length_cons, List.length_nil, ↓dVar_r, ↓dFr_r, ↓dSet_r, ↓dgN_r, ↓dPut_r, ↓dApp_r, ↓dB_r, ↓dAndV_r, ↓dOrV_r, ↓dNotV_r, ↓dChn_r, ↓dSl_r, ↓dLenSet_r, ↓dItS_r, ↓dItL_r, ↓dItT_r, ↓dPs_r, eAt_c, exF_ok, putK_li, appK_l, blK_b, slK_s, slK_l, oIx_l, oIx_k, oIx_t, oIx_s, oAll_m, stK_b, seqK_l, seqK_k, tupK_t, inK_b, dAt_non, dAt_bl, dAt_int, dAt_str, dAt_tup, dAt_lst, dAt_klst, dAt_dic, dAt_ins, dAt_exo, dAt_fn, dAt_und, oAdd_ii, oAdd_ss, oAdd_ll, oAdd_tt, oOrd_ii, oOrd_ss, oInS_r, oInt_r, oInt0_r, oLen_l, oLen_k, oLen_t, oLen_s, oAbs_r, oInt1_i, oInt1_b, oReprB_r, int1_r, int2_r, isLst_l, see_v, see_s, sea_v, sea_s, ↓dIdx, ↓dFld, ↓dFset, ↓dJoin, ↓dListOf, ↓dMeth, ↓dMake_r, ↓dAsgG, ↓dLcN, ↓dLc2, idxK_ss, isStr_s, fldK_0, fldK_S, fsetK_r, isIns_i, dgTup_t, dgSeq_l, dgSeq_k, dgCons_c, dgNil_n, rowK_l, rowK_k, rowK_t, oTup_l, oTup_k, oTup_t, ↓dLoan_r, lnK_ok, lnK_exc, lnE_t, lnE_f, lnE_n, olE_c, olE_n, Bool.true_or, Bool.or_true, Bool.false_or, lf_non, lf_bl, lf_int, lf_str, lf_tup, lf_ins, lfs_n, lfs_c, fr2_l, ol_l, ↓dNeg, ngK_i, oRepS_r, ↓dApp2, ↓dPop2, ↓dPut2, sbK_l, opApp, opPop, opPut, ↓dAppSelf, ↓dAsg3, ↓dTru, truK_b, truK_l, ↓dExt, extK_l, oMin2_r, oIsB_r, ↓dSortSet, ↓dReprT, oEqS_r, ↓dCat, catK_l, ↓dItV, itK_s, itK_t, itK_l, itK_k, ↓dDisp1_r, tkK_ii, ↓dDget, ↓dDin, ↓dDput, dkK_tr, dkK_oi, dkK_os, dputK_t, dputK_oi, dputK_os]
    refine idK_of hk ?_
    simp only [↓dSeq, ↓dIfS, ↓dRet, ↓dRetN, ↓dSkip, ↓dBrk, ↓dCnt, ↓dPk, ↓dC, ↓dO, ↓d2, ↓dNotT, ↓dAndT, ↓dOrT, ↓dIf, ↓dNil, ↓dCons, ↓dNilL, ↓dConsL, ↓dTup, ↓dLst, ↓dBI, ↓dOwnL, ↓dCall, ↓dRng1, ↓dRng2, ↓dFor, ↓dRaise, ↓dRaise0, ↓dPn, ↓dYes, ↓dLc, ↓dExp, ↓onOk_ok, ↓onOk_exc, ↓onFl_ok, ↓onFl_exc, gt0, gtS, Vi.frs, fr_non, own_non, own_und, nz_non, fr_bl, own_bl, nz_bl, fr_int, own_int, nz_int, fr_str, own_str, nz_str, fr_tup, own_tup, nz_tup, fr_lst, own_lst, nz_lst, fr_klst, own_klst, nz_klst, fr_dic, own_dic, nz_dic, fr_ins, own_ins, nz_ins, fr_exo, own_exo, nz_exo, fr_fn, own_fn, nz_fn, eqD_ii, eqD_ss, eqD_bb, eqD_nn, eqD_sn, eqD_ns, eqD_ll, eqD_tt, eqDs_nn, eqDs_cn, eqDs_nc, eqDs_cc, shp_i, shp_b, shp_n, shp_s, shp_l, shp_t, shps_n, shps_c, id_eq, ↓dTry, ↓dIs_eq, ↓dWhat_eq, endT_rt, endT_nx, oEq, oIsN, isN, ↓endK_rt, ↓endK_nx, ↓endK_exc, ↓turnK_nx, ↓turnK_ct, ↓turnK_bk, ↓turnK_rt, ↓turnK_exc, List.set_cons_zero, List.set_cons_succ, List.all_cons, List.all_nil, List.map_cons, List.map_nil, Bool.and_true, Bool.and_self, Bool.true_and, Bool.not_true, Bool.not_false, true_and, and_true, List.take_succ_cons, List.take_zero, List.cons_append, List.nil_append, Bool.false_eq_true, if_false, if_true, ite_false, ite_true, wb_n, wb_sl, wb_vc, wb_vn, wb_v1, wb_v2, wb_v3, wb_v4, wb_v5, wb_v6, unb, reb, List.length_cons, List.length_nil, ↓dVar_r, ↓dFr_r, ↓dSet_r, ↓dgN_r, ↓dPut_r, ↓dApp_r, ↓dB_r, ↓dAndV_r, ↓dOrV_r, ↓dNotV_r, ↓dChn_r, ↓dSl_r, ↓dLenSet_r, ↓dItS_r, ↓dItL_r, ↓dItT_r, ↓dPs_r, eAt_c, exF_ok, putK_li, appK_l, blK_b, slK_s, slK_l, oIx_l, oIx_k, oIx_t, oIx_s, oAll_m, stK_b, seqK_l, seqK_k, tupK_t, inK_b, dAt_non, dAt_bl, dAt_int, dAt_str, dAt_tup, dAt_lst, dAt_klst, dAt_dic, dAt_ins, dAt_exo, dAt_fn, dAt_und, oAdd_ii, oAdd_ss, oAdd_ll, oAdd_tt, oOrd_ii, oOrd_ss, oInS_r, oInt_r, oInt0_r, oLen_l, oLen_k, oLen_t, oLen_s, oAbs_r, oInt1_i, oInt1_b, oReprB_r, int1_r, int2_r, isLst_l, see_v, see_s, sea_v, sea_s, ↓dIdx, ↓dFld, ↓dFset, ↓dJoin, ↓dListOf, ↓dMeth, ↓dMake_r, ↓dAsgG, ↓dLcN, ↓dLc2, idxK_ss, isStr_s, fldK_0, fldK_S, fsetK_r, isIns_i, dgTup_t, dgSeq_l, dgSeq_k, dgCons_c, dgNil_n, rowK_l, rowK_k, rowK_t, oTup_l, oTup_k, oTup_t, ↓dLoan_r, lnK_ok, lnK_exc, lnE_t, lnE_f, lnE_n, olE_c, olE_n, Bool.true_or, Bool.or_true, Bool.false_or, lf_non, lf_bl, lf_int, lf_str, lf_tup, lf_ins, lfs_n, lfs_c, fr2_l, ol_l, ↓dNeg, ngK_i, oRepS_r, ↓dApp2, ↓dPop2, ↓dPut2, sbK_l, opApp, opPop, opPut, ↓dAppSelf, ↓dAsg3, ↓dTru, truK_b, truK_l, ↓dExt, extK_l, oMin2_r, oIsB_r, ↓dSortSet, ↓dReprT, oEqS_r, ↓dCat, catK_l, ↓dItV, itK_s, itK_t, itK_l, itK_k, ↓dDisp1_r, tkK_ii, ↓dDget, ↓dDin, ↓dDput, dkK_tr, dkK_oi, dkK_os, dputK_t, dputK_oi, dputK_os]
    refine atD_of (map_at (f := D.int) (d := 0) (by rw [ok.rl _ hr]; exact hk2)) rfl ?_
    simp only [↓dSeq, ↓dIfS, ↓dRet, ↓dRetN, ↓dSkip, ↓dBrk, ↓dCnt, ↓dPk, ↓dC, ↓dO, ↓d2, ↓dNotT, ↓dAndT, ↓dOrT, ↓dIf, ↓dNil, ↓dCons, ↓dNilL, ↓dConsL, ↓dTup, ↓dLst, ↓dBI, ↓dOwnL, ↓dCall, ↓dRng1, ↓dRng2, ↓dFor, ↓dRaise, ↓dRaise0, ↓dPn, ↓dYes, ↓dLc, ↓dExp, ↓onOk_ok, ↓onOk_exc, ↓onFl_ok, ↓onFl_exc, gt0, gtS, Vi.frs, fr_non, own_non, own_und, nz_non, fr_bl, own_bl, nz_bl, fr_int, own_int, nz_int, fr_str, own_str, nz_str, fr_tup, own_tup, nz_tup, fr_lst, own_lst, nz_lst, fr_klst, own_klst, nz_klst, fr_dic, own_dic, nz_dic, fr_ins, own_ins, nz_ins, fr_exo, own_exo, nz_exo, fr_fn, own_fn, nz_fn, eqD_ii, eqD_ss, eqD_bb, eqD_nn, eqD_sn, eqD_ns, eqD_ll, eqD_tt, eqDs_nn, eqDs_cn, eqDs_nc, eqDs_cc, shp_i, shp_b, shp_n, shp_s, shp_l, shp_t, shps_n, shps_c, id_eq, ↓dTry, ↓dIs_eq, ↓dWhat_eq, endT_rt, endT_nx, oEq, oIsN, isN, ↓endK_rt, ↓endK_nx, ↓endK_exc, ↓turnK_nx, ↓turnK_ct, ↓turnK_bk, ↓turnK_rt, ↓turnK_exc, List.set_cons_zero, List.set_cons_succ, List.all_cons, List.all_nil, List.map_cons, List.map_nil, Bool.and_true, Bool.and_self, Bool.true_and, Bool.not_true, Bool.not_false, true_and, and_true, List.take_succ_cons, List.take_zero, List.cons_append, List.nil_append, Bool.false_eq_true, if_false, if_true, ite_false, ite_true, wb_n, wb_sl, wb_vc, wb_vn, wb_v1, wb_v2, wb_v3, wb_v4, wb_v5, wb_v6, unb, reb, List.length_cons, List.length_nil, ↓dVar_r, ↓dFr_r, ↓dSet_r, ↓dgN_r, ↓dPut_r, ↓dApp_r, ↓dB_r, ↓dAndV_r, ↓dOrV_r, ↓dNotV_r, ↓dChn_r, ↓dSl_r, ↓dLenSet_r, ↓dItS_r, ↓dItL_r, ↓dItT_r, ↓dPs_r, eAt_c, exF_ok, putK_li, appK_l, blK_b, slK_s, slK_l, oIx_l, oIx_k, oIx_t, oIx_s, oAll_m, stK_b, seqK_l, seqK_k, tupK_t, inK_b, dAt_non, dAt_bl, dAt_int, dAt_str, dAt_tup, dAt_lst, dAt_klst, dAt_dic, dAt_ins, dAt_exo, dAt_fn, dAt_und, oAdd_ii, oAdd_ss, oAdd_ll, oAdd_tt, oOrd_ii, oOrd_ss, oInS_r, oInt_r, oInt0_r, oLen_l, oLen_k, oLen_t, oLen_s, oAbs_r, oInt1_i, oInt1_b, oReprB_r, int1_r, int2_r, isLst_l, see_v, see_s, sea_v, sea_s, ↓dIdx, ↓dFld, ↓dFset, ↓dJoin, ↓dListOf, ↓dMeth, ↓dMake_r, ↓dAsgG, ↓dLcN, ↓dLc2, idxK_ss, isStr_s, fldK_0, fldK_S, fsetK_r, isIns_i, dgTup_t, dgSeq_l, dgSeq_k, dgCons_c, dgNil_n, rowK_l, rowK_k, rowK_t, oTup_l, oTup_k, oTup_t, ↓dLoan_r, lnK_ok, lnK_exc, lnE_t, lnE_f, lnE_n, olE_c, olE_n, Bool.true_or, Bool.or_true, Bool.false_or, lf_non, lf_bl, lf_int, lf_str, lf_tup, lf_ins, lfs_n, lfs_c, fr2_l, ol_l, ↓dNeg, ngK_i, oRepS_r, ↓dApp2, ↓dPop2, ↓dPut2, sbK_l, opApp, opPop, opPut, ↓dAppSelf, ↓dAsg3, ↓dTru, truK_b, truK_l, ↓dExt, extK_l, oMin2_r, oIsB_r, ↓dSortSet, ↓dReprT, oEqS_r, ↓dCat, catK_l, ↓dItV, itK_s, itK_t, itK_l, itK_k, ↓dDisp1_r, tkK_ii, ↓dDget, ↓dDin, ↓dDput, dkK_tr, dkK_oi, dkK_os, dputK_t, dputK_oi, dputK_os]
    refine kN _ ⟨.str [c], ?_⟩
    rw [e]
    unfold MA.nx
    rw [hk]
    rfl
  · rintro ρ ⟨y, rfl⟩
    rw [List.length_map, List.take_length]
    simp only [↓dSeq, ↓dIfS, ↓dRet, ↓dRetN, ↓dSkip, ↓dBrk, ↓dCnt, ↓dPk, ↓dC, ↓dO, ↓d2, ↓dNotT, ↓dAndT, ↓dOrT, ↓dIf, ↓dNil, ↓dCons, ↓dNilL, ↓dConsL, ↓dTup, ↓dLst, ↓dBI, ↓dOwnL, ↓dCall, ↓dRng1, ↓dRng2, ↓dFor, ↓dRaise, ↓dRaise0, ↓dPn, ↓dYes, ↓dLc, ↓dExp, ↓onOk_ok, ↓onOk_exc, ↓onFl_ok, ↓onFl_exc, gt0, gtS, Vi.frs, fr_non, own_non, own_und, nz_non, fr_bl, own_bl, nz_bl, fr_int, own_int, nz_int, fr_str, own_str, nz_str, fr_tup, own_tup, nz_tup, fr_lst, own_lst, nz_lst, fr_klst, own_klst, nz_klst, fr_dic, own_dic, nz_dic, fr_ins, own_ins, nz_ins, fr_exo, own_exo, nz_exo, fr_fn, own_fn, nz_fn, eqD_ii, eqD_ss, eqD_bb, eqD_nn, eqD_sn, eqD_ns, eqD_ll, eqD_tt, eqDs_nn, eqDs_cn, eqDs_nc, eqDs_cc, shp_i, shp_b, shp_n, shp_s, shp_l, shp_t, shps_n, shps_c, id_eq, ↓dTry, ↓dIs_eq, ↓dWhat_eq, endT_rt, endT_nx, oEq, oIsN, isN, ↓endK_rt, ↓endK_nx, ↓endK_exc, ↓turnK_nx, ↓turnK_ct, ↓turnK_bk, ↓turnK_rt, ↓turnK_exc, List.set_cons_zero, List.set_cons_succ, List.all_cons, List.all_nil, List.map_cons, List.map_nil, Bool.and_true, Bool.and_self, Bool.true_and, Bool.not_true, Bool.not_false, true_and, and_true, List.take_succ_cons, List.take_zero, List.cons_append, List.nil_append, Bool.false_eq_true, if_false, if_true, ite_false, ite_true, wb_n, wb_sl, wb_vc, wb_vn, wb_v1, wb_v2, wb_v3, wb_v4, wb_v5, wb_v6, unb, reb, List.length_cons, List.length_nil, ↓dVar_r, ↓dFr_r, ↓dSet_r, ↓dgN_r, ↓dPut_r, ↓dApp_r, ↓dB_r, ↓dAndV_r, ↓dOrV_r, ↓dNotV_r, ↓dChn_r, ↓dSl_r, ↓dLenSet_r, ↓dItS_r, ↓dItL_r, ↓dItT_r, ↓dPs_r, eAt_c, exF_ok, putK_li, appK_l, blK_b, slK_s, slK_l, oIx_l, oIx_k, oIx_t, oIx_s, oAll_m, stK_b, seqK_l, seqK_k, tupK_t, inK_b, dAt_non, dAt_bl, dAt_int, dAt_str, dAt_tup, dAt_lst, dAt_klst, dAt_dic, dAt_ins, dAt_exo, dAt_fn, dAt_und, oAdd_ii, oAdd_ss, oAdd_ll, oAdd_tt, oOrd_ii, oOrd_ss, oInS_r, oInt_r, oInt0_r, oLen_l, oLen_k, oLen_t, oLen_s, oAbs_r, oInt1_i, oInt1_b, oReprB_r, int1_r, int2_r, isLst_l, see_v, see_s, sea_v, sea_s, ↓dIdx, ↓dFld, ↓dFset, ↓dJoin, ↓dListOf, ↓dMeth, ↓dMake_r, ↓dAsgG, ↓dLcN, ↓dLc2, idxK_ss, isStr_s, fldK_0, fldK_S, fsetK_r, isIns_i, dgTup_t, dgSeq_l, dgSeq_k, dgCons_c, dgNil_n, rowK_l, rowK_k, rowK_t, oTup_l, oTup_k, oTup_t, ↓dLoan_r, lnK_ok, lnK_exc, lnE_t, lnE_f, lnE_n, olE_c, olE_n, Bool.true_or, Bool.or_true, Bool.false_or, lf_non, lf_bl, lf_int, lf_str, lf_tup, lf_ins, lfs_n, lfs_c, fr2_l, ol_l, ↓dNeg, ngK_i, oRepS_r, ↓dApp2, ↓dPop2, ↓dPut2, sbK_l, opApp, opPop, opPut, ↓dAppSelf, ↓dAsg3, ↓dTru, truK_b, truK_l, ↓dExt, extK_l, oMin2_r, oIsB_r, ↓dSortSet, ↓dReprT, oEqS_r, ↓dCat, catK_l, ↓dItV, itK_s, itK_t, itK_l, itK_k, ↓dDisp1_r, tkK_ii, ↓dDget, ↓dDin, ↓dDput, dkK_tr, dkK_oi, dkK_os, dputK_t, dputK_oi, dputK_os]
    exact kk _ rfl
def MA.got (m : MA) (L t : List Nat) : Bool := m.acc.getD (m.run L 0 t).toNat false
def S_Machine_accepts : FS := fun args K => ∃ (L : List Nat) (m : MA) (t : List Nat), args = [maD L m, .str t] ∧ m.Ok L ∧ (∀ c ∈ t, c ∈ L) ∧ t.length ≤ 100000 ∧ ∀ posts, posts.length = 2 → K (.ok (.bl (m.got L t))) posts
def b_Machine_accepts : DS :=
  dRet (dFr (d2 oIx (dO (dFld 5 1 (dPk 0))) (dO (dFr (dMeth 5 [] 2 S_Machine_run [] (dO (dVar 0)) (dCons (dO (dVar 1)) (dNil)))))))
theorem p_Machine_accepts : ∀ args K', args.length = 2 → S_Machine_accepts args K' → b_Machine_accepts (args ++ List.replicate 0 .und) (endK 2 K') := by
  rintro args K' - ⟨L, m, t, rfl, ok, ht, tl, kk⟩
  show b_Machine_accepts [maD L m, .str t] _
  unfold b_Machine_accepts
  simp only [↓dSeq, ↓dIfS, ↓dRet, ↓dRetN, ↓dSkip, ↓dBrk, ↓dCnt, ↓dPk, ↓dC, ↓dO, ↓d2, ↓dNotT, ↓dAndT, ↓dOrT, ↓dIf, ↓dNil, ↓dCons, ↓dNilL, ↓dConsL, ↓dTup, ↓dLst, ↓dBI, ↓dOwnL, ↓dCall, ↓dRng1, ↓dRng2, ↓dFor, ↓dRaise, ↓dRaise0, ↓dPn, ↓dYes, ↓dLc, ↓dExp, ↓onOk_ok, ↓onOk_exc, ↓onFl_ok, ↓onFl_exc, gt0, gtS, Vi.frs, fr_non, own_non, own_und, nz_non, fr_bl, own_bl, nz_bl, fr_int, own_int, nz_int, fr_str, own_str, nz_str, fr_tup, own_tup, nz_tup, fr_lst, own_lst, nz_lst, fr_klst, own_klst, nz_klst, fr_dic, own_dic, nz_dic, fr_ins, own_ins, nz_ins, fr_exo, own_exo, nz_exo, fr_fn, own_fn, nz_fn, eqD_ii, eqD_ss, eqD_bb, eqD_nn, eqD_sn, eqD_ns, eqD_ll, eqD_tt, eqDs_nn, eqDs_cn, eqDs_nc, eqDs_cc, shp_i, shp_b, shp_n, shp_s, shp_l, shp_t, shps_n, shps_c, id_eq, ↓dTry, ↓dIs_eq, ↓dWhat_eq, endT_rt, endT_nx, oEq, oIsN, isN, ↓endK_rt, ↓endK_nx, ↓endK_exc, ↓turnK_nx, ↓turnK_ct, ↓turnK_bk, ↓turnK_rt, ↓turnK_exc, List.set_cons_zero, List.set_cons_succ, List.all_cons, List.all_nil, List.map_cons, List.map_nil, Bool.and_true, Bool.and_self, Bool.true_and, Bool.not_true, Bool.not_false, true_and, and_true, List.take_succ_cons, List.take_zero, List.cons_append, List.nil_append, Bool.false_eq_true, if_false, if_true, ite_false, ite_true, wb_n, wb_sl, wb_vc, wb_vn, wb_v1, wb_v2, wb_v3, wb_v4, wb_v5, wb_v6, unb, reb, List.length_cons, List.length_nil, ↓dVar_r, ↓dFr_r, ↓dSet_r, ↓dgN_r, ↓dPut_r, ↓dApp_r, ↓dB_r, ↓dAndV_r, ↓dOrV_r, ↓dNotV_r, ↓dChn_r, ↓dSl_r, ↓dLenSet_r, ↓dItS_r, ↓dItL_r, ↓dItT_r, ↓dPs_r, eAt_c, exF_ok, putK_li, appK_l, blK_b, slK_s, slK_l, oIx_l, oIx_k, oIx_t, oIx_s, oAll_m, stK_b, seqK_l, seqK_k, tupK_t, inK_b, dAt_non, dAt_bl, dAt_int, dAt_str, dAt_tup, dAt_lst, dAt_klst, dAt_dic, dAt_ins, dAt_exo, dAt_fn, dAt_und, oAdd_ii, oAdd_ss, oAdd_ll, oAdd_tt, oOrd_ii, oOrd_ss, oInS_r, oInt_r, oInt0_r, oLen_l, oLen_k, oLen_t, oLen_s, oAbs_r, oInt1_i, oInt1_b, oReprB_r, int1_r, int2_r, isLst_l, see_v, see_s, sea_v, sea_s, ↓dIdx, ↓dFld, ↓dFset, ↓dJoin, ↓dListOf, ↓dMeth, ↓dMake_r, ↓dAsgG, ↓dLcN, ↓dLc2, idxK_ss, isStr_s, fldK_0, fldK_S, fsetK_r, isIns_i, dgTup_t, dgSeq_l, dgSeq_k, dgCons_c, dgNil_n, rowK_l, rowK_k, rowK_t, oTup_l, oTup_k, oTup_t, ↓dLoan_r, lnK_ok, lnK_exc, lnE_t, lnE_f, lnE_n, olE_c, olE_n, Bool.true_or, Bool.or_true, Bool.false_or, lf_non, lf_bl, lf_int, lf_str, lf_tup, lf_ins, lfs_n, lfs_c, fr2_l, ol_l, ↓dNeg, ngK_i, oRepS_r, ↓dApp2, ↓dPop2, ↓dPut2, sbK_l, opApp, opPop, opPut, ↓dAppSelf, ↓dAsg3, ↓dTru, truK_b, truK_l, ↓dExt, extK_l, oMin2_r, oIsB_r, ↓dSortSet, ↓dReprT, oEqS_r, ↓dCat, catK_l, ↓dItV, itK_s, itK_t, itK_l, itK_k, ↓dDisp1_r, tkK_ii, ↓dDget, ↓dDin, ↓dDput, dkK_tr, dkK_oi, dkK_os, dputK_t, dputK_oi, dputK_os]
  refine call_step rfl rfl rfl ⟨L, m, t, rfl, ok, ht, tl, fun posts hp => ⟨hp, ?_⟩⟩
  have hq := ok.runIn (t := t) ok.zero ht
  simp only [↓dSeq, ↓dIfS, ↓dRet, ↓dRetN, ↓dSkip, ↓dBrk, ↓dCnt, ↓dPk, ↓dC, ↓dO, ↓d2, ↓dNotT, ↓dAndT, ↓dOrT, ↓dIf, ↓dNil, ↓dCons, ↓dNilL, ↓dConsL, ↓dTup, ↓dLst, ↓dBI, ↓dOwnL, ↓dCall, ↓dRng1, ↓dRng2, ↓dFor, ↓dRaise, ↓dRaise0, ↓dPn, ↓dYes, ↓dLc, ↓dExp, ↓onOk_ok, ↓onOk_exc, ↓onFl_ok, ↓onFl_exc, gt0, gtS, Vi.frs, fr_non, own_non, own_und, nz_non, fr_bl, own_bl, nz_bl, fr_int, own_int, nz_int, fr_str, own_str, nz_str, fr_tup, own_tup, nz_tup, fr_lst, own_lst, nz_lst, fr_klst, own_klst, nz_klst, fr_dic, own_dic, nz_dic, fr_ins, own_ins, nz_ins, fr_exo, own_exo, nz_exo, fr_fn, own_fn, nz_fn, eqD_ii, eqD_ss, eqD_bb, eqD_nn, eqD_sn, eqD_ns, eqD_ll, eqD_tt, eqDs_nn, eqDs_cn, eqDs_nc, eqDs_cc, shp_i, shp_b, shp_n, shp_s, shp_l, shp_t, shps_n, shps_c, id_eq, ↓dTry, ↓dIs_eq, ↓dWhat_eq, endT_rt, endT_nx, oEq, oIsN, isN, ↓endK_rt, ↓endK_nx, ↓endK_exc, ↓turnK_nx, ↓turnK_ct, ↓turnK_bk, ↓turnK_rt, ↓turnK_exc, List.set_cons_zero, List.set_cons_succ, List.all_cons, List.all_nil, List.map_cons, List.map_nil, Bool.and_true, Bool.and_self, Bool.true_and, Bool.not_true, Bool.not_false, true_and, and_true, List.take_succ_cons, List.take_zero, List.cons_append, List.nil_append, Bool.false_eq_true, if_false, if_true, ite_false, ite_true, wb_n, wb_sl, wb_vc, wb_vn, wb_v1, wb_v2, wb_v3, wb_v4, wb_v5, wb_v6, unb, reb, List.length_cons, List.length_nil, ↓dVar_r, ↓dFr_r, ↓dSet_r, ↓dgN_r, ↓dPut_r, ↓dApp_r, ↓dB_r, ↓dAndV_r, ↓dOrV_r, ↓dNotV_r, ↓dChn_r, ↓dSl_r, ↓dLenSet_r, ↓dItS_r, ↓dItL_r, ↓dItT_r, ↓dPs_r, eAt_c, exF_ok, putK_li, appK_l, blK_b, slK_s, slK_l, oIx_l, oIx_k, oIx_t, oIx_s, oAll_m, stK_b, seqK_l, seqK_k, tupK_t, inK_b, dAt_non, dAt_bl, dAt_int, dAt_str, dAt_tup, dAt_lst, dAt_klst, dAt_dic, dAt_ins, dAt_exo, dAt_fn, dAt_und, oAdd_ii, oAdd_ss, oAdd_ll, oAdd_tt, oOrd_ii, oOrd_ss, oInS_r, oInt_r, oInt0_r, oLen_l, oLen_k, oLen_t, oLen_s, oAbs_r, oInt1_i, oInt1_b, oReprB_r, int1_r, int2_r, isLst_l, see_v, see_s, sea_v, sea_s, ↓dIdx, ↓dFld, ↓dFset, ↓dJoin, ↓dListOf, ↓dMeth, ↓dMake_r, ↓dAsgG, ↓dLcN, ↓dLc2, idxK_ss, isStr_s, fldK_0, fldK_S, fsetK_r, isIns_i, dgTup_t, dgSeq_l, dgSeq_k, dgCons_c, dgNil_n, rowK_l, rowK_k, rowK_t, oTup_l, oTup_k, oTup_t, ↓dLoan_r, lnK_ok, lnK_exc, lnE_t, lnE_f, lnE_n, olE_c, olE_n, Bool.true_or, Bool.or_true, Bool.false_or, lf_non, lf_bl, lf_int, lf_str, lf_tup, lf_ins, lfs_n, lfs_c, fr2_l, ol_l, ↓dNeg, ngK_i, oRepS_r, ↓dApp2, ↓dPop2, ↓dPut2, sbK_l, opApp, opPop, opPut, ↓dAppSelf, ↓dAsg3, ↓dTru, truK_b, truK_l, ↓dExt, extK_l, oMin2_r, oIsB_r, ↓dSortSet, ↓dReprT, oEqS_r, ↓dCat, catK_l, ↓dItV, itK_s, itK_t, itK_l, itK_k, ↓dDisp1_r, tkK_ii, ↓dDget, ↓dDin, ↓dDput, dkK_tr, dkK_oi, dkK_os, dputK_t, dputK_oi, dputK_os]
  refine atD_of (map_atI (f := D.bl) (d := false) hq.1 hq.2) rfl ?_
  simp only [↓dSeq, ↓dIfS, ↓dRet, ↓dRetN, ↓dSkip, ↓dBrk, ↓dCnt, ↓dPk, ↓dC, ↓dO, ↓d2, ↓dNotT, ↓dAndT, ↓dOrT, ↓dIf, ↓dNil, ↓dCons, ↓dNilL, ↓dConsL, ↓dTup, ↓dLst, ↓dBI, ↓dOwnL, ↓dCall, ↓dRng1, ↓dRng2, ↓dFor, ↓dRaise, ↓dRaise0, ↓dPn, ↓dYes, ↓dLc, ↓dExp, ↓onOk_ok, ↓onOk_exc, ↓onFl_ok, ↓onFl_exc, gt0, gtS, Vi.frs, fr_non, own_non, own_und, nz_non, fr_bl, own_bl, nz_bl, fr_int, own_int, nz_int, fr_str, own_str, nz_str, fr_tup, own_tup, nz_tup, fr_lst, own_lst, nz_lst, fr_klst, own_klst, nz_klst, fr_dic, own_dic, nz_dic, fr_ins, own_ins, nz_ins, fr_exo, own_exo, nz_exo, fr_fn, own_fn, nz_fn, eqD_ii, eqD_ss, eqD_bb, eqD_nn, eqD_sn, eqD_ns, eqD_ll, eqD_tt, eqDs_nn, eqDs_cn, eqDs_nc, eqDs_cc, shp_i, shp_b, shp_n, shp_s, shp_l, shp_t, shps_n, shps_c, id_eq, ↓dTry, ↓dIs_eq, ↓dWhat_eq, endT_rt, endT_nx, oEq, oIsN, isN, ↓endK_rt, ↓endK_nx, ↓endK_exc, ↓turnK_nx, ↓turnK_ct, ↓turnK_bk, ↓turnK_rt, ↓turnK_exc, List.set_cons_zero, List.set_cons_succ, List.all_cons, List.all_nil, List.map_cons, List.map_nil, Bool.and_true, Bool.and_self, Bool.true_and, Bool.not_true, Bool.not_false, true_and, and_true, List.take_succ_cons, List.take_zero, List.cons_append, List.nil_append, Bool.false_eq_true, if_false, if_true, ite_false, ite_true, wb_n, wb_sl, wb_vc, wb_vn, wb_v1, wb_v2, wb_v3, wb_v4, wb_v5, wb_v6, unb, reb, List.length_cons, List.length_nil, ↓dVar_r, ↓dFr_r, ↓dSet_r, ↓dgN_r, ↓dPut_r, ↓dApp_r, ↓dB_r, ↓dAndV_r, ↓dOrV_r, ↓dNotV_r, ↓dChn_r, ↓dSl_r, ↓dLenSet_r, ↓dItS_r, ↓dItL_r, ↓dItT_r, ↓dPs_r, eAt_c, exF_ok, putK_li, appK_l, blK_b, slK_s, slK_l, oIx_l, oIx_k, oIx_t, oIx_s, oAll_m, stK_b, seqK_l, seqK_k, tupK_t, inK_b, dAt_non, dAt_bl, dAt_int, dAt_str, dAt_tup, dAt_lst, dAt_klst, dAt_dic, dAt_ins, dAt_exo, dAt_fn, dAt_und, oAdd_ii, oAdd_ss, oAdd_ll, oAdd_tt, oOrd_ii, oOrd_ss, oInS_r, oInt_r, oInt0_r, oLen_l, oLen_k, oLen_t, oLen_s, oAbs_r, oInt1_i, oInt1_b, oReprB_r, int1_r, int2_r, isLst_l, see_v, see_s, sea_v, sea_s, ↓dIdx, ↓dFld, ↓dFset, ↓dJoin, ↓dListOf, ↓dMeth, ↓dMake_r, ↓dAsgG, ↓dLcN, ↓dLc2, idxK_ss, isStr_s, fldK_0, fldK_S, fsetK_r, isIns_i, dgTup_t, dgSeq_l, dgSeq_k, dgCons_c, dgNil_n, rowK_l, rowK_k, rowK_t, oTup_l, oTup_k, oTup_t, ↓dLoan_r, lnK_ok, lnK_exc, lnE_t, lnE_f, lnE_n, olE_c, olE_n, Bool.true_or, Bool.or_true, Bool.false_or, lf_non, lf_bl, lf_int, lf_str, lf_tup, lf_ins, lfs_n, lfs_c, fr2_l, ol_l, ↓dNeg, ngK_i, oRepS_r, ↓dApp2, ↓dPop2, ↓dPut2, sbK_l, opApp, opPop, opPut, ↓dAppSelf, ↓dAsg3, ↓dTru, truK_b, truK_l, ↓dExt, extK_l, oMin2_r, oIsB_r, ↓dSortSet, ↓dReprT, oEqS_r, ↓dCat, catK_l, ↓dItV, itK_s, itK_t, itK_l, itK_k, ↓dDisp1_r, tkK_ii, ↓dDget, ↓dDin, ↓dDput, dkK_tr, dkK_oi, dkK_os, dputK_t, dputK_oi, dputK_os]
  exact kk _ rfl
def S_Machine_picture : FS := fun args K => ∃ (L : List Nat) (m : MA), args = [maD L m] ∧ ∀ posts, posts.length = 1 → K (.ok (.tup (maL L m))) posts
def b_Machine_picture : DS :=
  dRet (dFr (dTup (dConsL (dFld 5 0 (dPk 0)) (dConsL (dFld 5 1 (dPk 0)) (dConsL (dFld 5 2 (dPk 0)) (dNilL))))))
theorem p_Machine_picture : ∀ args K', args.length = 1 → S_Machine_picture args K' → b_Machine_picture (args ++ List.replicate 0 .und) (endK 1 K') := by
  rintro args K' - ⟨L, m, rfl, kk⟩
  show b_Machine_picture [maD L m] _
  unfold b_Machine_picture
  simp only [↓dSeq, ↓dIfS, ↓dRet, ↓dRetN, ↓dSkip, ↓dBrk, ↓dCnt, ↓dPk, ↓dC, ↓dO, ↓d2, ↓dNotT, ↓dAndT, ↓dOrT, ↓dIf, ↓dNil, ↓dCons, ↓dNilL, ↓dConsL, ↓dTup, ↓dLst, ↓dBI, ↓dOwnL, ↓dCall, ↓dRng1, ↓dRng2, ↓dFor, ↓dRaise, ↓dRaise0, ↓dPn, ↓dYes, ↓dLc, ↓dExp, ↓onOk_ok, ↓onOk_exc, ↓onFl_ok, ↓onFl_exc, gt0, gtS, Vi.frs, fr_non, own_non, own_und, nz_non, fr_bl, own_bl, nz_bl, fr_int, own_int, nz_int, fr_str, own_str, nz_str, fr_tup, own_tup, nz_tup, fr_lst, own_lst, nz_lst, fr_klst, own_klst, nz_klst, fr_dic, own_dic, nz_dic, fr_ins, own_ins, nz_ins, fr_exo, own_exo, nz_exo, fr_fn, own_fn, nz_fn, eqD_ii, eqD_ss, eqD_bb, eqD_nn, eqD_sn, eqD_ns, eqD_ll, eqD_tt, eqDs_nn, eqDs_cn, eqDs_nc, eqDs_cc, shp_i, shp_b, shp_n, shp_s, shp_l, shp_t, shps_n, shps_c, id_eq, ↓dTry, ↓dIs_eq, ↓dWhat_eq, endT_rt, endT_nx, oEq, oIsN, isN, ↓endK_rt, ↓endK_nx, ↓endK_exc, ↓turnK_nx, ↓turnK_ct, ↓turnK_bk, ↓turnK_rt, ↓turnK_exc, List.set_cons_zero, List.set_cons_succ, List.all_cons, List.all_nil, List.map_cons, List.map_nil, Bool.and_true, Bool.and_self, Bool.true_and, Bool.not_true, Bool.not_false, true_and, and_true, List.take_succ_cons, List.take_zero, List.cons_append, List.nil_append, Bool.false_eq_true, if_false, if_true, ite_false, ite_true, wb_n, wb_sl, wb_vc, wb_vn, wb_v1, wb_v2, wb_v3, wb_v4, wb_v5, wb_v6, unb, reb, List.length_cons, List.length_nil, ↓dVar_r, ↓dFr_r, ↓dSet_r, ↓dgN_r, ↓dPut_r, ↓dApp_r, ↓dB_r, ↓dAndV_r, ↓dOrV_r, ↓dNotV_r, ↓dChn_r, ↓dSl_r, ↓dLenSet_r, ↓dItS_r, ↓dItL_r, ↓dItT_r, ↓dPs_r, eAt_c, exF_ok, putK_li, appK_l, blK_b, slK_s, slK_l, oIx_l, oIx_k, oIx_t, oIx_s, oAll_m, stK_b, seqK_l, seqK_k, tupK_t, inK_b, dAt_non, dAt_bl, dAt_int, dAt_str, dAt_tup, dAt_lst, dAt_klst, dAt_dic, dAt_ins, dAt_exo, dAt_fn, dAt_und, oAdd_ii, oAdd_ss, oAdd_ll, oAdd_tt, oOrd_ii, oOrd_ss, oInS_r, oInt_r, oInt0_r, oLen_l, oLen_k, oLen_t, oLen_s, oAbs_r, oInt1_i, oInt1_b, oReprB_r, int1_r, int2_r, isLst_l, see_v, see_s, sea_v, sea_s, ↓dIdx, ↓dFld, ↓dFset, ↓dJoin, ↓dListOf, ↓dMeth, ↓dMake_r, ↓dAsgG, ↓dLcN, ↓dLc2, idxK_ss, isStr_s, fldK_0, fldK_S, fsetK_r, isIns_i, dgTup_t, dgSeq_l, dgSeq_k, dgCons_c, dgNil_n, rowK_l, rowK_k, rowK_t, oTup_l, oTup_k, oTup_t, ↓dLoan_r, lnK_ok, lnK_exc, lnE_t, lnE_f, lnE_n, olE_c, olE_n, Bool.true_or, Bool.or_true, Bool.false_or, lf_non, lf_bl, lf_int, lf_str, lf_tup, lf_ins, lfs_n, lfs_c, fr2_l, ol_l, ↓dNeg, ngK_i, oRepS_r, ↓dApp2, ↓dPop2, ↓dPut2, sbK_l, opApp, opPop, opPut, ↓dAppSelf, ↓dAsg3, ↓dTru, truK_b, truK_l, ↓dExt, extK_l, oMin2_r, oIsB_r, ↓dSortSet, ↓dReprT, oEqS_r, ↓dCat, catK_l, ↓dItV, itK_s, itK_t, itK_l, itK_k, ↓dDisp1_r, tkK_ii, ↓dDget, ↓dDin, ↓dDput, dkK_tr, dkK_oi, dkK_os, dputK_t, dputK_oi, dputK_os]
  exact ⟨by decide, kk _ rfl⟩
/-! ### faulty parts -/

--@@SPLIT
/-! ### _law_letters -/
def pool69 : List Nat := [97, 98, 99, 100, 101, 102, 103, 104, 105, 106, 107, 108, 109, 110, 111, 112, 113, 114, 115, 116, 117, 118, 119, 120, 121, 122, 65, 66, 67, 68, 69, 70, 71, 72, 73, 74, 75, 76, 77, 78, 79, 80, 81, 82, 83, 84, 85, 86, 87, 88, 89, 90, 48, 49, 50, 51, 52, 53, 54, 55, 56, 57, 60, 62, 61, 58, 95, 64, 35]
theorem asc_nil : asc [] := fun _ h => nomatch h
theorem asc_pool69 : asc pool69 := by unfold asc; decide
def S__law_letters : FS := fun args K => ∃ (nums : List Int) (p most : Int), args = [stD nums p, .int most] ∧ 0 < nums.length ∧ nums.length ≤ 100000 ∧ 0 < most ∧ most ≤ 1000 ∧
  ∀ (p' : Int) (t : List Nat) (x : D), (t.length : Int) ≤ most → 0 < t.length → t.Nodup → asc t → (∀ c ∈ t, c ∈ pool69) → K (.ok (.str t)) [stD nums p', x]
def b__law_letters : DS :=
  dSeq (dSet 2 (dFr (dC (.str [97, 98, 99, 100, 101, 102, 103, 104, 105, 106, 107, 108, 109, 110, 111, 112, 113, 114, 115, 116, 117, 118, 119, 120, 121, 122, 65, 66, 67, 68, 69, 70, 71, 72, 73, 74, 75, 76, 77, 78, 79, 80, 81, 82, 83, 84, 85, 86, 87, 88, 89, 90, 48, 49, 50, 51, 52, 53, 54, 55, 56, 57, 60, 62, 61, 58, 95, 64, 35]))))
  (dSeq (dSet 3 (dFr (dC (.str []))))
  (dSeq (dFor (dRng1 (dConsL (d2 oAdd (dO (dC (.int 1))) (dO (dFr (dCall [0] 2 S__law_next [] (dCons (dPk 0) (dCons (dO (dVar 1)) (dNil))))))) (dNilL))) (dgN 4) (dSeq (dSet 5 (dFr (d2 oIx (dPk 2) (dO (dFr (dCall [0] 2 S__law_next [] (dCons (dPk 0) (dCons (dO (dC (.int 69))) (dNil)))))))))
  (dIfS (dB (d2 (oInS not) (dPk 5) (dPk 3))) (dSet 3 (dFr (d2 oAdd (dPk 3) (dPk 5)))) (dSkip))))
  (dRet (dFr (dVar 3)))))
theorem p__law_letters : ∀ args K', args.length = 2 → S__law_letters args K' → b__law_letters (args ++ List.replicate 4 .und) (endK 2 K') := by
  rintro args K' - ⟨nums, p, most, rfl, n0, n1, m0, m1, kk⟩
  show b__law_letters [stD nums p, .int most, .und, .und, .und, .und] _
  unfold b__law_letters stD
  simp only [↓dSeq, ↓dIfS, ↓dRet, ↓dRetN, ↓dSkip, ↓dBrk, ↓dCnt, ↓dPk, ↓dC, ↓dO, ↓d2, ↓dNotT, ↓dAndT, ↓dOrT, ↓dIf, ↓dNil, ↓dCons, ↓dNilL, ↓dConsL, ↓dTup, ↓dLst, ↓dBI, ↓dOwnL, ↓dCall, ↓dRng1, ↓dRng2, ↓dFor, ↓dRaise, ↓dRaise0, ↓dPn, ↓dYes, ↓dLc, ↓dExp, ↓onOk_ok, ↓onOk_exc, ↓onFl_ok, ↓onFl_exc, gt0, gtS, Vi.frs, fr_non, own_non, own_und, nz_non, fr_bl, own_bl, nz_bl, fr_int, own_int, nz_int, fr_str, own_str, nz_str, fr_tup, own_tup, nz_tup, fr_lst, own_lst, nz_lst, fr_klst, own_klst, nz_klst, fr_dic, own_dic, nz_dic, fr_ins, own_ins, nz_ins, fr_exo, own_exo, nz_exo, fr_fn, own_fn, nz_fn, eqD_ii, eqD_ss, eqD_bb, eqD_nn, eqD_sn, eqD_ns, eqD_ll, eqD_tt, eqDs_nn, eqDs_cn, eqDs_nc, eqDs_cc, shp_i, shp_b, shp_n, shp_s, shp_l, shp_t, shps_n, shps_c, id_eq, ↓dTry, ↓dIs_eq, ↓dWhat_eq, endT_rt, endT_nx, oEq, oIsN, isN, ↓endK_rt, ↓endK_nx, ↓endK_exc, ↓turnK_nx, ↓turnK_ct, ↓turnK_bk, ↓turnK_rt, ↓turnK_exc, List.set_cons_zero, List.set_cons_succ, List.all_cons, List.all_nil, List.map_cons, List.map_nil, Bool.and_true, Bool.and_self, Bool.true_and, Bool.not_true, Bool.not_false, true_and, and_true, List.take_succ_cons, List.take_zero, List.cons_append, List.nil_append, Bool.false_eq_true, if_false, if_true, ite_false, ite_true, wb_n, wb_sl, wb_vc, wb_vn, wb_v1, wb_v2, wb_v3, wb_v4, wb_v5, wb_v6, unb, reb, List.length_cons, List.length_nil, ↓dVar_r, ↓dFr_r, ↓dSet_r, ↓dgN_r, ↓dPut_r, ↓dApp_r, ↓dB_r, ↓dAndV_r, ↓dOrV_r, ↓dNotV_r, ↓dChn_r, ↓dSl_r, ↓dLenSet_r, ↓dItS_r, ↓dItL_r, ↓dItT_r, ↓dPs_r, eAt_c, exF_ok, putK_li, appK_l, blK_b, slK_s, slK_l, oIx_l, oIx_k, oIx_t, oIx_s, oAll_m, stK_b, seqK_l, seqK_k, tupK_t, inK_b, dAt_non, dAt_bl, dAt_int, dAt_str, dAt_tup, dAt_lst, dAt_klst, dAt_dic, dAt_ins, dAt_exo, dAt_fn, dAt_und, oAdd_ii, oAdd_ss, oAdd_ll, oAdd_tt, oOrd_ii, oOrd_ss, oInS_r, oInt_r, oInt0_r, oLen_l, oLen_k, oLen_t, oLen_s, oAbs_r, oInt1_i, oInt1_b, oReprB_r, int1_r, int2_r, isLst_l, see_v, see_s, sea_v, sea_s, ↓dIdx, ↓dFld, ↓dFset, ↓dJoin, ↓dListOf, ↓dMeth, ↓dMake_r, ↓dAsgG, ↓dLcN, ↓dLc2, idxK_ss, isStr_s, fldK_0, fldK_S, fsetK_r, isIns_i, dgTup_t, dgSeq_l, dgSeq_k, dgCons_c, dgNil_n, rowK_l, rowK_k, rowK_t, oTup_l, oTup_k, oTup_t, ↓dLoan_r, lnK_ok, lnK_exc, lnE_t, lnE_f, lnE_n, olE_c, olE_n, Bool.true_or, Bool.or_true, Bool.false_or, lf_non, lf_bl, lf_int, lf_str, lf_tup, lf_ins, lfs_n, lfs_c, fr2_l, ol_l, ↓dNeg, ngK_i, oRepS_r, ↓dApp2, ↓dPop2, ↓dPut2, sbK_l, opApp, opPop, opPut, ↓dAppSelf, ↓dAsg3, ↓dTru, truK_b, truK_l, ↓dExt, extK_l, oMin2_r, oIsB_r, ↓dSortSet, ↓dReprT, oEqS_r, ↓dCat, catK_l, ↓dItV, itK_s, itK_t, itK_l, itK_k, ↓dDisp1_r, tkK_ii, ↓dDget, ↓dDin, ↓dDput, dkK_tr, dkK_oi, dkK_os, dputK_t, dputK_oi, dputK_os]
  refine call_step rfl rfl rfl ⟨nums, p, most, rfl, n0, n1, m0, fun v x v0 v1 => ⟨rfl, ?_⟩⟩
  simp only [↓dSeq, ↓dIfS, ↓dRet, ↓dRetN, ↓dSkip, ↓dBrk, ↓dCnt, ↓dPk, ↓dC, ↓dO, ↓d2, ↓dNotT, ↓dAndT, ↓dOrT, ↓dIf, ↓dNil, ↓dCons, ↓dNilL, ↓dConsL, ↓dTup, ↓dLst, ↓dBI, ↓dOwnL, ↓dCall, ↓dRng1, ↓dRng2, ↓dFor, ↓dRaise, ↓dRaise0, ↓dPn, ↓dYes, ↓dLc, ↓dExp, ↓onOk_ok, ↓onOk_exc, ↓onFl_ok, ↓onFl_exc, gt0, gtS, Vi.frs, fr_non, own_non, own_und, nz_non, fr_bl, own_bl, nz_bl, fr_int, own_int, nz_int, fr_str, own_str, nz_str, fr_tup, own_tup, nz_tup, fr_lst, own_lst, nz_lst, fr_klst, own_klst, nz_klst, fr_dic, own_dic, nz_dic, fr_ins, own_ins, nz_ins, fr_exo, own_exo, nz_exo, fr_fn, own_fn, nz_fn, eqD_ii, eqD_ss, eqD_bb, eqD_nn, eqD_sn, eqD_ns, eqD_ll, eqD_tt, eqDs_nn, eqDs_cn, eqDs_nc, eqDs_cc, shp_i, shp_b, shp_n, shp_s, shp_l, shp_t, shps_n, shps_c, id_eq, ↓dTry, ↓dIs_eq, ↓dWhat_eq, endT_rt, endT_nx, oEq, oIsN, isN, ↓endK_rt, ↓endK_nx, ↓endK_exc, ↓turnK_nx, ↓turnK_ct, ↓turnK_bk, ↓turnK_rt, ↓turnK_exc, List.set_cons_zero, List.set_cons_succ, List.all_cons, List.all_nil, List.map_cons, List.map_nil, Bool.and_true, Bool.and_self, Bool.true_and, Bool.not_true, Bool.not_false, true_and, and_true, List.take_succ_cons, List.take_zero, List.cons_append, List.nil_append, Bool.false_eq_true, if_false, if_true, ite_false, ite_true, wb_n, wb_sl, wb_vc, wb_vn, wb_v1, wb_v2, wb_v3, wb_v4, wb_v5, wb_v6, unb, reb, List.length_cons, List.length_nil, ↓dVar_r, ↓dFr_r, ↓dSet_r, ↓dgN_r, ↓dPut_r, ↓dApp_r, ↓dB_r, ↓dAndV_r, ↓dOrV_r, ↓dNotV_r, ↓dChn_r, ↓dSl_r, ↓dLenSet_r, ↓dItS_r, ↓dItL_r, ↓dItT_r, ↓dPs_r, eAt_c, exF_ok, putK_li, appK_l, blK_b, slK_s, slK_l, oIx_l, oIx_k, oIx_t, oIx_s, oAll_m, stK_b, seqK_l, seqK_k, tupK_t, inK_b, dAt_non, dAt_bl, dAt_int, dAt_str, dAt_tup, dAt_lst, dAt_klst, dAt_dic, dAt_ins, dAt_exo, dAt_fn, dAt_und, oAdd_ii, oAdd_ss, oAdd_ll, oAdd_tt, oOrd_ii, oOrd_ss, oInS_r, oInt_r, oInt0_r, oLen_l, oLen_k, oLen_t, oLen_s, oAbs_r, oInt1_i, oInt1_b, oReprB_r, int1_r, int2_r, isLst_l, see_v, see_s, sea_v, sea_s, ↓dIdx, ↓dFld, ↓dFset, ↓dJoin, ↓dListOf, ↓dMeth, ↓dMake_r, ↓dAsgG, ↓dLcN, ↓dLc2, idxK_ss, isStr_s, fldK_0, fldK_S, fsetK_r, isIns_i, dgTup_t, dgSeq_l, dgSeq_k, dgCons_c, dgNil_n, rowK_l, rowK_k, rowK_t, oTup_l, oTup_k, oTup_t, ↓dLoan_r, lnK_ok, lnK_exc, lnE_t, lnE_f, lnE_n, olE_c, olE_n, Bool.true_or, Bool.or_true, Bool.false_or, lf_non, lf_bl, lf_int, lf_str, lf_tup, lf_ins, lfs_n, lfs_c, fr2_l, ol_l, ↓dNeg, ngK_i, oRepS_r, ↓dApp2, ↓dPop2, ↓dPut2, sbK_l, opApp, opPop, opPut, ↓dAppSelf, ↓dAsg3, ↓dTru, truK_b, truK_l, ↓dExt, extK_l, oMin2_r, oIsB_r, ↓dSortSet, ↓dReprT, oEqS_r, ↓dCat, catK_l, ↓dItV, itK_s, itK_t, itK_l, itK_k, ↓dDisp1_r, tkK_ii, ↓dDget, ↓dDin, ↓dDput, dkK_tr, dkK_oi, dkK_os, dputK_t, dputK_oi, dputK_os]
  refine ⟨⟨by omega, by omega⟩, ?_⟩
  refine for_dn (fun i ρ => ∃ (p' : Int) (t : List Nat) (k l : D), ρ = [stD nums p', .int most, .str pool69, .str t, k, l] ∧ t.length ≤ i ∧ (0 < i → 0 < t.length) ∧ t.Nodup ∧ asc t ∧ ∀ c ∈ t, c ∈ pool69) ⟨_, [], .und, .und, rfl, Nat.le_refl 0, fun h => h, List.nodup_nil, asc_nil, fun _ h => nomatch h⟩ ?_ ?_
  · rintro i d ρ N hd ⟨p', t, k, l, rfl, hl, h0, nd, hat, hp⟩ kN
    obtain ⟨hi, rfl⟩ := rngD_get hd
    simp only [↓dSeq, ↓dIfS, ↓dRet, ↓dRetN, ↓dSkip, ↓dBrk, ↓dCnt, ↓dPk, ↓dC, ↓dO, ↓d2, ↓dNotT, ↓dAndT, ↓dOrT, ↓dIf, ↓dNil, ↓dCons, ↓dNilL, ↓dConsL, ↓dTup, ↓dLst, ↓dBI, ↓dOwnL, ↓dCall, ↓dRng1, ↓dRng2, ↓dFor, ↓dRaise, ↓dRaise0, ↓dPn, ↓dYes, ↓dLc, ↓dExp, ↓onOk_ok, ↓onOk_exc, ↓onFl_ok, ↓onFl_exc, gt0, gtS, Vi.frs, fr_non, own_non, own_und, nz_non, fr_bl, own_bl, nz_bl, fr_int, own_int, nz_int, fr_str, own_str, nz_str, fr_tup, own_tup, nz_tup, fr_lst, own_lst, nz_lst, fr_klst, own_klst, nz_klst, fr_dic, own_dic, nz_dic, fr_ins, own_ins, nz_ins, fr_exo, own_exo, nz_exo, fr_fn, own_fn, nz_fn, eqD_ii, eqD_ss, eqD_bb, eqD_nn, eqD_sn, eqD_ns, eqD_ll, eqD_tt, eqDs_nn, eqDs_cn, eqDs_nc, eqDs_cc, shp_i, shp_b, shp_n, shp_s, shp_l, shp_t, shps_n, shps_c, id_eq, ↓dTry, ↓dIs_eq, ↓dWhat_eq, endT_rt, endT_nx, oEq, oIsN, isN, ↓endK_rt, ↓endK_nx, ↓endK_exc, ↓turnK_nx, ↓turnK_ct, ↓turnK_bk, ↓turnK_rt, ↓turnK_exc, List.set_cons_zero, List.set_cons_succ, List.all_cons, List.all_nil, List.map_cons, List.map_nil, Bool.and_true, Bool.and_self, Bool.true_and, Bool.not_true, Bool.not_false, true_and, and_true, List.take_succ_cons, List.take_zero, List.cons_append, List.nil_append, Bool.false_eq_true, if_false, if_true, ite_false, ite_true, wb_n, wb_sl, wb_vc, wb_vn, wb_v1, wb_v2, wb_v3, wb_v4, wb_v5, wb_v6, unb, reb, List.length_cons, List.length_nil, ↓dVar_r, ↓dFr_r, ↓dSet_r, ↓dgN_r, ↓dPut_r, ↓dApp_r, ↓dB_r, ↓dAndV_r, ↓dOrV_r, ↓dNotV_r, ↓dChn_r, ↓dSl_r, ↓dLenSet_r, ↓dItS_r, ↓dItL_r, ↓dItT_r, ↓dPs_r, eAt_c, exF_ok, putK_li, appK_l, blK_b, slK_s, slK_l, oIx_l, oIx_k, oIx_t, oIx_s, oAll_m, stK_b, seqK_l, seqK_k, tupK_t, inK_b, dAt_non, dAt_bl, dAt_int, dAt_str, dAt_tup, dAt_lst, dAt_klst, dAt_dic, dAt_ins, dAt_exo, dAt_fn, dAt_und, oAdd_ii, oAdd_ss, oAdd_ll, oAdd_tt, oOrd_ii, oOrd_ss, oInS_r, oInt_r, oInt0_r, oLen_l, oLen_k, oLen_t, oLen_s, oAbs_r, oInt1_i, oInt1_b, oReprB_r, int1_r, int2_r, isLst_l, see_v, see_s, sea_v, sea_s, ↓dIdx, ↓dFld, ↓dFset, ↓dJoin, ↓dListOf, ↓dMeth, ↓dMake_r, ↓dAsgG, ↓dLcN, ↓dLc2, idxK_ss, isStr_s, fldK_0, fldK_S, fsetK_r, isIns_i, dgTup_t, dgSeq_l, dgSeq_k, dgCons_c, dgNil_n, rowK_l, rowK_k, rowK_t, oTup_l, oTup_k, oTup_t, ↓dLoan_r, lnK_ok, lnK_exc, lnE_t, lnE_f, lnE_n, olE_c, olE_n, Bool.true_or, Bool.or_true, Bool.false_or, lf_non, lf_bl, lf_int, lf_str, lf_tup, lf_ins, lfs_n, lfs_c, fr2_l, ol_l, ↓dNeg, ngK_i, oRepS_r, ↓dApp2, ↓dPop2, ↓dPut2, sbK_l, opApp, opPop, opPut, ↓dAppSelf, ↓dAsg3, ↓dTru, truK_b, truK_l, ↓dExt, extK_l, oMin2_r, oIsB_r, ↓dSortSet, ↓dReprT, oEqS_r, ↓dCat, catK_l, ↓dItV, itK_s, itK_t, itK_l, itK_k, ↓dDisp1_r, tkK_ii, ↓dDget, ↓dDin, ↓dDput, dkK_tr, dkK_oi, dkK_os, dputK_t, dputK_oi, dputK_os]
    refine call_step rfl rfl rfl ⟨nums, p', 69, rfl, n0, n1, by decide, fun v2 x2 w0 w1 => ⟨rfl, ?_⟩⟩
    simp only [↓dSeq, ↓dIfS, ↓dRet, ↓dRetN, ↓dSkip, ↓dBrk, ↓dCnt, ↓dPk, ↓dC, ↓dO, ↓d2, ↓dNotT, ↓dAndT, ↓dOrT, ↓dIf, ↓dNil, ↓dCons, ↓dNilL, ↓dConsL, ↓dTup, ↓dLst, ↓dBI, ↓dOwnL, ↓dCall, ↓dRng1, ↓dRng2, ↓dFor, ↓dRaise, ↓dRaise0, ↓dPn, ↓dYes, ↓dLc, ↓dExp, ↓onOk_ok, ↓onOk_exc, ↓onFl_ok, ↓onFl_exc, gt0, gtS, Vi.frs, fr_non, own_non, own_und, nz_non, fr_bl, own_bl, nz_bl, fr_int, own_int, nz_int, fr_str, own_str, nz_str, fr_tup, own_tup, nz_tup, fr_lst, own_lst, nz_lst, fr_klst, own_klst, nz_klst, fr_dic, own_dic, nz_dic, fr_ins, own_ins, nz_ins, fr_exo, own_exo, nz_exo, fr_fn, own_fn, nz_fn, eqD_ii, eqD_ss, eqD_bb, eqD_nn, eqD_sn, eqD_ns, eqD_ll, eqD_tt, eqDs_nn, eqDs_cn, eqDs_nc, eqDs_cc, shp_i, shp_b, shp_n, shp_s, shp_l, shp_t, shps_n, shps_c, id_eq, ↓dTry, ↓dIs_eq, ↓dWhat_eq, endT_rt, endT_nx, oEq, oIsN, isN, ↓endK_rt, ↓endK_nx, ↓endK_exc, ↓turnK_nx, ↓turnK_ct, ↓turnK_bk, ↓turnK_rt, ↓turnK_exc, List.set_cons_zero, List.set_cons_succ, List.all_cons, List.all_nil, List.map_cons, List.map_nil, Bool.and_true, Bool.and_self, Bool.true_and, Bool.not_true, Bool.not_false, true_and, and_true, List.take_succ_cons, List.take_zero, List.cons_append, List.nil_append, Bool.false_eq_true, if_false, if_true, ite_false, ite_true, wb_n, wb_sl, wb_vc, wb_vn, wb_v1, wb_v2, wb_v3, wb_v4, wb_v5, wb_v6, unb, reb, List.length_cons, List.length_nil, ↓dVar_r, ↓dFr_r, ↓dSet_r, ↓dgN_r, ↓dPut_r, ↓dApp_r, ↓dB_r, ↓dAndV_r, ↓dOrV_r, ↓dNotV_r, ↓dChn_r, ↓dSl_r, ↓dLenSet_r, ↓dItS_r, ↓dItL_r, ↓dItT_r, ↓dPs_r, eAt_c, exF_ok, putK_li, appK_l, blK_b, slK_s, slK_l, oIx_l, oIx_k, oIx_t, oIx_s, oAll_m, stK_b, seqK_l, seqK_k, tupK_t, inK_b, dAt_non, dAt_bl, dAt_int, dAt_str, dAt_tup, dAt_lst, dAt_klst, dAt_dic, dAt_ins, dAt_exo, dAt_fn, dAt_und, oAdd_ii, oAdd_ss, oAdd_ll, oAdd_tt, oOrd_ii, oOrd_ss, oInS_r, oInt_r, oInt0_r, oLen_l, oLen_k, oLen_t, oLen_s, oAbs_r, oInt1_i, oInt1_b, oReprB_r, int1_r, int2_r, isLst_l, see_v, see_s, sea_v, sea_s, ↓dIdx, ↓dFld, ↓dFset, ↓dJoin, ↓dListOf, ↓dMeth, ↓dMake_r, ↓dAsgG, ↓dLcN, ↓dLc2, idxK_ss, isStr_s, fldK_0, fldK_S, fsetK_r, isIns_i, dgTup_t, dgSeq_l, dgSeq_k, dgCons_c, dgNil_n, rowK_l, rowK_k, rowK_t, oTup_l, oTup_k, oTup_t, ↓dLoan_r, lnK_ok, lnK_exc, lnE_t, lnE_f, lnE_n, olE_c, olE_n, Bool.true_or, Bool.or_true, Bool.false_or, lf_non, lf_bl, lf_int, lf_str, lf_tup, lf_ins, lfs_n, lfs_c, fr2_l, ol_l, ↓dNeg, ngK_i, oRepS_r, ↓dApp2, ↓dPop2, ↓dPut2, sbK_l, opApp, opPop, opPut, ↓dAppSelf, ↓dAsg3, ↓dTru, truK_b, truK_l, ↓dExt, extK_l, oMin2_r, oIsB_r, ↓dSortSet, ↓dReprT, oEqS_r, ↓dCat, catK_l, ↓dItV, itK_s, itK_t, itK_l, itK_k, ↓dDisp1_r, tkK_ii, ↓dDget, ↓dDin, ↓dDput, dkK_tr, dkK_oi, dkK_os, dputK_t, dputK_oi, dputK_os]
    obtain ⟨c, e, hc⟩ := atI_ok (xs := pool69) w0 (by exact w1)
    have hc2 := List.mem_of_getElem? hc
    refine ⟨by decide, atS_of e ?_⟩
    simp only [↓dSeq, ↓dIfS, ↓dRet, ↓dRetN, ↓dSkip, ↓dBrk, ↓dCnt, ↓dPk, ↓dC, ↓dO, ↓d2, ↓dNotT, ↓dAndT, ↓dOrT, ↓dIf, ↓dNil, ↓dCons, ↓dNilL, ↓dConsL, ↓dTup, ↓dLst, ↓dBI, ↓dOwnL, ↓dCall, ↓dRng1, ↓dRng2, ↓dFor, ↓dRaise, ↓dRaise0, ↓dPn, ↓dYes, ↓dLc, ↓dExp, ↓onOk_ok, ↓onOk_exc, ↓onFl_ok, ↓onFl_exc, gt0, gtS, Vi.frs, fr_non, own_non, own_und, nz_non, fr_bl, own_bl, nz_bl, fr_int, own_int, nz_int, fr_str, own_str, nz_str, fr_tup, own_tup, nz_tup, fr_lst, own_lst, nz_lst, fr_klst, own_klst, nz_klst, fr_dic, own_dic, nz_dic, fr_ins, own_ins, nz_ins, fr_exo, own_exo, nz_exo, fr_fn, own_fn, nz_fn, eqD_ii, eqD_ss, eqD_bb, eqD_nn, eqD_sn, eqD_ns, eqD_ll, eqD_tt, eqDs_nn, eqDs_cn, eqDs_nc, eqDs_cc, shp_i, shp_b, shp_n, shp_s, shp_l, shp_t, shps_n, shps_c, id_eq, ↓dTry, ↓dIs_eq, ↓dWhat_eq, endT_rt, endT_nx, oEq, oIsN, isN, ↓endK_rt, ↓endK_nx, ↓endK_exc, ↓turnK_nx, ↓turnK_ct, ↓turnK_bk, ↓turnK_rt, ↓turnK_exc, List.set_cons_zero, List.set_cons_succ, List.all_cons, List.all_nil, List.map_cons, List.map_nil, Bool.and_true, Bool.and_self, Bool.true_and, Bool.not_true, Bool.not_false, true_and, and_true, List.take_succ_cons, List.take_zero, List.cons_append, List.nil_append, Bool.false_eq_true, if_false, if_true, ite_false, ite_true, wb_n, wb_sl, wb_vc, wb_vn, wb_v1, wb_v2, wb_v3, wb_v4, wb_v5, wb_v6, unb, reb, List.length_cons, List.length_nil, ↓dVar_r, ↓dFr_r, ↓dSet_r, ↓dgN_r, ↓dPut_r, ↓dApp_r, ↓dB_r, ↓dAndV_r, ↓dOrV_r, ↓dNotV_r, ↓dChn_r, ↓dSl_r, ↓dLenSet_r, ↓dItS_r, ↓dItL_r, ↓dItT_r, ↓dPs_r, eAt_c, exF_ok, putK_li, appK_l, blK_b, slK_s, slK_l, oIx_l, oIx_k, oIx_t, oIx_s, oAll_m, stK_b, seqK_l, seqK_k, tupK_t, inK_b, dAt_non, dAt_bl, dAt_int, dAt_str, dAt_tup, dAt_lst, dAt_klst, dAt_dic, dAt_ins, dAt_exo, dAt_fn, dAt_und, oAdd_ii, oAdd_ss, oAdd_ll, oAdd_tt, oOrd_ii, oOrd_ss, oInS_r, oInt_r, oInt0_r, oLen_l, oLen_k, oLen_t, oLen_s, oAbs_r, oInt1_i, oInt1_b, oReprB_r, int1_r, int2_r, isLst_l, see_v, see_s, sea_v, sea_s, ↓dIdx, ↓dFld, ↓dFset, ↓dJoin, ↓dListOf, ↓dMeth, ↓dMake_r, ↓dAsgG, ↓dLcN, ↓dLc2, idxK_ss, isStr_s, fldK_0, fldK_S, fsetK_r, isIns_i, dgTup_t, dgSeq_l, dgSeq_k, dgCons_c, dgNil_n, rowK_l, rowK_k, rowK_t, oTup_l, oTup_k, oTup_t, ↓dLoan_r, lnK_ok, lnK_exc, lnE_t, lnE_f, lnE_n, olE_c, olE_n, Bool.true_or, Bool.or_true, Bool.false_or, lf_non, lf_bl, lf_int, lf_str, lf_tup, lf_ins, lfs_n, lfs_c, fr2_l, ol_l, ↓dNeg, ngK_i, oRepS_r, ↓dApp2, ↓dPop2, ↓dPut2, sbK_l, opApp, opPop, opPut, ↓dAppSelf, ↓dAsg3, ↓dTru, truK_b, truK_l, ↓dExt, extK_l, oMin2_r, oIsB_r, ↓dSortSet, ↓dReprT, oEqS_r, ↓dCat, catK_l, ↓dItV, itK_s, itK_t, itK_l, itK_k, ↓dDisp1_r, tkK_ii, ↓dDget, ↓dDin, ↓dDput, dkK_tr, dkK_oi, dkK_os, dputK_t, dputK_oi, dputK_os]
    cases hm : decide (c ∈ t) with
    | true =>
      have h1 : c ∈ t := of_decide_eq_true hm
      simp only [↓dSeq, ↓dIfS, ↓dRet, ↓dRetN, ↓dSkip, ↓dBrk, ↓dCnt, ↓dPk, ↓dC, ↓dO, ↓d2, ↓dNotT, ↓dAndT, ↓dOrT, ↓dIf, ↓dNil, ↓dCons, ↓dNilL, ↓dConsL, ↓dTup, ↓dLst, ↓dBI, ↓dOwnL, ↓dCall, ↓dRng1, ↓dRng2, ↓dFor, ↓dRaise, ↓dRaise0, ↓dPn, ↓dYes, ↓dLc, ↓dExp, ↓onOk_ok, ↓onOk_exc, ↓onFl_ok, ↓onFl_exc, gt0, gtS, Vi.frs, fr_non, own_non, own_und, nz_non, fr_bl, own_bl, nz_bl, fr_int, own_int, nz_int, fr_str, own_str, nz_str, fr_tup, own_tup, nz_tup, fr_lst, own_lst, nz_lst, fr_klst, own_klst, nz_klst, fr_dic, own_dic, nz_dic, fr_ins, own_ins, nz_ins, fr_exo, own_exo, nz_exo, fr_fn, own_fn, nz_fn, eqD_ii, eqD_ss, eqD_bb, eqD_nn, eqD_sn, eqD_ns, eqD_ll, eqD_tt, eqDs_nn, eqDs_cn, eqDs_nc, eqDs_cc, shp_i, shp_b, shp_n, shp_s, shp_l, shp_t, shps_n, shps_c, id_eq, ↓dTry, ↓dIs_eq, ↓dWhat_eq, endT_rt, endT_nx, oEq, oIsN, isN, ↓endK_rt, ↓endK_nx, ↓endK_exc, ↓turnK_nx, ↓turnK_ct, ↓turnK_bk, ↓turnK_rt, ↓turnK_exc, List.set_cons_zero, List.set_cons_succ, List.all_cons, List.all_nil, List.map_cons, List.map_nil, Bool.and_true, Bool.and_self, Bool.true_and, Bool.not_true, Bool.not_false, true_and, and_true, List.take_succ_cons, List.take_zero, List.cons_append, List.nil_append, Bool.false_eq_true, if_false, if_true, ite_false, ite_true, wb_n, wb_sl, wb_vc, wb_vn, wb_v1, wb_v2, wb_v3, wb_v4, wb_v5, wb_v6, unb, reb, List.length_cons, List.length_nil, ↓dVar_r, ↓dFr_r, ↓dSet_r, ↓dgN_r, ↓dPut_r, ↓dApp_r, ↓dB_r, ↓dAndV_r, ↓dOrV_r, ↓dNotV_r, ↓dChn_r, ↓dSl_r, ↓dLenSet_r, ↓dItS_r, ↓dItL_r, ↓dItT_r, ↓dPs_r, eAt_c, exF_ok, putK_li, appK_l, blK_b, slK_s, slK_l, oIx_l, oIx_k, oIx_t, oIx_s, oAll_m, stK_b, seqK_l, seqK_k, tupK_t, inK_b, dAt_non, dAt_bl, dAt_int, dAt_str, dAt_tup, dAt_lst, dAt_klst, dAt_dic, dAt_ins, dAt_exo, dAt_fn, dAt_und, oAdd_ii, oAdd_ss, oAdd_ll, oAdd_tt, oOrd_ii, oOrd_ss, oInS_r, oInt_r, oInt0_r, oLen_l, oLen_k, oLen_t, oLen_s, oAbs_r, oInt1_i, oInt1_b, oReprB_r, int1_r, int2_r, isLst_l, see_v, see_s, sea_v, sea_s, ↓dIdx, ↓dFld, ↓dFset, ↓dJoin, ↓dListOf, ↓dMeth, ↓dMake_r, ↓dAsgG, ↓dLcN, ↓dLc2, idxK_ss, isStr_s, fldK_0, fldK_S, fsetK_r, isIns_i, dgTup_t, dgSeq_l, dgSeq_k, dgCons_c, dgNil_n, rowK_l, rowK_k, rowK_t, oTup_l, oTup_k, oTup_t, ↓dLoan_r, lnK_ok, lnK_exc, lnE_t, lnE_f, lnE_n, olE_c, olE_n, Bool.true_or, Bool.or_true, Bool.false_or, lf_non, lf_bl, lf_int, lf_str, lf_tup, lf_ins, lfs_n, lfs_c, fr2_l, ol_l, ↓dNeg, ngK_i, oRepS_r, ↓dApp2, ↓dPop2, ↓dPut2, sbK_l, opApp, opPop, opPut, ↓dAppSelf, ↓dAsg3, ↓dTru, truK_b, truK_l, ↓dExt, extK_l, oMin2_r, oIsB_r, ↓dSortSet, ↓dReprT, oEqS_r, ↓dCat, catK_l, ↓dItV, itK_s, itK_t, itK_l, itK_k, ↓dDisp1_r, tkK_ii, ↓dDget, ↓dDin, ↓dDput, dkK_tr, dkK_oi, dkK_os, dputK_t, dputK_oi, dputK_os]
      exact kN _ ⟨_, _, _, _, rfl, by omega, fun _ => List.length_pos_of_mem h1, nd, hat, hp⟩
    | false =>
      have h1 : c ∉ t := of_decide_eq_false hm
      simp only [↓dSeq, ↓dIfS, ↓dRet, ↓dRetN, ↓dSkip, ↓dBrk, ↓dCnt, ↓dPk, ↓dC, ↓dO, ↓d2, ↓dNotT, ↓dAndT, ↓dOrT, ↓dIf, ↓dNil, ↓dCons, ↓dNilL, ↓dConsL, ↓dTup, ↓dLst, ↓dBI, ↓dOwnL, ↓dCall, ↓dRng1, ↓dRng2, ↓dFor, ↓dRaise, ↓dRaise0, ↓dPn, ↓dYes, ↓dLc, ↓dExp, ↓onOk_ok, ↓onOk_exc, ↓onFl_ok, ↓onFl_exc, gt0, gtS, Vi.frs, fr_non, own_non, own_und, nz_non, fr_bl, own_bl, nz_bl, fr_int, own_int, nz_int, fr_str, own_str, nz_str, fr_tup, own_tup, nz_tup, fr_lst, own_lst, nz_lst, fr_klst, own_klst, nz_klst, fr_dic, own_dic, nz_dic, fr_ins, own_ins, nz_ins, fr_exo, own_exo, nz_exo, fr_fn, own_fn, nz_fn, eqD_ii, eqD_ss, eqD_bb, eqD_nn, eqD_sn, eqD_ns, eqD_ll, eqD_tt, eqDs_nn, eqDs_cn, eqDs_nc, eqDs_cc, shp_i, shp_b, shp_n, shp_s, shp_l, shp_t, shps_n, shps_c, id_eq, ↓dTry, ↓dIs_eq, ↓dWhat_eq, endT_rt, endT_nx, oEq, oIsN, isN, ↓endK_rt, ↓endK_nx, ↓endK_exc, ↓turnK_nx, ↓turnK_ct, ↓turnK_bk, ↓turnK_rt, ↓turnK_exc, List.set_cons_zero, List.set_cons_succ, List.all_cons, List.all_nil, List.map_cons, List.map_nil, Bool.and_true, Bool.and_self, Bool.true_and, Bool.not_true, Bool.not_false, true_and, and_true, List.take_succ_cons, List.take_zero, List.cons_append, List.nil_append, Bool.false_eq_true, if_false, if_true, ite_false, ite_true, wb_n, wb_sl, wb_vc, wb_vn, wb_v1, wb_v2, wb_v3, wb_v4, wb_v5, wb_v6, unb, reb, List.length_cons, List.length_nil, ↓dVar_r, ↓dFr_r, ↓dSet_r, ↓dgN_r, ↓dPut_r, ↓dApp_r, ↓dB_r, ↓dAndV_r, ↓dOrV_r, ↓dNotV_r, ↓dChn_r, ↓dSl_r, ↓dLenSet_r, ↓dItS_r, ↓dItL_r, ↓dItT_r, ↓dPs_r, eAt_c, exF_ok, putK_li, appK_l, blK_b, slK_s, slK_l, oIx_l, oIx_k, oIx_t, oIx_s, oAll_m, stK_b, seqK_l, seqK_k, tupK_t, inK_b, dAt_non, dAt_bl, dAt_int, dAt_str, dAt_tup, dAt_lst, dAt_klst, dAt_dic, dAt_ins, dAt_exo, dAt_fn, dAt_und, oAdd_ii, oAdd_ss, oAdd_ll, oAdd_tt, oOrd_ii, oOrd_ss, oInS_r, oInt_r, oInt0_r, oLen_l, oLen_k, oLen_t, oLen_s, oAbs_r, oInt1_i, oInt1_b, oReprB_r, int1_r, int2_r, isLst_l, see_v, see_s, sea_v, sea_s, ↓dIdx, ↓dFld, ↓dFset, ↓dJoin, ↓dListOf, ↓dMeth, ↓dMake_r, ↓dAsgG, ↓dLcN, ↓dLc2, idxK_ss, isStr_s, fldK_0, fldK_S, fsetK_r, isIns_i, dgTup_t, dgSeq_l, dgSeq_k, dgCons_c, dgNil_n, rowK_l, rowK_k, rowK_t, oTup_l, oTup_k, oTup_t, ↓dLoan_r, lnK_ok, lnK_exc, lnE_t, lnE_f, lnE_n, olE_c, olE_n, Bool.true_or, Bool.or_true, Bool.false_or, lf_non, lf_bl, lf_int, lf_str, lf_tup, lf_ins, lfs_n, lfs_c, fr2_l, ol_l, ↓dNeg, ngK_i, oRepS_r, ↓dApp2, ↓dPop2, ↓dPut2, sbK_l, opApp, opPop, opPut, ↓dAppSelf, ↓dAsg3, ↓dTru, truK_b, truK_l, ↓dExt, extK_l, oMin2_r, oIsB_r, ↓dSortSet, ↓dReprT, oEqS_r, ↓dCat, catK_l, ↓dItV, itK_s, itK_t, itK_l, itK_k, ↓dDisp1_r, tkK_ii, ↓dDget, ↓dDin, ↓dDput, dkK_tr, dkK_oi, dkK_os, dputK_t, dputK_oi, dputK_os]
      refine ⟨by show t.length + 1 ≤ _; omega, kN _ ⟨_, _, _, _, rfl, by simp; omega, fun _ => by simp, ?_, asc_app hat (asc_one asc_pool69 hc2), fun d hd => (List.mem_append.mp hd).elim (hp d) fun h => by rw [List.mem_singleton.mp h]; exact hc2⟩⟩
      rw [List.nodup_append]
      exact ⟨nd, by simp, fun a ha b hb => by rw [List.mem_singleton.mp hb]; exact fun e => h1 (e ▸ ha)⟩
  · rintro ρ ⟨p', t, k, l, rfl, hl, h0, nd, hat, hp⟩
    rw [rngD_len] at hl h0
    simp only [↓dSeq, ↓dIfS, ↓dRet, ↓dRetN, ↓dSkip, ↓dBrk, ↓dCnt, ↓dPk, ↓dC, ↓dO, ↓d2, ↓dNotT, ↓dAndT, ↓dOrT, ↓dIf, ↓dNil, ↓dCons, ↓dNilL, ↓dConsL, ↓dTup, ↓dLst, ↓dBI, ↓dOwnL, ↓dCall, ↓dRng1, ↓dRng2, ↓dFor, ↓dRaise, ↓dRaise0, ↓dPn, ↓dYes, ↓dLc, ↓dExp, ↓onOk_ok, ↓onOk_exc, ↓onFl_ok, ↓onFl_exc, gt0, gtS, Vi.frs, fr_non, own_non, own_und, nz_non, fr_bl, own_bl, nz_bl, fr_int, own_int, nz_int, fr_str, own_str, nz_str, fr_tup, own_tup, nz_tup, fr_lst, own_lst, nz_lst, fr_klst, own_klst, nz_klst, fr_dic, own_dic, nz_dic, fr_ins, own_ins, nz_ins, fr_exo, own_exo, nz_exo, fr_fn, own_fn, nz_fn, eqD_ii, eqD_ss, eqD_bb, eqD_nn, eqD_sn, eqD_ns, eqD_ll, eqD_tt, eqDs_nn, eqDs_cn, eqDs_nc, eqDs_cc, shp_i, shp_b, shp_n, shp_s, shp_l, shp_t, shps_n, shps_c, id_eq, ↓dTry, ↓dIs_eq, ↓dWhat_eq, endT_rt, endT_nx, oEq, oIsN, isN, ↓endK_rt, ↓endK_nx, ↓endK_exc, ↓turnK_nx, ↓turnK_ct, ↓turnK_bk, ↓turnK_rt, ↓turnK_exc, List.set_cons_zero, List.set_cons_succ, List.all_cons, List.all_nil, List.map_cons, List.map_nil, Bool.and_true, Bool.and_self, Bool.true_and, Bool.not_true, Bool.not_false, true_and, and_true, List.take_succ_cons, List.take_zero, List.cons_append, List.nil_append, Bool.false_eq_true, if_false, if_true, ite_false, ite_true, wb_n, wb_sl, wb_vc, wb_vn, wb_v1, wb_v2, wb_v3, wb_v4, wb_v5, wb_v6, unb, reb, List.length_cons, List.length_nil, ↓dVar_r, ↓dFr_r, ↓dSet_r, ↓dgN_r, ↓dPut_r, ↓dApp_r, ↓dB_r, ↓dAndV_r, ↓dOrV_r, ↓dNotV_r, ↓dChn_r, ↓dSl_r, ↓dLenSet_r, ↓dItS_r, ↓dItL_r, ↓dItT_r, ↓dPs_r, eAt_c, exF_ok, putK_li, appK_l, blK_b, slK_s, slK_l, oIx_l, oIx_k, oIx_t, oIx_s, oAll_m, stK_b, seqK_l, seqK_k, tupK_t, inK_b, dAt_non, dAt_bl, dAt_int, dAt_str, dAt_tup, dAt_lst, dAt_klst, dAt_dic, dAt_ins, dAt_exo, dAt_fn, dAt_und, oAdd_ii, oAdd_ss, oAdd_ll, oAdd_tt, oOrd_ii, oOrd_ss, oInS_r, oInt_r, oInt0_r, oLen_l, oLen_k, oLen_t, oLen_s, oAbs_r, oInt1_i, oInt1_b, oReprB_r, int1_r, int2_r, isLst_l, see_v, see_s, sea_v, sea_s, ↓dIdx, ↓dFld, ↓dFset, ↓dJoin, ↓dListOf, ↓dMeth, ↓dMake_r, ↓dAsgG, ↓dLcN, ↓dLc2, idxK_ss, isStr_s, fldK_0, fldK_S, fsetK_r, isIns_i, dgTup_t, dgSeq_l, dgSeq_k, dgCons_c, dgNil_n, rowK_l, rowK_k, rowK_t, oTup_l, oTup_k, oTup_t, ↓dLoan_r, lnK_ok, lnK_exc, lnE_t, lnE_f, lnE_n, olE_c, olE_n, Bool.true_or, Bool.or_true, Bool.false_or, lf_non, lf_bl, lf_int, lf_str, lf_tup, lf_ins, lfs_n, lfs_c, fr2_l, ol_l, ↓dNeg, ngK_i, oRepS_r, ↓dApp2, ↓dPop2, ↓dPut2, sbK_l, opApp, opPop, opPut, ↓dAppSelf, ↓dAsg3, ↓dTru, truK_b, truK_l, ↓dExt, extK_l, oMin2_r, oIsB_r, ↓dSortSet, ↓dReprT, oEqS_r, ↓dCat, catK_l, ↓dItV, itK_s, itK_t, itK_l, itK_k, ↓dDisp1_r, tkK_ii, ↓dDget, ↓dDin, ↓dDput, dkK_tr, dkK_oi, dkK_os, dputK_t, dputK_oi, dputK_os]
    exact kk p' t _ (by omega) (h0 (by omega)) nd hat hp

theorem strs_sg (t : List Nat) : strsD (t.map fun c => D.str [c]) = some (t.map fun c => [c]) := by
  have h := strsD_map (t.map fun c => [c])
  rw [List.map_map] at h
  exact h
theorem flat_sg : ∀ t : List Nat, (t.map fun c => [c]).flatten = t
  | [] => rfl
  | c :: t => by
    show c :: (t.map fun c => [c]).flatten = _
    rw [flat_sg t]
theorem sum_sg : ∀ t : List Nat, (t.map fun _ => 1).sum = t.length
  | [] => rfl
  | c :: t => by
    rw [List.map_cons, List.sum_cons, sum_sg t, List.length_cons]
    omega

--@@SPLIT
/-! ### _law_made -/
def S__law_made : FS := fun args K => ∃ (L : List Nat) (m : MA), args = [.str L, .lst false (m.acc.map .bl), .lst false (m.tab.map rowJ)] ∧ m.Bd L ∧ ∀ posts, posts.length = 3 → K (.ok (.bl (!m.whole L))) posts
def b__law_made (cl : Nat → Addr) : DS :=
  dSeq (dTry (subE 1) 3 cl (dExp (dFr (dMake 5 4 S_Machine___init__ [] (dConsL (dVar 0) (dConsL (dVar 1) (dConsL (dVar 2) (dNilL))))))) (fun a cls d => dRet (dFr (dAndV (dIs cl 3 a cls d (subE 2)) (dAndV (dNotV (dIs cl 3 a cls d (subsE [3, 4]))) (d2 (oIsN id) (dO (dWhat cl 3 a cls d fam)) (dO (dC .non))))))))
  (dRet (dFr (dC (.bl false))))
theorem makem_any {L : List Nat} {m : MA} {ρ : Vi.Env} {K : R D → Vi.Env → Prop} (bd : m.Bd L) (h : m.whole L = true → K (.ok (maD L m)) ρ) (g : m.whole L = false → K (.exc 2 .non) ρ) : makeD 5 4 S_Machine___init__ [] [.str L, .lst false (m.acc.map .bl), .lst false (m.tab.map rowJ)] ρ K := by
  refine make_step rfl ⟨L, m, false, false, false, rfl, bd, fun a b c => ?_⟩
  cases hw : m.whole L with
  | true => exact ⟨_, _, rfl, rfl, h hw⟩
  | false => exact g hw
theorem p__law_made {cl : Nat → Addr} : ∀ args K', args.length = 3 → S__law_made args K' → b__law_made cl (args ++ List.replicate 1 .und) (endK 3 K') := by
  rintro args K' - ⟨L, m, rfl, bd, kk⟩
  show b__law_made cl [.str L, .lst false (m.acc.map .bl), .lst false (m.tab.map rowJ), .und] _
  unfold b__law_made
  have k2 := kk [.str L, .lst false (m.acc.map .bl), .lst false (m.tab.map rowJ)] rfl
  simp only [↓dSeq, ↓dIfS, ↓dRet, ↓dRetN, ↓dSkip, ↓dBrk, ↓dCnt, ↓dPk, ↓dC, ↓dO, ↓d2, ↓dNotT, ↓dAndT, ↓dOrT, ↓dIf, ↓dNil, ↓dCons, ↓dNilL, ↓dConsL, ↓dTup, ↓dLst, ↓dBI, ↓dOwnL, ↓dCall, ↓dRng1, ↓dRng2, ↓dFor, ↓dRaise, ↓dRaise0, ↓dPn, ↓dYes, ↓dLc, ↓dExp, ↓onOk_ok, ↓onOk_exc, ↓onFl_ok, ↓onFl_exc, gt0, gtS, Vi.frs, fr_non, own_non, own_und, nz_non, fr_bl, own_bl, nz_bl, fr_int, own_int, nz_int, fr_str, own_str, nz_str, fr_tup, own_tup, nz_tup, fr_lst, own_lst, nz_lst, fr_klst, own_klst, nz_klst, fr_dic, own_dic, nz_dic, fr_ins, own_ins, nz_ins, fr_exo, own_exo, nz_exo, fr_fn, own_fn, nz_fn, eqD_ii, eqD_ss, eqD_bb, eqD_nn, eqD_sn, eqD_ns, eqD_ll, eqD_tt, eqDs_nn, eqDs_cn, eqDs_nc, eqDs_cc, shp_i, shp_b, shp_n, shp_s, shp_l, shp_t, shps_n, shps_c, id_eq, ↓dTry, ↓dIs_eq, ↓dWhat_eq, endT_rt, endT_nx, oEq, oIsN, isN, ↓endK_rt, ↓endK_nx, ↓endK_exc, ↓turnK_nx, ↓turnK_ct, ↓turnK_bk, ↓turnK_rt, ↓turnK_exc, List.set_cons_zero, List.set_cons_succ, List.all_cons, List.all_nil, List.map_cons, List.map_nil, Bool.and_true, Bool.and_self, Bool.true_and, Bool.not_true, Bool.not_false, true_and, and_true, List.take_succ_cons, List.take_zero, List.cons_append, List.nil_append, Bool.false_eq_true, if_false, if_true, ite_false, ite_true, wb_n, wb_sl, wb_vc, wb_vn, wb_v1, wb_v2, wb_v3, wb_v4, wb_v5, wb_v6, unb, reb, List.length_cons, List.length_nil, ↓dVar_r, ↓dFr_r, ↓dSet_r, ↓dgN_r, ↓dPut_r, ↓dApp_r, ↓dB_r, ↓dAndV_r, ↓dOrV_r, ↓dNotV_r, ↓dChn_r, ↓dSl_r, ↓dLenSet_r, ↓dItS_r, ↓dItL_r, ↓dItT_r, ↓dPs_r, eAt_c, exF_ok, putK_li, appK_l, blK_b, slK_s, slK_l, oIx_l, oIx_k, oIx_t, oIx_s, oAll_m, stK_b, seqK_l, seqK_k, tupK_t, inK_b, dAt_non, dAt_bl, dAt_int, dAt_str, dAt_tup, dAt_lst, dAt_klst, dAt_dic, dAt_ins, dAt_exo, dAt_fn, dAt_und, oAdd_ii, oAdd_ss, oAdd_ll, oAdd_tt, oOrd_ii, oOrd_ss, oInS_r, oInt_r, oInt0_r, oLen_l, oLen_k, oLen_t, oLen_s, oAbs_r, oInt1_i, oInt1_b, oReprB_r, int1_r, int2_r, isLst_l, see_v, see_s, sea_v, sea_s, ↓dIdx, ↓dFld, ↓dFset, ↓dJoin, ↓dListOf, ↓dMeth, ↓dMake_r, ↓dAsgG, ↓dLcN, ↓dLc2, idxK_ss, isStr_s, fldK_0, fldK_S, fsetK_r, isIns_i, dgTup_t, dgSeq_l, dgSeq_k, dgCons_c, dgNil_n, rowK_l, rowK_k, rowK_t, oTup_l, oTup_k, oTup_t, ↓dLoan_r, lnK_ok, lnK_exc, lnE_t, lnE_f, lnE_n, olE_c, olE_n, Bool.true_or, Bool.or_true, Bool.false_or, lf_non, lf_bl, lf_int, lf_str, lf_tup, lf_ins, lfs_n, lfs_c, fr2_l, ol_l, ↓dNeg, ngK_i, oRepS_r, ↓dApp2, ↓dPop2, ↓dPut2, sbK_l, opApp, opPop, opPut, ↓dAppSelf, ↓dAsg3, ↓dTru, truK_b, truK_l, ↓dExt, extK_l, oMin2_r, oIsB_r, ↓dSortSet, ↓dReprT, oEqS_r, ↓dCat, catK_l, ↓dItV, itK_s, itK_t, itK_l, itK_k, ↓dDisp1_r, tkK_ii, ↓dDget, ↓dDin, ↓dDput, dkK_tr, dkK_oi, dkK_os, dputK_t, dputK_oi, dputK_os]
  refine makem_any bd (fun hw => ?_) fun hw => ?_
  · rw [hw] at k2
    simp only [↓dSeq, ↓dIfS, ↓dRet, ↓dRetN, ↓dSkip, ↓dBrk, ↓dCnt, ↓dPk, ↓dC, ↓dO, ↓d2, ↓dNotT, ↓dAndT, ↓dOrT, ↓dIf, ↓dNil, ↓dCons, ↓dNilL, ↓dConsL, ↓dTup, ↓dLst, ↓dBI, ↓dOwnL, ↓dCall, ↓dRng1, ↓dRng2, ↓dFor, ↓dRaise, ↓dRaise0, ↓dPn, ↓dYes, ↓dLc, ↓dExp, ↓onOk_ok, ↓onOk_exc, ↓onFl_ok, ↓onFl_exc, gt0, gtS, Vi.frs, fr_non, own_non, own_und, nz_non, fr_bl, own_bl, nz_bl, fr_int, own_int, nz_int, fr_str, own_str, nz_str, fr_tup, own_tup, nz_tup, fr_lst, own_lst, nz_lst, fr_klst, own_klst, nz_klst, fr_dic, own_dic, nz_dic, fr_ins, own_ins, nz_ins, fr_exo, own_exo, nz_exo, fr_fn, own_fn, nz_fn, eqD_ii, eqD_ss, eqD_bb, eqD_nn, eqD_sn, eqD_ns, eqD_ll, eqD_tt, eqDs_nn, eqDs_cn, eqDs_nc, eqDs_cc, shp_i, shp_b, shp_n, shp_s, shp_l, shp_t, shps_n, shps_c, id_eq, ↓dTry, ↓dIs_eq, ↓dWhat_eq, endT_rt, endT_nx, oEq, oIsN, isN, ↓endK_rt, ↓endK_nx, ↓endK_exc, ↓turnK_nx, ↓turnK_ct, ↓turnK_bk, ↓turnK_rt, ↓turnK_exc, List.set_cons_zero, List.set_cons_succ, List.all_cons, List.all_nil, List.map_cons, List.map_nil, Bool.and_true, Bool.and_self, Bool.true_and, Bool.not_true, Bool.not_false, true_and, and_true, List.take_succ_cons, List.take_zero, List.cons_append, List.nil_append, Bool.false_eq_true, if_false, if_true, ite_false, ite_true, wb_n, wb_sl, wb_vc, wb_vn, wb_v1, wb_v2, wb_v3, wb_v4, wb_v5, wb_v6, unb, reb, List.length_cons, List.length_nil, ↓dVar_r, ↓dFr_r, ↓dSet_r, ↓dgN_r, ↓dPut_r, ↓dApp_r, ↓dB_r, ↓dAndV_r, ↓dOrV_r, ↓dNotV_r, ↓dChn_r, ↓dSl_r, ↓dLenSet_r, ↓dItS_r, ↓dItL_r, ↓dItT_r, ↓dPs_r, eAt_c, exF_ok, putK_li, appK_l, blK_b, slK_s, slK_l, oIx_l, oIx_k, oIx_t, oIx_s, oAll_m, stK_b, seqK_l, seqK_k, tupK_t, inK_b, dAt_non, dAt_bl, dAt_int, dAt_str, dAt_tup, dAt_lst, dAt_klst, dAt_dic, dAt_ins, dAt_exo, dAt_fn, dAt_und, oAdd_ii, oAdd_ss, oAdd_ll, oAdd_tt, oOrd_ii, oOrd_ss, oInS_r, oInt_r, oInt0_r, oLen_l, oLen_k, oLen_t, oLen_s, oAbs_r, oInt1_i, oInt1_b, oReprB_r, int1_r, int2_r, isLst_l, see_v, see_s, sea_v, sea_s, ↓dIdx, ↓dFld, ↓dFset, ↓dJoin, ↓dListOf, ↓dMeth, ↓dMake_r, ↓dAsgG, ↓dLcN, ↓dLc2, idxK_ss, isStr_s, fldK_0, fldK_S, fsetK_r, isIns_i, dgTup_t, dgSeq_l, dgSeq_k, dgCons_c, dgNil_n, rowK_l, rowK_k, rowK_t, oTup_l, oTup_k, oTup_t, ↓dLoan_r, lnK_ok, lnK_exc, lnE_t, lnE_f, lnE_n, olE_c, olE_n, Bool.true_or, Bool.or_true, Bool.false_or, lf_non, lf_bl, lf_int, lf_str, lf_tup, lf_ins, lfs_n, lfs_c, fr2_l, ol_l, ↓dNeg, ngK_i, oRepS_r, ↓dApp2, ↓dPop2, ↓dPut2, sbK_l, opApp, opPop, opPut, ↓dAppSelf, ↓dAsg3, ↓dTru, truK_b, truK_l, ↓dExt, extK_l, oMin2_r, oIsB_r, ↓dSortSet, ↓dReprT, oEqS_r, ↓dCat, catK_l, ↓dItV, itK_s, itK_t, itK_l, itK_k, ↓dDisp1_r, tkK_ii, ↓dDget, ↓dDin, ↓dDput, dkK_tr, dkK_oi, dkK_os, dputK_t, dputK_oi, dputK_os]
    exact k2
  · rw [hw] at k2
    have s1 : subE 1 2 = some true := rfl
    have s2 : subE 2 2 = some true := rfl
    have s3 : subsE [3, 4] 2 = some false := rfl
    simp only [s1, s2, s3, ↓dSeq, ↓dIfS, ↓dRet, ↓dRetN, ↓dSkip, ↓dBrk, ↓dCnt, ↓dPk, ↓dC, ↓dO, ↓d2, ↓dNotT, ↓dAndT, ↓dOrT, ↓dIf, ↓dNil, ↓dCons, ↓dNilL, ↓dConsL, ↓dTup, ↓dLst, ↓dBI, ↓dOwnL, ↓dCall, ↓dRng1, ↓dRng2, ↓dFor, ↓dRaise, ↓dRaise0, ↓dPn, ↓dYes, ↓dLc, ↓dExp, ↓onOk_ok, ↓onOk_exc, ↓onFl_ok, ↓onFl_exc, gt0, gtS, Vi.frs, fr_non, own_non, own_und, nz_non, fr_bl, own_bl, nz_bl, fr_int, own_int, nz_int, fr_str, own_str, nz_str, fr_tup, own_tup, nz_tup, fr_lst, own_lst, nz_lst, fr_klst, own_klst, nz_klst, fr_dic, own_dic, nz_dic, fr_ins, own_ins, nz_ins, fr_exo, own_exo, nz_exo, fr_fn, own_fn, nz_fn, eqD_ii, eqD_ss, eqD_bb, eqD_nn, eqD_sn, eqD_ns, eqD_ll, eqD_tt, eqDs_nn, eqDs_cn, eqDs_nc, eqDs_cc, shp_i, shp_b, shp_n, shp_s, shp_l, shp_t, shps_n, shps_c, id_eq, ↓dTry, ↓dIs_eq, ↓dWhat_eq, endT_rt, endT_nx, oEq, oIsN, isN, ↓endK_rt, ↓endK_nx, ↓endK_exc, ↓turnK_nx, ↓turnK_ct, ↓turnK_bk, ↓turnK_rt, ↓turnK_exc, List.set_cons_zero, List.set_cons_succ, List.all_cons, List.all_nil, List.map_cons, List.map_nil, Bool.and_true, Bool.and_self, Bool.true_and, Bool.not_true, Bool.not_false, true_and, and_true, List.take_succ_cons, List.take_zero, List.cons_append, List.nil_append, Bool.false_eq_true, if_false, if_true, ite_false, ite_true, wb_n, wb_sl, wb_vc, wb_vn, wb_v1, wb_v2, wb_v3, wb_v4, wb_v5, wb_v6, unb, reb, List.length_cons, List.length_nil, ↓dVar_r, ↓dFr_r, ↓dSet_r, ↓dgN_r, ↓dPut_r, ↓dApp_r, ↓dB_r, ↓dAndV_r, ↓dOrV_r, ↓dNotV_r, ↓dChn_r, ↓dSl_r, ↓dLenSet_r, ↓dItS_r, ↓dItL_r, ↓dItT_r, ↓dPs_r, eAt_c, exF_ok, putK_li, appK_l, blK_b, slK_s, slK_l, oIx_l, oIx_k, oIx_t, oIx_s, oAll_m, stK_b, seqK_l, seqK_k, tupK_t, inK_b, dAt_non, dAt_bl, dAt_int, dAt_str, dAt_tup, dAt_lst, dAt_klst, dAt_dic, dAt_ins, dAt_exo, dAt_fn, dAt_und, oAdd_ii, oAdd_ss, oAdd_ll, oAdd_tt, oOrd_ii, oOrd_ss, oInS_r, oInt_r, oInt0_r, oLen_l, oLen_k, oLen_t, oLen_s, oAbs_r, oInt1_i, oInt1_b, oReprB_r, int1_r, int2_r, isLst_l, see_v, see_s, sea_v, sea_s, ↓dIdx, ↓dFld, ↓dFset, ↓dJoin, ↓dListOf, ↓dMeth, ↓dMake_r, ↓dAsgG, ↓dLcN, ↓dLc2, idxK_ss, isStr_s, fldK_0, fldK_S, fsetK_r, isIns_i, dgTup_t, dgSeq_l, dgSeq_k, dgCons_c, dgNil_n, rowK_l, rowK_k, rowK_t, oTup_l, oTup_k, oTup_t, ↓dLoan_r, lnK_ok, lnK_exc, lnE_t, lnE_f, lnE_n, olE_c, olE_n, Bool.true_or, Bool.or_true, Bool.false_or, lf_non, lf_bl, lf_int, lf_str, lf_tup, lf_ins, lfs_n, lfs_c, fr2_l, ol_l, ↓dNeg, ngK_i, oRepS_r, ↓dApp2, ↓dPop2, ↓dPut2, sbK_l, opApp, opPop, opPut, ↓dAppSelf, ↓dAsg3, ↓dTru, truK_b, truK_l, ↓dExt, extK_l, oMin2_r, oIsB_r, ↓dSortSet, ↓dReprT, oEqS_r, ↓dCat, catK_l, ↓dItV, itK_s, itK_t, itK_l, itK_k, ↓dDisp1_r, tkK_ii, ↓dDget, ↓dDin, ↓dDput, dkK_tr, dkK_oi, dkK_os, dputK_t, dputK_oi, dputK_os]
    exact fun a cd => ⟨rfl, k2⟩
/-! ### faulty parts -/
def ownJ (row : List Int) : D := .lst true (row.map .int)
theorem fr_ownJ (tab : List (List Int)) : (tab.map ownJ).map fr = tab.map rowJ := by
  rw [List.map_map]
  rfl
theorem fr_bls (l : List Bool) : (l.map D.bl).map fr = l.map D.bl := by
  rw [List.map_map]
  rfl
theorem fr_ints (l : List Int) : (l.map D.int).map fr = l.map D.int := by
  rw [List.map_map]
  rfl
theorem ol1_ownJ (tab : List (List Int)) : (tab.map ownJ).all ol1 = true := by
  rw [List.all_map]
  exact List.all_eq_true.mpr fun row _ => own_all_map (fun _ => rfl) row
theorem ol1_bls (l : List Bool) : (l.map D.bl).all ol1 = true := by
  rw [List.all_map]
  exact List.all_eq_true.mpr fun x _ => rfl
/-- small parts -/
structure Sml (L : List Nat) (m : MA) : Prop where
  l0 : L.length ≤ 8
  n0 : m.acc.length ≤ 13
  t0 : m.tab.length ≤ 13
  rl : ∀ row ∈ m.tab, row.length ≤ 9
theorem Sml.bd {L : List Nat} {m : MA} (s : Sml L m) : m.Bd L := ⟨by have := s.l0; omega, by have := s.n0; omega, by have := s.t0; omega, fun row h => by have := s.rl row h; omega⟩
theorem Sml.tab {L : List Nat} {m : MA} (s : Sml L m) {i : Nat} {row : List Int} (h : row.length ≤ 9) : Sml L ⟨m.acc, m.tab.set i row⟩ :=
  ⟨s.l0, s.n0, by show (m.tab.set i row).length ≤ 13; rw [List.length_set]; exact s.t0, fun row2 hm => (List.mem_or_eq_of_mem_set hm).elim (s.rl row2) fun e => e ▸ h⟩
theorem mwhole_no_len {m : MA} {L : List Nat} {row} (hr : row ∈ m.tab) (h : row.length ≠ L.length) : m.whole L = false := mwhole_no2 hr (by
  show (decide (row.length = L.length) && _) = false
  rw [decide_eq_false h, Bool.false_and])
theorem mwhole_no_nx {m : MA} {L : List Nat} {row} (hr : row ∈ m.tab) {q : Int} (hq : q ∈ row) (h : q < 0 ∨ (m.acc.length : Int) ≤ q) : m.whole L = false := mwhole_no2 hr (by
  have e : (row.all fun q => decide (0 ≤ q) && decide (q < (m.acc.length : Int))) = false := List.all_eq_false.mpr ⟨q, hq, by
    rcases h with h | h
    · rw [decide_eq_false (by omega)]; simp
    · rw [decide_eq_false (by omega : ¬ q < (m.acc.length : Int)), Bool.and_false]; simp⟩
  show (_ && row.all _) = false
  rw [e, Bool.and_false])
theorem set_mem {α : Type} {l : List α} {i : Nat} {x : α} (h : i < l.length) : x ∈ l.set i x := List.mem_of_getElem? (List.getElem?_set_self h)
theorem map_erase {α β : Type} (f : α → β) : ∀ (l : List α) (k : Nat), (l.map f).eraseIdx k = (l.eraseIdx k).map f
  | [], k => rfl
  | a :: l, 0 => rfl
  | a :: l, k + 1 => by
    show f a :: (l.map f).eraseIdx k = f a :: (l.eraseIdx k).map f
    rw [map_erase f l k]
theorem ixN_of {n : Nat} {i : Int} (h0 : 0 ≤ i) (h1 : i < n) : ixN n i = some i.toNat := by
  unfold ixN
  rw [if_pos h0, if_pos h1]
theorem seqIx_of {n : Nat} {i : Int} (h0 : 0 ≤ i) (h1 : i < n) : seqIndex? i n = some i.toNat := by
  unfold seqIndex?
  rw [if_neg (by omega : ¬ i < 0)]
  simp [h0, h1]
theorem getD_mem {α : Type} {l : List α} {i : Nat} {d : α} (h : i < l.length) : l.getD i d ∈ l := by
  rw [List.getD_eq_getElem?_getD, List.getElem?_eq_getElem h]
  exact List.getElem_mem h
abbrev accD (m : MA) : D := .lst false (m.acc.map .bl)
abbrev tabD (m : MA) : D := .lst false (m.tab.map rowJ)
def S__law_faulty : FS := fun args K => ∃ (L : List Nat) (m : MA) (nums : List Int) (p : Int), args = [.str L, accD m, tabD m, stD nums p] ∧ m.Ok L ∧ 0 < nums.length ∧ nums.length ≤ 100000 ∧ 0 < L.length ∧ L.length ≤ 8 ∧ m.acc.length ≤ 12 ∧ ∀ p' x y z, K (.ok (.bl true)) [x, y, z, stD nums p']
def b__law_faulty_19 : DS :=
  dRet (dFr (dLoan [false, false, false, false, false, true, false, false, false] (dFr (dCall [] 3 S__law_made [] (dCons (dO (dVar 0)) (dCons (dO (dVar 1)) (dCons (dO (dVar 5)) (dNil))))))))
def b__law_faulty_11 : DS :=
  dSeq (dIfS (dB (d2 (oEq id) (dPk 4) (dO (dC (.int 3))))) (dApp2 5 (fun ρ => gt ρ 7) (fun _ => .int 0)) (dIfS (dB (d2 (oEq id) (dPk 4) (dO (dC (.int 4))))) (dPop2 5 (fun ρ => gt ρ 7) (fun ρ => gt ρ 8)) (dIfS (dB (d2 (oEq id) (dPk 4) (dO (dC (.int 5))))) (dPut2 5 (fun ρ => gt ρ 7) (fun ρ => gt ρ 8) (d2 oAdd (dO (dBI oLen (dCons (dPk 5) (dNil)))) (dO (dFr (dCall [0] 2 S__law_next [] (dCons (dPk 3) (dCons (dO (dC (.int 3))) (dNil)))))))) (dPut2 5 (fun ρ => gt ρ 7) (fun ρ => gt ρ 8) (d2 (oInt0 gSub) (dO (dNeg (dC (.int 1)))) (dO (dFr (dCall [0] 2 S__law_next [] (dCons (dPk 3) (dCons (dO (dC (.int 3))) (dNil)))))))))))
  (b__law_faulty_19)
def b__law_faulty_9 : DS :=
  dSeq (dIfS (dB (d2 (oEq id) (dPk 4) (dO (dC (.int 2))))) (dRet (dFr (dLoan [false, false, false, false, false, true, false, false, false] (dFr (dCall [] 3 S__law_made [] (dCons (dO (dVar 0)) (dCons (dO (d2 oAdd (dPk 1) (dO (dLst (dConsL (dC (.bl true)) (dNilL)))))) (dCons (dO (dVar 5)) (dNil))))))))) (dSkip))
  (b__law_faulty_11)
def b__law_faulty_7 : DS :=
  dSeq (dIfS (dB (d2 (oEq id) (dPk 4) (dO (dC (.int 1))))) (dRet (dFr (dLoan [false, false, false, false, false, true, false, false, false] (dFr (dCall [] 3 S__law_made [] (dCons (dO (dVar 0)) (dCons (dO (dVar 1)) (dCons (dO (d2 oAdd (dPk 5) (dO (dLst (dConsL (d2 oIx (dPk 5) (dO (dC (.int 0)))) (dNilL)))))) (dNil))))))))) (dSkip))
  (b__law_faulty_9)
def b__law_faulty_5 : DS :=
  dSeq (dIfS (dB (d2 (oEq id) (dPk 4) (dO (dC (.int 0))))) (dRet (dCall [] 3 S__law_made [] (dCons (dO (dVar 0)) (dCons (dO (dLst (dNilL))) (dCons (dO (dLst (dNilL))) (dNil)))))) (dSkip))
  (b__law_faulty_7)
def b__law_faulty_4 : DS :=
  dSeq (dSet 8 (dCall [0] 2 S__law_next [] (dCons (dPk 3) (dCons (dO (dBI oLen (dCons (dPk 0) (dNil)))) (dNil)))))
  (b__law_faulty_5)
def b__law_faulty_3 : DS :=
  dSeq (dSet 7 (dCall [0] 2 S__law_next [] (dCons (dPk 3) (dCons (dO (dBI oLen (dCons (dPk 5) (dNil)))) (dNil)))))
  (b__law_faulty_4)
def b__law_faulty_2 : DS :=
  dSeq (dSet 5 (dLcN (dItV 2) (dgN 6) (dYes) (dListOf (dPk 6)) [6]))
  (b__law_faulty_3)
def b__law_faulty : DS :=
  dSeq (dSet 4 (dCall [0] 2 S__law_next [] (dCons (dPk 3) (dCons (dO (dC (.int 7))) (dNil)))))
  (b__law_faulty_2)
theorem p__law_faulty : ∀ args K', args.length = 4 → S__law_faulty args K' → b__law_faulty (args ++ List.replicate 5 .und) (endK 4 K') := by
  rintro args K' - ⟨L, m, nums, p, rfl, ok, n0, n1, l0, l8, f8, kk⟩
  show b__law_faulty [.str L, accD m, tabD m, stD nums p, .und, .und, .und, .und, .und] _
  unfold b__law_faulty stD
  have f0 := ok.pos
  have t0 := ok.tl
  have sml : Sml L m := ⟨l8, by omega, by omega, fun row h => by rw [ok.rl row h]; omega⟩
  simp only [↓dSeq, ↓dIfS, ↓dRet, ↓dRetN, ↓dSkip, ↓dBrk, ↓dCnt, ↓dPk, ↓dC, ↓dO, ↓d2, ↓dNotT, ↓dAndT, ↓dOrT, ↓dIf, ↓dNil, ↓dCons, ↓dNilL, ↓dConsL, ↓dTup, ↓dLst, ↓dBI, ↓dOwnL, ↓dCall, ↓dRng1, ↓dRng2, ↓dFor, ↓dRaise, ↓dRaise0, ↓dPn, ↓dYes, ↓dLc, ↓dExp, ↓onOk_ok, ↓onOk_exc, ↓onFl_ok, ↓onFl_exc, gt0, gtS, Vi.frs, fr_non, own_non, own_und, nz_non, fr_bl, own_bl, nz_bl, fr_int, own_int, nz_int, fr_str, own_str, nz_str, fr_tup, own_tup, nz_tup, fr_lst, own_lst, nz_lst, fr_klst, own_klst, nz_klst, fr_dic, own_dic, nz_dic, fr_ins, own_ins, nz_ins, fr_exo, own_exo, nz_exo, fr_fn, own_fn, nz_fn, eqD_ii, eqD_ss, eqD_bb, eqD_nn, eqD_sn, eqD_ns, eqD_ll, eqD_tt, eqDs_nn, eqDs_cn, eqDs_nc, eqDs_cc, shp_i, shp_b, shp_n, shp_s, shp_l, shp_t, shps_n, shps_c, id_eq, ↓dTry, ↓dIs_eq, ↓dWhat_eq, endT_rt, endT_nx, oEq, oIsN, isN, ↓endK_rt, ↓endK_nx, ↓endK_exc, ↓turnK_nx, ↓turnK_ct, ↓turnK_bk, ↓turnK_rt, ↓turnK_exc, List.set_cons_zero, List.set_cons_succ, List.all_cons, List.all_nil, List.map_cons, List.map_nil, Bool.and_true, Bool.and_self, Bool.true_and, Bool.not_true, Bool.not_false, true_and, and_true, List.take_succ_cons, List.take_zero, List.cons_append, List.nil_append, Bool.false_eq_true, if_false, if_true, ite_false, ite_true, wb_n, wb_sl, wb_vc, wb_vn, wb_v1, wb_v2, wb_v3, wb_v4, wb_v5, wb_v6, unb, reb, List.length_cons, List.length_nil, ↓dVar_r, ↓dFr_r, ↓dSet_r, ↓dgN_r, ↓dPut_r, ↓dApp_r, ↓dB_r, ↓dAndV_r, ↓dOrV_r, ↓dNotV_r, ↓dChn_r, ↓dSl_r, ↓dLenSet_r, ↓dItS_r, ↓dItL_r, ↓dItT_r, ↓dPs_r, eAt_c, exF_ok, putK_li, appK_l, blK_b, slK_s, slK_l, oIx_l, oIx_k, oIx_t, oIx_s, oAll_m, stK_b, seqK_l, seqK_k, tupK_t, inK_b, dAt_non, dAt_bl, dAt_int, dAt_str, dAt_tup, dAt_lst, dAt_klst, dAt_dic, dAt_ins, dAt_exo, dAt_fn, dAt_und, oAdd_ii, oAdd_ss, oAdd_ll, oAdd_tt, oOrd_ii, oOrd_ss, oInS_r, oInt_r, oInt0_r, oLen_l, oLen_k, oLen_t, oLen_s, oAbs_r, oInt1_i, oInt1_b, oReprB_r, int1_r, int2_r, isLst_l, see_v, see_s, sea_v, sea_s, ↓dIdx, ↓dFld, ↓dFset, ↓dJoin, ↓dListOf, ↓dMeth, ↓dMake_r, ↓dAsgG, ↓dLcN, ↓dLc2, idxK_ss, isStr_s, fldK_0, fldK_S, fsetK_r, isIns_i, dgTup_t, dgSeq_l, dgSeq_k, dgCons_c, dgNil_n, rowK_l, rowK_k, rowK_t, oTup_l, oTup_k, oTup_t, ↓dLoan_r, lnK_ok, lnK_exc, lnE_t, lnE_f, lnE_n, olE_c, olE_n, Bool.true_or, Bool.or_true, Bool.false_or, lf_non, lf_bl, lf_int, lf_str, lf_tup, lf_ins, lfs_n, lfs_c, fr2_l, ol_l, ↓dNeg, ngK_i, oRepS_r, ↓dApp2, ↓dPop2, ↓dPut2, sbK_l, opApp, opPop, opPut, ↓dAppSelf, ↓dAsg3, ↓dTru, truK_b, truK_l, ↓dExt, extK_l, oMin2_r, oIsB_r, ↓dSortSet, ↓dReprT, oEqS_r, ↓dCat, catK_l, ↓dItV, itK_s, itK_t, itK_l, itK_k, ↓dDisp1_r, tkK_ii, ↓dDget, ↓dDin, ↓dDput, dkK_tr, dkK_oi, dkK_os, dputK_t, dputK_oi, dputK_os]
  refine call_step rfl rfl rfl ⟨nums, p, 7, rfl, n0, n1, by decide, fun v x v0 v1 => ⟨rfl, ?_⟩⟩
  simp only [b__law_faulty_2, List.length_map, ↓dSeq, ↓dIfS, ↓dRet, ↓dRetN, ↓dSkip, ↓dBrk, ↓dCnt, ↓dPk, ↓dC, ↓dO, ↓d2, ↓dNotT, ↓dAndT, ↓dOrT, ↓dIf, ↓dNil, ↓dCons, ↓dNilL, ↓dConsL, ↓dTup, ↓dLst, ↓dBI, ↓dOwnL, ↓dCall, ↓dRng1, ↓dRng2, ↓dFor, ↓dRaise, ↓dRaise0, ↓dPn, ↓dYes, ↓dLc, ↓dExp, ↓onOk_ok, ↓onOk_exc, ↓onFl_ok, ↓onFl_exc, gt0, gtS, Vi.frs, fr_non, own_non, own_und, nz_non, fr_bl, own_bl, nz_bl, fr_int, own_int, nz_int, fr_str, own_str, nz_str, fr_tup, own_tup, nz_tup, fr_lst, own_lst, nz_lst, fr_klst, own_klst, nz_klst, fr_dic, own_dic, nz_dic, fr_ins, own_ins, nz_ins, fr_exo, own_exo, nz_exo, fr_fn, own_fn, nz_fn, eqD_ii, eqD_ss, eqD_bb, eqD_nn, eqD_sn, eqD_ns, eqD_ll, eqD_tt, eqDs_nn, eqDs_cn, eqDs_nc, eqDs_cc, shp_i, shp_b, shp_n, shp_s, shp_l, shp_t, shps_n, shps_c, id_eq, ↓dTry, ↓dIs_eq, ↓dWhat_eq, endT_rt, endT_nx, oEq, oIsN, isN, ↓endK_rt, ↓endK_nx, ↓endK_exc, ↓turnK_nx, ↓turnK_ct, ↓turnK_bk, ↓turnK_rt, ↓turnK_exc, List.set_cons_zero, List.set_cons_succ, List.all_cons, List.all_nil, List.map_cons, List.map_nil, Bool.and_true, Bool.and_self, Bool.true_and, Bool.not_true, Bool.not_false, true_and, and_true, List.take_succ_cons, List.take_zero, List.cons_append, List.nil_append, Bool.false_eq_true, if_false, if_true, ite_false, ite_true, wb_n, wb_sl, wb_vc, wb_vn, wb_v1, wb_v2, wb_v3, wb_v4, wb_v5, wb_v6, unb, reb, List.length_cons, List.length_nil, ↓dVar_r, ↓dFr_r, ↓dSet_r, ↓dgN_r, ↓dPut_r, ↓dApp_r, ↓dB_r, ↓dAndV_r, ↓dOrV_r, ↓dNotV_r, ↓dChn_r, ↓dSl_r, ↓dLenSet_r, ↓dItS_r, ↓dItL_r, ↓dItT_r, ↓dPs_r, eAt_c, exF_ok, putK_li, appK_l, blK_b, slK_s, slK_l, oIx_l, oIx_k, oIx_t, oIx_s, oAll_m, stK_b, seqK_l, seqK_k, tupK_t, inK_b, dAt_non, dAt_bl, dAt_int, dAt_str, dAt_tup, dAt_lst, dAt_klst, dAt_dic, dAt_ins, dAt_exo, dAt_fn, dAt_und, oAdd_ii, oAdd_ss, oAdd_ll, oAdd_tt, oOrd_ii, oOrd_ss, oInS_r, oInt_r, oInt0_r, oLen_l, oLen_k, oLen_t, oLen_s, oAbs_r, oInt1_i, oInt1_b, oReprB_r, int1_r, int2_r, isLst_l, see_v, see_s, sea_v, sea_s, ↓dIdx, ↓dFld, ↓dFset, ↓dJoin, ↓dListOf, ↓dMeth, ↓dMake_r, ↓dAsgG, ↓dLcN, ↓dLc2, idxK_ss, isStr_s, fldK_0, fldK_S, fsetK_r, isIns_i, dgTup_t, dgSeq_l, dgSeq_k, dgCons_c, dgNil_n, rowK_l, rowK_k, rowK_t, oTup_l, oTup_k, oTup_t, ↓dLoan_r, lnK_ok, lnK_exc, lnE_t, lnE_f, lnE_n, olE_c, olE_n, Bool.true_or, Bool.or_true, Bool.false_or, lf_non, lf_bl, lf_int, lf_str, lf_tup, lf_ins, lfs_n, lfs_c, fr2_l, ol_l, ↓dNeg, ngK_i, oRepS_r, ↓dApp2, ↓dPop2, ↓dPut2, sbK_l, opApp, opPop, opPut, ↓dAppSelf, ↓dAsg3, ↓dTru, truK_b, truK_l, ↓dExt, extK_l, oMin2_r, oIsB_r, ↓dSortSet, ↓dReprT, oEqS_r, ↓dCat, catK_l, ↓dItV, itK_s, itK_t, itK_l, itK_k, ↓dDisp1_r, tkK_ii, ↓dDget, ↓dDin, ↓dDput, dkK_tr, dkK_oi, dkK_os, dputK_t, dputK_oi, dputK_os]
  refine ⟨by omega, ?_⟩
  refine lcN_inv (ρ := []) (fun i acc ρ => ρ = [D.str L, accD m, tabD m, stD nums (p + 1), D.int v, D.und, D.und, D.und, D.und] ∧ acc = (m.tab.take i).map ownJ) _ 0 [] _ ⟨rfl, rfl⟩ ?_ ?_
  · rintro i d acc ρ N hd ⟨rfl, rfl⟩ kN
    obtain ⟨row, hr, rfl⟩ := map_get hd
    simp only [own_ints, ↓dSeq, ↓dIfS, ↓dRet, ↓dRetN, ↓dSkip, ↓dBrk, ↓dCnt, ↓dPk, ↓dC, ↓dO, ↓d2, ↓dNotT, ↓dAndT, ↓dOrT, ↓dIf, ↓dNil, ↓dCons, ↓dNilL, ↓dConsL, ↓dTup, ↓dLst, ↓dBI, ↓dOwnL, ↓dCall, ↓dRng1, ↓dRng2, ↓dFor, ↓dRaise, ↓dRaise0, ↓dPn, ↓dYes, ↓dLc, ↓dExp, ↓onOk_ok, ↓onOk_exc, ↓onFl_ok, ↓onFl_exc, gt0, gtS, Vi.frs, fr_non, own_non, own_und, nz_non, fr_bl, own_bl, nz_bl, fr_int, own_int, nz_int, fr_str, own_str, nz_str, fr_tup, own_tup, nz_tup, fr_lst, own_lst, nz_lst, fr_klst, own_klst, nz_klst, fr_dic, own_dic, nz_dic, fr_ins, own_ins, nz_ins, fr_exo, own_exo, nz_exo, fr_fn, own_fn, nz_fn, eqD_ii, eqD_ss, eqD_bb, eqD_nn, eqD_sn, eqD_ns, eqD_ll, eqD_tt, eqDs_nn, eqDs_cn, eqDs_nc, eqDs_cc, shp_i, shp_b, shp_n, shp_s, shp_l, shp_t, shps_n, shps_c, id_eq, ↓dTry, ↓dIs_eq, ↓dWhat_eq, endT_rt, endT_nx, oEq, oIsN, isN, ↓endK_rt, ↓endK_nx, ↓endK_exc, ↓turnK_nx, ↓turnK_ct, ↓turnK_bk, ↓turnK_rt, ↓turnK_exc, List.set_cons_zero, List.set_cons_succ, List.all_cons, List.all_nil, List.map_cons, List.map_nil, Bool.and_true, Bool.and_self, Bool.true_and, Bool.not_true, Bool.not_false, true_and, and_true, List.take_succ_cons, List.take_zero, List.cons_append, List.nil_append, Bool.false_eq_true, if_false, if_true, ite_false, ite_true, wb_n, wb_sl, wb_vc, wb_vn, wb_v1, wb_v2, wb_v3, wb_v4, wb_v5, wb_v6, unb, reb, List.length_cons, List.length_nil, ↓dVar_r, ↓dFr_r, ↓dSet_r, ↓dgN_r, ↓dPut_r, ↓dApp_r, ↓dB_r, ↓dAndV_r, ↓dOrV_r, ↓dNotV_r, ↓dChn_r, ↓dSl_r, ↓dLenSet_r, ↓dItS_r, ↓dItL_r, ↓dItT_r, ↓dPs_r, eAt_c, exF_ok, putK_li, appK_l, blK_b, slK_s, slK_l, oIx_l, oIx_k, oIx_t, oIx_s, oAll_m, stK_b, seqK_l, seqK_k, tupK_t, inK_b, dAt_non, dAt_bl, dAt_int, dAt_str, dAt_tup, dAt_lst, dAt_klst, dAt_dic, dAt_ins, dAt_exo, dAt_fn, dAt_und, oAdd_ii, oAdd_ss, oAdd_ll, oAdd_tt, oOrd_ii, oOrd_ss, oInS_r, oInt_r, oInt0_r, oLen_l, oLen_k, oLen_t, oLen_s, oAbs_r, oInt1_i, oInt1_b, oReprB_r, int1_r, int2_r, isLst_l, see_v, see_s, sea_v, sea_s, ↓dIdx, ↓dFld, ↓dFset, ↓dJoin, ↓dListOf, ↓dMeth, ↓dMake_r, ↓dAsgG, ↓dLcN, ↓dLc2, idxK_ss, isStr_s, fldK_0, fldK_S, fsetK_r, isIns_i, dgTup_t, dgSeq_l, dgSeq_k, dgCons_c, dgNil_n, rowK_l, rowK_k, rowK_t, oTup_l, oTup_k, oTup_t, ↓dLoan_r, lnK_ok, lnK_exc, lnE_t, lnE_f, lnE_n, olE_c, olE_n, Bool.true_or, Bool.or_true, Bool.false_or, lf_non, lf_bl, lf_int, lf_str, lf_tup, lf_ins, lfs_n, lfs_c, fr2_l, ol_l, ↓dNeg, ngK_i, oRepS_r, ↓dApp2, ↓dPop2, ↓dPut2, sbK_l, opApp, opPop, opPut, ↓dAppSelf, ↓dAsg3, ↓dTru, truK_b, truK_l, ↓dExt, extK_l, oMin2_r, oIsB_r, ↓dSortSet, ↓dReprT, oEqS_r, ↓dCat, catK_l, ↓dItV, itK_s, itK_t, itK_l, itK_k, ↓dDisp1_r, tkK_ii, ↓dDget, ↓dDin, ↓dDput, dkK_tr, dkK_oi, dkK_os, dputK_t, dputK_oi, dputK_os]
    refine kN _ _ ⟨rfl, ?_⟩
    rw [Nat.zero_add, take_get hr, List.map_append, fr_ints]
    rfl
  · rintro acc ρ ⟨rfl, rfl⟩
    rw [Nat.zero_add, List.length_map, List.take_length]
    -- what is made of faulty parts
    have made : ∀ {r' : MA} {K : R D → Vi.Env → Prop} {ρ : Vi.Env}, Sml L r' → r'.whole L = false → K (.ok (.bl true)) ρ → callD [] 3 S__law_made [.vl (.str L), .vl (.lst false (r'.acc.map .bl)), .vl (.lst false (r'.tab.map rowJ))] ρ K := fun {r' K ρ} s hw h => call_step rfl rfl rfl ⟨L, r', rfl, s.bd, fun posts hp => ⟨hp, by rw [hw, wb_v3]; exact h⟩⟩
    have last : ∀ (r' : MA) (p' x4 x7 x8 : Int) (x6 : D), r'.acc = m.acc → Sml L r' → r'.whole L = false → b__law_faulty_19 [D.str L, accD m, tabD m, stD nums p', .int x4, D.lst true (r'.tab.map ownJ), x6, .int x7, .int x8] (endK 4 K') := fun r' p' x4 x7 x8 x6 e s hw => by
      simp only [b__law_faulty_19, fr_ownJ, ol1_ownJ, ↓dSeq, ↓dIfS, ↓dRet, ↓dRetN, ↓dSkip, ↓dBrk, ↓dCnt, ↓dPk, ↓dC, ↓dO, ↓d2, ↓dNotT, ↓dAndT, ↓dOrT, ↓dIf, ↓dNil, ↓dCons, ↓dNilL, ↓dConsL, ↓dTup, ↓dLst, ↓dBI, ↓dOwnL, ↓dCall, ↓dRng1, ↓dRng2, ↓dFor, ↓dRaise, ↓dRaise0, ↓dPn, ↓dYes, ↓dLc, ↓dExp, ↓onOk_ok, ↓onOk_exc, ↓onFl_ok, ↓onFl_exc, gt0, gtS, Vi.frs, fr_non, own_non, own_und, nz_non, fr_bl, own_bl, nz_bl, fr_int, own_int, nz_int, fr_str, own_str, nz_str, fr_tup, own_tup, nz_tup, fr_lst, own_lst, nz_lst, fr_klst, own_klst, nz_klst, fr_dic, own_dic, nz_dic, fr_ins, own_ins, nz_ins, fr_exo, own_exo, nz_exo, fr_fn, own_fn, nz_fn, eqD_ii, eqD_ss, eqD_bb, eqD_nn, eqD_sn, eqD_ns, eqD_ll, eqD_tt, eqDs_nn, eqDs_cn, eqDs_nc, eqDs_cc, shp_i, shp_b, shp_n, shp_s, shp_l, shp_t, shps_n, shps_c, id_eq, ↓dTry, ↓dIs_eq, ↓dWhat_eq, endT_rt, endT_nx, oEq, oIsN, isN, ↓endK_rt, ↓endK_nx, ↓endK_exc, ↓turnK_nx, ↓turnK_ct, ↓turnK_bk, ↓turnK_rt, ↓turnK_exc, List.set_cons_zero, List.set_cons_succ, List.all_cons, List.all_nil, List.map_cons, List.map_nil, Bool.and_true, Bool.and_self, Bool.true_and, Bool.not_true, Bool.not_false, true_and, and_true, List.take_succ_cons, List.take_zero, List.cons_append, List.nil_append, Bool.false_eq_true, if_false, if_true, ite_false, ite_true, wb_n, wb_sl, wb_vc, wb_vn, wb_v1, wb_v2, wb_v3, wb_v4, wb_v5, wb_v6, unb, reb, List.length_cons, List.length_nil, ↓dVar_r, ↓dFr_r, ↓dSet_r, ↓dgN_r, ↓dPut_r, ↓dApp_r, ↓dB_r, ↓dAndV_r, ↓dOrV_r, ↓dNotV_r, ↓dChn_r, ↓dSl_r, ↓dLenSet_r, ↓dItS_r, ↓dItL_r, ↓dItT_r, ↓dPs_r, eAt_c, exF_ok, putK_li, appK_l, blK_b, slK_s, slK_l, oIx_l, oIx_k, oIx_t, oIx_s, oAll_m, stK_b, seqK_l, seqK_k, tupK_t, inK_b, dAt_non, dAt_bl, dAt_int, dAt_str, dAt_tup, dAt_lst, dAt_klst, dAt_dic, dAt_ins, dAt_exo, dAt_fn, dAt_und, oAdd_ii, oAdd_ss, oAdd_ll, oAdd_tt, oOrd_ii, oOrd_ss, oInS_r, oInt_r, oInt0_r, oLen_l, oLen_k, oLen_t, oLen_s, oAbs_r, oInt1_i, oInt1_b, oReprB_r, int1_r, int2_r, isLst_l, see_v, see_s, sea_v, sea_s, ↓dIdx, ↓dFld, ↓dFset, ↓dJoin, ↓dListOf, ↓dMeth, ↓dMake_r, ↓dAsgG, ↓dLcN, ↓dLc2, idxK_ss, isStr_s, fldK_0, fldK_S, fsetK_r, isIns_i, dgTup_t, dgSeq_l, dgSeq_k, dgCons_c, dgNil_n, rowK_l, rowK_k, rowK_t, oTup_l, oTup_k, oTup_t, ↓dLoan_r, lnK_ok, lnK_exc, lnE_t, lnE_f, lnE_n, olE_c, olE_n, Bool.true_or, Bool.or_true, Bool.false_or, lf_non, lf_bl, lf_int, lf_str, lf_tup, lf_ins, lfs_n, lfs_c, fr2_l, ol_l, ↓dNeg, ngK_i, oRepS_r, ↓dApp2, ↓dPop2, ↓dPut2, sbK_l, opApp, opPop, opPut, ↓dAppSelf, ↓dAsg3, ↓dTru, truK_b, truK_l, ↓dExt, extK_l, oMin2_r, oIsB_r, ↓dSortSet, ↓dReprT, oEqS_r, ↓dCat, catK_l, ↓dItV, itK_s, itK_t, itK_l, itK_k, ↓dDisp1_r, tkK_ii, ↓dDget, ↓dDin, ↓dDput, dkK_tr, dkK_oi, dkK_os, dputK_t, dputK_oi, dputK_os]
      refine made (r' := ⟨m.acc, r'.tab⟩) (by rw [← e]; exact s) (by rw [← e]; exact hw) ?_
      simp only [↓dSeq, ↓dIfS, ↓dRet, ↓dRetN, ↓dSkip, ↓dBrk, ↓dCnt, ↓dPk, ↓dC, ↓dO, ↓d2, ↓dNotT, ↓dAndT, ↓dOrT, ↓dIf, ↓dNil, ↓dCons, ↓dNilL, ↓dConsL, ↓dTup, ↓dLst, ↓dBI, ↓dOwnL, ↓dCall, ↓dRng1, ↓dRng2, ↓dFor, ↓dRaise, ↓dRaise0, ↓dPn, ↓dYes, ↓dLc, ↓dExp, ↓onOk_ok, ↓onOk_exc, ↓onFl_ok, ↓onFl_exc, gt0, gtS, Vi.frs, fr_non, own_non, own_und, nz_non, fr_bl, own_bl, nz_bl, fr_int, own_int, nz_int, fr_str, own_str, nz_str, fr_tup, own_tup, nz_tup, fr_lst, own_lst, nz_lst, fr_klst, own_klst, nz_klst, fr_dic, own_dic, nz_dic, fr_ins, own_ins, nz_ins, fr_exo, own_exo, nz_exo, fr_fn, own_fn, nz_fn, eqD_ii, eqD_ss, eqD_bb, eqD_nn, eqD_sn, eqD_ns, eqD_ll, eqD_tt, eqDs_nn, eqDs_cn, eqDs_nc, eqDs_cc, shp_i, shp_b, shp_n, shp_s, shp_l, shp_t, shps_n, shps_c, id_eq, ↓dTry, ↓dIs_eq, ↓dWhat_eq, endT_rt, endT_nx, oEq, oIsN, isN, ↓endK_rt, ↓endK_nx, ↓endK_exc, ↓turnK_nx, ↓turnK_ct, ↓turnK_bk, ↓turnK_rt, ↓turnK_exc, List.set_cons_zero, List.set_cons_succ, List.all_cons, List.all_nil, List.map_cons, List.map_nil, Bool.and_true, Bool.and_self, Bool.true_and, Bool.not_true, Bool.not_false, true_and, and_true, List.take_succ_cons, List.take_zero, List.cons_append, List.nil_append, Bool.false_eq_true, if_false, if_true, ite_false, ite_true, wb_n, wb_sl, wb_vc, wb_vn, wb_v1, wb_v2, wb_v3, wb_v4, wb_v5, wb_v6, unb, reb, List.length_cons, List.length_nil, ↓dVar_r, ↓dFr_r, ↓dSet_r, ↓dgN_r, ↓dPut_r, ↓dApp_r, ↓dB_r, ↓dAndV_r, ↓dOrV_r, ↓dNotV_r, ↓dChn_r, ↓dSl_r, ↓dLenSet_r, ↓dItS_r, ↓dItL_r, ↓dItT_r, ↓dPs_r, eAt_c, exF_ok, putK_li, appK_l, blK_b, slK_s, slK_l, oIx_l, oIx_k, oIx_t, oIx_s, oAll_m, stK_b, seqK_l, seqK_k, tupK_t, inK_b, dAt_non, dAt_bl, dAt_int, dAt_str, dAt_tup, dAt_lst, dAt_klst, dAt_dic, dAt_ins, dAt_exo, dAt_fn, dAt_und, oAdd_ii, oAdd_ss, oAdd_ll, oAdd_tt, oOrd_ii, oOrd_ss, oInS_r, oInt_r, oInt0_r, oLen_l, oLen_k, oLen_t, oLen_s, oAbs_r, oInt1_i, oInt1_b, oReprB_r, int1_r, int2_r, isLst_l, see_v, see_s, sea_v, sea_s, ↓dIdx, ↓dFld, ↓dFset, ↓dJoin, ↓dListOf, ↓dMeth, ↓dMake_r, ↓dAsgG, ↓dLcN, ↓dLc2, idxK_ss, isStr_s, fldK_0, fldK_S, fsetK_r, isIns_i, dgTup_t, dgSeq_l, dgSeq_k, dgCons_c, dgNil_n, rowK_l, rowK_k, rowK_t, oTup_l, oTup_k, oTup_t, ↓dLoan_r, lnK_ok, lnK_exc, lnE_t, lnE_f, lnE_n, olE_c, olE_n, Bool.true_or, Bool.or_true, Bool.false_or, lf_non, lf_bl, lf_int, lf_str, lf_tup, lf_ins, lfs_n, lfs_c, fr2_l, ol_l, ↓dNeg, ngK_i, oRepS_r, ↓dApp2, ↓dPop2, ↓dPut2, sbK_l, opApp, opPop, opPut, ↓dAppSelf, ↓dAsg3, ↓dTru, truK_b, truK_l, ↓dExt, extK_l, oMin2_r, oIsB_r, ↓dSortSet, ↓dReprT, oEqS_r, ↓dCat, catK_l, ↓dItV, itK_s, itK_t, itK_l, itK_k, ↓dDisp1_r, tkK_ii, ↓dDget, ↓dDin, ↓dDput, dkK_tr, dkK_oi, dkK_os, dputK_t, dputK_oi, dputK_os]
      exact kk _ _ _ _
    simp only [b__law_faulty_3, List.length_map, ↓dSeq, ↓dIfS, ↓dRet, ↓dRetN, ↓dSkip, ↓dBrk, ↓dCnt, ↓dPk, ↓dC, ↓dO, ↓d2, ↓dNotT, ↓dAndT, ↓dOrT, ↓dIf, ↓dNil, ↓dCons, ↓dNilL, ↓dConsL, ↓dTup, ↓dLst, ↓dBI, ↓dOwnL, ↓dCall, ↓dRng1, ↓dRng2, ↓dFor, ↓dRaise, ↓dRaise0, ↓dPn, ↓dYes, ↓dLc, ↓dExp, ↓onOk_ok, ↓onOk_exc, ↓onFl_ok, ↓onFl_exc, gt0, gtS, Vi.frs, fr_non, own_non, own_und, nz_non, fr_bl, own_bl, nz_bl, fr_int, own_int, nz_int, fr_str, own_str, nz_str, fr_tup, own_tup, nz_tup, fr_lst, own_lst, nz_lst, fr_klst, own_klst, nz_klst, fr_dic, own_dic, nz_dic, fr_ins, own_ins, nz_ins, fr_exo, own_exo, nz_exo, fr_fn, own_fn, nz_fn, eqD_ii, eqD_ss, eqD_bb, eqD_nn, eqD_sn, eqD_ns, eqD_ll, eqD_tt, eqDs_nn, eqDs_cn, eqDs_nc, eqDs_cc, shp_i, shp_b, shp_n, shp_s, shp_l, shp_t, shps_n, shps_c, id_eq, ↓dTry, ↓dIs_eq, ↓dWhat_eq, endT_rt, endT_nx, oEq, oIsN, isN, ↓endK_rt, ↓endK_nx, ↓endK_exc, ↓turnK_nx, ↓turnK_ct, ↓turnK_bk, ↓turnK_rt, ↓turnK_exc, List.set_cons_zero, List.set_cons_succ, List.all_cons, List.all_nil, List.map_cons, List.map_nil, Bool.and_true, Bool.and_self, Bool.true_and, Bool.not_true, Bool.not_false, true_and, and_true, List.take_succ_cons, List.take_zero, List.cons_append, List.nil_append, Bool.false_eq_true, if_false, if_true, ite_false, ite_true, wb_n, wb_sl, wb_vc, wb_vn, wb_v1, wb_v2, wb_v3, wb_v4, wb_v5, wb_v6, unb, reb, List.length_cons, List.length_nil, ↓dVar_r, ↓dFr_r, ↓dSet_r, ↓dgN_r, ↓dPut_r, ↓dApp_r, ↓dB_r, ↓dAndV_r, ↓dOrV_r, ↓dNotV_r, ↓dChn_r, ↓dSl_r, ↓dLenSet_r, ↓dItS_r, ↓dItL_r, ↓dItT_r, ↓dPs_r, eAt_c, exF_ok, putK_li, appK_l, blK_b, slK_s, slK_l, oIx_l, oIx_k, oIx_t, oIx_s, oAll_m, stK_b, seqK_l, seqK_k, tupK_t, inK_b, dAt_non, dAt_bl, dAt_int, dAt_str, dAt_tup, dAt_lst, dAt_klst, dAt_dic, dAt_ins, dAt_exo, dAt_fn, dAt_und, oAdd_ii, oAdd_ss, oAdd_ll, oAdd_tt, oOrd_ii, oOrd_ss, oInS_r, oInt_r, oInt0_r, oLen_l, oLen_k, oLen_t, oLen_s, oAbs_r, oInt1_i, oInt1_b, oReprB_r, int1_r, int2_r, isLst_l, see_v, see_s, sea_v, sea_s, ↓dIdx, ↓dFld, ↓dFset, ↓dJoin, ↓dListOf, ↓dMeth, ↓dMake_r, ↓dAsgG, ↓dLcN, ↓dLc2, idxK_ss, isStr_s, fldK_0, fldK_S, fsetK_r, isIns_i, dgTup_t, dgSeq_l, dgSeq_k, dgCons_c, dgNil_n, rowK_l, rowK_k, rowK_t, oTup_l, oTup_k, oTup_t, ↓dLoan_r, lnK_ok, lnK_exc, lnE_t, lnE_f, lnE_n, olE_c, olE_n, Bool.true_or, Bool.or_true, Bool.false_or, lf_non, lf_bl, lf_int, lf_str, lf_tup, lf_ins, lfs_n, lfs_c, fr2_l, ol_l, ↓dNeg, ngK_i, oRepS_r, ↓dApp2, ↓dPop2, ↓dPut2, sbK_l, opApp, opPop, opPut, ↓dAppSelf, ↓dAsg3, ↓dTru, truK_b, truK_l, ↓dExt, extK_l, oMin2_r, oIsB_r, ↓dSortSet, ↓dReprT, oEqS_r, ↓dCat, catK_l, ↓dItV, itK_s, itK_t, itK_l, itK_k, ↓dDisp1_r, tkK_ii, ↓dDget, ↓dDin, ↓dDput, dkK_tr, dkK_oi, dkK_os, dputK_t, dputK_oi, dputK_os]
    refine call_step rfl rfl rfl ⟨nums, _, m.tab.length, rfl, n0, n1, by omega, fun a x2 a0 a1 => ⟨rfl, ?_⟩⟩
    simp only [b__law_faulty_4, ↓dSeq, ↓dIfS, ↓dRet, ↓dRetN, ↓dSkip, ↓dBrk, ↓dCnt, ↓dPk, ↓dC, ↓dO, ↓d2, ↓dNotT, ↓dAndT, ↓dOrT, ↓dIf, ↓dNil, ↓dCons, ↓dNilL, ↓dConsL, ↓dTup, ↓dLst, ↓dBI, ↓dOwnL, ↓dCall, ↓dRng1, ↓dRng2, ↓dFor, ↓dRaise, ↓dRaise0, ↓dPn, ↓dYes, ↓dLc, ↓dExp, ↓onOk_ok, ↓onOk_exc, ↓onFl_ok, ↓onFl_exc, gt0, gtS, Vi.frs, fr_non, own_non, own_und, nz_non, fr_bl, own_bl, nz_bl, fr_int, own_int, nz_int, fr_str, own_str, nz_str, fr_tup, own_tup, nz_tup, fr_lst, own_lst, nz_lst, fr_klst, own_klst, nz_klst, fr_dic, own_dic, nz_dic, fr_ins, own_ins, nz_ins, fr_exo, own_exo, nz_exo, fr_fn, own_fn, nz_fn, eqD_ii, eqD_ss, eqD_bb, eqD_nn, eqD_sn, eqD_ns, eqD_ll, eqD_tt, eqDs_nn, eqDs_cn, eqDs_nc, eqDs_cc, shp_i, shp_b, shp_n, shp_s, shp_l, shp_t, shps_n, shps_c, id_eq, ↓dTry, ↓dIs_eq, ↓dWhat_eq, endT_rt, endT_nx, oEq, oIsN, isN, ↓endK_rt, ↓endK_nx, ↓endK_exc, ↓turnK_nx, ↓turnK_ct, ↓turnK_bk, ↓turnK_rt, ↓turnK_exc, List.set_cons_zero, List.set_cons_succ, List.all_cons, List.all_nil, List.map_cons, List.map_nil, Bool.and_true, Bool.and_self, Bool.true_and, Bool.not_true, Bool.not_false, true_and, and_true, List.take_succ_cons, List.take_zero, List.cons_append, List.nil_append, Bool.false_eq_true, if_false, if_true, ite_false, ite_true, wb_n, wb_sl, wb_vc, wb_vn, wb_v1, wb_v2, wb_v3, wb_v4, wb_v5, wb_v6, unb, reb, List.length_cons, List.length_nil, ↓dVar_r, ↓dFr_r, ↓dSet_r, ↓dgN_r, ↓dPut_r, ↓dApp_r, ↓dB_r, ↓dAndV_r, ↓dOrV_r, ↓dNotV_r, ↓dChn_r, ↓dSl_r, ↓dLenSet_r, ↓dItS_r, ↓dItL_r, ↓dItT_r, ↓dPs_r, eAt_c, exF_ok, putK_li, appK_l, blK_b, slK_s, slK_l, oIx_l, oIx_k, oIx_t, oIx_s, oAll_m, stK_b, seqK_l, seqK_k, tupK_t, inK_b, dAt_non, dAt_bl, dAt_int, dAt_str, dAt_tup, dAt_lst, dAt_klst, dAt_dic, dAt_ins, dAt_exo, dAt_fn, dAt_und, oAdd_ii, oAdd_ss, oAdd_ll, oAdd_tt, oOrd_ii, oOrd_ss, oInS_r, oInt_r, oInt0_r, oLen_l, oLen_k, oLen_t, oLen_s, oAbs_r, oInt1_i, oInt1_b, oReprB_r, int1_r, int2_r, isLst_l, see_v, see_s, sea_v, sea_s, ↓dIdx, ↓dFld, ↓dFset, ↓dJoin, ↓dListOf, ↓dMeth, ↓dMake_r, ↓dAsgG, ↓dLcN, ↓dLc2, idxK_ss, isStr_s, fldK_0, fldK_S, fsetK_r, isIns_i, dgTup_t, dgSeq_l, dgSeq_k, dgCons_c, dgNil_n, rowK_l, rowK_k, rowK_t, oTup_l, oTup_k, oTup_t, ↓dLoan_r, lnK_ok, lnK_exc, lnE_t, lnE_f, lnE_n, olE_c, olE_n, Bool.true_or, Bool.or_true, Bool.false_or, lf_non, lf_bl, lf_int, lf_str, lf_tup, lf_ins, lfs_n, lfs_c, fr2_l, ol_l, ↓dNeg, ngK_i, oRepS_r, ↓dApp2, ↓dPop2, ↓dPut2, sbK_l, opApp, opPop, opPut, ↓dAppSelf, ↓dAsg3, ↓dTru, truK_b, truK_l, ↓dExt, extK_l, oMin2_r, oIsB_r, ↓dSortSet, ↓dReprT, oEqS_r, ↓dCat, catK_l, ↓dItV, itK_s, itK_t, itK_l, itK_k, ↓dDisp1_r, tkK_ii, ↓dDget, ↓dDin, ↓dDput, dkK_tr, dkK_oi, dkK_os, dputK_t, dputK_oi, dputK_os]
    refine ⟨by omega, call_step rfl rfl rfl ⟨nums, _, L.length, rfl, n0, n1, by omega, fun b x3 b0 b1 => ⟨rfl, ?_⟩⟩⟩
    simp only [b__law_faulty_5, ↓dSeq, ↓dIfS, ↓dRet, ↓dRetN, ↓dSkip, ↓dBrk, ↓dCnt, ↓dPk, ↓dC, ↓dO, ↓d2, ↓dNotT, ↓dAndT, ↓dOrT, ↓dIf, ↓dNil, ↓dCons, ↓dNilL, ↓dConsL, ↓dTup, ↓dLst, ↓dBI, ↓dOwnL, ↓dCall, ↓dRng1, ↓dRng2, ↓dFor, ↓dRaise, ↓dRaise0, ↓dPn, ↓dYes, ↓dLc, ↓dExp, ↓onOk_ok, ↓onOk_exc, ↓onFl_ok, ↓onFl_exc, gt0, gtS, Vi.frs, fr_non, own_non, own_und, nz_non, fr_bl, own_bl, nz_bl, fr_int, own_int, nz_int, fr_str, own_str, nz_str, fr_tup, own_tup, nz_tup, fr_lst, own_lst, nz_lst, fr_klst, own_klst, nz_klst, fr_dic, own_dic, nz_dic, fr_ins, own_ins, nz_ins, fr_exo, own_exo, nz_exo, fr_fn, own_fn, nz_fn, eqD_ii, eqD_ss, eqD_bb, eqD_nn, eqD_sn, eqD_ns, eqD_ll, eqD_tt, eqDs_nn, eqDs_cn, eqDs_nc, eqDs_cc, shp_i, shp_b, shp_n, shp_s, shp_l, shp_t, shps_n, shps_c, id_eq, ↓dTry, ↓dIs_eq, ↓dWhat_eq, endT_rt, endT_nx, oEq, oIsN, isN, ↓endK_rt, ↓endK_nx, ↓endK_exc, ↓turnK_nx, ↓turnK_ct, ↓turnK_bk, ↓turnK_rt, ↓turnK_exc, List.set_cons_zero, List.set_cons_succ, List.all_cons, List.all_nil, List.map_cons, List.map_nil, Bool.and_true, Bool.and_self, Bool.true_and, Bool.not_true, Bool.not_false, true_and, and_true, List.take_succ_cons, List.take_zero, List.cons_append, List.nil_append, Bool.false_eq_true, if_false, if_true, ite_false, ite_true, wb_n, wb_sl, wb_vc, wb_vn, wb_v1, wb_v2, wb_v3, wb_v4, wb_v5, wb_v6, unb, reb, List.length_cons, List.length_nil, ↓dVar_r, ↓dFr_r, ↓dSet_r, ↓dgN_r, ↓dPut_r, ↓dApp_r, ↓dB_r, ↓dAndV_r, ↓dOrV_r, ↓dNotV_r, ↓dChn_r, ↓dSl_r, ↓dLenSet_r, ↓dItS_r, ↓dItL_r, ↓dItT_r, ↓dPs_r, eAt_c, exF_ok, putK_li, appK_l, blK_b, slK_s, slK_l, oIx_l, oIx_k, oIx_t, oIx_s, oAll_m, stK_b, seqK_l, seqK_k, tupK_t, inK_b, dAt_non, dAt_bl, dAt_int, dAt_str, dAt_tup, dAt_lst, dAt_klst, dAt_dic, dAt_ins, dAt_exo, dAt_fn, dAt_und, oAdd_ii, oAdd_ss, oAdd_ll, oAdd_tt, oOrd_ii, oOrd_ss, oInS_r, oInt_r, oInt0_r, oLen_l, oLen_k, oLen_t, oLen_s, oAbs_r, oInt1_i, oInt1_b, oReprB_r, int1_r, int2_r, isLst_l, see_v, see_s, sea_v, sea_s, ↓dIdx, ↓dFld, ↓dFset, ↓dJoin, ↓dListOf, ↓dMeth, ↓dMake_r, ↓dAsgG, ↓dLcN, ↓dLc2, idxK_ss, isStr_s, fldK_0, fldK_S, fsetK_r, isIns_i, dgTup_t, dgSeq_l, dgSeq_k, dgCons_c, dgNil_n, rowK_l, rowK_k, rowK_t, oTup_l, oTup_k, oTup_t, ↓dLoan_r, lnK_ok, lnK_exc, lnE_t, lnE_f, lnE_n, olE_c, olE_n, Bool.true_or, Bool.or_true, Bool.false_or, lf_non, lf_bl, lf_int, lf_str, lf_tup, lf_ins, lfs_n, lfs_c, fr2_l, ol_l, ↓dNeg, ngK_i, oRepS_r, ↓dApp2, ↓dPop2, ↓dPut2, sbK_l, opApp, opPop, opPut, ↓dAppSelf, ↓dAsg3, ↓dTru, truK_b, truK_l, ↓dExt, extK_l, oMin2_r, oIsB_r, ↓dSortSet, ↓dReprT, oEqS_r, ↓dCat, catK_l, ↓dItV, itK_s, itK_t, itK_l, itK_k, ↓dDisp1_r, tkK_ii, ↓dDget, ↓dDin, ↓dDput, dkK_tr, dkK_oi, dkK_os, dputK_t, dputK_oi, dputK_os]
    refine if_b (fun _ => ⟨by decide, by decide, ?_⟩) fun _ => ?_
    · refine made (r' := ⟨[], []⟩) ⟨l8, Nat.zero_le _, Nat.zero_le _, fun _ h => (nomatch h)⟩ (mwhole_no0 rfl) ?_
      simp only [↓dSeq, ↓dIfS, ↓dRet, ↓dRetN, ↓dSkip, ↓dBrk, ↓dCnt, ↓dPk, ↓dC, ↓dO, ↓d2, ↓dNotT, ↓dAndT, ↓dOrT, ↓dIf, ↓dNil, ↓dCons, ↓dNilL, ↓dConsL, ↓dTup, ↓dLst, ↓dBI, ↓dOwnL, ↓dCall, ↓dRng1, ↓dRng2, ↓dFor, ↓dRaise, ↓dRaise0, ↓dPn, ↓dYes, ↓dLc, ↓dExp, ↓onOk_ok, ↓onOk_exc, ↓onFl_ok, ↓onFl_exc, gt0, gtS, Vi.frs, fr_non, own_non, own_und, nz_non, fr_bl, own_bl, nz_bl, fr_int, own_int, nz_int, fr_str, own_str, nz_str, fr_tup, own_tup, nz_tup, fr_lst, own_lst, nz_lst, fr_klst, own_klst, nz_klst, fr_dic, own_dic, nz_dic, fr_ins, own_ins, nz_ins, fr_exo, own_exo, nz_exo, fr_fn, own_fn, nz_fn, eqD_ii, eqD_ss, eqD_bb, eqD_nn, eqD_sn, eqD_ns, eqD_ll, eqD_tt, eqDs_nn, eqDs_cn, eqDs_nc, eqDs_cc, shp_i, shp_b, shp_n, shp_s, shp_l, shp_t, shps_n, shps_c, id_eq, ↓dTry, ↓dIs_eq, ↓dWhat_eq, endT_rt, endT_nx, oEq, oIsN, isN, ↓endK_rt, ↓endK_nx, ↓endK_exc, ↓turnK_nx, ↓turnK_ct, ↓turnK_bk, ↓turnK_rt, ↓turnK_exc, List.set_cons_zero, List.set_cons_succ, List.all_cons, List.all_nil, List.map_cons, List.map_nil, Bool.and_true, Bool.and_self, Bool.true_and, Bool.not_true, Bool.not_false, true_and, and_true, List.take_succ_cons, List.take_zero, List.cons_append, List.nil_append, Bool.false_eq_true, if_false, if_true, ite_false, ite_true, wb_n, wb_sl, wb_vc, wb_vn, wb_v1, wb_v2, wb_v3, wb_v4, wb_v5, wb_v6, unb, reb, List.length_cons, List.length_nil, ↓dVar_r, ↓dFr_r, ↓dSet_r, ↓dgN_r, ↓dPut_r, ↓dApp_r, ↓dB_r, ↓dAndV_r, ↓dOrV_r, ↓dNotV_r, ↓dChn_r, ↓dSl_r, ↓dLenSet_r, ↓dItS_r, ↓dItL_r, ↓dItT_r, ↓dPs_r, eAt_c, exF_ok, putK_li, appK_l, blK_b, slK_s, slK_l, oIx_l, oIx_k, oIx_t, oIx_s, oAll_m, stK_b, seqK_l, seqK_k, tupK_t, inK_b, dAt_non, dAt_bl, dAt_int, dAt_str, dAt_tup, dAt_lst, dAt_klst, dAt_dic, dAt_ins, dAt_exo, dAt_fn, dAt_und, oAdd_ii, oAdd_ss, oAdd_ll, oAdd_tt, oOrd_ii, oOrd_ss, oInS_r, oInt_r, oInt0_r, oLen_l, oLen_k, oLen_t, oLen_s, oAbs_r, oInt1_i, oInt1_b, oReprB_r, int1_r, int2_r, isLst_l, see_v, see_s, sea_v, sea_s, ↓dIdx, ↓dFld, ↓dFset, ↓dJoin, ↓dListOf, ↓dMeth, ↓dMake_r, ↓dAsgG, ↓dLcN, ↓dLc2, idxK_ss, isStr_s, fldK_0, fldK_S, fsetK_r, isIns_i, dgTup_t, dgSeq_l, dgSeq_k, dgCons_c, dgNil_n, rowK_l, rowK_k, rowK_t, oTup_l, oTup_k, oTup_t, ↓dLoan_r, lnK_ok, lnK_exc, lnE_t, lnE_f, lnE_n, olE_c, olE_n, Bool.true_or, Bool.or_true, Bool.false_or, lf_non, lf_bl, lf_int, lf_str, lf_tup, lf_ins, lfs_n, lfs_c, fr2_l, ol_l, ↓dNeg, ngK_i, oRepS_r, ↓dApp2, ↓dPop2, ↓dPut2, sbK_l, opApp, opPop, opPut, ↓dAppSelf, ↓dAsg3, ↓dTru, truK_b, truK_l, ↓dExt, extK_l, oMin2_r, oIsB_r, ↓dSortSet, ↓dReprT, oEqS_r, ↓dCat, catK_l, ↓dItV, itK_s, itK_t, itK_l, itK_k, ↓dDisp1_r, tkK_ii, ↓dDget, ↓dDin, ↓dDput, dkK_tr, dkK_oi, dkK_os, dputK_t, dputK_oi, dputK_os]
      exact kk _ _ _ _
    simp only [b__law_faulty_7, fr_ownJ, ol1_ownJ, ↓dSeq, ↓dIfS, ↓dRet, ↓dRetN, ↓dSkip, ↓dBrk, ↓dCnt, ↓dPk, ↓dC, ↓dO, ↓d2, ↓dNotT, ↓dAndT, ↓dOrT, ↓dIf, ↓dNil, ↓dCons, ↓dNilL, ↓dConsL, ↓dTup, ↓dLst, ↓dBI, ↓dOwnL, ↓dCall, ↓dRng1, ↓dRng2, ↓dFor, ↓dRaise, ↓dRaise0, ↓dPn, ↓dYes, ↓dLc, ↓dExp, ↓onOk_ok, ↓onOk_exc, ↓onFl_ok, ↓onFl_exc, gt0, gtS, Vi.frs, fr_non, own_non, own_und, nz_non, fr_bl, own_bl, nz_bl, fr_int, own_int, nz_int, fr_str, own_str, nz_str, fr_tup, own_tup, nz_tup, fr_lst, own_lst, nz_lst, fr_klst, own_klst, nz_klst, fr_dic, own_dic, nz_dic, fr_ins, own_ins, nz_ins, fr_exo, own_exo, nz_exo, fr_fn, own_fn, nz_fn, eqD_ii, eqD_ss, eqD_bb, eqD_nn, eqD_sn, eqD_ns, eqD_ll, eqD_tt, eqDs_nn, eqDs_cn, eqDs_nc, eqDs_cc, shp_i, shp_b, shp_n, shp_s, shp_l, shp_t, shps_n, shps_c, id_eq, ↓dTry, ↓dIs_eq, ↓dWhat_eq, endT_rt, endT_nx, oEq, oIsN, isN, ↓endK_rt, ↓endK_nx, ↓endK_exc, ↓turnK_nx, ↓turnK_ct, ↓turnK_bk, ↓turnK_rt, ↓turnK_exc, List.set_cons_zero, List.set_cons_succ, List.all_cons, List.all_nil, List.map_cons, List.map_nil, Bool.and_true, Bool.and_self, Bool.true_and, Bool.not_true, Bool.not_false, true_and, and_true, List.take_succ_cons, List.take_zero, List.cons_append, List.nil_append, Bool.false_eq_true, if_false, if_true, ite_false, ite_true, wb_n, wb_sl, wb_vc, wb_vn, wb_v1, wb_v2, wb_v3, wb_v4, wb_v5, wb_v6, unb, reb, List.length_cons, List.length_nil, ↓dVar_r, ↓dFr_r, ↓dSet_r, ↓dgN_r, ↓dPut_r, ↓dApp_r, ↓dB_r, ↓dAndV_r, ↓dOrV_r, ↓dNotV_r, ↓dChn_r, ↓dSl_r, ↓dLenSet_r, ↓dItS_r, ↓dItL_r, ↓dItT_r, ↓dPs_r, eAt_c, exF_ok, putK_li, appK_l, blK_b, slK_s, slK_l, oIx_l, oIx_k, oIx_t, oIx_s, oAll_m, stK_b, seqK_l, seqK_k, tupK_t, inK_b, dAt_non, dAt_bl, dAt_int, dAt_str, dAt_tup, dAt_lst, dAt_klst, dAt_dic, dAt_ins, dAt_exo, dAt_fn, dAt_und, oAdd_ii, oAdd_ss, oAdd_ll, oAdd_tt, oOrd_ii, oOrd_ss, oInS_r, oInt_r, oInt0_r, oLen_l, oLen_k, oLen_t, oLen_s, oAbs_r, oInt1_i, oInt1_b, oReprB_r, int1_r, int2_r, isLst_l, see_v, see_s, sea_v, sea_s, ↓dIdx, ↓dFld, ↓dFset, ↓dJoin, ↓dListOf, ↓dMeth, ↓dMake_r, ↓dAsgG, ↓dLcN, ↓dLc2, idxK_ss, isStr_s, fldK_0, fldK_S, fsetK_r, isIns_i, dgTup_t, dgSeq_l, dgSeq_k, dgCons_c, dgNil_n, rowK_l, rowK_k, rowK_t, oTup_l, oTup_k, oTup_t, ↓dLoan_r, lnK_ok, lnK_exc, lnE_t, lnE_f, lnE_n, olE_c, olE_n, Bool.true_or, Bool.or_true, Bool.false_or, lf_non, lf_bl, lf_int, lf_str, lf_tup, lf_ins, lfs_n, lfs_c, fr2_l, ol_l, ↓dNeg, ngK_i, oRepS_r, ↓dApp2, ↓dPop2, ↓dPut2, sbK_l, opApp, opPop, opPut, ↓dAppSelf, ↓dAsg3, ↓dTru, truK_b, truK_l, ↓dExt, extK_l, oMin2_r, oIsB_r, ↓dSortSet, ↓dReprT, oEqS_r, ↓dCat, catK_l, ↓dItV, itK_s, itK_t, itK_l, itK_k, ↓dDisp1_r, tkK_ii, ↓dDget, ↓dDin, ↓dDput, dkK_tr, dkK_oi, dkK_os, dputK_t, dputK_oi, dputK_os]
    have h0 : 0 < m.tab.length := by omega
    have st := sml.t0
    refine if_b (fun _ => ?_) fun _ => ?_
    · refine atD_of (map_at (f := rowJ) (l := m.tab) (i := 0) (d := []) h0) rfl ?_
      have row0 : m.tab.getD 0 [] ∈ m.tab := getD_mem h0
      refine ⟨by decide, ⟨own_all_map (fun _ => rfl) _, rfl⟩, by rw [List.length_map]; omega, ?_⟩
      rw [show List.map rowJ m.tab ++ [rowJ (m.tab.getD 0 [])] = (m.tab ++ [m.tab.getD 0 []]).map rowJ from by rw [List.map_append]; rfl]
      refine made (r' := ⟨m.acc, m.tab ++ [m.tab.getD 0 []]⟩) ⟨l8, sml.n0, by show (m.tab ++ [m.tab.getD 0 []]).length ≤ 13; rw [List.length_append]; show m.tab.length + 1 ≤ 13; omega, fun row h => (List.mem_append.mp h).elim (sml.rl row) fun e => by rw [List.mem_singleton.mp e]; exact sml.rl _ row0⟩ (mwhole_no1 (by show (m.tab ++ [m.tab.getD 0 []]).length ≠ m.acc.length; rw [List.length_append]; show m.tab.length + 1 ≠ m.acc.length; omega)) ?_
      simp only [↓dSeq, ↓dIfS, ↓dRet, ↓dRetN, ↓dSkip, ↓dBrk, ↓dCnt, ↓dPk, ↓dC, ↓dO, ↓d2, ↓dNotT, ↓dAndT, ↓dOrT, ↓dIf, ↓dNil, ↓dCons, ↓dNilL, ↓dConsL, ↓dTup, ↓dLst, ↓dBI, ↓dOwnL, ↓dCall, ↓dRng1, ↓dRng2, ↓dFor, ↓dRaise, ↓dRaise0, ↓dPn, ↓dYes, ↓dLc, ↓dExp, ↓onOk_ok, ↓onOk_exc, ↓onFl_ok, ↓onFl_exc, gt0, gtS, Vi.frs, fr_non, own_non, own_und, nz_non, fr_bl, own_bl, nz_bl, fr_int, own_int, nz_int, fr_str, own_str, nz_str, fr_tup, own_tup, nz_tup, fr_lst, own_lst, nz_lst, fr_klst, own_klst, nz_klst, fr_dic, own_dic, nz_dic, fr_ins, own_ins, nz_ins, fr_exo, own_exo, nz_exo, fr_fn, own_fn, nz_fn, eqD_ii, eqD_ss, eqD_bb, eqD_nn, eqD_sn, eqD_ns, eqD_ll, eqD_tt, eqDs_nn, eqDs_cn, eqDs_nc, eqDs_cc, shp_i, shp_b, shp_n, shp_s, shp_l, shp_t, shps_n, shps_c, id_eq, ↓dTry, ↓dIs_eq, ↓dWhat_eq, endT_rt, endT_nx, oEq, oIsN, isN, ↓endK_rt, ↓endK_nx, ↓endK_exc, ↓turnK_nx, ↓turnK_ct, ↓turnK_bk, ↓turnK_rt, ↓turnK_exc, List.set_cons_zero, List.set_cons_succ, List.all_cons, List.all_nil, List.map_cons, List.map_nil, Bool.and_true, Bool.and_self, Bool.true_and, Bool.not_true, Bool.not_false, true_and, and_true, List.take_succ_cons, List.take_zero, List.cons_append, List.nil_append, Bool.false_eq_true, if_false, if_true, ite_false, ite_true, wb_n, wb_sl, wb_vc, wb_vn, wb_v1, wb_v2, wb_v3, wb_v4, wb_v5, wb_v6, unb, reb, List.length_cons, List.length_nil, ↓dVar_r, ↓dFr_r, ↓dSet_r, ↓dgN_r, ↓dPut_r, ↓dApp_r, ↓dB_r, ↓dAndV_r, ↓dOrV_r, ↓dNotV_r, ↓dChn_r, ↓dSl_r, ↓dLenSet_r, ↓dItS_r, ↓dItL_r, ↓dItT_r, ↓dPs_r, eAt_c, exF_ok, putK_li, appK_l, blK_b, slK_s, slK_l, oIx_l, oIx_k, oIx_t, oIx_s, oAll_m, stK_b, seqK_l, seqK_k, tupK_t, inK_b, dAt_non, dAt_bl, dAt_int, dAt_str, dAt_tup, dAt_lst, dAt_klst, dAt_dic, dAt_ins, dAt_exo, dAt_fn, dAt_und, oAdd_ii, oAdd_ss, oAdd_ll, oAdd_tt, oOrd_ii, oOrd_ss, oInS_r, oInt_r, oInt0_r, oLen_l, oLen_k, oLen_t, oLen_s, oAbs_r, oInt1_i, oInt1_b, oReprB_r, int1_r, int2_r, isLst_l, see_v, see_s, sea_v, sea_s, ↓dIdx, ↓dFld, ↓dFset, ↓dJoin, ↓dListOf, ↓dMeth, ↓dMake_r, ↓dAsgG, ↓dLcN, ↓dLc2, idxK_ss, isStr_s, fldK_0, fldK_S, fsetK_r, isIns_i, dgTup_t, dgSeq_l, dgSeq_k, dgCons_c, dgNil_n, rowK_l, rowK_k, rowK_t, oTup_l, oTup_k, oTup_t, ↓dLoan_r, lnK_ok, lnK_exc, lnE_t, lnE_f, lnE_n, olE_c, olE_n, Bool.true_or, Bool.or_true, Bool.false_or, lf_non, lf_bl, lf_int, lf_str, lf_tup, lf_ins, lfs_n, lfs_c, fr2_l, ol_l, ↓dNeg, ngK_i, oRepS_r, ↓dApp2, ↓dPop2, ↓dPut2, sbK_l, opApp, opPop, opPut, ↓dAppSelf, ↓dAsg3, ↓dTru, truK_b, truK_l, ↓dExt, extK_l, oMin2_r, oIsB_r, ↓dSortSet, ↓dReprT, oEqS_r, ↓dCat, catK_l, ↓dItV, itK_s, itK_t, itK_l, itK_k, ↓dDisp1_r, tkK_ii, ↓dDget, ↓dDin, ↓dDput, dkK_tr, dkK_oi, dkK_os, dputK_t, dputK_oi, dputK_os]
      exact kk _ _ _ _
    simp only [b__law_faulty_9, fr_ownJ, ol1_ownJ, ↓dSeq, ↓dIfS, ↓dRet, ↓dRetN, ↓dSkip, ↓dBrk, ↓dCnt, ↓dPk, ↓dC, ↓dO, ↓d2, ↓dNotT, ↓dAndT, ↓dOrT, ↓dIf, ↓dNil, ↓dCons, ↓dNilL, ↓dConsL, ↓dTup, ↓dLst, ↓dBI, ↓dOwnL, ↓dCall, ↓dRng1, ↓dRng2, ↓dFor, ↓dRaise, ↓dRaise0, ↓dPn, ↓dYes, ↓dLc, ↓dExp, ↓onOk_ok, ↓onOk_exc, ↓onFl_ok, ↓onFl_exc, gt0, gtS, Vi.frs, fr_non, own_non, own_und, nz_non, fr_bl, own_bl, nz_bl, fr_int, own_int, nz_int, fr_str, own_str, nz_str, fr_tup, own_tup, nz_tup, fr_lst, own_lst, nz_lst, fr_klst, own_klst, nz_klst, fr_dic, own_dic, nz_dic, fr_ins, own_ins, nz_ins, fr_exo, own_exo, nz_exo, fr_fn, own_fn, nz_fn, eqD_ii, eqD_ss, eqD_bb, eqD_nn, eqD_sn, eqD_ns, eqD_ll, eqD_tt, eqDs_nn, eqDs_cn, eqDs_nc, eqDs_cc, shp_i, shp_b, shp_n, shp_s, shp_l, shp_t, shps_n, shps_c, id_eq, ↓dTry, ↓dIs_eq, ↓dWhat_eq, endT_rt, endT_nx, oEq, oIsN, isN, ↓endK_rt, ↓endK_nx, ↓endK_exc, ↓turnK_nx, ↓turnK_ct, ↓turnK_bk, ↓turnK_rt, ↓turnK_exc, List.set_cons_zero, List.set_cons_succ, List.all_cons, List.all_nil, List.map_cons, List.map_nil, Bool.and_true, Bool.and_self, Bool.true_and, Bool.not_true, Bool.not_false, true_and, and_true, List.take_succ_cons, List.take_zero, List.cons_append, List.nil_append, Bool.false_eq_true, if_false, if_true, ite_false, ite_true, wb_n, wb_sl, wb_vc, wb_vn, wb_v1, wb_v2, wb_v3, wb_v4, wb_v5, wb_v6, unb, reb, List.length_cons, List.length_nil, ↓dVar_r, ↓dFr_r, ↓dSet_r, ↓dgN_r, ↓dPut_r, ↓dApp_r, ↓dB_r, ↓dAndV_r, ↓dOrV_r, ↓dNotV_r, ↓dChn_r, ↓dSl_r, ↓dLenSet_r, ↓dItS_r, ↓dItL_r, ↓dItT_r, ↓dPs_r, eAt_c, exF_ok, putK_li, appK_l, blK_b, slK_s, slK_l, oIx_l, oIx_k, oIx_t, oIx_s, oAll_m, stK_b, seqK_l, seqK_k, tupK_t, inK_b, dAt_non, dAt_bl, dAt_int, dAt_str, dAt_tup, dAt_lst, dAt_klst, dAt_dic, dAt_ins, dAt_exo, dAt_fn, dAt_und, oAdd_ii, oAdd_ss, oAdd_ll, oAdd_tt, oOrd_ii, oOrd_ss, oInS_r, oInt_r, oInt0_r, oLen_l, oLen_k, oLen_t, oLen_s, oAbs_r, oInt1_i, oInt1_b, oReprB_r, int1_r, int2_r, isLst_l, see_v, see_s, sea_v, sea_s, ↓dIdx, ↓dFld, ↓dFset, ↓dJoin, ↓dListOf, ↓dMeth, ↓dMake_r, ↓dAsgG, ↓dLcN, ↓dLc2, idxK_ss, isStr_s, fldK_0, fldK_S, fsetK_r, isIns_i, dgTup_t, dgSeq_l, dgSeq_k, dgCons_c, dgNil_n, rowK_l, rowK_k, rowK_t, oTup_l, oTup_k, oTup_t, ↓dLoan_r, lnK_ok, lnK_exc, lnE_t, lnE_f, lnE_n, olE_c, olE_n, Bool.true_or, Bool.or_true, Bool.false_or, lf_non, lf_bl, lf_int, lf_str, lf_tup, lf_ins, lfs_n, lfs_c, fr2_l, ol_l, ↓dNeg, ngK_i, oRepS_r, ↓dApp2, ↓dPop2, ↓dPut2, sbK_l, opApp, opPop, opPut, ↓dAppSelf, ↓dAsg3, ↓dTru, truK_b, truK_l, ↓dExt, extK_l, oMin2_r, oIsB_r, ↓dSortSet, ↓dReprT, oEqS_r, ↓dCat, catK_l, ↓dItV, itK_s, itK_t, itK_l, itK_k, ↓dDisp1_r, tkK_ii, ↓dDget, ↓dDin, ↓dDput, dkK_tr, dkK_oi, dkK_os, dputK_t, dputK_oi, dputK_os]
    refine if_b (fun _ => ?_) fun _ => ?_
    · refine ⟨by decide, own_bls _, by rw [List.length_map]; omega, ?_⟩
      rw [show List.map D.bl m.acc ++ [D.bl true] = (m.acc ++ [true]).map D.bl from by rw [List.map_append]; rfl]
      refine made (r' := ⟨m.acc ++ [true], m.tab⟩) ⟨l8, by show (m.acc ++ [true]).length ≤ 13; rw [List.length_append]; show m.acc.length + 1 ≤ 13; omega, sml.t0, sml.rl⟩ (mwhole_no1 (by show m.tab.length ≠ (m.acc ++ [true]).length; rw [List.length_append]; show m.tab.length ≠ m.acc.length + 1; omega)) ?_
      simp only [↓dSeq, ↓dIfS, ↓dRet, ↓dRetN, ↓dSkip, ↓dBrk, ↓dCnt, ↓dPk, ↓dC, ↓dO, ↓d2, ↓dNotT, ↓dAndT, ↓dOrT, ↓dIf, ↓dNil, ↓dCons, ↓dNilL, ↓dConsL, ↓dTup, ↓dLst, ↓dBI, ↓dOwnL, ↓dCall, ↓dRng1, ↓dRng2, ↓dFor, ↓dRaise, ↓dRaise0, ↓dPn, ↓dYes, ↓dLc, ↓dExp, ↓onOk_ok, ↓onOk_exc, ↓onFl_ok, ↓onFl_exc, gt0, gtS, Vi.frs, fr_non, own_non, own_und, nz_non, fr_bl, own_bl, nz_bl, fr_int, own_int, nz_int, fr_str, own_str, nz_str, fr_tup, own_tup, nz_tup, fr_lst, own_lst, nz_lst, fr_klst, own_klst, nz_klst, fr_dic, own_dic, nz_dic, fr_ins, own_ins, nz_ins, fr_exo, own_exo, nz_exo, fr_fn, own_fn, nz_fn, eqD_ii, eqD_ss, eqD_bb, eqD_nn, eqD_sn, eqD_ns, eqD_ll, eqD_tt, eqDs_nn, eqDs_cn, eqDs_nc, eqDs_cc, shp_i, shp_b, shp_n, shp_s, shp_l, shp_t, shps_n, shps_c, id_eq, ↓dTry, ↓dIs_eq, ↓dWhat_eq, endT_rt, endT_nx, oEq, oIsN, isN, ↓endK_rt, ↓endK_nx, ↓endK_exc, ↓turnK_nx, ↓turnK_ct, ↓turnK_bk, ↓turnK_rt, ↓turnK_exc, List.set_cons_zero, List.set_cons_succ, List.all_cons, List.all_nil, List.map_cons, List.map_nil, Bool.and_true, Bool.and_self, Bool.true_and, Bool.not_true, Bool.not_false, true_and, and_true, List.take_succ_cons, List.take_zero, List.cons_append, List.nil_append, Bool.false_eq_true, if_false, if_true, ite_false, ite_true, wb_n, wb_sl, wb_vc, wb_vn, wb_v1, wb_v2, wb_v3, wb_v4, wb_v5, wb_v6, unb, reb, List.length_cons, List.length_nil, ↓dVar_r, ↓dFr_r, ↓dSet_r, ↓dgN_r, ↓dPut_r, ↓dApp_r, ↓dB_r, ↓dAndV_r, ↓dOrV_r, ↓dNotV_r, ↓dChn_r, ↓dSl_r, ↓dLenSet_r, ↓dItS_r, ↓dItL_r, ↓dItT_r, ↓dPs_r, eAt_c, exF_ok, putK_li, appK_l, blK_b, slK_s, slK_l, oIx_l, oIx_k, oIx_t, oIx_s, oAll_m, stK_b, seqK_l, seqK_k, tupK_t, inK_b, dAt_non, dAt_bl, dAt_int, dAt_str, dAt_tup, dAt_lst, dAt_klst, dAt_dic, dAt_ins, dAt_exo, dAt_fn, dAt_und, oAdd_ii, oAdd_ss, oAdd_ll, oAdd_tt, oOrd_ii, oOrd_ss, oInS_r, oInt_r, oInt0_r, oLen_l, oLen_k, oLen_t, oLen_s, oAbs_r, oInt1_i, oInt1_b, oReprB_r, int1_r, int2_r, isLst_l, see_v, see_s, sea_v, sea_s, ↓dIdx, ↓dFld, ↓dFset, ↓dJoin, ↓dListOf, ↓dMeth, ↓dMake_r, ↓dAsgG, ↓dLcN, ↓dLc2, idxK_ss, isStr_s, fldK_0, fldK_S, fsetK_r, isIns_i, dgTup_t, dgSeq_l, dgSeq_k, dgCons_c, dgNil_n, rowK_l, rowK_k, rowK_t, oTup_l, oTup_k, oTup_t, ↓dLoan_r, lnK_ok, lnK_exc, lnE_t, lnE_f, lnE_n, olE_c, olE_n, Bool.true_or, Bool.or_true, Bool.false_or, lf_non, lf_bl, lf_int, lf_str, lf_tup, lf_ins, lfs_n, lfs_c, fr2_l, ol_l, ↓dNeg, ngK_i, oRepS_r, ↓dApp2, ↓dPop2, ↓dPut2, sbK_l, opApp, opPop, opPut, ↓dAppSelf, ↓dAsg3, ↓dTru, truK_b, truK_l, ↓dExt, extK_l, oMin2_r, oIsB_r, ↓dSortSet, ↓dReprT, oEqS_r, ↓dCat, catK_l, ↓dItV, itK_s, itK_t, itK_l, itK_k, ↓dDisp1_r, tkK_ii, ↓dDget, ↓dDin, ↓dDput, dkK_tr, dkK_oi, dkK_os, dputK_t, dputK_oi, dputK_os]
      exact kk _ _ _ _
    obtain ⟨row, hrow⟩ : ∃ row, m.tab[a.toNat]? = some row := ⟨_, List.getElem?_eq_getElem (by omega)⟩
    have ha := (List.getElem?_eq_some_iff.mp hrow).1
    have hm := List.mem_of_getElem? hrow
    have rl := ok.rl row hm
    have rsm := sml.rl row hm
    have hix : ixN (m.tab.map ownJ).length a = some a.toNat := by rw [List.length_map]; exact ixN_of a0 a1
    have hget : (m.tab.map ownJ)[a.toNat]? = some (.lst true (row.map .int)) := by rw [List.getElem?_map, hrow]; rfl
    have setR : ∀ row', (m.tab.map ownJ).set a.toNat (.lst true (List.map D.int row')) = (m.tab.set a.toNat row').map ownJ := fun row' => by rw [List.map_set]; rfl
    have hb : b.toNat < row.length := by omega
    have bad : ∀ (q p' : Int) (x6 : D), (q < 0 ∨ (m.acc.length : Int) ≤ q) → b__law_faulty_19 [D.str L, accD m, tabD m, stD nums p', .int v, D.lst true ((m.tab.map ownJ).set a.toNat (D.lst true ((row.map D.int).set b.toNat (.int q)))), x6, .int a, .int b] (endK 4 K') := fun q p' x6 hq => by
      rw [show (row.map D.int).set b.toNat (.int q) = (row.set b.toNat q).map D.int from by rw [List.map_set], setR]
      exact last ⟨m.acc, m.tab.set a.toNat (row.set b.toNat q)⟩ _ _ _ _ _ rfl (sml.tab (by rw [List.length_set]; omega)) (mwhole_no_nx (set_mem ha) (set_mem hb) hq)
    simp only [b__law_faulty_11, ↓dSeq, ↓dIfS, ↓dRet, ↓dRetN, ↓dSkip, ↓dBrk, ↓dCnt, ↓dPk, ↓dC, ↓dO, ↓d2, ↓dNotT, ↓dAndT, ↓dOrT, ↓dIf, ↓dNil, ↓dCons, ↓dNilL, ↓dConsL, ↓dTup, ↓dLst, ↓dBI, ↓dOwnL, ↓dCall, ↓dRng1, ↓dRng2, ↓dFor, ↓dRaise, ↓dRaise0, ↓dPn, ↓dYes, ↓dLc, ↓dExp, ↓onOk_ok, ↓onOk_exc, ↓onFl_ok, ↓onFl_exc, gt0, gtS, Vi.frs, fr_non, own_non, own_und, nz_non, fr_bl, own_bl, nz_bl, fr_int, own_int, nz_int, fr_str, own_str, nz_str, fr_tup, own_tup, nz_tup, fr_lst, own_lst, nz_lst, fr_klst, own_klst, nz_klst, fr_dic, own_dic, nz_dic, fr_ins, own_ins, nz_ins, fr_exo, own_exo, nz_exo, fr_fn, own_fn, nz_fn, eqD_ii, eqD_ss, eqD_bb, eqD_nn, eqD_sn, eqD_ns, eqD_ll, eqD_tt, eqDs_nn, eqDs_cn, eqDs_nc, eqDs_cc, shp_i, shp_b, shp_n, shp_s, shp_l, shp_t, shps_n, shps_c, id_eq, ↓dTry, ↓dIs_eq, ↓dWhat_eq, endT_rt, endT_nx, oEq, oIsN, isN, ↓endK_rt, ↓endK_nx, ↓endK_exc, ↓turnK_nx, ↓turnK_ct, ↓turnK_bk, ↓turnK_rt, ↓turnK_exc, List.set_cons_zero, List.set_cons_succ, List.all_cons, List.all_nil, List.map_cons, List.map_nil, Bool.and_true, Bool.and_self, Bool.true_and, Bool.not_true, Bool.not_false, true_and, and_true, List.take_succ_cons, List.take_zero, List.cons_append, List.nil_append, Bool.false_eq_true, if_false, if_true, ite_false, ite_true, wb_n, wb_sl, wb_vc, wb_vn, wb_v1, wb_v2, wb_v3, wb_v4, wb_v5, wb_v6, unb, reb, List.length_cons, List.length_nil, ↓dVar_r, ↓dFr_r, ↓dSet_r, ↓dgN_r, ↓dPut_r, ↓dApp_r, ↓dB_r, ↓dAndV_r, ↓dOrV_r, ↓dNotV_r, ↓dChn_r, ↓dSl_r, ↓dLenSet_r, ↓dItS_r, ↓dItL_r, ↓dItT_r, ↓dPs_r, eAt_c, exF_ok, putK_li, appK_l, blK_b, slK_s, slK_l, oIx_l, oIx_k, oIx_t, oIx_s, oAll_m, stK_b, seqK_l, seqK_k, tupK_t, inK_b, dAt_non, dAt_bl, dAt_int, dAt_str, dAt_tup, dAt_lst, dAt_klst, dAt_dic, dAt_ins, dAt_exo, dAt_fn, dAt_und, oAdd_ii, oAdd_ss, oAdd_ll, oAdd_tt, oOrd_ii, oOrd_ss, oInS_r, oInt_r, oInt0_r, oLen_l, oLen_k, oLen_t, oLen_s, oAbs_r, oInt1_i, oInt1_b, oReprB_r, int1_r, int2_r, isLst_l, see_v, see_s, sea_v, sea_s, ↓dIdx, ↓dFld, ↓dFset, ↓dJoin, ↓dListOf, ↓dMeth, ↓dMake_r, ↓dAsgG, ↓dLcN, ↓dLc2, idxK_ss, isStr_s, fldK_0, fldK_S, fsetK_r, isIns_i, dgTup_t, dgSeq_l, dgSeq_k, dgCons_c, dgNil_n, rowK_l, rowK_k, rowK_t, oTup_l, oTup_k, oTup_t, ↓dLoan_r, lnK_ok, lnK_exc, lnE_t, lnE_f, lnE_n, olE_c, olE_n, Bool.true_or, Bool.or_true, Bool.false_or, lf_non, lf_bl, lf_int, lf_str, lf_tup, lf_ins, lfs_n, lfs_c, fr2_l, ol_l, ↓dNeg, ngK_i, oRepS_r, ↓dApp2, ↓dPop2, ↓dPut2, sbK_l, opApp, opPop, opPut, ↓dAppSelf, ↓dAsg3, ↓dTru, truK_b, truK_l, ↓dExt, extK_l, oMin2_r, oIsB_r, ↓dSortSet, ↓dReprT, oEqS_r, ↓dCat, catK_l, ↓dItV, itK_s, itK_t, itK_l, itK_k, ↓dDisp1_r, tkK_ii, ↓dDget, ↓dDin, ↓dDput, dkK_tr, dkK_oi, dkK_os, dputK_t, dputK_oi, dputK_os]
    refine if_b (fun _ => ?_) fun _ => if_b (fun _ => ?_) fun _ => if_b (fun _ => ?_) fun _ => ?_
    · refine ⟨_, _, hix, hget, by rw [List.length_map]; omega, ?_⟩
      rw [show row.map D.int ++ [D.int 0] = (row ++ [0]).map D.int from by rw [List.map_append]; rfl, setR]
      exact last ⟨m.acc, m.tab.set a.toNat (row ++ [0])⟩ _ _ _ _ _ rfl (sml.tab (by rw [List.length_append]; show row.length + 1 ≤ 9; omega)) (mwhole_no_len (set_mem ha) (by rw [List.length_append]; show row.length + 1 ≠ _; omega))
    · refine ⟨_, _, hix, hget, own_ints _, by omega, by omega, b.toNat, by rw [List.length_map]; exact seqIx_of b0 (by omega), by rw [List.length_map]; exact hb, ?_⟩
      rw [show (row.map D.int).eraseIdx b.toNat = (row.eraseIdx b.toNat).map D.int from map_erase .., setR]
      exact last ⟨m.acc, m.tab.set a.toNat (row.eraseIdx b.toNat)⟩ _ _ _ _ _ rfl (sml.tab (by rw [List.length_eraseIdx_of_lt hb]; omega)) (mwhole_no_len (set_mem ha) (by rw [List.length_eraseIdx_of_lt hb]; omega))
    · have hlen : ((m.tab.map ownJ).length : Int) = m.acc.length := by rw [List.length_map, t0]
      refine call_step rfl rfl rfl ⟨nums, _, 3, rfl, n0, n1, by decide, fun w x4 w0 w1 => ⟨rfl, ?_⟩⟩
      simp only [↓dSeq, ↓dIfS, ↓dRet, ↓dRetN, ↓dSkip, ↓dBrk, ↓dCnt, ↓dPk, ↓dC, ↓dO, ↓d2, ↓dNotT, ↓dAndT, ↓dOrT, ↓dIf, ↓dNil, ↓dCons, ↓dNilL, ↓dConsL, ↓dTup, ↓dLst, ↓dBI, ↓dOwnL, ↓dCall, ↓dRng1, ↓dRng2, ↓dFor, ↓dRaise, ↓dRaise0, ↓dPn, ↓dYes, ↓dLc, ↓dExp, ↓onOk_ok, ↓onOk_exc, ↓onFl_ok, ↓onFl_exc, gt0, gtS, Vi.frs, fr_non, own_non, own_und, nz_non, fr_bl, own_bl, nz_bl, fr_int, own_int, nz_int, fr_str, own_str, nz_str, fr_tup, own_tup, nz_tup, fr_lst, own_lst, nz_lst, fr_klst, own_klst, nz_klst, fr_dic, own_dic, nz_dic, fr_ins, own_ins, nz_ins, fr_exo, own_exo, nz_exo, fr_fn, own_fn, nz_fn, eqD_ii, eqD_ss, eqD_bb, eqD_nn, eqD_sn, eqD_ns, eqD_ll, eqD_tt, eqDs_nn, eqDs_cn, eqDs_nc, eqDs_cc, shp_i, shp_b, shp_n, shp_s, shp_l, shp_t, shps_n, shps_c, id_eq, ↓dTry, ↓dIs_eq, ↓dWhat_eq, endT_rt, endT_nx, oEq, oIsN, isN, ↓endK_rt, ↓endK_nx, ↓endK_exc, ↓turnK_nx, ↓turnK_ct, ↓turnK_bk, ↓turnK_rt, ↓turnK_exc, List.set_cons_zero, List.set_cons_succ, List.all_cons, List.all_nil, List.map_cons, List.map_nil, Bool.and_true, Bool.and_self, Bool.true_and, Bool.not_true, Bool.not_false, true_and, and_true, List.take_succ_cons, List.take_zero, List.cons_append, List.nil_append, Bool.false_eq_true, if_false, if_true, ite_false, ite_true, wb_n, wb_sl, wb_vc, wb_vn, wb_v1, wb_v2, wb_v3, wb_v4, wb_v5, wb_v6, unb, reb, List.length_cons, List.length_nil, ↓dVar_r, ↓dFr_r, ↓dSet_r, ↓dgN_r, ↓dPut_r, ↓dApp_r, ↓dB_r, ↓dAndV_r, ↓dOrV_r, ↓dNotV_r, ↓dChn_r, ↓dSl_r, ↓dLenSet_r, ↓dItS_r, ↓dItL_r, ↓dItT_r, ↓dPs_r, eAt_c, exF_ok, putK_li, appK_l, blK_b, slK_s, slK_l, oIx_l, oIx_k, oIx_t, oIx_s, oAll_m, stK_b, seqK_l, seqK_k, tupK_t, inK_b, dAt_non, dAt_bl, dAt_int, dAt_str, dAt_tup, dAt_lst, dAt_klst, dAt_dic, dAt_ins, dAt_exo, dAt_fn, dAt_und, oAdd_ii, oAdd_ss, oAdd_ll, oAdd_tt, oOrd_ii, oOrd_ss, oInS_r, oInt_r, oInt0_r, oLen_l, oLen_k, oLen_t, oLen_s, oAbs_r, oInt1_i, oInt1_b, oReprB_r, int1_r, int2_r, isLst_l, see_v, see_s, sea_v, sea_s, ↓dIdx, ↓dFld, ↓dFset, ↓dJoin, ↓dListOf, ↓dMeth, ↓dMake_r, ↓dAsgG, ↓dLcN, ↓dLc2, idxK_ss, isStr_s, fldK_0, fldK_S, fsetK_r, isIns_i, dgTup_t, dgSeq_l, dgSeq_k, dgCons_c, dgNil_n, rowK_l, rowK_k, rowK_t, oTup_l, oTup_k, oTup_t, ↓dLoan_r, lnK_ok, lnK_exc, lnE_t, lnE_f, lnE_n, olE_c, olE_n, Bool.true_or, Bool.or_true, Bool.false_or, lf_non, lf_bl, lf_int, lf_str, lf_tup, lf_ins, lfs_n, lfs_c, fr2_l, ol_l, ↓dNeg, ngK_i, oRepS_r, ↓dApp2, ↓dPop2, ↓dPut2, sbK_l, opApp, opPop, opPut, ↓dAppSelf, ↓dAsg3, ↓dTru, truK_b, truK_l, ↓dExt, extK_l, oMin2_r, oIsB_r, ↓dSortSet, ↓dReprT, oEqS_r, ↓dCat, catK_l, ↓dItV, itK_s, itK_t, itK_l, itK_k, ↓dDisp1_r, tkK_ii, ↓dDget, ↓dDin, ↓dDput, dkK_tr, dkK_oi, dkK_os, dputK_t, dputK_oi, dputK_os]
      refine ⟨_, _, hix, hget, _, by rw [List.length_map]; exact ixN_of b0 (by omega), ?_⟩
      exact bad _ _ _ (.inr (by rw [hlen]; omega))
    · refine call_step rfl rfl rfl ⟨nums, _, 3, rfl, n0, n1, by decide, fun w x4 w0 w1 => ⟨rfl, ?_⟩⟩
      simp only [↓dSeq, ↓dIfS, ↓dRet, ↓dRetN, ↓dSkip, ↓dBrk, ↓dCnt, ↓dPk, ↓dC, ↓dO, ↓d2, ↓dNotT, ↓dAndT, ↓dOrT, ↓dIf, ↓dNil, ↓dCons, ↓dNilL, ↓dConsL, ↓dTup, ↓dLst, ↓dBI, ↓dOwnL, ↓dCall, ↓dRng1, ↓dRng2, ↓dFor, ↓dRaise, ↓dRaise0, ↓dPn, ↓dYes, ↓dLc, ↓dExp, ↓onOk_ok, ↓onOk_exc, ↓onFl_ok, ↓onFl_exc, gt0, gtS, Vi.frs, fr_non, own_non, own_und, nz_non, fr_bl, own_bl, nz_bl, fr_int, own_int, nz_int, fr_str, own_str, nz_str, fr_tup, own_tup, nz_tup, fr_lst, own_lst, nz_lst, fr_klst, own_klst, nz_klst, fr_dic, own_dic, nz_dic, fr_ins, own_ins, nz_ins, fr_exo, own_exo, nz_exo, fr_fn, own_fn, nz_fn, eqD_ii, eqD_ss, eqD_bb, eqD_nn, eqD_sn, eqD_ns, eqD_ll, eqD_tt, eqDs_nn, eqDs_cn, eqDs_nc, eqDs_cc, shp_i, shp_b, shp_n, shp_s, shp_l, shp_t, shps_n, shps_c, id_eq, ↓dTry, ↓dIs_eq, ↓dWhat_eq, endT_rt, endT_nx, oEq, oIsN, isN, ↓endK_rt, ↓endK_nx, ↓endK_exc, ↓turnK_nx, ↓turnK_ct, ↓turnK_bk, ↓turnK_rt, ↓turnK_exc, List.set_cons_zero, List.set_cons_succ, List.all_cons, List.all_nil, List.map_cons, List.map_nil, Bool.and_true, Bool.and_self, Bool.true_and, Bool.not_true, Bool.not_false, true_and, and_true, List.take_succ_cons, List.take_zero, List.cons_append, List.nil_append, Bool.false_eq_true, if_false, if_true, ite_false, ite_true, wb_n, wb_sl, wb_vc, wb_vn, wb_v1, wb_v2, wb_v3, wb_v4, wb_v5, wb_v6, unb, reb, List.length_cons, List.length_nil, ↓dVar_r, ↓dFr_r, ↓dSet_r, ↓dgN_r, ↓dPut_r, ↓dApp_r, ↓dB_r, ↓dAndV_r, ↓dOrV_r, ↓dNotV_r, ↓dChn_r, ↓dSl_r, ↓dLenSet_r, ↓dItS_r, ↓dItL_r, ↓dItT_r, ↓dPs_r, eAt_c, exF_ok, putK_li, appK_l, blK_b, slK_s, slK_l, oIx_l, oIx_k, oIx_t, oIx_s, oAll_m, stK_b, seqK_l, seqK_k, tupK_t, inK_b, dAt_non, dAt_bl, dAt_int, dAt_str, dAt_tup, dAt_lst, dAt_klst, dAt_dic, dAt_ins, dAt_exo, dAt_fn, dAt_und, oAdd_ii, oAdd_ss, oAdd_ll, oAdd_tt, oOrd_ii, oOrd_ss, oInS_r, oInt_r, oInt0_r, oLen_l, oLen_k, oLen_t, oLen_s, oAbs_r, oInt1_i, oInt1_b, oReprB_r, int1_r, int2_r, isLst_l, see_v, see_s, sea_v, sea_s, ↓dIdx, ↓dFld, ↓dFset, ↓dJoin, ↓dListOf, ↓dMeth, ↓dMake_r, ↓dAsgG, ↓dLcN, ↓dLc2, idxK_ss, isStr_s, fldK_0, fldK_S, fsetK_r, isIns_i, dgTup_t, dgSeq_l, dgSeq_k, dgCons_c, dgNil_n, rowK_l, rowK_k, rowK_t, oTup_l, oTup_k, oTup_t, ↓dLoan_r, lnK_ok, lnK_exc, lnE_t, lnE_f, lnE_n, olE_c, olE_n, Bool.true_or, Bool.or_true, Bool.false_or, lf_non, lf_bl, lf_int, lf_str, lf_tup, lf_ins, lfs_n, lfs_c, fr2_l, ol_l, ↓dNeg, ngK_i, oRepS_r, ↓dApp2, ↓dPop2, ↓dPut2, sbK_l, opApp, opPop, opPut, ↓dAppSelf, ↓dAsg3, ↓dTru, truK_b, truK_l, ↓dExt, extK_l, oMin2_r, oIsB_r, ↓dSortSet, ↓dReprT, oEqS_r, ↓dCat, catK_l, ↓dItV, itK_s, itK_t, itK_l, itK_k, ↓dDisp1_r, tkK_ii, ↓dDget, ↓dDin, ↓dDput, dkK_tr, dkK_oi, dkK_os, dputK_t, dputK_oi, dputK_os]
      refine ⟨_, _, hix, hget, _, by rw [List.length_map]; exact ixN_of b0 (by omega), ?_⟩
      exact bad _ _ _ (.inl (by omega))
--@@SPLIT
/-! ### the ring -/
/-- state k goes with letter j to k + 1 + j -/
def ringM (n : Nat) (acc : List Bool) (w : Nat) : MA := ⟨acc, (List.range n).map fun (k : Nat) => (List.range w).map fun (j : Nat) => ((k : Int) + 1 + (j : Int)) % (n : Int)⟩
theorem getD_map_range {α : Type} {f : Nat → α} {n i : Nat} {d : α} (h : i < n) : ((List.range n).map f).getD i d = f i := by
  rw [List.getD_eq_getElem?_getD, List.getElem?_map, List.getElem?_range h]
  rfl
theorem ring_nx {n : Nat} {acc : List Bool} {L : List Nat} {q : Int} {c i : Nat} (h0 : 0 ≤ q) (h1 : q < n) (hi : idx L c = some i) (hl : i < L.length) : (ringM n acc L.length).nx L q c = (q + 1 + i) % n := by
  unfold MA.nx ringM
  rw [hi, Option.getD_some]
  show ((((List.range n).map _).getD q.toNat []).getD i 0) = _
  rw [getD_map_range (by omega : q.toNat < n), getD_map_range hl, Int.toNat_of_nonneg h0]
theorem ring_rep {n : Nat} {acc : List Bool} {L : List Nat} {c i : Nat} (hi : idx L c = some i) (hl : i < L.length) (n0 : 0 < n) : ∀ (k : Nat) {q : Int}, 0 ≤ q → q < n → (ringM n acc L.length).run L q (List.replicate k c) = (q + (k : Int) * (1 + (i : Int))) % n
  | 0, q, h0, h1 => by
    show q = _
    rw [show q + ((0 : Nat) : Int) * (1 + (i : Int)) = q by simp]
    exact (Int.emod_eq_of_lt h0 h1).symm
  | k + 1, q, h0, h1 => by
    show (ringM n acc L.length).run L ((ringM n acc L.length).nx L q c) (List.replicate k c) = _
    have p0 : (0 : Int) < n := by omega
    rw [ring_nx h0 h1 hi hl, ring_rep hi hl n0 k (Int.emod_nonneg _ (by omega)) (Int.emod_lt_of_pos _ p0), Int.emod_add_emod]
    congr 1
    have e : ((k + 1 : Nat) : Int) * (1 + (i : Int)) = (k : Int) * (1 + (i : Int)) + (1 + (i : Int)) := by
      rw [Int.natCast_add, Int.add_mul]
      simp
    rw [e]
    omega
theorem ring_ok {n : Nat} {acc : List Bool} {L : List Nat} (n0 : 0 < n) (ha : acc.length = n) : (ringM n acc L.length).Ok L := by
  have tl : (ringM n acc L.length).tab.length = n := by
    unfold ringM
    simp
  refine ⟨by show 0 < acc.length; omega, by rw [tl]; exact ha.symm, fun row h => ?_, fun row h q hq => ?_⟩
  · obtain ⟨k, _, rfl⟩ := List.mem_map.mp h
    rw [List.length_map, List.length_range]
  · obtain ⟨k, _, rfl⟩ := List.mem_map.mp h
    obtain ⟨j, _, rfl⟩ := List.mem_map.mp hq
    have p0 : (0 : Int) < n := by omega
    rw [show ((ringM n acc L.length).acc.length : Int) = n from by show ((acc.length : Nat) : Int) = _; rw [ha]]
    exact ⟨Int.emod_nonneg _ (by omega), Int.emod_lt_of_pos _ p0⟩
theorem idx_nodup {L : List Nat} {i c : Nat} (nd : L.Nodup) (h : L[i]? = some c) : idx L c = some i := by
  obtain ⟨k, hk, hL⟩ := idx_mem (List.mem_of_getElem? h)
  have l1 := (List.getElem?_eq_some_iff.mp h).1
  have l2 := (List.getElem?_eq_some_iff.mp hL).1
  have e : k = i := by
    obtain ⟨_, a1⟩ := List.getElem?_eq_some_iff.mp hL
    obtain ⟨_, a2⟩ := List.getElem?_eq_some_iff.mp h
    rcases Nat.lt_trichotomy k i with z | z | z
    · exact absurd (a1.trans a2.symm) (List.pairwise_iff_getElem.mp nd k i l2 l1 z)
    · exact z
    · exact absurd (a2.trans a1.symm) (List.pairwise_iff_getElem.mp nd i k l1 l2 z)
  rw [hk, e]
def S__law_ring : FS := fun args K => ∃ (L : List Nat) (n w : Int), args = [.str L, .int n, .int w] ∧ 0 < L.length ∧ L.length ≤ 8 ∧ L.Nodup ∧ 0 < n ∧ n ≤ 3000 ∧ 0 ≤ w ∧ w ≤ 10 ∧ ∀ posts, posts.length = 3 → K (.ok (.bl true)) posts
def b__law_ring_5 : DS :=
  dRet (dFr (dAndV (d2 (oEq id) (dO (dFr (dMeth 5 [] 2 S_Machine_run [] (dO (dVar 5)) (dCons (dO (dVar 7)) (dNil))))) (dPk 8)) (d2 (oEq id) (dO (dBI oReprB (dCons (dO (dFr (dMeth 5 [] 2 S_Machine_accepts [] (dO (dVar 5)) (dCons (dO (dVar 7)) (dNil))))) (dNil)))) (dO (dBI oReprB (dCons (dO (d2 oIx (dPk 3) (dPk 8))) (dNil)))))))
def b__law_ring_4 : DS :=
  dSeq (dSet 8 (dFr (d2 (oInt cMod gMod) (dO (dBI oInt1 (dCons (dO (d2 oAdd (dO (dC (.int 700))) (dO (d2 (oInt CMul gMul) (dO (dC (.int 300))) (dO (dBI oLen (dCons (dPk 0) (dNil)))))))) (dNil)))) (dPk 1))))
  (b__law_ring_5)
def b__law_ring_3 : DS :=
  dSeq (dSet 7 (dFr (d2 oAdd (dO (d2 oRepS (dO (d2 oIx (dPk 0) (dO (dC (.int 0))))) (dO (dC (.int 700))))) (dO (d2 oRepS (dO (d2 oIx (dPk 0) (dO (dNeg (dC (.int 1)))))) (dO (dC (.int 300))))))))
  (b__law_ring_4)
def b__law_ring_2 : DS :=
  dSeq (dSet 5 (dMake 5 4 S_Machine___init__ [] (dConsL (dVar 0) (dConsL (dVar 3) (dConsL (dLc (dRng1 (dConsL (dVar 1) (dNilL))) (dgN 4) (dYes) (dLc (dRng1 (dConsL (dBI oLen (dCons (dPk 0) (dNil))) (dNilL))) (dgN 6) (dYes) (d2 (oInt cMod gMod) (dO (dBI oInt1 (dCons (dO (d2 oAdd (dO (d2 oAdd (dPk 4) (dO (dC (.int 1))))) (dPk 6))) (dNil)))) (dPk 1)) [6]) [4]) (dNilL))))))
  (b__law_ring_3)
def b__law_ring : DS :=
  dSeq (dSet 3 (dFr (dLc (dRng1 (dConsL (dVar 1) (dNilL))) (dgN 4) (dYes) (d2 (oEq id) (dO (d2 (oInt cMod gMod) (dO (dBI oInt1 (dCons (dO (d2 (oInt CMul gMul) (dPk 4) (dPk 2))) (dNil)))) (dO (dC (.int 3))))) (dO (dC (.int 0)))) [4])))
  (b__law_ring_2)
theorem p__law_ring : ∀ args K', args.length = 3 → S__law_ring args K' → b__law_ring (args ++ List.replicate 6 .und) (endK 3 K') := by
  rintro args K' - ⟨L, n, w, rfl, l0, l8, nd, h0, h1, w0, w1, kk⟩
  show b__law_ring [.str L, .int n, .int w, .und, .und, .und, .und, .und, .und] _
  unfold b__law_ring
  simp only [↓dSeq, ↓dIfS, ↓dRet, ↓dRetN, ↓dSkip, ↓dBrk, ↓dCnt, ↓dPk, ↓dC, ↓dO, ↓d2, ↓dNotT, ↓dAndT, ↓dOrT, ↓dIf, ↓dNil, ↓dCons, ↓dNilL, ↓dConsL, ↓dTup, ↓dLst, ↓dBI, ↓dOwnL, ↓dCall, ↓dRng1, ↓dRng2, ↓dFor, ↓dRaise, ↓dRaise0, ↓dPn, ↓dYes, ↓dLc, ↓dExp, ↓onOk_ok, ↓onOk_exc, ↓onFl_ok, ↓onFl_exc, gt0, gtS, Vi.frs, fr_non, own_non, own_und, nz_non, fr_bl, own_bl, nz_bl, fr_int, own_int, nz_int, fr_str, own_str, nz_str, fr_tup, own_tup, nz_tup, fr_lst, own_lst, nz_lst, fr_klst, own_klst, nz_klst, fr_dic, own_dic, nz_dic, fr_ins, own_ins, nz_ins, fr_exo, own_exo, nz_exo, fr_fn, own_fn, nz_fn, eqD_ii, eqD_ss, eqD_bb, eqD_nn, eqD_sn, eqD_ns, eqD_ll, eqD_tt, eqDs_nn, eqDs_cn, eqDs_nc, eqDs_cc, shp_i, shp_b, shp_n, shp_s, shp_l, shp_t, shps_n, shps_c, id_eq, ↓dTry, ↓dIs_eq, ↓dWhat_eq, endT_rt, endT_nx, oEq, oIsN, isN, ↓endK_rt, ↓endK_nx, ↓endK_exc, ↓turnK_nx, ↓turnK_ct, ↓turnK_bk, ↓turnK_rt, ↓turnK_exc, List.set_cons_zero, List.set_cons_succ, List.all_cons, List.all_nil, List.map_cons, List.map_nil, Bool.and_true, Bool.and_self, Bool.true_and, Bool.not_true, Bool.not_false, true_and, and_true, List.take_succ_cons, List.take_zero, List.cons_append, List.nil_append, Bool.false_eq_true, if_false, if_true, ite_false, ite_true, wb_n, wb_sl, wb_vc, wb_vn, wb_v1, wb_v2, wb_v3, wb_v4, wb_v5, wb_v6, unb, reb, List.length_cons, List.length_nil, ↓dVar_r, ↓dFr_r, ↓dSet_r, ↓dgN_r, ↓dPut_r, ↓dApp_r, ↓dB_r, ↓dAndV_r, ↓dOrV_r, ↓dNotV_r, ↓dChn_r, ↓dSl_r, ↓dLenSet_r, ↓dItS_r, ↓dItL_r, ↓dItT_r, ↓dPs_r, eAt_c, exF_ok, putK_li, appK_l, blK_b, slK_s, slK_l, oIx_l, oIx_k, oIx_t, oIx_s, oAll_m, stK_b, seqK_l, seqK_k, tupK_t, inK_b, dAt_non, dAt_bl, dAt_int, dAt_str, dAt_tup, dAt_lst, dAt_klst, dAt_dic, dAt_ins, dAt_exo, dAt_fn, dAt_und, oAdd_ii, oAdd_ss, oAdd_ll, oAdd_tt, oOrd_ii, oOrd_ss, oInS_r, oInt_r, oInt0_r, oLen_l, oLen_k, oLen_t, oLen_s, oAbs_r, oInt1_i, oInt1_b, oReprB_r, int1_r, int2_r, isLst_l, see_v, see_s, sea_v, sea_s, ↓dIdx, ↓dFld, ↓dFset, ↓dJoin, ↓dListOf, ↓dMeth, ↓dMake_r, ↓dAsgG, ↓dLcN, ↓dLc2, idxK_ss, isStr_s, fldK_0, fldK_S, fsetK_r, isIns_i, dgTup_t, dgSeq_l, dgSeq_k, dgCons_c, dgNil_n, rowK_l, rowK_k, rowK_t, oTup_l, oTup_k, oTup_t, ↓dLoan_r, lnK_ok, lnK_exc, lnE_t, lnE_f, lnE_n, olE_c, olE_n, Bool.true_or, Bool.or_true, Bool.false_or, lf_non, lf_bl, lf_int, lf_str, lf_tup, lf_ins, lfs_n, lfs_c, fr2_l, ol_l, ↓dNeg, ngK_i, oRepS_r, ↓dApp2, ↓dPop2, ↓dPut2, sbK_l, opApp, opPop, opPut, ↓dAppSelf, ↓dAsg3, ↓dTru, truK_b, truK_l, ↓dExt, extK_l, oMin2_r, oIsB_r, ↓dSortSet, ↓dReprT, oEqS_r, ↓dCat, catK_l, ↓dItV, itK_s, itK_t, itK_l, itK_k, ↓dDisp1_r, tkK_ii, ↓dDget, ↓dDin, ↓dDput, dkK_tr, dkK_oi, dkK_os, dputK_t, dputK_oi, dputK_os]
  refine ⟨⟨by omega, by omega⟩, by rw [rngD_len]; omega, ?_⟩
  refine lc_dn (fun i acc => ∃ bs : List Bool, acc = bs.map .bl ∧ bs.length = i) ⟨[], rfl, rfl⟩ ?_ ?_
  · rintro i d acc N hd ⟨bs, rfl, hl⟩ kN
    obtain ⟨hi, rfl⟩ := rngD_get hd
    simp only [↓dSeq, ↓dIfS, ↓dRet, ↓dRetN, ↓dSkip, ↓dBrk, ↓dCnt, ↓dPk, ↓dC, ↓dO, ↓d2, ↓dNotT, ↓dAndT, ↓dOrT, ↓dIf, ↓dNil, ↓dCons, ↓dNilL, ↓dConsL, ↓dTup, ↓dLst, ↓dBI, ↓dOwnL, ↓dCall, ↓dRng1, ↓dRng2, ↓dFor, ↓dRaise, ↓dRaise0, ↓dPn, ↓dYes, ↓dLc, ↓dExp, ↓onOk_ok, ↓onOk_exc, ↓onFl_ok, ↓onFl_exc, gt0, gtS, Vi.frs, fr_non, own_non, own_und, nz_non, fr_bl, own_bl, nz_bl, fr_int, own_int, nz_int, fr_str, own_str, nz_str, fr_tup, own_tup, nz_tup, fr_lst, own_lst, nz_lst, fr_klst, own_klst, nz_klst, fr_dic, own_dic, nz_dic, fr_ins, own_ins, nz_ins, fr_exo, own_exo, nz_exo, fr_fn, own_fn, nz_fn, eqD_ii, eqD_ss, eqD_bb, eqD_nn, eqD_sn, eqD_ns, eqD_ll, eqD_tt, eqDs_nn, eqDs_cn, eqDs_nc, eqDs_cc, shp_i, shp_b, shp_n, shp_s, shp_l, shp_t, shps_n, shps_c, id_eq, ↓dTry, ↓dIs_eq, ↓dWhat_eq, endT_rt, endT_nx, oEq, oIsN, isN, ↓endK_rt, ↓endK_nx, ↓endK_exc, ↓turnK_nx, ↓turnK_ct, ↓turnK_bk, ↓turnK_rt, ↓turnK_exc, List.set_cons_zero, List.set_cons_succ, List.all_cons, List.all_nil, List.map_cons, List.map_nil, Bool.and_true, Bool.and_self, Bool.true_and, Bool.not_true, Bool.not_false, true_and, and_true, List.take_succ_cons, List.take_zero, List.cons_append, List.nil_append, Bool.false_eq_true, if_false, if_true, ite_false, ite_true, wb_n, wb_sl, wb_vc, wb_vn, wb_v1, wb_v2, wb_v3, wb_v4, wb_v5, wb_v6, unb, reb, List.length_cons, List.length_nil, ↓dVar_r, ↓dFr_r, ↓dSet_r, ↓dgN_r, ↓dPut_r, ↓dApp_r, ↓dB_r, ↓dAndV_r, ↓dOrV_r, ↓dNotV_r, ↓dChn_r, ↓dSl_r, ↓dLenSet_r, ↓dItS_r, ↓dItL_r, ↓dItT_r, ↓dPs_r, eAt_c, exF_ok, putK_li, appK_l, blK_b, slK_s, slK_l, oIx_l, oIx_k, oIx_t, oIx_s, oAll_m, stK_b, seqK_l, seqK_k, tupK_t, inK_b, dAt_non, dAt_bl, dAt_int, dAt_str, dAt_tup, dAt_lst, dAt_klst, dAt_dic, dAt_ins, dAt_exo, dAt_fn, dAt_und, oAdd_ii, oAdd_ss, oAdd_ll, oAdd_tt, oOrd_ii, oOrd_ss, oInS_r, oInt_r, oInt0_r, oLen_l, oLen_k, oLen_t, oLen_s, oAbs_r, oInt1_i, oInt1_b, oReprB_r, int1_r, int2_r, isLst_l, see_v, see_s, sea_v, sea_s, ↓dIdx, ↓dFld, ↓dFset, ↓dJoin, ↓dListOf, ↓dMeth, ↓dMake_r, ↓dAsgG, ↓dLcN, ↓dLc2, idxK_ss, isStr_s, fldK_0, fldK_S, fsetK_r, isIns_i, dgTup_t, dgSeq_l, dgSeq_k, dgCons_c, dgNil_n, rowK_l, rowK_k, rowK_t, oTup_l, oTup_k, oTup_t, ↓dLoan_r, lnK_ok, lnK_exc, lnE_t, lnE_f, lnE_n, olE_c, olE_n, Bool.true_or, Bool.or_true, Bool.false_or, lf_non, lf_bl, lf_int, lf_str, lf_tup, lf_ins, lfs_n, lfs_c, fr2_l, ol_l, ↓dNeg, ngK_i, oRepS_r, ↓dApp2, ↓dPop2, ↓dPut2, sbK_l, opApp, opPop, opPut, ↓dAppSelf, ↓dAsg3, ↓dTru, truK_b, truK_l, ↓dExt, extK_l, oMin2_r, oIsB_r, ↓dSortSet, ↓dReprT, oEqS_r, ↓dCat, catK_l, ↓dItV, itK_s, itK_t, itK_l, itK_k, ↓dDisp1_r, tkK_ii, ↓dDget, ↓dDin, ↓dDput, dkK_tr, dkK_oi, dkK_os, dputK_t, dputK_oi, dputK_os]
    refine ⟨.inl ⟨by omega, by omega⟩, by show (0 : Int) < 3; decide, kN _ ⟨bs ++ [_], by rw [List.map_append]; rfl, by rw [List.length_append, hl]; rfl⟩⟩
  · rintro acc ⟨bs, rfl, hl⟩
    rw [rngD_len] at hl
    obtain ⟨N, rfl⟩ : ∃ N : Nat, n = N := ⟨n.toNat, by omega⟩
    have hl : bs.length = N := by omega
    have N0 : 0 < N := by omega
    simp only [b__law_ring_2, ↓dSeq, ↓dIfS, ↓dRet, ↓dRetN, ↓dSkip, ↓dBrk, ↓dCnt, ↓dPk, ↓dC, ↓dO, ↓d2, ↓dNotT, ↓dAndT, ↓dOrT, ↓dIf, ↓dNil, ↓dCons, ↓dNilL, ↓dConsL, ↓dTup, ↓dLst, ↓dBI, ↓dOwnL, ↓dCall, ↓dRng1, ↓dRng2, ↓dFor, ↓dRaise, ↓dRaise0, ↓dPn, ↓dYes, ↓dLc, ↓dExp, ↓onOk_ok, ↓onOk_exc, ↓onFl_ok, ↓onFl_exc, gt0, gtS, Vi.frs, fr_non, own_non, own_und, nz_non, fr_bl, own_bl, nz_bl, fr_int, own_int, nz_int, fr_str, own_str, nz_str, fr_tup, own_tup, nz_tup, fr_lst, own_lst, nz_lst, fr_klst, own_klst, nz_klst, fr_dic, own_dic, nz_dic, fr_ins, own_ins, nz_ins, fr_exo, own_exo, nz_exo, fr_fn, own_fn, nz_fn, eqD_ii, eqD_ss, eqD_bb, eqD_nn, eqD_sn, eqD_ns, eqD_ll, eqD_tt, eqDs_nn, eqDs_cn, eqDs_nc, eqDs_cc, shp_i, shp_b, shp_n, shp_s, shp_l, shp_t, shps_n, shps_c, id_eq, ↓dTry, ↓dIs_eq, ↓dWhat_eq, endT_rt, endT_nx, oEq, oIsN, isN, ↓endK_rt, ↓endK_nx, ↓endK_exc, ↓turnK_nx, ↓turnK_ct, ↓turnK_bk, ↓turnK_rt, ↓turnK_exc, List.set_cons_zero, List.set_cons_succ, List.all_cons, List.all_nil, List.map_cons, List.map_nil, Bool.and_true, Bool.and_self, Bool.true_and, Bool.not_true, Bool.not_false, true_and, and_true, List.take_succ_cons, List.take_zero, List.cons_append, List.nil_append, Bool.false_eq_true, if_false, if_true, ite_false, ite_true, wb_n, wb_sl, wb_vc, wb_vn, wb_v1, wb_v2, wb_v3, wb_v4, wb_v5, wb_v6, unb, reb, List.length_cons, List.length_nil, ↓dVar_r, ↓dFr_r, ↓dSet_r, ↓dgN_r, ↓dPut_r, ↓dApp_r, ↓dB_r, ↓dAndV_r, ↓dOrV_r, ↓dNotV_r, ↓dChn_r, ↓dSl_r, ↓dLenSet_r, ↓dItS_r, ↓dItL_r, ↓dItT_r, ↓dPs_r, eAt_c, exF_ok, putK_li, appK_l, blK_b, slK_s, slK_l, oIx_l, oIx_k, oIx_t, oIx_s, oAll_m, stK_b, seqK_l, seqK_k, tupK_t, inK_b, dAt_non, dAt_bl, dAt_int, dAt_str, dAt_tup, dAt_lst, dAt_klst, dAt_dic, dAt_ins, dAt_exo, dAt_fn, dAt_und, oAdd_ii, oAdd_ss, oAdd_ll, oAdd_tt, oOrd_ii, oOrd_ss, oInS_r, oInt_r, oInt0_r, oLen_l, oLen_k, oLen_t, oLen_s, oAbs_r, oInt1_i, oInt1_b, oReprB_r, int1_r, int2_r, isLst_l, see_v, see_s, sea_v, sea_s, ↓dIdx, ↓dFld, ↓dFset, ↓dJoin, ↓dListOf, ↓dMeth, ↓dMake_r, ↓dAsgG, ↓dLcN, ↓dLc2, idxK_ss, isStr_s, fldK_0, fldK_S, fsetK_r, isIns_i, dgTup_t, dgSeq_l, dgSeq_k, dgCons_c, dgNil_n, rowK_l, rowK_k, rowK_t, oTup_l, oTup_k, oTup_t, ↓dLoan_r, lnK_ok, lnK_exc, lnE_t, lnE_f, lnE_n, olE_c, olE_n, Bool.true_or, Bool.or_true, Bool.false_or, lf_non, lf_bl, lf_int, lf_str, lf_tup, lf_ins, lfs_n, lfs_c, fr2_l, ol_l, ↓dNeg, ngK_i, oRepS_r, ↓dApp2, ↓dPop2, ↓dPut2, sbK_l, opApp, opPop, opPut, ↓dAppSelf, ↓dAsg3, ↓dTru, truK_b, truK_l, ↓dExt, extK_l, oMin2_r, oIsB_r, ↓dSortSet, ↓dReprT, oEqS_r, ↓dCat, catK_l, ↓dItV, itK_s, itK_t, itK_l, itK_k, ↓dDisp1_r, tkK_ii, ↓dDget, ↓dDin, ↓dDput, dkK_tr, dkK_oi, dkK_os, dputK_t, dputK_oi, dputK_os]
    refine ⟨⟨by omega, by omega⟩, by rw [rngD_len]; omega, ?_⟩
    let row : Nat → List Int := fun k => (List.range L.length).map fun (j : Nat) => ((k : Int) + 1 + (j : Int)) % (N : Int)
    refine lc_dn (fun i acc => acc = ((List.range i).map row).map rowJ) rfl ?_ ?_
    · rintro i d acc M hd rfl kN
      obtain ⟨hi, rfl⟩ := rngD_get hd
      simp only [↓dSeq, ↓dIfS, ↓dRet, ↓dRetN, ↓dSkip, ↓dBrk, ↓dCnt, ↓dPk, ↓dC, ↓dO, ↓d2, ↓dNotT, ↓dAndT, ↓dOrT, ↓dIf, ↓dNil, ↓dCons, ↓dNilL, ↓dConsL, ↓dTup, ↓dLst, ↓dBI, ↓dOwnL, ↓dCall, ↓dRng1, ↓dRng2, ↓dFor, ↓dRaise, ↓dRaise0, ↓dPn, ↓dYes, ↓dLc, ↓dExp, ↓onOk_ok, ↓onOk_exc, ↓onFl_ok, ↓onFl_exc, gt0, gtS, Vi.frs, fr_non, own_non, own_und, nz_non, fr_bl, own_bl, nz_bl, fr_int, own_int, nz_int, fr_str, own_str, nz_str, fr_tup, own_tup, nz_tup, fr_lst, own_lst, nz_lst, fr_klst, own_klst, nz_klst, fr_dic, own_dic, nz_dic, fr_ins, own_ins, nz_ins, fr_exo, own_exo, nz_exo, fr_fn, own_fn, nz_fn, eqD_ii, eqD_ss, eqD_bb, eqD_nn, eqD_sn, eqD_ns, eqD_ll, eqD_tt, eqDs_nn, eqDs_cn, eqDs_nc, eqDs_cc, shp_i, shp_b, shp_n, shp_s, shp_l, shp_t, shps_n, shps_c, id_eq, ↓dTry, ↓dIs_eq, ↓dWhat_eq, endT_rt, endT_nx, oEq, oIsN, isN, ↓endK_rt, ↓endK_nx, ↓endK_exc, ↓turnK_nx, ↓turnK_ct, ↓turnK_bk, ↓turnK_rt, ↓turnK_exc, List.set_cons_zero, List.set_cons_succ, List.all_cons, List.all_nil, List.map_cons, List.map_nil, Bool.and_true, Bool.and_self, Bool.true_and, Bool.not_true, Bool.not_false, true_and, and_true, List.take_succ_cons, List.take_zero, List.cons_append, List.nil_append, Bool.false_eq_true, if_false, if_true, ite_false, ite_true, wb_n, wb_sl, wb_vc, wb_vn, wb_v1, wb_v2, wb_v3, wb_v4, wb_v5, wb_v6, unb, reb, List.length_cons, List.length_nil, ↓dVar_r, ↓dFr_r, ↓dSet_r, ↓dgN_r, ↓dPut_r, ↓dApp_r, ↓dB_r, ↓dAndV_r, ↓dOrV_r, ↓dNotV_r, ↓dChn_r, ↓dSl_r, ↓dLenSet_r, ↓dItS_r, ↓dItL_r, ↓dItT_r, ↓dPs_r, eAt_c, exF_ok, putK_li, appK_l, blK_b, slK_s, slK_l, oIx_l, oIx_k, oIx_t, oIx_s, oAll_m, stK_b, seqK_l, seqK_k, tupK_t, inK_b, dAt_non, dAt_bl, dAt_int, dAt_str, dAt_tup, dAt_lst, dAt_klst, dAt_dic, dAt_ins, dAt_exo, dAt_fn, dAt_und, oAdd_ii, oAdd_ss, oAdd_ll, oAdd_tt, oOrd_ii, oOrd_ss, oInS_r, oInt_r, oInt0_r, oLen_l, oLen_k, oLen_t, oLen_s, oAbs_r, oInt1_i, oInt1_b, oReprB_r, int1_r, int2_r, isLst_l, see_v, see_s, sea_v, sea_s, ↓dIdx, ↓dFld, ↓dFset, ↓dJoin, ↓dListOf, ↓dMeth, ↓dMake_r, ↓dAsgG, ↓dLcN, ↓dLc2, idxK_ss, isStr_s, fldK_0, fldK_S, fsetK_r, isIns_i, dgTup_t, dgSeq_l, dgSeq_k, dgCons_c, dgNil_n, rowK_l, rowK_k, rowK_t, oTup_l, oTup_k, oTup_t, ↓dLoan_r, lnK_ok, lnK_exc, lnE_t, lnE_f, lnE_n, olE_c, olE_n, Bool.true_or, Bool.or_true, Bool.false_or, lf_non, lf_bl, lf_int, lf_str, lf_tup, lf_ins, lfs_n, lfs_c, fr2_l, ol_l, ↓dNeg, ngK_i, oRepS_r, ↓dApp2, ↓dPop2, ↓dPut2, sbK_l, opApp, opPop, opPut, ↓dAppSelf, ↓dAsg3, ↓dTru, truK_b, truK_l, ↓dExt, extK_l, oMin2_r, oIsB_r, ↓dSortSet, ↓dReprT, oEqS_r, ↓dCat, catK_l, ↓dItV, itK_s, itK_t, itK_l, itK_k, ↓dDisp1_r, tkK_ii, ↓dDget, ↓dDin, ↓dDput, dkK_tr, dkK_oi, dkK_os, dputK_t, dputK_oi, dputK_os]
      refine ⟨by omega, ⟨by omega, by omega⟩, by rw [rngD_len]; omega, ?_⟩
      refine lc_dn (fun j acc => acc = ((List.range j).map fun (j : Nat) => ((i : Int) + 1 + (j : Int)) % (N : Int)).map D.int) rfl ?_ ?_
      · rintro j d acc M2 hd2 rfl kN2
        obtain ⟨hj, rfl⟩ := rngD_get hd2
        simp only [↓dSeq, ↓dIfS, ↓dRet, ↓dRetN, ↓dSkip, ↓dBrk, ↓dCnt, ↓dPk, ↓dC, ↓dO, ↓d2, ↓dNotT, ↓dAndT, ↓dOrT, ↓dIf, ↓dNil, ↓dCons, ↓dNilL, ↓dConsL, ↓dTup, ↓dLst, ↓dBI, ↓dOwnL, ↓dCall, ↓dRng1, ↓dRng2, ↓dFor, ↓dRaise, ↓dRaise0, ↓dPn, ↓dYes, ↓dLc, ↓dExp, ↓onOk_ok, ↓onOk_exc, ↓onFl_ok, ↓onFl_exc, gt0, gtS, Vi.frs, fr_non, own_non, own_und, nz_non, fr_bl, own_bl, nz_bl, fr_int, own_int, nz_int, fr_str, own_str, nz_str, fr_tup, own_tup, nz_tup, fr_lst, own_lst, nz_lst, fr_klst, own_klst, nz_klst, fr_dic, own_dic, nz_dic, fr_ins, own_ins, nz_ins, fr_exo, own_exo, nz_exo, fr_fn, own_fn, nz_fn, eqD_ii, eqD_ss, eqD_bb, eqD_nn, eqD_sn, eqD_ns, eqD_ll, eqD_tt, eqDs_nn, eqDs_cn, eqDs_nc, eqDs_cc, shp_i, shp_b, shp_n, shp_s, shp_l, shp_t, shps_n, shps_c, id_eq, ↓dTry, ↓dIs_eq, ↓dWhat_eq, endT_rt, endT_nx, oEq, oIsN, isN, ↓endK_rt, ↓endK_nx, ↓endK_exc, ↓turnK_nx, ↓turnK_ct, ↓turnK_bk, ↓turnK_rt, ↓turnK_exc, List.set_cons_zero, List.set_cons_succ, List.all_cons, List.all_nil, List.map_cons, List.map_nil, Bool.and_true, Bool.and_self, Bool.true_and, Bool.not_true, Bool.not_false, true_and, and_true, List.take_succ_cons, List.take_zero, List.cons_append, List.nil_append, Bool.false_eq_true, if_false, if_true, ite_false, ite_true, wb_n, wb_sl, wb_vc, wb_vn, wb_v1, wb_v2, wb_v3, wb_v4, wb_v5, wb_v6, unb, reb, List.length_cons, List.length_nil, ↓dVar_r, ↓dFr_r, ↓dSet_r, ↓dgN_r, ↓dPut_r, ↓dApp_r, ↓dB_r, ↓dAndV_r, ↓dOrV_r, ↓dNotV_r, ↓dChn_r, ↓dSl_r, ↓dLenSet_r, ↓dItS_r, ↓dItL_r, ↓dItT_r, ↓dPs_r, eAt_c, exF_ok, putK_li, appK_l, blK_b, slK_s, slK_l, oIx_l, oIx_k, oIx_t, oIx_s, oAll_m, stK_b, seqK_l, seqK_k, tupK_t, inK_b, dAt_non, dAt_bl, dAt_int, dAt_str, dAt_tup, dAt_lst, dAt_klst, dAt_dic, dAt_ins, dAt_exo, dAt_fn, dAt_und, oAdd_ii, oAdd_ss, oAdd_ll, oAdd_tt, oOrd_ii, oOrd_ss, oInS_r, oInt_r, oInt0_r, oLen_l, oLen_k, oLen_t, oLen_s, oAbs_r, oInt1_i, oInt1_b, oReprB_r, int1_r, int2_r, isLst_l, see_v, see_s, sea_v, sea_s, ↓dIdx, ↓dFld, ↓dFset, ↓dJoin, ↓dListOf, ↓dMeth, ↓dMake_r, ↓dAsgG, ↓dLcN, ↓dLc2, idxK_ss, isStr_s, fldK_0, fldK_S, fsetK_r, isIns_i, dgTup_t, dgSeq_l, dgSeq_k, dgCons_c, dgNil_n, rowK_l, rowK_k, rowK_t, oTup_l, oTup_k, oTup_t, ↓dLoan_r, lnK_ok, lnK_exc, lnE_t, lnE_f, lnE_n, olE_c, olE_n, Bool.true_or, Bool.or_true, Bool.false_or, lf_non, lf_bl, lf_int, lf_str, lf_tup, lf_ins, lfs_n, lfs_c, fr2_l, ol_l, ↓dNeg, ngK_i, oRepS_r, ↓dApp2, ↓dPop2, ↓dPut2, sbK_l, opApp, opPop, opPut, ↓dAppSelf, ↓dAsg3, ↓dTru, truK_b, truK_l, ↓dExt, extK_l, oMin2_r, oIsB_r, ↓dSortSet, ↓dReprT, oEqS_r, ↓dCat, catK_l, ↓dItV, itK_s, itK_t, itK_l, itK_k, ↓dDisp1_r, tkK_ii, ↓dDget, ↓dDin, ↓dDput, dkK_tr, dkK_oi, dkK_os, dputK_t, dputK_oi, dputK_os]
        refine ⟨h0, kN2 _ ?_⟩
        rw [List.range_succ, List.map_append, List.map_append]
        congr 3
        show (_ : Int) % _ = _ % _
        congr 1
        omega
      · rintro acc rfl
        rw [rngD_len]
        simp only [↓dSeq, ↓dIfS, ↓dRet, ↓dRetN, ↓dSkip, ↓dBrk, ↓dCnt, ↓dPk, ↓dC, ↓dO, ↓d2, ↓dNotT, ↓dAndT, ↓dOrT, ↓dIf, ↓dNil, ↓dCons, ↓dNilL, ↓dConsL, ↓dTup, ↓dLst, ↓dBI, ↓dOwnL, ↓dCall, ↓dRng1, ↓dRng2, ↓dFor, ↓dRaise, ↓dRaise0, ↓dPn, ↓dYes, ↓dLc, ↓dExp, ↓onOk_ok, ↓onOk_exc, ↓onFl_ok, ↓onFl_exc, gt0, gtS, Vi.frs, fr_non, own_non, own_und, nz_non, fr_bl, own_bl, nz_bl, fr_int, own_int, nz_int, fr_str, own_str, nz_str, fr_tup, own_tup, nz_tup, fr_lst, own_lst, nz_lst, fr_klst, own_klst, nz_klst, fr_dic, own_dic, nz_dic, fr_ins, own_ins, nz_ins, fr_exo, own_exo, nz_exo, fr_fn, own_fn, nz_fn, eqD_ii, eqD_ss, eqD_bb, eqD_nn, eqD_sn, eqD_ns, eqD_ll, eqD_tt, eqDs_nn, eqDs_cn, eqDs_nc, eqDs_cc, shp_i, shp_b, shp_n, shp_s, shp_l, shp_t, shps_n, shps_c, id_eq, ↓dTry, ↓dIs_eq, ↓dWhat_eq, endT_rt, endT_nx, oEq, oIsN, isN, ↓endK_rt, ↓endK_nx, ↓endK_exc, ↓turnK_nx, ↓turnK_ct, ↓turnK_bk, ↓turnK_rt, ↓turnK_exc, List.set_cons_zero, List.set_cons_succ, List.all_cons, List.all_nil, List.map_cons, List.map_nil, Bool.and_true, Bool.and_self, Bool.true_and, Bool.not_true, Bool.not_false, true_and, and_true, List.take_succ_cons, List.take_zero, List.cons_append, List.nil_append, Bool.false_eq_true, if_false, if_true, ite_false, ite_true, wb_n, wb_sl, wb_vc, wb_vn, wb_v1, wb_v2, wb_v3, wb_v4, wb_v5, wb_v6, unb, reb, List.length_cons, List.length_nil, ↓dVar_r, ↓dFr_r, ↓dSet_r, ↓dgN_r, ↓dPut_r, ↓dApp_r, ↓dB_r, ↓dAndV_r, ↓dOrV_r, ↓dNotV_r, ↓dChn_r, ↓dSl_r, ↓dLenSet_r, ↓dItS_r, ↓dItL_r, ↓dItT_r, ↓dPs_r, eAt_c, exF_ok, putK_li, appK_l, blK_b, slK_s, slK_l, oIx_l, oIx_k, oIx_t, oIx_s, oAll_m, stK_b, seqK_l, seqK_k, tupK_t, inK_b, dAt_non, dAt_bl, dAt_int, dAt_str, dAt_tup, dAt_lst, dAt_klst, dAt_dic, dAt_ins, dAt_exo, dAt_fn, dAt_und, oAdd_ii, oAdd_ss, oAdd_ll, oAdd_tt, oOrd_ii, oOrd_ss, oInS_r, oInt_r, oInt0_r, oLen_l, oLen_k, oLen_t, oLen_s, oAbs_r, oInt1_i, oInt1_b, oReprB_r, int1_r, int2_r, isLst_l, see_v, see_s, sea_v, sea_s, ↓dIdx, ↓dFld, ↓dFset, ↓dJoin, ↓dListOf, ↓dMeth, ↓dMake_r, ↓dAsgG, ↓dLcN, ↓dLc2, idxK_ss, isStr_s, fldK_0, fldK_S, fsetK_r, isIns_i, dgTup_t, dgSeq_l, dgSeq_k, dgCons_c, dgNil_n, rowK_l, rowK_k, rowK_t, oTup_l, oTup_k, oTup_t, ↓dLoan_r, lnK_ok, lnK_exc, lnE_t, lnE_f, lnE_n, olE_c, olE_n, Bool.true_or, Bool.or_true, Bool.false_or, lf_non, lf_bl, lf_int, lf_str, lf_tup, lf_ins, lfs_n, lfs_c, fr2_l, ol_l, ↓dNeg, ngK_i, oRepS_r, ↓dApp2, ↓dPop2, ↓dPut2, sbK_l, opApp, opPop, opPut, ↓dAppSelf, ↓dAsg3, ↓dTru, truK_b, truK_l, ↓dExt, extK_l, oMin2_r, oIsB_r, ↓dSortSet, ↓dReprT, oEqS_r, ↓dCat, catK_l, ↓dItV, itK_s, itK_t, itK_l, itK_k, ↓dDisp1_r, tkK_ii, ↓dDget, ↓dDin, ↓dDput, dkK_tr, dkK_oi, dkK_os, dputK_t, dputK_oi, dputK_os]
        refine kN _ ?_
        rw [List.range_succ, List.map_append, List.map_append]
        rfl
    · rintro acc rfl
      rw [rngD_len]
      have ok : (ringM N bs L.length).Ok L := ring_ok N0 hl
      have e1 : (Int.toNat (N : Int)) = N := Int.toNat_natCast N
      simp only [e1, ↓dSeq, ↓dIfS, ↓dRet, ↓dRetN, ↓dSkip, ↓dBrk, ↓dCnt, ↓dPk, ↓dC, ↓dO, ↓d2, ↓dNotT, ↓dAndT, ↓dOrT, ↓dIf, ↓dNil, ↓dCons, ↓dNilL, ↓dConsL, ↓dTup, ↓dLst, ↓dBI, ↓dOwnL, ↓dCall, ↓dRng1, ↓dRng2, ↓dFor, ↓dRaise, ↓dRaise0, ↓dPn, ↓dYes, ↓dLc, ↓dExp, ↓onOk_ok, ↓onOk_exc, ↓onFl_ok, ↓onFl_exc, gt0, gtS, Vi.frs, fr_non, own_non, own_und, nz_non, fr_bl, own_bl, nz_bl, fr_int, own_int, nz_int, fr_str, own_str, nz_str, fr_tup, own_tup, nz_tup, fr_lst, own_lst, nz_lst, fr_klst, own_klst, nz_klst, fr_dic, own_dic, nz_dic, fr_ins, own_ins, nz_ins, fr_exo, own_exo, nz_exo, fr_fn, own_fn, nz_fn, eqD_ii, eqD_ss, eqD_bb, eqD_nn, eqD_sn, eqD_ns, eqD_ll, eqD_tt, eqDs_nn, eqDs_cn, eqDs_nc, eqDs_cc, shp_i, shp_b, shp_n, shp_s, shp_l, shp_t, shps_n, shps_c, id_eq, ↓dTry, ↓dIs_eq, ↓dWhat_eq, endT_rt, endT_nx, oEq, oIsN, isN, ↓endK_rt, ↓endK_nx, ↓endK_exc, ↓turnK_nx, ↓turnK_ct, ↓turnK_bk, ↓turnK_rt, ↓turnK_exc, List.set_cons_zero, List.set_cons_succ, List.all_cons, List.all_nil, List.map_cons, List.map_nil, Bool.and_true, Bool.and_self, Bool.true_and, Bool.not_true, Bool.not_false, true_and, and_true, List.take_succ_cons, List.take_zero, List.cons_append, List.nil_append, Bool.false_eq_true, if_false, if_true, ite_false, ite_true, wb_n, wb_sl, wb_vc, wb_vn, wb_v1, wb_v2, wb_v3, wb_v4, wb_v5, wb_v6, unb, reb, List.length_cons, List.length_nil, ↓dVar_r, ↓dFr_r, ↓dSet_r, ↓dgN_r, ↓dPut_r, ↓dApp_r, ↓dB_r, ↓dAndV_r, ↓dOrV_r, ↓dNotV_r, ↓dChn_r, ↓dSl_r, ↓dLenSet_r, ↓dItS_r, ↓dItL_r, ↓dItT_r, ↓dPs_r, eAt_c, exF_ok, putK_li, appK_l, blK_b, slK_s, slK_l, oIx_l, oIx_k, oIx_t, oIx_s, oAll_m, stK_b, seqK_l, seqK_k, tupK_t, inK_b, dAt_non, dAt_bl, dAt_int, dAt_str, dAt_tup, dAt_lst, dAt_klst, dAt_dic, dAt_ins, dAt_exo, dAt_fn, dAt_und, oAdd_ii, oAdd_ss, oAdd_ll, oAdd_tt, oOrd_ii, oOrd_ss, oInS_r, oInt_r, oInt0_r, oLen_l, oLen_k, oLen_t, oLen_s, oAbs_r, oInt1_i, oInt1_b, oReprB_r, int1_r, int2_r, isLst_l, see_v, see_s, sea_v, sea_s, ↓dIdx, ↓dFld, ↓dFset, ↓dJoin, ↓dListOf, ↓dMeth, ↓dMake_r, ↓dAsgG, ↓dLcN, ↓dLc2, idxK_ss, isStr_s, fldK_0, fldK_S, fsetK_r, isIns_i, dgTup_t, dgSeq_l, dgSeq_k, dgCons_c, dgNil_n, rowK_l, rowK_k, rowK_t, oTup_l, oTup_k, oTup_t, ↓dLoan_r, lnK_ok, lnK_exc, lnE_t, lnE_f, lnE_n, olE_c, olE_n, Bool.true_or, Bool.or_true, Bool.false_or, lf_non, lf_bl, lf_int, lf_str, lf_tup, lf_ins, lfs_n, lfs_c, fr2_l, ol_l, ↓dNeg, ngK_i, oRepS_r, ↓dApp2, ↓dPop2, ↓dPut2, sbK_l, opApp, opPop, opPut, ↓dAppSelf, ↓dAsg3, ↓dTru, truK_b, truK_l, ↓dExt, extK_l, oMin2_r, oIsB_r, ↓dSortSet, ↓dReprT, oEqS_r, ↓dCat, catK_l, ↓dItV, itK_s, itK_t, itK_l, itK_k, ↓dDisp1_r, tkK_ii, ↓dDget, ↓dDin, ↓dDput, dkK_tr, dkK_oi, dkK_os, dputK_t, dputK_oi, dputK_os]
      refine make_ma (m := ringM N bs L.length) ok (ok.bd (by omega) (by show bs.length ≤ _; omega)) ?_
      obtain ⟨c0, at0, g0⟩ := atI_ok (xs := L) (i := 0) (Int.le_refl 0) (by omega)
      have gl : L[L.length - 1]? = some (L.getD (L.length - 1) 0) := by
        rw [List.getD_eq_getElem?_getD, List.getElem?_eq_getElem (by omega)]
        rfl
      have atl : atI L (-1) = some (L.getD (L.length - 1) 0) := by
        unfold atI ixN
        rw [if_neg (by decide), if_pos (by omega)]
        show L[(((L.length : Nat) : Int) + -1).toNat]? = _
        rw [show (((L.length : Nat) : Int) + -1).toNat = L.length - 1 by omega, gl]
      generalize L.getD (L.length - 1) 0 = c1 at gl atl
      simp only [b__law_ring_3, ↓dSeq, ↓dIfS, ↓dRet, ↓dRetN, ↓dSkip, ↓dBrk, ↓dCnt, ↓dPk, ↓dC, ↓dO, ↓d2, ↓dNotT, ↓dAndT, ↓dOrT, ↓dIf, ↓dNil, ↓dCons, ↓dNilL, ↓dConsL, ↓dTup, ↓dLst, ↓dBI, ↓dOwnL, ↓dCall, ↓dRng1, ↓dRng2, ↓dFor, ↓dRaise, ↓dRaise0, ↓dPn, ↓dYes, ↓dLc, ↓dExp, ↓onOk_ok, ↓onOk_exc, ↓onFl_ok, ↓onFl_exc, gt0, gtS, Vi.frs, fr_non, own_non, own_und, nz_non, fr_bl, own_bl, nz_bl, fr_int, own_int, nz_int, fr_str, own_str, nz_str, fr_tup, own_tup, nz_tup, fr_lst, own_lst, nz_lst, fr_klst, own_klst, nz_klst, fr_dic, own_dic, nz_dic, fr_ins, own_ins, nz_ins, fr_exo, own_exo, nz_exo, fr_fn, own_fn, nz_fn, eqD_ii, eqD_ss, eqD_bb, eqD_nn, eqD_sn, eqD_ns, eqD_ll, eqD_tt, eqDs_nn, eqDs_cn, eqDs_nc, eqDs_cc, shp_i, shp_b, shp_n, shp_s, shp_l, shp_t, shps_n, shps_c, id_eq, ↓dTry, ↓dIs_eq, ↓dWhat_eq, endT_rt, endT_nx, oEq, oIsN, isN, ↓endK_rt, ↓endK_nx, ↓endK_exc, ↓turnK_nx, ↓turnK_ct, ↓turnK_bk, ↓turnK_rt, ↓turnK_exc, List.set_cons_zero, List.set_cons_succ, List.all_cons, List.all_nil, List.map_cons, List.map_nil, Bool.and_true, Bool.and_self, Bool.true_and, Bool.not_true, Bool.not_false, true_and, and_true, List.take_succ_cons, List.take_zero, List.cons_append, List.nil_append, Bool.false_eq_true, if_false, if_true, ite_false, ite_true, wb_n, wb_sl, wb_vc, wb_vn, wb_v1, wb_v2, wb_v3, wb_v4, wb_v5, wb_v6, unb, reb, List.length_cons, List.length_nil, ↓dVar_r, ↓dFr_r, ↓dSet_r, ↓dgN_r, ↓dPut_r, ↓dApp_r, ↓dB_r, ↓dAndV_r, ↓dOrV_r, ↓dNotV_r, ↓dChn_r, ↓dSl_r, ↓dLenSet_r, ↓dItS_r, ↓dItL_r, ↓dItT_r, ↓dPs_r, eAt_c, exF_ok, putK_li, appK_l, blK_b, slK_s, slK_l, oIx_l, oIx_k, oIx_t, oIx_s, oAll_m, stK_b, seqK_l, seqK_k, tupK_t, inK_b, dAt_non, dAt_bl, dAt_int, dAt_str, dAt_tup, dAt_lst, dAt_klst, dAt_dic, dAt_ins, dAt_exo, dAt_fn, dAt_und, oAdd_ii, oAdd_ss, oAdd_ll, oAdd_tt, oOrd_ii, oOrd_ss, oInS_r, oInt_r, oInt0_r, oLen_l, oLen_k, oLen_t, oLen_s, oAbs_r, oInt1_i, oInt1_b, oReprB_r, int1_r, int2_r, isLst_l, see_v, see_s, sea_v, sea_s, ↓dIdx, ↓dFld, ↓dFset, ↓dJoin, ↓dListOf, ↓dMeth, ↓dMake_r, ↓dAsgG, ↓dLcN, ↓dLc2, idxK_ss, isStr_s, fldK_0, fldK_S, fsetK_r, isIns_i, dgTup_t, dgSeq_l, dgSeq_k, dgCons_c, dgNil_n, rowK_l, rowK_k, rowK_t, oTup_l, oTup_k, oTup_t, ↓dLoan_r, lnK_ok, lnK_exc, lnE_t, lnE_f, lnE_n, olE_c, olE_n, Bool.true_or, Bool.or_true, Bool.false_or, lf_non, lf_bl, lf_int, lf_str, lf_tup, lf_ins, lfs_n, lfs_c, fr2_l, ol_l, ↓dNeg, ngK_i, oRepS_r, ↓dApp2, ↓dPop2, ↓dPut2, sbK_l, opApp, opPop, opPut, ↓dAppSelf, ↓dAsg3, ↓dTru, truK_b, truK_l, ↓dExt, extK_l, oMin2_r, oIsB_r, ↓dSortSet, ↓dReprT, oEqS_r, ↓dCat, catK_l, ↓dItV, itK_s, itK_t, itK_l, itK_k, ↓dDisp1_r, tkK_ii, ↓dDget, ↓dDin, ↓dDput, dkK_tr, dkK_oi, dkK_os, dputK_t, dputK_oi, dputK_os]
      refine ⟨by omega, atS_of at0 ?_⟩
      simp only [↓dSeq, ↓dIfS, ↓dRet, ↓dRetN, ↓dSkip, ↓dBrk, ↓dCnt, ↓dPk, ↓dC, ↓dO, ↓d2, ↓dNotT, ↓dAndT, ↓dOrT, ↓dIf, ↓dNil, ↓dCons, ↓dNilL, ↓dConsL, ↓dTup, ↓dLst, ↓dBI, ↓dOwnL, ↓dCall, ↓dRng1, ↓dRng2, ↓dFor, ↓dRaise, ↓dRaise0, ↓dPn, ↓dYes, ↓dLc, ↓dExp, ↓onOk_ok, ↓onOk_exc, ↓onFl_ok, ↓onFl_exc, gt0, gtS, Vi.frs, fr_non, own_non, own_und, nz_non, fr_bl, own_bl, nz_bl, fr_int, own_int, nz_int, fr_str, own_str, nz_str, fr_tup, own_tup, nz_tup, fr_lst, own_lst, nz_lst, fr_klst, own_klst, nz_klst, fr_dic, own_dic, nz_dic, fr_ins, own_ins, nz_ins, fr_exo, own_exo, nz_exo, fr_fn, own_fn, nz_fn, eqD_ii, eqD_ss, eqD_bb, eqD_nn, eqD_sn, eqD_ns, eqD_ll, eqD_tt, eqDs_nn, eqDs_cn, eqDs_nc, eqDs_cc, shp_i, shp_b, shp_n, shp_s, shp_l, shp_t, shps_n, shps_c, id_eq, ↓dTry, ↓dIs_eq, ↓dWhat_eq, endT_rt, endT_nx, oEq, oIsN, isN, ↓endK_rt, ↓endK_nx, ↓endK_exc, ↓turnK_nx, ↓turnK_ct, ↓turnK_bk, ↓turnK_rt, ↓turnK_exc, List.set_cons_zero, List.set_cons_succ, List.all_cons, List.all_nil, List.map_cons, List.map_nil, Bool.and_true, Bool.and_self, Bool.true_and, Bool.not_true, Bool.not_false, true_and, and_true, List.take_succ_cons, List.take_zero, List.cons_append, List.nil_append, Bool.false_eq_true, if_false, if_true, ite_false, ite_true, wb_n, wb_sl, wb_vc, wb_vn, wb_v1, wb_v2, wb_v3, wb_v4, wb_v5, wb_v6, unb, reb, List.length_cons, List.length_nil, ↓dVar_r, ↓dFr_r, ↓dSet_r, ↓dgN_r, ↓dPut_r, ↓dApp_r, ↓dB_r, ↓dAndV_r, ↓dOrV_r, ↓dNotV_r, ↓dChn_r, ↓dSl_r, ↓dLenSet_r, ↓dItS_r, ↓dItL_r, ↓dItT_r, ↓dPs_r, eAt_c, exF_ok, putK_li, appK_l, blK_b, slK_s, slK_l, oIx_l, oIx_k, oIx_t, oIx_s, oAll_m, stK_b, seqK_l, seqK_k, tupK_t, inK_b, dAt_non, dAt_bl, dAt_int, dAt_str, dAt_tup, dAt_lst, dAt_klst, dAt_dic, dAt_ins, dAt_exo, dAt_fn, dAt_und, oAdd_ii, oAdd_ss, oAdd_ll, oAdd_tt, oOrd_ii, oOrd_ss, oInS_r, oInt_r, oInt0_r, oLen_l, oLen_k, oLen_t, oLen_s, oAbs_r, oInt1_i, oInt1_b, oReprB_r, int1_r, int2_r, isLst_l, see_v, see_s, sea_v, sea_s, ↓dIdx, ↓dFld, ↓dFset, ↓dJoin, ↓dListOf, ↓dMeth, ↓dMake_r, ↓dAsgG, ↓dLcN, ↓dLc2, idxK_ss, isStr_s, fldK_0, fldK_S, fsetK_r, isIns_i, dgTup_t, dgSeq_l, dgSeq_k, dgCons_c, dgNil_n, rowK_l, rowK_k, rowK_t, oTup_l, oTup_k, oTup_t, ↓dLoan_r, lnK_ok, lnK_exc, lnE_t, lnE_f, lnE_n, olE_c, olE_n, Bool.true_or, Bool.or_true, Bool.false_or, lf_non, lf_bl, lf_int, lf_str, lf_tup, lf_ins, lfs_n, lfs_c, fr2_l, ol_l, ↓dNeg, ngK_i, oRepS_r, ↓dApp2, ↓dPop2, ↓dPut2, sbK_l, opApp, opPop, opPut, ↓dAppSelf, ↓dAsg3, ↓dTru, truK_b, truK_l, ↓dExt, extK_l, oMin2_r, oIsB_r, ↓dSortSet, ↓dReprT, oEqS_r, ↓dCat, catK_l, ↓dItV, itK_s, itK_t, itK_l, itK_k, ↓dDisp1_r, tkK_ii, ↓dDget, ↓dDin, ↓dDput, dkK_tr, dkK_oi, dkK_os, dputK_t, dputK_oi, dputK_os]
      refine ⟨by decide, by decide, by decide, by omega, atS_of atl ?_⟩
      simp only [↓dSeq, ↓dIfS, ↓dRet, ↓dRetN, ↓dSkip, ↓dBrk, ↓dCnt, ↓dPk, ↓dC, ↓dO, ↓d2, ↓dNotT, ↓dAndT, ↓dOrT, ↓dIf, ↓dNil, ↓dCons, ↓dNilL, ↓dConsL, ↓dTup, ↓dLst, ↓dBI, ↓dOwnL, ↓dCall, ↓dRng1, ↓dRng2, ↓dFor, ↓dRaise, ↓dRaise0, ↓dPn, ↓dYes, ↓dLc, ↓dExp, ↓onOk_ok, ↓onOk_exc, ↓onFl_ok, ↓onFl_exc, gt0, gtS, Vi.frs, fr_non, own_non, own_und, nz_non, fr_bl, own_bl, nz_bl, fr_int, own_int, nz_int, fr_str, own_str, nz_str, fr_tup, own_tup, nz_tup, fr_lst, own_lst, nz_lst, fr_klst, own_klst, nz_klst, fr_dic, own_dic, nz_dic, fr_ins, own_ins, nz_ins, fr_exo, own_exo, nz_exo, fr_fn, own_fn, nz_fn, eqD_ii, eqD_ss, eqD_bb, eqD_nn, eqD_sn, eqD_ns, eqD_ll, eqD_tt, eqDs_nn, eqDs_cn, eqDs_nc, eqDs_cc, shp_i, shp_b, shp_n, shp_s, shp_l, shp_t, shps_n, shps_c, id_eq, ↓dTry, ↓dIs_eq, ↓dWhat_eq, endT_rt, endT_nx, oEq, oIsN, isN, ↓endK_rt, ↓endK_nx, ↓endK_exc, ↓turnK_nx, ↓turnK_ct, ↓turnK_bk, ↓turnK_rt, ↓turnK_exc, List.set_cons_zero, List.set_cons_succ, List.all_cons, List.all_nil, List.map_cons, List.map_nil, Bool.and_true, Bool.and_self, Bool.true_and, Bool.not_true, Bool.not_false, true_and, and_true, List.take_succ_cons, List.take_zero, List.cons_append, List.nil_append, Bool.false_eq_true, if_false, if_true, ite_false, ite_true, wb_n, wb_sl, wb_vc, wb_vn, wb_v1, wb_v2, wb_v3, wb_v4, wb_v5, wb_v6, unb, reb, List.length_cons, List.length_nil, ↓dVar_r, ↓dFr_r, ↓dSet_r, ↓dgN_r, ↓dPut_r, ↓dApp_r, ↓dB_r, ↓dAndV_r, ↓dOrV_r, ↓dNotV_r, ↓dChn_r, ↓dSl_r, ↓dLenSet_r, ↓dItS_r, ↓dItL_r, ↓dItT_r, ↓dPs_r, eAt_c, exF_ok, putK_li, appK_l, blK_b, slK_s, slK_l, oIx_l, oIx_k, oIx_t, oIx_s, oAll_m, stK_b, seqK_l, seqK_k, tupK_t, inK_b, dAt_non, dAt_bl, dAt_int, dAt_str, dAt_tup, dAt_lst, dAt_klst, dAt_dic, dAt_ins, dAt_exo, dAt_fn, dAt_und, oAdd_ii, oAdd_ss, oAdd_ll, oAdd_tt, oOrd_ii, oOrd_ss, oInS_r, oInt_r, oInt0_r, oLen_l, oLen_k, oLen_t, oLen_s, oAbs_r, oInt1_i, oInt1_b, oReprB_r, int1_r, int2_r, isLst_l, see_v, see_s, sea_v, sea_s, ↓dIdx, ↓dFld, ↓dFset, ↓dJoin, ↓dListOf, ↓dMeth, ↓dMake_r, ↓dAsgG, ↓dLcN, ↓dLc2, idxK_ss, isStr_s, fldK_0, fldK_S, fsetK_r, isIns_i, dgTup_t, dgSeq_l, dgSeq_k, dgCons_c, dgNil_n, rowK_l, rowK_k, rowK_t, oTup_l, oTup_k, oTup_t, ↓dLoan_r, lnK_ok, lnK_exc, lnE_t, lnE_f, lnE_n, olE_c, olE_n, Bool.true_or, Bool.or_true, Bool.false_or, lf_non, lf_bl, lf_int, lf_str, lf_tup, lf_ins, lfs_n, lfs_c, fr2_l, ol_l, ↓dNeg, ngK_i, oRepS_r, ↓dApp2, ↓dPop2, ↓dPut2, sbK_l, opApp, opPop, opPut, ↓dAppSelf, ↓dAsg3, ↓dTru, truK_b, truK_l, ↓dExt, extK_l, oMin2_r, oIsB_r, ↓dSortSet, ↓dReprT, oEqS_r, ↓dCat, catK_l, ↓dItV, itK_s, itK_t, itK_l, itK_k, ↓dDisp1_r, tkK_ii, ↓dDget, ↓dDin, ↓dDput, dkK_tr, dkK_oi, dkK_os, dputK_t, dputK_oi, dputK_os]
      refine ⟨by decide, by decide, by decide, ?_⟩
      have f7 : (List.replicate (Int.toNat 700) [c0]).flatten = List.replicate 700 c0 := List.flatten_replicate_singleton
      have f3 : (List.replicate (Int.toNat 300) [c1]).flatten = List.replicate 300 c1 := List.flatten_replicate_singleton
      rw [f7, f3]
      have mem : ∀ c ∈ List.replicate 700 c0 ++ List.replicate 300 c1, c ∈ L := fun c hc => (List.mem_append.mp hc).elim (fun h => by rw [(List.mem_replicate.mp h).2]; exact List.mem_of_getElem? g0) fun h => by rw [(List.mem_replicate.mp h).2]; exact List.mem_of_getElem? gl
      have len : (List.replicate 700 c0 ++ List.replicate 300 c1).length = 1000 := by rw [List.length_append, List.length_replicate, List.length_replicate]
      have run : (ringM N bs L.length).run L 0 (List.replicate 700 c0 ++ List.replicate 300 c1) = (700 + 300 * (L.length : Int)) % (N : Int) := by
        have r1 : (ringM N bs L.length).run L 0 (List.replicate 700 c0 ++ List.replicate 300 c1) = (ringM N bs L.length).run L ((ringM N bs L.length).run L 0 (List.replicate 700 c0)) (List.replicate 300 c1) := by
          unfold MA.run
          rw [List.foldl_append]
        rw [r1, ring_rep (idx_nodup nd g0) l0 N0 700 (Int.le_refl 0) h0, ring_rep (idx_nodup nd gl) (by omega) N0 300 (Int.emod_nonneg _ (by omega)) (Int.emod_lt_of_pos _ h0), Int.emod_add_emod]
        congr 1
        have : ((L.length - 1 : Nat) : Int) = (L.length : Int) - 1 := by omega
        rw [this]
        show (0 : Int) + 700 * (1 + 0) + 300 * _ = _
        omega
      generalize List.replicate 700 c0 ++ List.replicate 300 c1 = t at mem len run
      have two : (List.replicate 700 c0).length + (List.replicate 300 c1).length ≤ 1000000 := by rw [List.length_replicate, List.length_replicate]; decide
      refine ⟨two, ?_⟩
      simp only [b__law_ring_4, ↓dSeq, ↓dIfS, ↓dRet, ↓dRetN, ↓dSkip, ↓dBrk, ↓dCnt, ↓dPk, ↓dC, ↓dO, ↓d2, ↓dNotT, ↓dAndT, ↓dOrT, ↓dIf, ↓dNil, ↓dCons, ↓dNilL, ↓dConsL, ↓dTup, ↓dLst, ↓dBI, ↓dOwnL, ↓dCall, ↓dRng1, ↓dRng2, ↓dFor, ↓dRaise, ↓dRaise0, ↓dPn, ↓dYes, ↓dLc, ↓dExp, ↓onOk_ok, ↓onOk_exc, ↓onFl_ok, ↓onFl_exc, gt0, gtS, Vi.frs, fr_non, own_non, own_und, nz_non, fr_bl, own_bl, nz_bl, fr_int, own_int, nz_int, fr_str, own_str, nz_str, fr_tup, own_tup, nz_tup, fr_lst, own_lst, nz_lst, fr_klst, own_klst, nz_klst, fr_dic, own_dic, nz_dic, fr_ins, own_ins, nz_ins, fr_exo, own_exo, nz_exo, fr_fn, own_fn, nz_fn, eqD_ii, eqD_ss, eqD_bb, eqD_nn, eqD_sn, eqD_ns, eqD_ll, eqD_tt, eqDs_nn, eqDs_cn, eqDs_nc, eqDs_cc, shp_i, shp_b, shp_n, shp_s, shp_l, shp_t, shps_n, shps_c, id_eq, ↓dTry, ↓dIs_eq, ↓dWhat_eq, endT_rt, endT_nx, oEq, oIsN, isN, ↓endK_rt, ↓endK_nx, ↓endK_exc, ↓turnK_nx, ↓turnK_ct, ↓turnK_bk, ↓turnK_rt, ↓turnK_exc, List.set_cons_zero, List.set_cons_succ, List.all_cons, List.all_nil, List.map_cons, List.map_nil, Bool.and_true, Bool.and_self, Bool.true_and, Bool.not_true, Bool.not_false, true_and, and_true, List.take_succ_cons, List.take_zero, List.cons_append, List.nil_append, Bool.false_eq_true, if_false, if_true, ite_false, ite_true, wb_n, wb_sl, wb_vc, wb_vn, wb_v1, wb_v2, wb_v3, wb_v4, wb_v5, wb_v6, unb, reb, List.length_cons, List.length_nil, ↓dVar_r, ↓dFr_r, ↓dSet_r, ↓dgN_r, ↓dPut_r, ↓dApp_r, ↓dB_r, ↓dAndV_r, ↓dOrV_r, ↓dNotV_r, ↓dChn_r, ↓dSl_r, ↓dLenSet_r, ↓dItS_r, ↓dItL_r, ↓dItT_r, ↓dPs_r, eAt_c, exF_ok, putK_li, appK_l, blK_b, slK_s, slK_l, oIx_l, oIx_k, oIx_t, oIx_s, oAll_m, stK_b, seqK_l, seqK_k, tupK_t, inK_b, dAt_non, dAt_bl, dAt_int, dAt_str, dAt_tup, dAt_lst, dAt_klst, dAt_dic, dAt_ins, dAt_exo, dAt_fn, dAt_und, oAdd_ii, oAdd_ss, oAdd_ll, oAdd_tt, oOrd_ii, oOrd_ss, oInS_r, oInt_r, oInt0_r, oLen_l, oLen_k, oLen_t, oLen_s, oAbs_r, oInt1_i, oInt1_b, oReprB_r, int1_r, int2_r, isLst_l, see_v, see_s, sea_v, sea_s, ↓dIdx, ↓dFld, ↓dFset, ↓dJoin, ↓dListOf, ↓dMeth, ↓dMake_r, ↓dAsgG, ↓dLcN, ↓dLc2, idxK_ss, isStr_s, fldK_0, fldK_S, fsetK_r, isIns_i, dgTup_t, dgSeq_l, dgSeq_k, dgCons_c, dgNil_n, rowK_l, rowK_k, rowK_t, oTup_l, oTup_k, oTup_t, ↓dLoan_r, lnK_ok, lnK_exc, lnE_t, lnE_f, lnE_n, olE_c, olE_n, Bool.true_or, Bool.or_true, Bool.false_or, lf_non, lf_bl, lf_int, lf_str, lf_tup, lf_ins, lfs_n, lfs_c, fr2_l, ol_l, ↓dNeg, ngK_i, oRepS_r, ↓dApp2, ↓dPop2, ↓dPut2, sbK_l, opApp, opPop, opPut, ↓dAppSelf, ↓dAsg3, ↓dTru, truK_b, truK_l, ↓dExt, extK_l, oMin2_r, oIsB_r, ↓dSortSet, ↓dReprT, oEqS_r, ↓dCat, catK_l, ↓dItV, itK_s, itK_t, itK_l, itK_k, ↓dDisp1_r, tkK_ii, ↓dDget, ↓dDin, ↓dDput, dkK_tr, dkK_oi, dkK_os, dputK_t, dputK_oi, dputK_os]
      refine ⟨by omega, .inl ⟨by omega, by omega⟩, h0, ?_⟩
      have q0 : 0 ≤ (700 + 300 * (L.length : Int)) % (N : Int) := Int.emod_nonneg _ (by omega)
      have q1 : (700 + 300 * (L.length : Int)) % (N : Int) < (bs.length : Int) := by rw [hl]; exact Int.emod_lt_of_pos _ h0
      simp only [b__law_ring_5, ↓dSeq, ↓dIfS, ↓dRet, ↓dRetN, ↓dSkip, ↓dBrk, ↓dCnt, ↓dPk, ↓dC, ↓dO, ↓d2, ↓dNotT, ↓dAndT, ↓dOrT, ↓dIf, ↓dNil, ↓dCons, ↓dNilL, ↓dConsL, ↓dTup, ↓dLst, ↓dBI, ↓dOwnL, ↓dCall, ↓dRng1, ↓dRng2, ↓dFor, ↓dRaise, ↓dRaise0, ↓dPn, ↓dYes, ↓dLc, ↓dExp, ↓onOk_ok, ↓onOk_exc, ↓onFl_ok, ↓onFl_exc, gt0, gtS, Vi.frs, fr_non, own_non, own_und, nz_non, fr_bl, own_bl, nz_bl, fr_int, own_int, nz_int, fr_str, own_str, nz_str, fr_tup, own_tup, nz_tup, fr_lst, own_lst, nz_lst, fr_klst, own_klst, nz_klst, fr_dic, own_dic, nz_dic, fr_ins, own_ins, nz_ins, fr_exo, own_exo, nz_exo, fr_fn, own_fn, nz_fn, eqD_ii, eqD_ss, eqD_bb, eqD_nn, eqD_sn, eqD_ns, eqD_ll, eqD_tt, eqDs_nn, eqDs_cn, eqDs_nc, eqDs_cc, shp_i, shp_b, shp_n, shp_s, shp_l, shp_t, shps_n, shps_c, id_eq, ↓dTry, ↓dIs_eq, ↓dWhat_eq, endT_rt, endT_nx, oEq, oIsN, isN, ↓endK_rt, ↓endK_nx, ↓endK_exc, ↓turnK_nx, ↓turnK_ct, ↓turnK_bk, ↓turnK_rt, ↓turnK_exc, List.set_cons_zero, List.set_cons_succ, List.all_cons, List.all_nil, List.map_cons, List.map_nil, Bool.and_true, Bool.and_self, Bool.true_and, Bool.not_true, Bool.not_false, true_and, and_true, List.take_succ_cons, List.take_zero, List.cons_append, List.nil_append, Bool.false_eq_true, if_false, if_true, ite_false, ite_true, wb_n, wb_sl, wb_vc, wb_vn, wb_v1, wb_v2, wb_v3, wb_v4, wb_v5, wb_v6, unb, reb, List.length_cons, List.length_nil, ↓dVar_r, ↓dFr_r, ↓dSet_r, ↓dgN_r, ↓dPut_r, ↓dApp_r, ↓dB_r, ↓dAndV_r, ↓dOrV_r, ↓dNotV_r, ↓dChn_r, ↓dSl_r, ↓dLenSet_r, ↓dItS_r, ↓dItL_r, ↓dItT_r, ↓dPs_r, eAt_c, exF_ok, putK_li, appK_l, blK_b, slK_s, slK_l, oIx_l, oIx_k, oIx_t, oIx_s, oAll_m, stK_b, seqK_l, seqK_k, tupK_t, inK_b, dAt_non, dAt_bl, dAt_int, dAt_str, dAt_tup, dAt_lst, dAt_klst, dAt_dic, dAt_ins, dAt_exo, dAt_fn, dAt_und, oAdd_ii, oAdd_ss, oAdd_ll, oAdd_tt, oOrd_ii, oOrd_ss, oInS_r, oInt_r, oInt0_r, oLen_l, oLen_k, oLen_t, oLen_s, oAbs_r, oInt1_i, oInt1_b, oReprB_r, int1_r, int2_r, isLst_l, see_v, see_s, sea_v, sea_s, ↓dIdx, ↓dFld, ↓dFset, ↓dJoin, ↓dListOf, ↓dMeth, ↓dMake_r, ↓dAsgG, ↓dLcN, ↓dLc2, idxK_ss, isStr_s, fldK_0, fldK_S, fsetK_r, isIns_i, dgTup_t, dgSeq_l, dgSeq_k, dgCons_c, dgNil_n, rowK_l, rowK_k, rowK_t, oTup_l, oTup_k, oTup_t, ↓dLoan_r, lnK_ok, lnK_exc, lnE_t, lnE_f, lnE_n, olE_c, olE_n, Bool.true_or, Bool.or_true, Bool.false_or, lf_non, lf_bl, lf_int, lf_str, lf_tup, lf_ins, lfs_n, lfs_c, fr2_l, ol_l, ↓dNeg, ngK_i, oRepS_r, ↓dApp2, ↓dPop2, ↓dPut2, sbK_l, opApp, opPop, opPut, ↓dAppSelf, ↓dAsg3, ↓dTru, truK_b, truK_l, ↓dExt, extK_l, oMin2_r, oIsB_r, ↓dSortSet, ↓dReprT, oEqS_r, ↓dCat, catK_l, ↓dItV, itK_s, itK_t, itK_l, itK_k, ↓dDisp1_r, tkK_ii, ↓dDget, ↓dDin, ↓dDput, dkK_tr, dkK_oi, dkK_os, dputK_t, dputK_oi, dputK_os]
      refine call_step rfl rfl rfl ⟨L, ringM N bs L.length, t, rfl, ok, mem, by omega, fun posts hp => ⟨hp, ?_⟩⟩
      rw [run]
      simp only [beq_self_eq_true, ↓dSeq, ↓dIfS, ↓dRet, ↓dRetN, ↓dSkip, ↓dBrk, ↓dCnt, ↓dPk, ↓dC, ↓dO, ↓d2, ↓dNotT, ↓dAndT, ↓dOrT, ↓dIf, ↓dNil, ↓dCons, ↓dNilL, ↓dConsL, ↓dTup, ↓dLst, ↓dBI, ↓dOwnL, ↓dCall, ↓dRng1, ↓dRng2, ↓dFor, ↓dRaise, ↓dRaise0, ↓dPn, ↓dYes, ↓dLc, ↓dExp, ↓onOk_ok, ↓onOk_exc, ↓onFl_ok, ↓onFl_exc, gt0, gtS, Vi.frs, fr_non, own_non, own_und, nz_non, fr_bl, own_bl, nz_bl, fr_int, own_int, nz_int, fr_str, own_str, nz_str, fr_tup, own_tup, nz_tup, fr_lst, own_lst, nz_lst, fr_klst, own_klst, nz_klst, fr_dic, own_dic, nz_dic, fr_ins, own_ins, nz_ins, fr_exo, own_exo, nz_exo, fr_fn, own_fn, nz_fn, eqD_ii, eqD_ss, eqD_bb, eqD_nn, eqD_sn, eqD_ns, eqD_ll, eqD_tt, eqDs_nn, eqDs_cn, eqDs_nc, eqDs_cc, shp_i, shp_b, shp_n, shp_s, shp_l, shp_t, shps_n, shps_c, id_eq, ↓dTry, ↓dIs_eq, ↓dWhat_eq, endT_rt, endT_nx, oEq, oIsN, isN, ↓endK_rt, ↓endK_nx, ↓endK_exc, ↓turnK_nx, ↓turnK_ct, ↓turnK_bk, ↓turnK_rt, ↓turnK_exc, List.set_cons_zero, List.set_cons_succ, List.all_cons, List.all_nil, List.map_cons, List.map_nil, Bool.and_true, Bool.and_self, Bool.true_and, Bool.not_true, Bool.not_false, true_and, and_true, List.take_succ_cons, List.take_zero, List.cons_append, List.nil_append, Bool.false_eq_true, if_false, if_true, ite_false, ite_true, wb_n, wb_sl, wb_vc, wb_vn, wb_v1, wb_v2, wb_v3, wb_v4, wb_v5, wb_v6, unb, reb, List.length_cons, List.length_nil, ↓dVar_r, ↓dFr_r, ↓dSet_r, ↓dgN_r, ↓dPut_r, ↓dApp_r, ↓dB_r, ↓dAndV_r, ↓dOrV_r, ↓dNotV_r, ↓dChn_r, ↓dSl_r, ↓dLenSet_r, ↓dItS_r, ↓dItL_r, ↓dItT_r, ↓dPs_r, eAt_c, exF_ok, putK_li, appK_l, blK_b, slK_s, slK_l, oIx_l, oIx_k, oIx_t, oIx_s, oAll_m, stK_b, seqK_l, seqK_k, tupK_t, inK_b, dAt_non, dAt_bl, dAt_int, dAt_str, dAt_tup, dAt_lst, dAt_klst, dAt_dic, dAt_ins, dAt_exo, dAt_fn, dAt_und, oAdd_ii, oAdd_ss, oAdd_ll, oAdd_tt, oOrd_ii, oOrd_ss, oInS_r, oInt_r, oInt0_r, oLen_l, oLen_k, oLen_t, oLen_s, oAbs_r, oInt1_i, oInt1_b, oReprB_r, int1_r, int2_r, isLst_l, see_v, see_s, sea_v, sea_s, ↓dIdx, ↓dFld, ↓dFset, ↓dJoin, ↓dListOf, ↓dMeth, ↓dMake_r, ↓dAsgG, ↓dLcN, ↓dLc2, idxK_ss, isStr_s, fldK_0, fldK_S, fsetK_r, isIns_i, dgTup_t, dgSeq_l, dgSeq_k, dgCons_c, dgNil_n, rowK_l, rowK_k, rowK_t, oTup_l, oTup_k, oTup_t, ↓dLoan_r, lnK_ok, lnK_exc, lnE_t, lnE_f, lnE_n, olE_c, olE_n, Bool.true_or, Bool.or_true, Bool.false_or, lf_non, lf_bl, lf_int, lf_str, lf_tup, lf_ins, lfs_n, lfs_c, fr2_l, ol_l, ↓dNeg, ngK_i, oRepS_r, ↓dApp2, ↓dPop2, ↓dPut2, sbK_l, opApp, opPop, opPut, ↓dAppSelf, ↓dAsg3, ↓dTru, truK_b, truK_l, ↓dExt, extK_l, oMin2_r, oIsB_r, ↓dSortSet, ↓dReprT, oEqS_r, ↓dCat, catK_l, ↓dItV, itK_s, itK_t, itK_l, itK_k, ↓dDisp1_r, tkK_ii, ↓dDget, ↓dDin, ↓dDput, dkK_tr, dkK_oi, dkK_os, dputK_t, dputK_oi, dputK_os]
      refine call_step rfl rfl rfl ⟨L, ringM N bs L.length, t, rfl, ok, mem, by omega, fun posts hp => ⟨hp, ?_⟩⟩
      simp only [↓dSeq, ↓dIfS, ↓dRet, ↓dRetN, ↓dSkip, ↓dBrk, ↓dCnt, ↓dPk, ↓dC, ↓dO, ↓d2, ↓dNotT, ↓dAndT, ↓dOrT, ↓dIf, ↓dNil, ↓dCons, ↓dNilL, ↓dConsL, ↓dTup, ↓dLst, ↓dBI, ↓dOwnL, ↓dCall, ↓dRng1, ↓dRng2, ↓dFor, ↓dRaise, ↓dRaise0, ↓dPn, ↓dYes, ↓dLc, ↓dExp, ↓onOk_ok, ↓onOk_exc, ↓onFl_ok, ↓onFl_exc, gt0, gtS, Vi.frs, fr_non, own_non, own_und, nz_non, fr_bl, own_bl, nz_bl, fr_int, own_int, nz_int, fr_str, own_str, nz_str, fr_tup, own_tup, nz_tup, fr_lst, own_lst, nz_lst, fr_klst, own_klst, nz_klst, fr_dic, own_dic, nz_dic, fr_ins, own_ins, nz_ins, fr_exo, own_exo, nz_exo, fr_fn, own_fn, nz_fn, eqD_ii, eqD_ss, eqD_bb, eqD_nn, eqD_sn, eqD_ns, eqD_ll, eqD_tt, eqDs_nn, eqDs_cn, eqDs_nc, eqDs_cc, shp_i, shp_b, shp_n, shp_s, shp_l, shp_t, shps_n, shps_c, id_eq, ↓dTry, ↓dIs_eq, ↓dWhat_eq, endT_rt, endT_nx, oEq, oIsN, isN, ↓endK_rt, ↓endK_nx, ↓endK_exc, ↓turnK_nx, ↓turnK_ct, ↓turnK_bk, ↓turnK_rt, ↓turnK_exc, List.set_cons_zero, List.set_cons_succ, List.all_cons, List.all_nil, List.map_cons, List.map_nil, Bool.and_true, Bool.and_self, Bool.true_and, Bool.not_true, Bool.not_false, true_and, and_true, List.take_succ_cons, List.take_zero, List.cons_append, List.nil_append, Bool.false_eq_true, if_false, if_true, ite_false, ite_true, wb_n, wb_sl, wb_vc, wb_vn, wb_v1, wb_v2, wb_v3, wb_v4, wb_v5, wb_v6, unb, reb, List.length_cons, List.length_nil, ↓dVar_r, ↓dFr_r, ↓dSet_r, ↓dgN_r, ↓dPut_r, ↓dApp_r, ↓dB_r, ↓dAndV_r, ↓dOrV_r, ↓dNotV_r, ↓dChn_r, ↓dSl_r, ↓dLenSet_r, ↓dItS_r, ↓dItL_r, ↓dItT_r, ↓dPs_r, eAt_c, exF_ok, putK_li, appK_l, blK_b, slK_s, slK_l, oIx_l, oIx_k, oIx_t, oIx_s, oAll_m, stK_b, seqK_l, seqK_k, tupK_t, inK_b, dAt_non, dAt_bl, dAt_int, dAt_str, dAt_tup, dAt_lst, dAt_klst, dAt_dic, dAt_ins, dAt_exo, dAt_fn, dAt_und, oAdd_ii, oAdd_ss, oAdd_ll, oAdd_tt, oOrd_ii, oOrd_ss, oInS_r, oInt_r, oInt0_r, oLen_l, oLen_k, oLen_t, oLen_s, oAbs_r, oInt1_i, oInt1_b, oReprB_r, int1_r, int2_r, isLst_l, see_v, see_s, sea_v, sea_s, ↓dIdx, ↓dFld, ↓dFset, ↓dJoin, ↓dListOf, ↓dMeth, ↓dMake_r, ↓dAsgG, ↓dLcN, ↓dLc2, idxK_ss, isStr_s, fldK_0, fldK_S, fsetK_r, isIns_i, dgTup_t, dgSeq_l, dgSeq_k, dgCons_c, dgNil_n, rowK_l, rowK_k, rowK_t, oTup_l, oTup_k, oTup_t, ↓dLoan_r, lnK_ok, lnK_exc, lnE_t, lnE_f, lnE_n, olE_c, olE_n, Bool.true_or, Bool.or_true, Bool.false_or, lf_non, lf_bl, lf_int, lf_str, lf_tup, lf_ins, lfs_n, lfs_c, fr2_l, ol_l, ↓dNeg, ngK_i, oRepS_r, ↓dApp2, ↓dPop2, ↓dPut2, sbK_l, opApp, opPop, opPut, ↓dAppSelf, ↓dAsg3, ↓dTru, truK_b, truK_l, ↓dExt, extK_l, oMin2_r, oIsB_r, ↓dSortSet, ↓dReprT, oEqS_r, ↓dCat, catK_l, ↓dItV, itK_s, itK_t, itK_l, itK_k, ↓dDisp1_r, tkK_ii, ↓dDget, ↓dDin, ↓dDput, dkK_tr, dkK_oi, dkK_os, dputK_t, dputK_oi, dputK_os]
      refine atD_of (map_atI (f := D.bl) (d := false) q0 q1) rfl ?_
      have got : (ringM N bs L.length).got L t = bs.getD ((700 + 300 * (L.length : Int)) % (N : Int)).toNat false := by
        unfold MA.got
        rw [run]
        rfl
      simp only [got, beq_self_eq_true, ↓dSeq, ↓dIfS, ↓dRet, ↓dRetN, ↓dSkip, ↓dBrk, ↓dCnt, ↓dPk, ↓dC, ↓dO, ↓d2, ↓dNotT, ↓dAndT, ↓dOrT, ↓dIf, ↓dNil, ↓dCons, ↓dNilL, ↓dConsL, ↓dTup, ↓dLst, ↓dBI, ↓dOwnL, ↓dCall, ↓dRng1, ↓dRng2, ↓dFor, ↓dRaise, ↓dRaise0, ↓dPn, ↓dYes, ↓dLc, ↓dExp, ↓onOk_ok, ↓onOk_exc, ↓onFl_ok, ↓onFl_exc, gt0, gtS, Vi.frs, fr_non, own_non, own_und, nz_non, fr_bl, own_bl, nz_bl, fr_int, own_int, nz_int, fr_str, own_str, nz_str, fr_tup, own_tup, nz_tup, fr_lst, own_lst, nz_lst, fr_klst, own_klst, nz_klst, fr_dic, own_dic, nz_dic, fr_ins, own_ins, nz_ins, fr_exo, own_exo, nz_exo, fr_fn, own_fn, nz_fn, eqD_ii, eqD_ss, eqD_bb, eqD_nn, eqD_sn, eqD_ns, eqD_ll, eqD_tt, eqDs_nn, eqDs_cn, eqDs_nc, eqDs_cc, shp_i, shp_b, shp_n, shp_s, shp_l, shp_t, shps_n, shps_c, id_eq, ↓dTry, ↓dIs_eq, ↓dWhat_eq, endT_rt, endT_nx, oEq, oIsN, isN, ↓endK_rt, ↓endK_nx, ↓endK_exc, ↓turnK_nx, ↓turnK_ct, ↓turnK_bk, ↓turnK_rt, ↓turnK_exc, List.set_cons_zero, List.set_cons_succ, List.all_cons, List.all_nil, List.map_cons, List.map_nil, Bool.and_true, Bool.and_self, Bool.true_and, Bool.not_true, Bool.not_false, true_and, and_true, List.take_succ_cons, List.take_zero, List.cons_append, List.nil_append, Bool.false_eq_true, if_false, if_true, ite_false, ite_true, wb_n, wb_sl, wb_vc, wb_vn, wb_v1, wb_v2, wb_v3, wb_v4, wb_v5, wb_v6, unb, reb, List.length_cons, List.length_nil, ↓dVar_r, ↓dFr_r, ↓dSet_r, ↓dgN_r, ↓dPut_r, ↓dApp_r, ↓dB_r, ↓dAndV_r, ↓dOrV_r, ↓dNotV_r, ↓dChn_r, ↓dSl_r, ↓dLenSet_r, ↓dItS_r, ↓dItL_r, ↓dItT_r, ↓dPs_r, eAt_c, exF_ok, putK_li, appK_l, blK_b, slK_s, slK_l, oIx_l, oIx_k, oIx_t, oIx_s, oAll_m, stK_b, seqK_l, seqK_k, tupK_t, inK_b, dAt_non, dAt_bl, dAt_int, dAt_str, dAt_tup, dAt_lst, dAt_klst, dAt_dic, dAt_ins, dAt_exo, dAt_fn, dAt_und, oAdd_ii, oAdd_ss, oAdd_ll, oAdd_tt, oOrd_ii, oOrd_ss, oInS_r, oInt_r, oInt0_r, oLen_l, oLen_k, oLen_t, oLen_s, oAbs_r, oInt1_i, oInt1_b, oReprB_r, int1_r, int2_r, isLst_l, see_v, see_s, sea_v, sea_s, ↓dIdx, ↓dFld, ↓dFset, ↓dJoin, ↓dListOf, ↓dMeth, ↓dMake_r, ↓dAsgG, ↓dLcN, ↓dLc2, idxK_ss, isStr_s, fldK_0, fldK_S, fsetK_r, isIns_i, dgTup_t, dgSeq_l, dgSeq_k, dgCons_c, dgNil_n, rowK_l, rowK_k, rowK_t, oTup_l, oTup_k, oTup_t, ↓dLoan_r, lnK_ok, lnK_exc, lnE_t, lnE_f, lnE_n, olE_c, olE_n, Bool.true_or, Bool.or_true, Bool.false_or, lf_non, lf_bl, lf_int, lf_str, lf_tup, lf_ins, lfs_n, lfs_c, fr2_l, ol_l, ↓dNeg, ngK_i, oRepS_r, ↓dApp2, ↓dPop2, ↓dPut2, sbK_l, opApp, opPop, opPut, ↓dAppSelf, ↓dAsg3, ↓dTru, truK_b, truK_l, ↓dExt, extK_l, oMin2_r, oIsB_r, ↓dSortSet, ↓dReprT, oEqS_r, ↓dCat, catK_l, ↓dItV, itK_s, itK_t, itK_l, itK_k, ↓dDisp1_r, tkK_ii, ↓dDget, ↓dDin, ↓dDput, dkK_tr, dkK_oi, dkK_os, dputK_t, dputK_oi, dputK_os]
      have rb : ∀ b : Bool, ((if b = true then [84, 114, 117, 101] else [70, 97, 108, 115, 101]).all fun x : Nat => decide (x < 128)) = true := fun b => by cases b <;> rfl
      exact ⟨rb _, rb _, kk _ rfl⟩
--@@SPLIT
/-! ### what repr shows of a machine's parts -/
structure Sh (d : D) (w k : Nat) : Prop where
  ni : nice d = true
  sh : (pdd d).showable = true
  nd : (pdd d).hasDict = false
  dp : (pdd d).depth ≤ k
  lv : (pdd d).leavesShort 8 = true
  wt : (pdd d).weight ≤ w
structure ShL (ds : List D) (w k : Nat) : Prop where
  ni : nices ds = true
  sh : PyData.showableAll (pdds ds) = true
  nd : PyData.hasDictAll (pdds ds) = false
  dp : PyData.depthAll (pdds ds) ≤ k
  lv : PyData.leavesShortAll 8 (pdds ds) = true
  wt : PyData.weightAll (pdds ds) ≤ w
theorem ShL.nil {w k : Nat} : ShL [] w k := ⟨rfl, rfl, rfl, Nat.zero_le _, rfl, Nat.zero_le _⟩
theorem ShL.cons {d : D} {ds : List D} {a b k : Nat} (h : Sh d a k) (g : ShL ds b k) : ShL (d :: ds) (a + 1 + b) k := by
  refine ⟨?_, ?_, ?_, ?_, ?_, ?_⟩
  · simp only [nices, h.ni, g.ni, Bool.and_self]
  · simp only [pdds, PyData.showableAll, h.sh, g.sh, Bool.and_self]
  · simp only [pdds, PyData.hasDictAll, h.nd, g.nd, Bool.or_self]
  · simp only [pdds, PyData.depthAll]
    have := h.dp
    have := g.dp
    omega
  · simp only [pdds, PyData.leavesShortAll, h.lv, g.lv, Bool.and_self]
  · simp only [pdds, PyData.weightAll]
    have := h.wt
    have := g.wt
    omega
theorem ShL.all {α : Type} {f : α → D} {w k : Nat} : ∀ {l : List α}, (∀ x ∈ l, Sh (f x) w k) → ShL (l.map f) (l.length * (w + 1)) k
  | [], _ => ShL.nil
  | x :: l, h => by
    have z := ShL.cons (h x List.mem_cons_self) (ShL.all (l := l) fun y hy => h y (List.mem_cons_of_mem _ hy))
    rw [List.length_cons, Nat.succ_mul, Nat.add_comm]
    exact z
theorem Sh.tup {ds : List D} {w k : Nat} (h : ShL ds w k) : Sh (.tup ds) w (k + 1) := by
  refine ⟨?_, ?_, ?_, ?_, ?_, ?_⟩
  · simp only [nice, h.ni]
  · simp only [pdd, PyData.showable, h.sh]
  · simp only [pdd, PyData.hasDict, h.nd]
  · simp only [pdd, PyData.depth]
    have := h.dp
    omega
  · simp only [pdd, PyData.leavesShort, h.lv]
  · simp only [pdd, PyData.weight]
    exact h.wt
theorem Sh.bl {b : Bool} {k : Nat} : Sh (.bl b) 0 k := ⟨rfl, rfl, rfl, Nat.zero_le _, rfl, Nat.le_refl _⟩
theorem Sh.int {q : Int} {k : Nat} (h0 : 0 ≤ q) (h1 : q < 16) : Sh (.int q) 5 k := by
  obtain ⟨n, rfl⟩ : ∃ n : Nat, q = n := ⟨q.toNat, by omega⟩
  have hn : n < 16 := by omega
  have key : ∀ n : Fin 16, (PyData.int ((n.val : Nat) : Int)).showable = true ∧ (PyData.int ((n.val : Nat) : Int)).leavesShort 8 = true ∧ (PyData.int ((n.val : Nat) : Int)).weight ≤ 5 := by decide +kernel
  obtain ⟨a, b, c⟩ := key ⟨n, hn⟩
  exact ⟨rfl, a, rfl, Nat.zero_le _, b, c⟩
theorem Sh.str {s : List Nat} {k : Nat} (h : asc s) : Sh (.str s) s.length k := by
  refine ⟨rfl, rfl, rfl, Nat.zero_le _, ?_, ?_⟩
  · simp only [pdd, PyData.leavesShort, List.all_eq_true, decide_eq_true_eq]
    intro c hc
    have := h c hc
    exact Nat.lt_of_lt_of_le this (by decide)
  · simp only [pdd, PyData.weight, List.size_toArray]
    exact Nat.le_refl _
theorem Sh.mono {d : D} {w w' k : Nat} (h : Sh d w k) (hw : w ≤ w') : Sh d w' k := ⟨h.ni, h.sh, h.nd, h.dp, h.lv, Nat.le_trans h.wt hw⟩
theorem Sh.ok {ds : List D} {w k : Nat} (h : Sh (.tup ds) w k) (hw : w ≤ 100000) (hk : k ≤ 40) : shOk (.tup ds) :=
  ⟨rfl, h.ni, h.sh, h.nd, Nat.le_trans h.dp hk, PyData.shown_fits (Nat.le_refl 8) (by decide) h.lv (Nat.le_trans h.wt (Nat.le_trans hw (by decide)))⟩
theorem ma_shows {L : List Nat} {m : MA} (ok : m.Ok L) (ha : asc L) (l8 : L.length ≤ 8) (f8 : m.acc.length ≤ 12) : shOk (.tup (maL L m)) := by
  have t0 := ok.tl
  have s1 : ShL (m.acc.map D.bl) (m.acc.length * (0 + 1)) 2 := ShL.all fun _ _ => Sh.bl
  have s2 : ShL (m.tab.map rowI) (m.tab.length * (48 + 1)) 2 := ShL.all fun row hr => by
    have z : ShL (row.map D.int) (row.length * (5 + 1)) 1 := ShL.all fun q hq => by
      obtain ⟨a, b⟩ := ok.nx row hr q hq
      exact Sh.int a (by omega)
    have rl := ok.rl row hr
    exact (Sh.tup z).mono (by omega)
  have s3 := Sh.tup (ShL.cons (Sh.str (k := 3) ha) (ShL.cons (Sh.tup s1) (ShL.cons (Sh.tup s2) (ShL.nil (w := 0)))))
  exact s3.ok (by omega) (by decide)
theorem make_maT {L : List Nat} {m : MA} {ρ : Vi.Env} {K : R D → Vi.Env → Prop} (ok : m.Ok L) (bd : m.Bd L) (h : K (.ok (maD L m)) ρ) : makeD 5 4 S_Machine___init__ [] [.str L, .tup (m.acc.map .bl), .tup (m.tab.map rowI)] ρ K := by
  refine make_step rfl ⟨L, m, true, true, true, rfl, bd, fun a b c => ?_⟩
  rw [if_pos ok.whole]
  exact ⟨_, _, rfl, rfl, h⟩
--@@SPLIT
/-! ### the law -/
abbrev S_law : FS := S_LAW
def b_law_21 : DS :=
  dIfS (dNotT (dB (dFr (dCall [3] 4 S__law_faulty [] (dCons (dO (dVar 2)) (dCons (dO (dVar 4)) (dCons (dO (dVar 6)) (dCons (dPk 1) (dNil))))))))) (dRet (dFr (dC (.bl false)))) (dSkip)
def b_law_19 : DS :=
  dSeq (dIfS (dOrT (dB (d2 (oEq not) (dO (dFr (dMeth 5 [] 2 S_Machine_run [] (dO (dVar 11)) (dCons (dO (dVar 14)) (dNil))))) (dPk 15))) (dOrT (dB (d2 (oEq not) (dO (dBI oReprB (dCons (dO (dFr (dMeth 5 [] 2 S_Machine_accepts [] (dO (dVar 11)) (dCons (dO (dVar 14)) (dNil))))) (dNil)))) (dO (dBI oReprB (dCons (dO (d2 oIx (dPk 4) (dPk 15))) (dNil)))))) (dB (d2 (oEq not) (dO (dFr (dMeth 5 [] 2 S_Machine_run [] (dO (dVar 12)) (dCons (dO (dVar 14)) (dNil))))) (dPk 15))))) (dRet (dFr (dC (.bl false)))) (dSkip))
  (b_law_21)
def b_law_17 : DS :=
  dSeq (dFor (dItV 14) (dgN 7) (dSet 15 (dFr (d2 oIx (dO (d2 oIx (dPk 6) (dPk 15))) (dO (dIdx (dPk 2) (dVar 7)))))))
  (b_law_19)
def b_law_16 : DS :=
  dSeq (dSet 15 (dFr (dC (.int 0))))
  (b_law_17)
def b_law_26 : DS :=
  dRet (dFr (dAndV (d2 (oEqS id) (dO (dReprT (dFr (dMeth 5 [] 1 S_Machine_picture [] (dO (dVar 11)) (dNil))))) (dO (dReprT (dVar 13)))) (d2 (oEqS id) (dO (dReprT (dVar 17))) (dO (dReprT (dVar 13))))))
def b_law_25 : DS :=
  dSeq (dSet 17 (dFr (dTup (dConsL (dFld 5 0 (dPk 11)) (dConsL (dFld 5 1 (dPk 11)) (dConsL (dFld 5 2 (dPk 11)) (dNilL)))))))
  (b_law_26)
def b_law_23 : DS :=
  dSeq (dIfS (dAndT (dB (d2 (oEq id) (dO (dFr (dCall [0] 2 S__law_next [] (dCons (dPk 1) (dCons (dO (dC (.int 8))) (dNil)))))) (dO (dC (.int 1))))) (dNotT (dB (dFr (dCall [] 3 S__law_ring [] (dCons (dO (dVar 2)) (dCons (dO (d2 oAdd (dO (dC (.int 1))) (dO (d2 (oInt CMul gMul) (dO (dFr (dCall [0] 2 S__law_next [] (dCons (dPk 1) (dCons (dO (dC (.int 1000))) (dNil)))))) (dO (dC (.int 2))))))) (dCons (dO (d2 oAdd (dO (dC (.int 1))) (dO (dFr (dCall [0] 2 S__law_next [] (dCons (dPk 1) (dCons (dO (dC (.int 5))) (dNil)))))))) (dNil))))))))) (dRet (dFr (dC (.bl false)))) (dSkip))
  (b_law_25)
def b_law_14 : DS :=
  dSeq (dFor (dRng1 (dConsL (dC (.int 8)) (dNilL))) (dgN 5) (dSeq (dSet 14 (dFr (dJoin (dC (.str [])) (dO (dLc (dRng1 (dConsL (dFr (dCall [0] 2 S__law_next [] (dCons (dPk 1) (dCons (dO (dC (.int 14))) (dNil))))) (dNilL))) (dgN 16) (dYes) (d2 oIx (dPk 2) (dO (dFr (dCall [0] 2 S__law_next [] (dCons (dPk 1) (dCons (dO (dBI oLen (dCons (dPk 2) (dNil)))) (dNil))))))) [16])))))
  (b_law_16)))
  (b_law_23)
def b_law_13 : DS :=
  dSeq (dSet 13 (dFr (dTup (dConsL (dVar 2) (dConsL (dBI oTup (dCons (dPk 4) (dNil))) (dConsL (dBI oTup (dCons (dO (dLc (dItV 6) (dgN 10) (dYes) (dBI oTup (dCons (dPk 10) (dNil))) [10])) (dNil))) (dNilL)))))))
  (b_law_14)
def b_law_12 : DS :=
  dSeq (dAppSelf 9 (fun _ => .int 0))
  (b_law_13)
def b_law_11 : DS :=
  dSeq (dApp2 9 (fun _ => .int 0) (fun _ => .int 9))
  (b_law_12)
def b_law_10 : DS :=
  dSeq (dPut 8 (dC (.int 0)) (dNotV (d2 oIx (dPk 8) (dO (dC (.int 0))))))
  (b_law_11)
def b_law_9 : DS :=
  dSeq (dSet 12 (dMake 5 4 S_Machine___init__ [] (dConsL (dVar 2) (dConsL (dBI oTup (dCons (dPk 4) (dNil))) (dConsL (dBI oTup (dCons (dO (dLc (dItV 6) (dgN 10) (dYes) (dBI oTup (dCons (dPk 10) (dNil))) [10])) (dNil))) (dNilL))))))
  (b_law_10)
def b_law_8 : DS :=
  dSeq (dSet 11 (dFr (dLoan [false, false, false, false, false, false, false, false, true, true, false, false, false, false, false, false, false, false] (dFr (dMake 5 4 S_Machine___init__ [] (dConsL (dVar 2) (dConsL (dVar 8) (dConsL (dVar 9) (dNilL)))))))))
  (b_law_9)
def b_law_7 : DS :=
  dSeq (dSet 9 (dLcN (dItV 6) (dgN 10) (dYes) (dListOf (dPk 10)) [10]))
  (b_law_8)
def b_law_6 : DS :=
  dSeq (dSet 8 (dListOf (dPk 4)))
  (b_law_7)
def b_law_5 : DS :=
  dSeq (dSet 6 (dFr (dLc (dRng1 (dConsL (dVar 3) (dNilL))) (dgN 5) (dYes) (dLc (dItV 2) (dgN 7) (dYes) (dFr (dCall [0] 2 S__law_next [] (dCons (dPk 1) (dCons (dO (dVar 3)) (dNil))))) [7]) [5])))
  (b_law_6)
def b_law_4 : DS :=
  dSeq (dSet 4 (dFr (dLc (dRng1 (dConsL (dVar 3) (dNilL))) (dgN 5) (dYes) (d2 (oEq id) (dO (dFr (dCall [0] 2 S__law_next [] (dCons (dPk 1) (dCons (dO (dC (.int 2))) (dNil)))))) (dO (dC (.int 1)))) [5])))
  (b_law_5)
def b_law_3 : DS :=
  dSeq (dSet 3 (dFr (d2 oAdd (dO (dC (.int 1))) (dO (dFr (dCall [0] 2 S__law_next [] (dCons (dPk 1) (dCons (dO (dC (.int 12))) (dNil)))))))))
  (b_law_4)
def b_law_2 : DS :=
  dSeq (dSet 2 (dCall [0] 2 S__law_letters [] (dCons (dPk 1) (dCons (dO (dC (.int 8))) (dNil)))))
  (b_law_3)
def b_law : DS :=
  dSeq (dSet 1 (dCall [] 3 S__law_state [] (dCons (dO (dVar 0)) (dCons (dO (dC (.int 0))) (dCons (dO (dC (.int 8))) (dNil))))))
  (b_law_2)
theorem p_law : ∀ args K', args.length = 1 → S_law args K' → b_law (args ++ List.replicate 17 .und) (endK 1 K') := by
  rintro args K' - ⟨ns, rfl, hl, kk⟩
  show b_law [.klst (ns.map .int), .und, .und, .und, .und, .und, .und, .und, .und, .und, .und, .und, .und, .und, .und, .und, .und, .und] _
  unfold b_law
  simp only [↓dSeq, ↓dIfS, ↓dRet, ↓dRetN, ↓dSkip, ↓dBrk, ↓dCnt, ↓dPk, ↓dC, ↓dO, ↓d2, ↓dNotT, ↓dAndT, ↓dOrT, ↓dIf, ↓dNil, ↓dCons, ↓dNilL, ↓dConsL, ↓dTup, ↓dLst, ↓dBI, ↓dOwnL, ↓dCall, ↓dRng1, ↓dRng2, ↓dFor, ↓dRaise, ↓dRaise0, ↓dPn, ↓dYes, ↓dLc, ↓dExp, ↓onOk_ok, ↓onOk_exc, ↓onFl_ok, ↓onFl_exc, gt0, gtS, Vi.frs, fr_non, own_non, own_und, nz_non, fr_bl, own_bl, nz_bl, fr_int, own_int, nz_int, fr_str, own_str, nz_str, fr_tup, own_tup, nz_tup, fr_lst, own_lst, nz_lst, fr_klst, own_klst, nz_klst, fr_dic, own_dic, nz_dic, fr_ins, own_ins, nz_ins, fr_exo, own_exo, nz_exo, fr_fn, own_fn, nz_fn, eqD_ii, eqD_ss, eqD_bb, eqD_nn, eqD_sn, eqD_ns, eqD_ll, eqD_tt, eqDs_nn, eqDs_cn, eqDs_nc, eqDs_cc, shp_i, shp_b, shp_n, shp_s, shp_l, shp_t, shps_n, shps_c, id_eq, ↓dTry, ↓dIs_eq, ↓dWhat_eq, endT_rt, endT_nx, oEq, oIsN, isN, ↓endK_rt, ↓endK_nx, ↓endK_exc, ↓turnK_nx, ↓turnK_ct, ↓turnK_bk, ↓turnK_rt, ↓turnK_exc, List.set_cons_zero, List.set_cons_succ, List.all_cons, List.all_nil, List.map_cons, List.map_nil, Bool.and_true, Bool.and_self, Bool.true_and, Bool.not_true, Bool.not_false, true_and, and_true, List.take_succ_cons, List.take_zero, List.cons_append, List.nil_append, Bool.false_eq_true, if_false, if_true, ite_false, ite_true, wb_n, wb_sl, wb_vc, wb_vn, wb_v1, wb_v2, wb_v3, wb_v4, wb_v5, wb_v6, unb, reb, List.length_cons, List.length_nil, ↓dVar_r, ↓dFr_r, ↓dSet_r, ↓dgN_r, ↓dPut_r, ↓dApp_r, ↓dB_r, ↓dAndV_r, ↓dOrV_r, ↓dNotV_r, ↓dChn_r, ↓dSl_r, ↓dLenSet_r, ↓dItS_r, ↓dItL_r, ↓dItT_r, ↓dPs_r, eAt_c, exF_ok, putK_li, appK_l, blK_b, slK_s, slK_l, oIx_l, oIx_k, oIx_t, oIx_s, oAll_m, stK_b, seqK_l, seqK_k, tupK_t, inK_b, dAt_non, dAt_bl, dAt_int, dAt_str, dAt_tup, dAt_lst, dAt_klst, dAt_dic, dAt_ins, dAt_exo, dAt_fn, dAt_und, oAdd_ii, oAdd_ss, oAdd_ll, oAdd_tt, oOrd_ii, oOrd_ss, oInS_r, oInt_r, oInt0_r, oLen_l, oLen_k, oLen_t, oLen_s, oAbs_r, oInt1_i, oInt1_b, oReprB_r, int1_r, int2_r, isLst_l, see_v, see_s, sea_v, sea_s, ↓dIdx, ↓dFld, ↓dFset, ↓dJoin, ↓dListOf, ↓dMeth, ↓dMake_r, ↓dAsgG, ↓dLcN, ↓dLc2, idxK_ss, isStr_s, fldK_0, fldK_S, fsetK_r, isIns_i, dgTup_t, dgSeq_l, dgSeq_k, dgCons_c, dgNil_n, rowK_l, rowK_k, rowK_t, oTup_l, oTup_k, oTup_t, ↓dLoan_r, lnK_ok, lnK_exc, lnE_t, lnE_f, lnE_n, olE_c, olE_n, Bool.true_or, Bool.or_true, Bool.false_or, lf_non, lf_bl, lf_int, lf_str, lf_tup, lf_ins, lfs_n, lfs_c, fr2_l, ol_l, ↓dNeg, ngK_i, oRepS_r, ↓dApp2, ↓dPop2, ↓dPut2, sbK_l, opApp, opPop, opPut, ↓dAppSelf, ↓dAsg3, ↓dTru, truK_b, truK_l, ↓dExt, extK_l, oMin2_r, oIsB_r, ↓dSortSet, ↓dReprT, oEqS_r, ↓dCat, catK_l, ↓dItV, itK_s, itK_t, itK_l, itK_k, ↓dDisp1_r, tkK_ii, ↓dDget, ↓dDin, ↓dDput, dkK_tr, dkK_oi, dkK_os, dputK_t, dputK_oi, dputK_os]
  refine call_step rfl rfl rfl ⟨ns, 0, 8, rfl, by decide, by decide, by decide, by decide, fun nums posts hn hp => ⟨hp, ?_⟩⟩
  have n0 : 0 < nums.length := by rw [hn]; decide
  have n1 : nums.length ≤ 100000 := by rw [hn]; decide
  simp only [b_law_2, ↓dSeq, ↓dIfS, ↓dRet, ↓dRetN, ↓dSkip, ↓dBrk, ↓dCnt, ↓dPk, ↓dC, ↓dO, ↓d2, ↓dNotT, ↓dAndT, ↓dOrT, ↓dIf, ↓dNil, ↓dCons, ↓dNilL, ↓dConsL, ↓dTup, ↓dLst, ↓dBI, ↓dOwnL, ↓dCall, ↓dRng1, ↓dRng2, ↓dFor, ↓dRaise, ↓dRaise0, ↓dPn, ↓dYes, ↓dLc, ↓dExp, ↓onOk_ok, ↓onOk_exc, ↓onFl_ok, ↓onFl_exc, gt0, gtS, Vi.frs, fr_non, own_non, own_und, nz_non, fr_bl, own_bl, nz_bl, fr_int, own_int, nz_int, fr_str, own_str, nz_str, fr_tup, own_tup, nz_tup, fr_lst, own_lst, nz_lst, fr_klst, own_klst, nz_klst, fr_dic, own_dic, nz_dic, fr_ins, own_ins, nz_ins, fr_exo, own_exo, nz_exo, fr_fn, own_fn, nz_fn, eqD_ii, eqD_ss, eqD_bb, eqD_nn, eqD_sn, eqD_ns, eqD_ll, eqD_tt, eqDs_nn, eqDs_cn, eqDs_nc, eqDs_cc, shp_i, shp_b, shp_n, shp_s, shp_l, shp_t, shps_n, shps_c, id_eq, ↓dTry, ↓dIs_eq, ↓dWhat_eq, endT_rt, endT_nx, oEq, oIsN, isN, ↓endK_rt, ↓endK_nx, ↓endK_exc, ↓turnK_nx, ↓turnK_ct, ↓turnK_bk, ↓turnK_rt, ↓turnK_exc, List.set_cons_zero, List.set_cons_succ, List.all_cons, List.all_nil, List.map_cons, List.map_nil, Bool.and_true, Bool.and_self, Bool.true_and, Bool.not_true, Bool.not_false, true_and, and_true, List.take_succ_cons, List.take_zero, List.cons_append, List.nil_append, Bool.false_eq_true, if_false, if_true, ite_false, ite_true, wb_n, wb_sl, wb_vc, wb_vn, wb_v1, wb_v2, wb_v3, wb_v4, wb_v5, wb_v6, unb, reb, List.length_cons, List.length_nil, ↓dVar_r, ↓dFr_r, ↓dSet_r, ↓dgN_r, ↓dPut_r, ↓dApp_r, ↓dB_r, ↓dAndV_r, ↓dOrV_r, ↓dNotV_r, ↓dChn_r, ↓dSl_r, ↓dLenSet_r, ↓dItS_r, ↓dItL_r, ↓dItT_r, ↓dPs_r, eAt_c, exF_ok, putK_li, appK_l, blK_b, slK_s, slK_l, oIx_l, oIx_k, oIx_t, oIx_s, oAll_m, stK_b, seqK_l, seqK_k, tupK_t, inK_b, dAt_non, dAt_bl, dAt_int, dAt_str, dAt_tup, dAt_lst, dAt_klst, dAt_dic, dAt_ins, dAt_exo, dAt_fn, dAt_und, oAdd_ii, oAdd_ss, oAdd_ll, oAdd_tt, oOrd_ii, oOrd_ss, oInS_r, oInt_r, oInt0_r, oLen_l, oLen_k, oLen_t, oLen_s, oAbs_r, oInt1_i, oInt1_b, oReprB_r, int1_r, int2_r, isLst_l, see_v, see_s, sea_v, sea_s, ↓dIdx, ↓dFld, ↓dFset, ↓dJoin, ↓dListOf, ↓dMeth, ↓dMake_r, ↓dAsgG, ↓dLcN, ↓dLc2, idxK_ss, isStr_s, fldK_0, fldK_S, fsetK_r, isIns_i, dgTup_t, dgSeq_l, dgSeq_k, dgCons_c, dgNil_n, rowK_l, rowK_k, rowK_t, oTup_l, oTup_k, oTup_t, ↓dLoan_r, lnK_ok, lnK_exc, lnE_t, lnE_f, lnE_n, olE_c, olE_n, Bool.true_or, Bool.or_true, Bool.false_or, lf_non, lf_bl, lf_int, lf_str, lf_tup, lf_ins, lfs_n, lfs_c, fr2_l, ol_l, ↓dNeg, ngK_i, oRepS_r, ↓dApp2, ↓dPop2, ↓dPut2, sbK_l, opApp, opPop, opPut, ↓dAppSelf, ↓dAsg3, ↓dTru, truK_b, truK_l, ↓dExt, extK_l, oMin2_r, oIsB_r, ↓dSortSet, ↓dReprT, oEqS_r, ↓dCat, catK_l, ↓dItV, itK_s, itK_t, itK_l, itK_k, ↓dDisp1_r, tkK_ii, ↓dDget, ↓dDin, ↓dDput, dkK_tr, dkK_oi, dkK_os, dputK_t, dputK_oi, dputK_os]
  refine call_step rfl rfl rfl ⟨nums, 0, 8, rfl, n0, n1, by decide, by decide, fun p L x hL3 l0 nd hasc hpool => ⟨rfl, ?_⟩⟩
  have l8 : L.length ≤ 8 := by omega
  simp only [b_law_3, ↓dSeq, ↓dIfS, ↓dRet, ↓dRetN, ↓dSkip, ↓dBrk, ↓dCnt, ↓dPk, ↓dC, ↓dO, ↓d2, ↓dNotT, ↓dAndT, ↓dOrT, ↓dIf, ↓dNil, ↓dCons, ↓dNilL, ↓dConsL, ↓dTup, ↓dLst, ↓dBI, ↓dOwnL, ↓dCall, ↓dRng1, ↓dRng2, ↓dFor, ↓dRaise, ↓dRaise0, ↓dPn, ↓dYes, ↓dLc, ↓dExp, ↓onOk_ok, ↓onOk_exc, ↓onFl_ok, ↓onFl_exc, gt0, gtS, Vi.frs, fr_non, own_non, own_und, nz_non, fr_bl, own_bl, nz_bl, fr_int, own_int, nz_int, fr_str, own_str, nz_str, fr_tup, own_tup, nz_tup, fr_lst, own_lst, nz_lst, fr_klst, own_klst, nz_klst, fr_dic, own_dic, nz_dic, fr_ins, own_ins, nz_ins, fr_exo, own_exo, nz_exo, fr_fn, own_fn, nz_fn, eqD_ii, eqD_ss, eqD_bb, eqD_nn, eqD_sn, eqD_ns, eqD_ll, eqD_tt, eqDs_nn, eqDs_cn, eqDs_nc, eqDs_cc, shp_i, shp_b, shp_n, shp_s, shp_l, shp_t, shps_n, shps_c, id_eq, ↓dTry, ↓dIs_eq, ↓dWhat_eq, endT_rt, endT_nx, oEq, oIsN, isN, ↓endK_rt, ↓endK_nx, ↓endK_exc, ↓turnK_nx, ↓turnK_ct, ↓turnK_bk, ↓turnK_rt, ↓turnK_exc, List.set_cons_zero, List.set_cons_succ, List.all_cons, List.all_nil, List.map_cons, List.map_nil, Bool.and_true, Bool.and_self, Bool.true_and, Bool.not_true, Bool.not_false, true_and, and_true, List.take_succ_cons, List.take_zero, List.cons_append, List.nil_append, Bool.false_eq_true, if_false, if_true, ite_false, ite_true, wb_n, wb_sl, wb_vc, wb_vn, wb_v1, wb_v2, wb_v3, wb_v4, wb_v5, wb_v6, unb, reb, List.length_cons, List.length_nil, ↓dVar_r, ↓dFr_r, ↓dSet_r, ↓dgN_r, ↓dPut_r, ↓dApp_r, ↓dB_r, ↓dAndV_r, ↓dOrV_r, ↓dNotV_r, ↓dChn_r, ↓dSl_r, ↓dLenSet_r, ↓dItS_r, ↓dItL_r, ↓dItT_r, ↓dPs_r, eAt_c, exF_ok, putK_li, appK_l, blK_b, slK_s, slK_l, oIx_l, oIx_k, oIx_t, oIx_s, oAll_m, stK_b, seqK_l, seqK_k, tupK_t, inK_b, dAt_non, dAt_bl, dAt_int, dAt_str, dAt_tup, dAt_lst, dAt_klst, dAt_dic, dAt_ins, dAt_exo, dAt_fn, dAt_und, oAdd_ii, oAdd_ss, oAdd_ll, oAdd_tt, oOrd_ii, oOrd_ss, oInS_r, oInt_r, oInt0_r, oLen_l, oLen_k, oLen_t, oLen_s, oAbs_r, oInt1_i, oInt1_b, oReprB_r, int1_r, int2_r, isLst_l, see_v, see_s, sea_v, sea_s, ↓dIdx, ↓dFld, ↓dFset, ↓dJoin, ↓dListOf, ↓dMeth, ↓dMake_r, ↓dAsgG, ↓dLcN, ↓dLc2, idxK_ss, isStr_s, fldK_0, fldK_S, fsetK_r, isIns_i, dgTup_t, dgSeq_l, dgSeq_k, dgCons_c, dgNil_n, rowK_l, rowK_k, rowK_t, oTup_l, oTup_k, oTup_t, ↓dLoan_r, lnK_ok, lnK_exc, lnE_t, lnE_f, lnE_n, olE_c, olE_n, Bool.true_or, Bool.or_true, Bool.false_or, lf_non, lf_bl, lf_int, lf_str, lf_tup, lf_ins, lfs_n, lfs_c, fr2_l, ol_l, ↓dNeg, ngK_i, oRepS_r, ↓dApp2, ↓dPop2, ↓dPut2, sbK_l, opApp, opPop, opPut, ↓dAppSelf, ↓dAsg3, ↓dTru, truK_b, truK_l, ↓dExt, extK_l, oMin2_r, oIsB_r, ↓dSortSet, ↓dReprT, oEqS_r, ↓dCat, catK_l, ↓dItV, itK_s, itK_t, itK_l, itK_k, ↓dDisp1_r, tkK_ii, ↓dDget, ↓dDin, ↓dDput, dkK_tr, dkK_oi, dkK_os, dputK_t, dputK_oi, dputK_os]
  refine call_step rfl rfl rfl ⟨nums, p, 12, rfl, n0, n1, by decide, fun v x2 v0 v1 => ⟨rfl, ?_⟩⟩
  simp only [b_law_4, ↓dSeq, ↓dIfS, ↓dRet, ↓dRetN, ↓dSkip, ↓dBrk, ↓dCnt, ↓dPk, ↓dC, ↓dO, ↓d2, ↓dNotT, ↓dAndT, ↓dOrT, ↓dIf, ↓dNil, ↓dCons, ↓dNilL, ↓dConsL, ↓dTup, ↓dLst, ↓dBI, ↓dOwnL, ↓dCall, ↓dRng1, ↓dRng2, ↓dFor, ↓dRaise, ↓dRaise0, ↓dPn, ↓dYes, ↓dLc, ↓dExp, ↓onOk_ok, ↓onOk_exc, ↓onFl_ok, ↓onFl_exc, gt0, gtS, Vi.frs, fr_non, own_non, own_und, nz_non, fr_bl, own_bl, nz_bl, fr_int, own_int, nz_int, fr_str, own_str, nz_str, fr_tup, own_tup, nz_tup, fr_lst, own_lst, nz_lst, fr_klst, own_klst, nz_klst, fr_dic, own_dic, nz_dic, fr_ins, own_ins, nz_ins, fr_exo, own_exo, nz_exo, fr_fn, own_fn, nz_fn, eqD_ii, eqD_ss, eqD_bb, eqD_nn, eqD_sn, eqD_ns, eqD_ll, eqD_tt, eqDs_nn, eqDs_cn, eqDs_nc, eqDs_cc, shp_i, shp_b, shp_n, shp_s, shp_l, shp_t, shps_n, shps_c, id_eq, ↓dTry, ↓dIs_eq, ↓dWhat_eq, endT_rt, endT_nx, oEq, oIsN, isN, ↓endK_rt, ↓endK_nx, ↓endK_exc, ↓turnK_nx, ↓turnK_ct, ↓turnK_bk, ↓turnK_rt, ↓turnK_exc, List.set_cons_zero, List.set_cons_succ, List.all_cons, List.all_nil, List.map_cons, List.map_nil, Bool.and_true, Bool.and_self, Bool.true_and, Bool.not_true, Bool.not_false, true_and, and_true, List.take_succ_cons, List.take_zero, List.cons_append, List.nil_append, Bool.false_eq_true, if_false, if_true, ite_false, ite_true, wb_n, wb_sl, wb_vc, wb_vn, wb_v1, wb_v2, wb_v3, wb_v4, wb_v5, wb_v6, unb, reb, List.length_cons, List.length_nil, ↓dVar_r, ↓dFr_r, ↓dSet_r, ↓dgN_r, ↓dPut_r, ↓dApp_r, ↓dB_r, ↓dAndV_r, ↓dOrV_r, ↓dNotV_r, ↓dChn_r, ↓dSl_r, ↓dLenSet_r, ↓dItS_r, ↓dItL_r, ↓dItT_r, ↓dPs_r, eAt_c, exF_ok, putK_li, appK_l, blK_b, slK_s, slK_l, oIx_l, oIx_k, oIx_t, oIx_s, oAll_m, stK_b, seqK_l, seqK_k, tupK_t, inK_b, dAt_non, dAt_bl, dAt_int, dAt_str, dAt_tup, dAt_lst, dAt_klst, dAt_dic, dAt_ins, dAt_exo, dAt_fn, dAt_und, oAdd_ii, oAdd_ss, oAdd_ll, oAdd_tt, oOrd_ii, oOrd_ss, oInS_r, oInt_r, oInt0_r, oLen_l, oLen_k, oLen_t, oLen_s, oAbs_r, oInt1_i, oInt1_b, oReprB_r, int1_r, int2_r, isLst_l, see_v, see_s, sea_v, sea_s, ↓dIdx, ↓dFld, ↓dFset, ↓dJoin, ↓dListOf, ↓dMeth, ↓dMake_r, ↓dAsgG, ↓dLcN, ↓dLc2, idxK_ss, isStr_s, fldK_0, fldK_S, fsetK_r, isIns_i, dgTup_t, dgSeq_l, dgSeq_k, dgCons_c, dgNil_n, rowK_l, rowK_k, rowK_t, oTup_l, oTup_k, oTup_t, ↓dLoan_r, lnK_ok, lnK_exc, lnE_t, lnE_f, lnE_n, olE_c, olE_n, Bool.true_or, Bool.or_true, Bool.false_or, lf_non, lf_bl, lf_int, lf_str, lf_tup, lf_ins, lfs_n, lfs_c, fr2_l, ol_l, ↓dNeg, ngK_i, oRepS_r, ↓dApp2, ↓dPop2, ↓dPut2, sbK_l, opApp, opPop, opPut, ↓dAppSelf, ↓dAsg3, ↓dTru, truK_b, truK_l, ↓dExt, extK_l, oMin2_r, oIsB_r, ↓dSortSet, ↓dReprT, oEqS_r, ↓dCat, catK_l, ↓dItV, itK_s, itK_t, itK_l, itK_k, ↓dDisp1_r, tkK_ii, ↓dDget, ↓dDin, ↓dDput, dkK_tr, dkK_oi, dkK_os, dputK_t, dputK_oi, dputK_os]
  refine ⟨⟨by omega, by omega⟩, by rw [rngD_len]; omega, ?_⟩
  refine lcE_inv (ρ := []) (fun i acc ρ => ∃ (p' : Int) (bs : List Bool), ρ = [.klst (ns.map .int), stD nums p', .str L, .int (1 + v), .und, .und, .und, .und, .und, .und, .und, .und, .und, .und, .und, .und, .und, .und] ∧ acc = bs.map .bl ∧ bs.length = i) _ 0 [] _ ⟨_, [], rfl, rfl, rfl⟩ ?_ ?_
  · rintro i d acc ρ N hd ⟨p', bs, rfl, rfl, hl⟩ kN
    obtain ⟨hi, rfl⟩ := rngD_get hd
    simp only [↓dSeq, ↓dIfS, ↓dRet, ↓dRetN, ↓dSkip, ↓dBrk, ↓dCnt, ↓dPk, ↓dC, ↓dO, ↓d2, ↓dNotT, ↓dAndT, ↓dOrT, ↓dIf, ↓dNil, ↓dCons, ↓dNilL, ↓dConsL, ↓dTup, ↓dLst, ↓dBI, ↓dOwnL, ↓dCall, ↓dRng1, ↓dRng2, ↓dFor, ↓dRaise, ↓dRaise0, ↓dPn, ↓dYes, ↓dLc, ↓dExp, ↓onOk_ok, ↓onOk_exc, ↓onFl_ok, ↓onFl_exc, gt0, gtS, Vi.frs, fr_non, own_non, own_und, nz_non, fr_bl, own_bl, nz_bl, fr_int, own_int, nz_int, fr_str, own_str, nz_str, fr_tup, own_tup, nz_tup, fr_lst, own_lst, nz_lst, fr_klst, own_klst, nz_klst, fr_dic, own_dic, nz_dic, fr_ins, own_ins, nz_ins, fr_exo, own_exo, nz_exo, fr_fn, own_fn, nz_fn, eqD_ii, eqD_ss, eqD_bb, eqD_nn, eqD_sn, eqD_ns, eqD_ll, eqD_tt, eqDs_nn, eqDs_cn, eqDs_nc, eqDs_cc, shp_i, shp_b, shp_n, shp_s, shp_l, shp_t, shps_n, shps_c, id_eq, ↓dTry, ↓dIs_eq, ↓dWhat_eq, endT_rt, endT_nx, oEq, oIsN, isN, ↓endK_rt, ↓endK_nx, ↓endK_exc, ↓turnK_nx, ↓turnK_ct, ↓turnK_bk, ↓turnK_rt, ↓turnK_exc, List.set_cons_zero, List.set_cons_succ, List.all_cons, List.all_nil, List.map_cons, List.map_nil, Bool.and_true, Bool.and_self, Bool.true_and, Bool.not_true, Bool.not_false, true_and, and_true, List.take_succ_cons, List.take_zero, List.cons_append, List.nil_append, Bool.false_eq_true, if_false, if_true, ite_false, ite_true, wb_n, wb_sl, wb_vc, wb_vn, wb_v1, wb_v2, wb_v3, wb_v4, wb_v5, wb_v6, unb, reb, List.length_cons, List.length_nil, ↓dVar_r, ↓dFr_r, ↓dSet_r, ↓dgN_r, ↓dPut_r, ↓dApp_r, ↓dB_r, ↓dAndV_r, ↓dOrV_r, ↓dNotV_r, ↓dChn_r, ↓dSl_r, ↓dLenSet_r, ↓dItS_r, ↓dItL_r, ↓dItT_r, ↓dPs_r, eAt_c, exF_ok, putK_li, appK_l, blK_b, slK_s, slK_l, oIx_l, oIx_k, oIx_t, oIx_s, oAll_m, stK_b, seqK_l, seqK_k, tupK_t, inK_b, dAt_non, dAt_bl, dAt_int, dAt_str, dAt_tup, dAt_lst, dAt_klst, dAt_dic, dAt_ins, dAt_exo, dAt_fn, dAt_und, oAdd_ii, oAdd_ss, oAdd_ll, oAdd_tt, oOrd_ii, oOrd_ss, oInS_r, oInt_r, oInt0_r, oLen_l, oLen_k, oLen_t, oLen_s, oAbs_r, oInt1_i, oInt1_b, oReprB_r, int1_r, int2_r, isLst_l, see_v, see_s, sea_v, sea_s, ↓dIdx, ↓dFld, ↓dFset, ↓dJoin, ↓dListOf, ↓dMeth, ↓dMake_r, ↓dAsgG, ↓dLcN, ↓dLc2, idxK_ss, isStr_s, fldK_0, fldK_S, fsetK_r, isIns_i, dgTup_t, dgSeq_l, dgSeq_k, dgCons_c, dgNil_n, rowK_l, rowK_k, rowK_t, oTup_l, oTup_k, oTup_t, ↓dLoan_r, lnK_ok, lnK_exc, lnE_t, lnE_f, lnE_n, olE_c, olE_n, Bool.true_or, Bool.or_true, Bool.false_or, lf_non, lf_bl, lf_int, lf_str, lf_tup, lf_ins, lfs_n, lfs_c, fr2_l, ol_l, ↓dNeg, ngK_i, oRepS_r, ↓dApp2, ↓dPop2, ↓dPut2, sbK_l, opApp, opPop, opPut, ↓dAppSelf, ↓dAsg3, ↓dTru, truK_b, truK_l, ↓dExt, extK_l, oMin2_r, oIsB_r, ↓dSortSet, ↓dReprT, oEqS_r, ↓dCat, catK_l, ↓dItV, itK_s, itK_t, itK_l, itK_k, ↓dDisp1_r, tkK_ii, ↓dDget, ↓dDin, ↓dDput, dkK_tr, dkK_oi, dkK_os, dputK_t, dputK_oi, dputK_os]
    refine call_step rfl rfl rfl ⟨nums, p', 2, rfl, n0, n1, by decide, fun v2 x2 w0 w1 => ⟨rfl, ?_⟩⟩
    simp only [↓dSeq, ↓dIfS, ↓dRet, ↓dRetN, ↓dSkip, ↓dBrk, ↓dCnt, ↓dPk, ↓dC, ↓dO, ↓d2, ↓dNotT, ↓dAndT, ↓dOrT, ↓dIf, ↓dNil, ↓dCons, ↓dNilL, ↓dConsL, ↓dTup, ↓dLst, ↓dBI, ↓dOwnL, ↓dCall, ↓dRng1, ↓dRng2, ↓dFor, ↓dRaise, ↓dRaise0, ↓dPn, ↓dYes, ↓dLc, ↓dExp, ↓onOk_ok, ↓onOk_exc, ↓onFl_ok, ↓onFl_exc, gt0, gtS, Vi.frs, fr_non, own_non, own_und, nz_non, fr_bl, own_bl, nz_bl, fr_int, own_int, nz_int, fr_str, own_str, nz_str, fr_tup, own_tup, nz_tup, fr_lst, own_lst, nz_lst, fr_klst, own_klst, nz_klst, fr_dic, own_dic, nz_dic, fr_ins, own_ins, nz_ins, fr_exo, own_exo, nz_exo, fr_fn, own_fn, nz_fn, eqD_ii, eqD_ss, eqD_bb, eqD_nn, eqD_sn, eqD_ns, eqD_ll, eqD_tt, eqDs_nn, eqDs_cn, eqDs_nc, eqDs_cc, shp_i, shp_b, shp_n, shp_s, shp_l, shp_t, shps_n, shps_c, id_eq, ↓dTry, ↓dIs_eq, ↓dWhat_eq, endT_rt, endT_nx, oEq, oIsN, isN, ↓endK_rt, ↓endK_nx, ↓endK_exc, ↓turnK_nx, ↓turnK_ct, ↓turnK_bk, ↓turnK_rt, ↓turnK_exc, List.set_cons_zero, List.set_cons_succ, List.all_cons, List.all_nil, List.map_cons, List.map_nil, Bool.and_true, Bool.and_self, Bool.true_and, Bool.not_true, Bool.not_false, true_and, and_true, List.take_succ_cons, List.take_zero, List.cons_append, List.nil_append, Bool.false_eq_true, if_false, if_true, ite_false, ite_true, wb_n, wb_sl, wb_vc, wb_vn, wb_v1, wb_v2, wb_v3, wb_v4, wb_v5, wb_v6, unb, reb, List.length_cons, List.length_nil, ↓dVar_r, ↓dFr_r, ↓dSet_r, ↓dgN_r, ↓dPut_r, ↓dApp_r, ↓dB_r, ↓dAndV_r, ↓dOrV_r, ↓dNotV_r, ↓dChn_r, ↓dSl_r, ↓dLenSet_r, ↓dItS_r, ↓dItL_r, ↓dItT_r, ↓dPs_r, eAt_c, exF_ok, putK_li, appK_l, blK_b, slK_s, slK_l, oIx_l, oIx_k, oIx_t, oIx_s, oAll_m, stK_b, seqK_l, seqK_k, tupK_t, inK_b, dAt_non, dAt_bl, dAt_int, dAt_str, dAt_tup, dAt_lst, dAt_klst, dAt_dic, dAt_ins, dAt_exo, dAt_fn, dAt_und, oAdd_ii, oAdd_ss, oAdd_ll, oAdd_tt, oOrd_ii, oOrd_ss, oInS_r, oInt_r, oInt0_r, oLen_l, oLen_k, oLen_t, oLen_s, oAbs_r, oInt1_i, oInt1_b, oReprB_r, int1_r, int2_r, isLst_l, see_v, see_s, sea_v, sea_s, ↓dIdx, ↓dFld, ↓dFset, ↓dJoin, ↓dListOf, ↓dMeth, ↓dMake_r, ↓dAsgG, ↓dLcN, ↓dLc2, idxK_ss, isStr_s, fldK_0, fldK_S, fsetK_r, isIns_i, dgTup_t, dgSeq_l, dgSeq_k, dgCons_c, dgNil_n, rowK_l, rowK_k, rowK_t, oTup_l, oTup_k, oTup_t, ↓dLoan_r, lnK_ok, lnK_exc, lnE_t, lnE_f, lnE_n, olE_c, olE_n, Bool.true_or, Bool.or_true, Bool.false_or, lf_non, lf_bl, lf_int, lf_str, lf_tup, lf_ins, lfs_n, lfs_c, fr2_l, ol_l, ↓dNeg, ngK_i, oRepS_r, ↓dApp2, ↓dPop2, ↓dPut2, sbK_l, opApp, opPop, opPut, ↓dAppSelf, ↓dAsg3, ↓dTru, truK_b, truK_l, ↓dExt, extK_l, oMin2_r, oIsB_r, ↓dSortSet, ↓dReprT, oEqS_r, ↓dCat, catK_l, ↓dItV, itK_s, itK_t, itK_l, itK_k, ↓dDisp1_r, tkK_ii, ↓dDget, ↓dDin, ↓dDput, dkK_tr, dkK_oi, dkK_os, dputK_t, dputK_oi, dputK_os]
    exact kN _ _ ⟨_, bs ++ [v2 == 1], rfl, by rw [List.map_append]; rfl, by rw [List.length_append, hl]; rfl⟩
  · rintro acc ρ ⟨p', bs, rfl, rfl, hl⟩
    rw [rngD_len] at hl
    have hbl : (bs.length : Int) = 1 + v := by omega
    simp only [b_law_5, ↓dSeq, ↓dIfS, ↓dRet, ↓dRetN, ↓dSkip, ↓dBrk, ↓dCnt, ↓dPk, ↓dC, ↓dO, ↓d2, ↓dNotT, ↓dAndT, ↓dOrT, ↓dIf, ↓dNil, ↓dCons, ↓dNilL, ↓dConsL, ↓dTup, ↓dLst, ↓dBI, ↓dOwnL, ↓dCall, ↓dRng1, ↓dRng2, ↓dFor, ↓dRaise, ↓dRaise0, ↓dPn, ↓dYes, ↓dLc, ↓dExp, ↓onOk_ok, ↓onOk_exc, ↓onFl_ok, ↓onFl_exc, gt0, gtS, Vi.frs, fr_non, own_non, own_und, nz_non, fr_bl, own_bl, nz_bl, fr_int, own_int, nz_int, fr_str, own_str, nz_str, fr_tup, own_tup, nz_tup, fr_lst, own_lst, nz_lst, fr_klst, own_klst, nz_klst, fr_dic, own_dic, nz_dic, fr_ins, own_ins, nz_ins, fr_exo, own_exo, nz_exo, fr_fn, own_fn, nz_fn, eqD_ii, eqD_ss, eqD_bb, eqD_nn, eqD_sn, eqD_ns, eqD_ll, eqD_tt, eqDs_nn, eqDs_cn, eqDs_nc, eqDs_cc, shp_i, shp_b, shp_n, shp_s, shp_l, shp_t, shps_n, shps_c, id_eq, ↓dTry, ↓dIs_eq, ↓dWhat_eq, endT_rt, endT_nx, oEq, oIsN, isN, ↓endK_rt, ↓endK_nx, ↓endK_exc, ↓turnK_nx, ↓turnK_ct, ↓turnK_bk, ↓turnK_rt, ↓turnK_exc, List.set_cons_zero, List.set_cons_succ, List.all_cons, List.all_nil, List.map_cons, List.map_nil, Bool.and_true, Bool.and_self, Bool.true_and, Bool.not_true, Bool.not_false, true_and, and_true, List.take_succ_cons, List.take_zero, List.cons_append, List.nil_append, Bool.false_eq_true, if_false, if_true, ite_false, ite_true, wb_n, wb_sl, wb_vc, wb_vn, wb_v1, wb_v2, wb_v3, wb_v4, wb_v5, wb_v6, unb, reb, List.length_cons, List.length_nil, ↓dVar_r, ↓dFr_r, ↓dSet_r, ↓dgN_r, ↓dPut_r, ↓dApp_r, ↓dB_r, ↓dAndV_r, ↓dOrV_r, ↓dNotV_r, ↓dChn_r, ↓dSl_r, ↓dLenSet_r, ↓dItS_r, ↓dItL_r, ↓dItT_r, ↓dPs_r, eAt_c, exF_ok, putK_li, appK_l, blK_b, slK_s, slK_l, oIx_l, oIx_k, oIx_t, oIx_s, oAll_m, stK_b, seqK_l, seqK_k, tupK_t, inK_b, dAt_non, dAt_bl, dAt_int, dAt_str, dAt_tup, dAt_lst, dAt_klst, dAt_dic, dAt_ins, dAt_exo, dAt_fn, dAt_und, oAdd_ii, oAdd_ss, oAdd_ll, oAdd_tt, oOrd_ii, oOrd_ss, oInS_r, oInt_r, oInt0_r, oLen_l, oLen_k, oLen_t, oLen_s, oAbs_r, oInt1_i, oInt1_b, oReprB_r, int1_r, int2_r, isLst_l, see_v, see_s, sea_v, sea_s, ↓dIdx, ↓dFld, ↓dFset, ↓dJoin, ↓dListOf, ↓dMeth, ↓dMake_r, ↓dAsgG, ↓dLcN, ↓dLc2, idxK_ss, isStr_s, fldK_0, fldK_S, fsetK_r, isIns_i, dgTup_t, dgSeq_l, dgSeq_k, dgCons_c, dgNil_n, rowK_l, rowK_k, rowK_t, oTup_l, oTup_k, oTup_t, ↓dLoan_r, lnK_ok, lnK_exc, lnE_t, lnE_f, lnE_n, olE_c, olE_n, Bool.true_or, Bool.or_true, Bool.false_or, lf_non, lf_bl, lf_int, lf_str, lf_tup, lf_ins, lfs_n, lfs_c, fr2_l, ol_l, ↓dNeg, ngK_i, oRepS_r, ↓dApp2, ↓dPop2, ↓dPut2, sbK_l, opApp, opPop, opPut, ↓dAppSelf, ↓dAsg3, ↓dTru, truK_b, truK_l, ↓dExt, extK_l, oMin2_r, oIsB_r, ↓dSortSet, ↓dReprT, oEqS_r, ↓dCat, catK_l, ↓dItV, itK_s, itK_t, itK_l, itK_k, ↓dDisp1_r, tkK_ii, ↓dDget, ↓dDin, ↓dDput, dkK_tr, dkK_oi, dkK_os, dputK_t, dputK_oi, dputK_os]
    refine ⟨⟨by omega, by omega⟩, by rw [rngD_len]; omega, ?_⟩
    refine lcE_inv (ρ := []) (fun i acc ρ => ∃ (p' : Int) (tab : List (List Int)), ρ = [.klst (ns.map .int), stD nums p', .str L, .int (1 + v), .lst false (bs.map .bl), .und, .und, .und, .und, .und, .und, .und, .und, .und, .und, .und, .und, .und] ∧ acc = tab.map rowJ ∧ tab.length = i ∧ ∀ row ∈ tab, row.length = L.length ∧ ∀ q ∈ row, 0 ≤ q ∧ q < 1 + v) _ 0 [] _ ⟨_, [], rfl, rfl, rfl, fun _ h => nomatch h⟩ ?_ ?_
    · rintro i d acc ρ N hd ⟨p', tab, rfl, rfl, htl, htab⟩ kN
      obtain ⟨hi, rfl⟩ := rngD_get hd
      simp only [List.length_map, ↓dSeq, ↓dIfS, ↓dRet, ↓dRetN, ↓dSkip, ↓dBrk, ↓dCnt, ↓dPk, ↓dC, ↓dO, ↓d2, ↓dNotT, ↓dAndT, ↓dOrT, ↓dIf, ↓dNil, ↓dCons, ↓dNilL, ↓dConsL, ↓dTup, ↓dLst, ↓dBI, ↓dOwnL, ↓dCall, ↓dRng1, ↓dRng2, ↓dFor, ↓dRaise, ↓dRaise0, ↓dPn, ↓dYes, ↓dLc, ↓dExp, ↓onOk_ok, ↓onOk_exc, ↓onFl_ok, ↓onFl_exc, gt0, gtS, Vi.frs, fr_non, own_non, own_und, nz_non, fr_bl, own_bl, nz_bl, fr_int, own_int, nz_int, fr_str, own_str, nz_str, fr_tup, own_tup, nz_tup, fr_lst, own_lst, nz_lst, fr_klst, own_klst, nz_klst, fr_dic, own_dic, nz_dic, fr_ins, own_ins, nz_ins, fr_exo, own_exo, nz_exo, fr_fn, own_fn, nz_fn, eqD_ii, eqD_ss, eqD_bb, eqD_nn, eqD_sn, eqD_ns, eqD_ll, eqD_tt, eqDs_nn, eqDs_cn, eqDs_nc, eqDs_cc, shp_i, shp_b, shp_n, shp_s, shp_l, shp_t, shps_n, shps_c, id_eq, ↓dTry, ↓dIs_eq, ↓dWhat_eq, endT_rt, endT_nx, oEq, oIsN, isN, ↓endK_rt, ↓endK_nx, ↓endK_exc, ↓turnK_nx, ↓turnK_ct, ↓turnK_bk, ↓turnK_rt, ↓turnK_exc, List.set_cons_zero, List.set_cons_succ, List.all_cons, List.all_nil, List.map_cons, List.map_nil, Bool.and_true, Bool.and_self, Bool.true_and, Bool.not_true, Bool.not_false, true_and, and_true, List.take_succ_cons, List.take_zero, List.cons_append, List.nil_append, Bool.false_eq_true, if_false, if_true, ite_false, ite_true, wb_n, wb_sl, wb_vc, wb_vn, wb_v1, wb_v2, wb_v3, wb_v4, wb_v5, wb_v6, unb, reb, List.length_cons, List.length_nil, ↓dVar_r, ↓dFr_r, ↓dSet_r, ↓dgN_r, ↓dPut_r, ↓dApp_r, ↓dB_r, ↓dAndV_r, ↓dOrV_r, ↓dNotV_r, ↓dChn_r, ↓dSl_r, ↓dLenSet_r, ↓dItS_r, ↓dItL_r, ↓dItT_r, ↓dPs_r, eAt_c, exF_ok, putK_li, appK_l, blK_b, slK_s, slK_l, oIx_l, oIx_k, oIx_t, oIx_s, oAll_m, stK_b, seqK_l, seqK_k, tupK_t, inK_b, dAt_non, dAt_bl, dAt_int, dAt_str, dAt_tup, dAt_lst, dAt_klst, dAt_dic, dAt_ins, dAt_exo, dAt_fn, dAt_und, oAdd_ii, oAdd_ss, oAdd_ll, oAdd_tt, oOrd_ii, oOrd_ss, oInS_r, oInt_r, oInt0_r, oLen_l, oLen_k, oLen_t, oLen_s, oAbs_r, oInt1_i, oInt1_b, oReprB_r, int1_r, int2_r, isLst_l, see_v, see_s, sea_v, sea_s, ↓dIdx, ↓dFld, ↓dFset, ↓dJoin, ↓dListOf, ↓dMeth, ↓dMake_r, ↓dAsgG, ↓dLcN, ↓dLc2, idxK_ss, isStr_s, fldK_0, fldK_S, fsetK_r, isIns_i, dgTup_t, dgSeq_l, dgSeq_k, dgCons_c, dgNil_n, rowK_l, rowK_k, rowK_t, oTup_l, oTup_k, oTup_t, ↓dLoan_r, lnK_ok, lnK_exc, lnE_t, lnE_f, lnE_n, olE_c, olE_n, Bool.true_or, Bool.or_true, Bool.false_or, lf_non, lf_bl, lf_int, lf_str, lf_tup, lf_ins, lfs_n, lfs_c, fr2_l, ol_l, ↓dNeg, ngK_i, oRepS_r, ↓dApp2, ↓dPop2, ↓dPut2, sbK_l, opApp, opPop, opPut, ↓dAppSelf, ↓dAsg3, ↓dTru, truK_b, truK_l, ↓dExt, extK_l, oMin2_r, oIsB_r, ↓dSortSet, ↓dReprT, oEqS_r, ↓dCat, catK_l, ↓dItV, itK_s, itK_t, itK_l, itK_k, ↓dDisp1_r, tkK_ii, ↓dDget, ↓dDin, ↓dDput, dkK_tr, dkK_oi, dkK_os, dputK_t, dputK_oi, dputK_os]
      refine ⟨by omega, ?_⟩
      refine lcE_inv (ρ := []) (fun j acc ρ => ∃ (p' : Int) (row : List Int), ρ = [.klst (ns.map .int), stD nums p', .str L, .int (1 + v), .lst false (bs.map .bl), .int (0 + (i : Int)), .und, .und, .und, .und, .und, .und, .und, .und, .und, .und, .und, .und] ∧ acc = row.map .int ∧ row.length = j ∧ ∀ q ∈ row, 0 ≤ q ∧ q < 1 + v) _ 0 [] _ ⟨_, [], rfl, rfl, rfl, fun _ h => nomatch h⟩ ?_ ?_
      · rintro j d acc ρ N2 hd2 ⟨p', row, rfl, rfl, hrl, hrow⟩ kN2
        obtain ⟨c, hc, rfl⟩ := sg_get hd2
        simp only [↓dSeq, ↓dIfS, ↓dRet, ↓dRetN, ↓dSkip, ↓dBrk, ↓dCnt, ↓dPk, ↓dC, ↓dO, ↓d2, ↓dNotT, ↓dAndT, ↓dOrT, ↓dIf, ↓dNil, ↓dCons, ↓dNilL, ↓dConsL, ↓dTup, ↓dLst, ↓dBI, ↓dOwnL, ↓dCall, ↓dRng1, ↓dRng2, ↓dFor, ↓dRaise, ↓dRaise0, ↓dPn, ↓dYes, ↓dLc, ↓dExp, ↓onOk_ok, ↓onOk_exc, ↓onFl_ok, ↓onFl_exc, gt0, gtS, Vi.frs, fr_non, own_non, own_und, nz_non, fr_bl, own_bl, nz_bl, fr_int, own_int, nz_int, fr_str, own_str, nz_str, fr_tup, own_tup, nz_tup, fr_lst, own_lst, nz_lst, fr_klst, own_klst, nz_klst, fr_dic, own_dic, nz_dic, fr_ins, own_ins, nz_ins, fr_exo, own_exo, nz_exo, fr_fn, own_fn, nz_fn, eqD_ii, eqD_ss, eqD_bb, eqD_nn, eqD_sn, eqD_ns, eqD_ll, eqD_tt, eqDs_nn, eqDs_cn, eqDs_nc, eqDs_cc, shp_i, shp_b, shp_n, shp_s, shp_l, shp_t, shps_n, shps_c, id_eq, ↓dTry, ↓dIs_eq, ↓dWhat_eq, endT_rt, endT_nx, oEq, oIsN, isN, ↓endK_rt, ↓endK_nx, ↓endK_exc, ↓turnK_nx, ↓turnK_ct, ↓turnK_bk, ↓turnK_rt, ↓turnK_exc, List.set_cons_zero, List.set_cons_succ, List.all_cons, List.all_nil, List.map_cons, List.map_nil, Bool.and_true, Bool.and_self, Bool.true_and, Bool.not_true, Bool.not_false, true_and, and_true, List.take_succ_cons, List.take_zero, List.cons_append, List.nil_append, Bool.false_eq_true, if_false, if_true, ite_false, ite_true, wb_n, wb_sl, wb_vc, wb_vn, wb_v1, wb_v2, wb_v3, wb_v4, wb_v5, wb_v6, unb, reb, List.length_cons, List.length_nil, ↓dVar_r, ↓dFr_r, ↓dSet_r, ↓dgN_r, ↓dPut_r, ↓dApp_r, ↓dB_r, ↓dAndV_r, ↓dOrV_r, ↓dNotV_r, ↓dChn_r, ↓dSl_r, ↓dLenSet_r, ↓dItS_r, ↓dItL_r, ↓dItT_r, ↓dPs_r, eAt_c, exF_ok, putK_li, appK_l, blK_b, slK_s, slK_l, oIx_l, oIx_k, oIx_t, oIx_s, oAll_m, stK_b, seqK_l, seqK_k, tupK_t, inK_b, dAt_non, dAt_bl, dAt_int, dAt_str, dAt_tup, dAt_lst, dAt_klst, dAt_dic, dAt_ins, dAt_exo, dAt_fn, dAt_und, oAdd_ii, oAdd_ss, oAdd_ll, oAdd_tt, oOrd_ii, oOrd_ss, oInS_r, oInt_r, oInt0_r, oLen_l, oLen_k, oLen_t, oLen_s, oAbs_r, oInt1_i, oInt1_b, oReprB_r, int1_r, int2_r, isLst_l, see_v, see_s, sea_v, sea_s, ↓dIdx, ↓dFld, ↓dFset, ↓dJoin, ↓dListOf, ↓dMeth, ↓dMake_r, ↓dAsgG, ↓dLcN, ↓dLc2, idxK_ss, isStr_s, fldK_0, fldK_S, fsetK_r, isIns_i, dgTup_t, dgSeq_l, dgSeq_k, dgCons_c, dgNil_n, rowK_l, rowK_k, rowK_t, oTup_l, oTup_k, oTup_t, ↓dLoan_r, lnK_ok, lnK_exc, lnE_t, lnE_f, lnE_n, olE_c, olE_n, Bool.true_or, Bool.or_true, Bool.false_or, lf_non, lf_bl, lf_int, lf_str, lf_tup, lf_ins, lfs_n, lfs_c, fr2_l, ol_l, ↓dNeg, ngK_i, oRepS_r, ↓dApp2, ↓dPop2, ↓dPut2, sbK_l, opApp, opPop, opPut, ↓dAppSelf, ↓dAsg3, ↓dTru, truK_b, truK_l, ↓dExt, extK_l, oMin2_r, oIsB_r, ↓dSortSet, ↓dReprT, oEqS_r, ↓dCat, catK_l, ↓dItV, itK_s, itK_t, itK_l, itK_k, ↓dDisp1_r, tkK_ii, ↓dDget, ↓dDin, ↓dDput, dkK_tr, dkK_oi, dkK_os, dputK_t, dputK_oi, dputK_os]
        refine call_step rfl rfl rfl ⟨nums, p', 1 + v, rfl, n0, n1, by omega, fun v2 x2 w0 w1 => ⟨rfl, ?_⟩⟩
        simp only [↓dSeq, ↓dIfS, ↓dRet, ↓dRetN, ↓dSkip, ↓dBrk, ↓dCnt, ↓dPk, ↓dC, ↓dO, ↓d2, ↓dNotT, ↓dAndT, ↓dOrT, ↓dIf, ↓dNil, ↓dCons, ↓dNilL, ↓dConsL, ↓dTup, ↓dLst, ↓dBI, ↓dOwnL, ↓dCall, ↓dRng1, ↓dRng2, ↓dFor, ↓dRaise, ↓dRaise0, ↓dPn, ↓dYes, ↓dLc, ↓dExp, ↓onOk_ok, ↓onOk_exc, ↓onFl_ok, ↓onFl_exc, gt0, gtS, Vi.frs, fr_non, own_non, own_und, nz_non, fr_bl, own_bl, nz_bl, fr_int, own_int, nz_int, fr_str, own_str, nz_str, fr_tup, own_tup, nz_tup, fr_lst, own_lst, nz_lst, fr_klst, own_klst, nz_klst, fr_dic, own_dic, nz_dic, fr_ins, own_ins, nz_ins, fr_exo, own_exo, nz_exo, fr_fn, own_fn, nz_fn, eqD_ii, eqD_ss, eqD_bb, eqD_nn, eqD_sn, eqD_ns, eqD_ll, eqD_tt, eqDs_nn, eqDs_cn, eqDs_nc, eqDs_cc, shp_i, shp_b, shp_n, shp_s, shp_l, shp_t, shps_n, shps_c, id_eq, ↓dTry, ↓dIs_eq, ↓dWhat_eq, endT_rt, endT_nx, oEq, oIsN, isN, ↓endK_rt, ↓endK_nx, ↓endK_exc, ↓turnK_nx, ↓turnK_ct, ↓turnK_bk, ↓turnK_rt, ↓turnK_exc, List.set_cons_zero, List.set_cons_succ, List.all_cons, List.all_nil, List.map_cons, List.map_nil, Bool.and_true, Bool.and_self, Bool.true_and, Bool.not_true, Bool.not_false, true_and, and_true, List.take_succ_cons, List.take_zero, List.cons_append, List.nil_append, Bool.false_eq_true, if_false, if_true, ite_false, ite_true, wb_n, wb_sl, wb_vc, wb_vn, wb_v1, wb_v2, wb_v3, wb_v4, wb_v5, wb_v6, unb, reb, List.length_cons, List.length_nil, ↓dVar_r, ↓dFr_r, ↓dSet_r, ↓dgN_r, ↓dPut_r, ↓dApp_r, ↓dB_r, ↓dAndV_r, ↓dOrV_r, ↓dNotV_r, ↓dChn_r, ↓dSl_r, ↓dLenSet_r, ↓dItS_r, ↓dItL_r, ↓dItT_r, ↓dPs_r, eAt_c, exF_ok, putK_li, appK_l, blK_b, slK_s, slK_l, oIx_l, oIx_k, oIx_t, oIx_s, oAll_m, stK_b, seqK_l, seqK_k, tupK_t, inK_b, dAt_non, dAt_bl, dAt_int, dAt_str, dAt_tup, dAt_lst, dAt_klst, dAt_dic, dAt_ins, dAt_exo, dAt_fn, dAt_und, oAdd_ii, oAdd_ss, oAdd_ll, oAdd_tt, oOrd_ii, oOrd_ss, oInS_r, oInt_r, oInt0_r, oLen_l, oLen_k, oLen_t, oLen_s, oAbs_r, oInt1_i, oInt1_b, oReprB_r, int1_r, int2_r, isLst_l, see_v, see_s, sea_v, sea_s, ↓dIdx, ↓dFld, ↓dFset, ↓dJoin, ↓dListOf, ↓dMeth, ↓dMake_r, ↓dAsgG, ↓dLcN, ↓dLc2, idxK_ss, isStr_s, fldK_0, fldK_S, fsetK_r, isIns_i, dgTup_t, dgSeq_l, dgSeq_k, dgCons_c, dgNil_n, rowK_l, rowK_k, rowK_t, oTup_l, oTup_k, oTup_t, ↓dLoan_r, lnK_ok, lnK_exc, lnE_t, lnE_f, lnE_n, olE_c, olE_n, Bool.true_or, Bool.or_true, Bool.false_or, lf_non, lf_bl, lf_int, lf_str, lf_tup, lf_ins, lfs_n, lfs_c, fr2_l, ol_l, ↓dNeg, ngK_i, oRepS_r, ↓dApp2, ↓dPop2, ↓dPut2, sbK_l, opApp, opPop, opPut, ↓dAppSelf, ↓dAsg3, ↓dTru, truK_b, truK_l, ↓dExt, extK_l, oMin2_r, oIsB_r, ↓dSortSet, ↓dReprT, oEqS_r, ↓dCat, catK_l, ↓dItV, itK_s, itK_t, itK_l, itK_k, ↓dDisp1_r, tkK_ii, ↓dDget, ↓dDin, ↓dDput, dkK_tr, dkK_oi, dkK_os, dputK_t, dputK_oi, dputK_os]
        refine kN2 _ _ ⟨_, row ++ [v2], rfl, by rw [List.map_append]; rfl, by rw [List.length_append, hrl]; rfl, fun q hq => (List.mem_append.mp hq).elim (hrow q) fun e => by rw [List.mem_singleton.mp e]; exact ⟨w0, w1⟩⟩
      · rintro acc ρ ⟨p', row, rfl, rfl, hrl, hrow⟩
        rw [Nat.zero_add, List.length_map] at hrl
        simp only [↓dSeq, ↓dIfS, ↓dRet, ↓dRetN, ↓dSkip, ↓dBrk, ↓dCnt, ↓dPk, ↓dC, ↓dO, ↓d2, ↓dNotT, ↓dAndT, ↓dOrT, ↓dIf, ↓dNil, ↓dCons, ↓dNilL, ↓dConsL, ↓dTup, ↓dLst, ↓dBI, ↓dOwnL, ↓dCall, ↓dRng1, ↓dRng2, ↓dFor, ↓dRaise, ↓dRaise0, ↓dPn, ↓dYes, ↓dLc, ↓dExp, ↓onOk_ok, ↓onOk_exc, ↓onFl_ok, ↓onFl_exc, gt0, gtS, Vi.frs, fr_non, own_non, own_und, nz_non, fr_bl, own_bl, nz_bl, fr_int, own_int, nz_int, fr_str, own_str, nz_str, fr_tup, own_tup, nz_tup, fr_lst, own_lst, nz_lst, fr_klst, own_klst, nz_klst, fr_dic, own_dic, nz_dic, fr_ins, own_ins, nz_ins, fr_exo, own_exo, nz_exo, fr_fn, own_fn, nz_fn, eqD_ii, eqD_ss, eqD_bb, eqD_nn, eqD_sn, eqD_ns, eqD_ll, eqD_tt, eqDs_nn, eqDs_cn, eqDs_nc, eqDs_cc, shp_i, shp_b, shp_n, shp_s, shp_l, shp_t, shps_n, shps_c, id_eq, ↓dTry, ↓dIs_eq, ↓dWhat_eq, endT_rt, endT_nx, oEq, oIsN, isN, ↓endK_rt, ↓endK_nx, ↓endK_exc, ↓turnK_nx, ↓turnK_ct, ↓turnK_bk, ↓turnK_rt, ↓turnK_exc, List.set_cons_zero, List.set_cons_succ, List.all_cons, List.all_nil, List.map_cons, List.map_nil, Bool.and_true, Bool.and_self, Bool.true_and, Bool.not_true, Bool.not_false, true_and, and_true, List.take_succ_cons, List.take_zero, List.cons_append, List.nil_append, Bool.false_eq_true, if_false, if_true, ite_false, ite_true, wb_n, wb_sl, wb_vc, wb_vn, wb_v1, wb_v2, wb_v3, wb_v4, wb_v5, wb_v6, unb, reb, List.length_cons, List.length_nil, ↓dVar_r, ↓dFr_r, ↓dSet_r, ↓dgN_r, ↓dPut_r, ↓dApp_r, ↓dB_r, ↓dAndV_r, ↓dOrV_r, ↓dNotV_r, ↓dChn_r, ↓dSl_r, ↓dLenSet_r, ↓dItS_r, ↓dItL_r, ↓dItT_r, ↓dPs_r, eAt_c, exF_ok, putK_li, appK_l, blK_b, slK_s, slK_l, oIx_l, oIx_k, oIx_t, oIx_s, oAll_m, stK_b, seqK_l, seqK_k, tupK_t, inK_b, dAt_non, dAt_bl, dAt_int, dAt_str, dAt_tup, dAt_lst, dAt_klst, dAt_dic, dAt_ins, dAt_exo, dAt_fn, dAt_und, oAdd_ii, oAdd_ss, oAdd_ll, oAdd_tt, oOrd_ii, oOrd_ss, oInS_r, oInt_r, oInt0_r, oLen_l, oLen_k, oLen_t, oLen_s, oAbs_r, oInt1_i, oInt1_b, oReprB_r, int1_r, int2_r, isLst_l, see_v, see_s, sea_v, sea_s, ↓dIdx, ↓dFld, ↓dFset, ↓dJoin, ↓dListOf, ↓dMeth, ↓dMake_r, ↓dAsgG, ↓dLcN, ↓dLc2, idxK_ss, isStr_s, fldK_0, fldK_S, fsetK_r, isIns_i, dgTup_t, dgSeq_l, dgSeq_k, dgCons_c, dgNil_n, rowK_l, rowK_k, rowK_t, oTup_l, oTup_k, oTup_t, ↓dLoan_r, lnK_ok, lnK_exc, lnE_t, lnE_f, lnE_n, olE_c, olE_n, Bool.true_or, Bool.or_true, Bool.false_or, lf_non, lf_bl, lf_int, lf_str, lf_tup, lf_ins, lfs_n, lfs_c, fr2_l, ol_l, ↓dNeg, ngK_i, oRepS_r, ↓dApp2, ↓dPop2, ↓dPut2, sbK_l, opApp, opPop, opPut, ↓dAppSelf, ↓dAsg3, ↓dTru, truK_b, truK_l, ↓dExt, extK_l, oMin2_r, oIsB_r, ↓dSortSet, ↓dReprT, oEqS_r, ↓dCat, catK_l, ↓dItV, itK_s, itK_t, itK_l, itK_k, ↓dDisp1_r, tkK_ii, ↓dDget, ↓dDin, ↓dDput, dkK_tr, dkK_oi, dkK_os, dputK_t, dputK_oi, dputK_os]
        refine kN _ _ ⟨p', tab ++ [row], rfl, by rw [List.map_append]; rfl, by rw [List.length_append, htl]; rfl, fun r hr => (List.mem_append.mp hr).elim (htab r) fun e => by rw [List.mem_singleton.mp e]; exact ⟨hrl, hrow⟩⟩
    · rintro acc ρ ⟨p', tab, rfl, rfl, htl, htab⟩
      rw [rngD_len] at htl
      obtain ⟨m, rfl, rfl⟩ : ∃ m : MA, bs = m.acc ∧ tab = m.tab := ⟨⟨bs, tab⟩, rfl, rfl⟩
      have ok : m.Ok L := ⟨by omega, by omega, fun row h => (htab row h).1, fun row h q hq => by rw [hbl]; exact (htab row h).2 q hq⟩
      have f8 : m.acc.length ≤ 12 := by omega
      have bd : m.Bd L := ok.bd (by omega) (by omega)
      have f0 := ok.pos
      have t0 := ok.tl
      simp only [b_law_6, own_bls, fr_bls, ↓dSeq, ↓dIfS, ↓dRet, ↓dRetN, ↓dSkip, ↓dBrk, ↓dCnt, ↓dPk, ↓dC, ↓dO, ↓d2, ↓dNotT, ↓dAndT, ↓dOrT, ↓dIf, ↓dNil, ↓dCons, ↓dNilL, ↓dConsL, ↓dTup, ↓dLst, ↓dBI, ↓dOwnL, ↓dCall, ↓dRng1, ↓dRng2, ↓dFor, ↓dRaise, ↓dRaise0, ↓dPn, ↓dYes, ↓dLc, ↓dExp, ↓onOk_ok, ↓onOk_exc, ↓onFl_ok, ↓onFl_exc, gt0, gtS, Vi.frs, fr_non, own_non, own_und, nz_non, fr_bl, own_bl, nz_bl, fr_int, own_int, nz_int, fr_str, own_str, nz_str, fr_tup, own_tup, nz_tup, fr_lst, own_lst, nz_lst, fr_klst, own_klst, nz_klst, fr_dic, own_dic, nz_dic, fr_ins, own_ins, nz_ins, fr_exo, own_exo, nz_exo, fr_fn, own_fn, nz_fn, eqD_ii, eqD_ss, eqD_bb, eqD_nn, eqD_sn, eqD_ns, eqD_ll, eqD_tt, eqDs_nn, eqDs_cn, eqDs_nc, eqDs_cc, shp_i, shp_b, shp_n, shp_s, shp_l, shp_t, shps_n, shps_c, id_eq, ↓dTry, ↓dIs_eq, ↓dWhat_eq, endT_rt, endT_nx, oEq, oIsN, isN, ↓endK_rt, ↓endK_nx, ↓endK_exc, ↓turnK_nx, ↓turnK_ct, ↓turnK_bk, ↓turnK_rt, ↓turnK_exc, List.set_cons_zero, List.set_cons_succ, List.all_cons, List.all_nil, List.map_cons, List.map_nil, Bool.and_true, Bool.and_self, Bool.true_and, Bool.not_true, Bool.not_false, true_and, and_true, List.take_succ_cons, List.take_zero, List.cons_append, List.nil_append, Bool.false_eq_true, if_false, if_true, ite_false, ite_true, wb_n, wb_sl, wb_vc, wb_vn, wb_v1, wb_v2, wb_v3, wb_v4, wb_v5, wb_v6, unb, reb, List.length_cons, List.length_nil, ↓dVar_r, ↓dFr_r, ↓dSet_r, ↓dgN_r, ↓dPut_r, ↓dApp_r, ↓dB_r, ↓dAndV_r, ↓dOrV_r, ↓dNotV_r, ↓dChn_r, ↓dSl_r, ↓dLenSet_r, ↓dItS_r, ↓dItL_r, ↓dItT_r, ↓dPs_r, eAt_c, exF_ok, putK_li, appK_l, blK_b, slK_s, slK_l, oIx_l, oIx_k, oIx_t, oIx_s, oAll_m, stK_b, seqK_l, seqK_k, tupK_t, inK_b, dAt_non, dAt_bl, dAt_int, dAt_str, dAt_tup, dAt_lst, dAt_klst, dAt_dic, dAt_ins, dAt_exo, dAt_fn, dAt_und, oAdd_ii, oAdd_ss, oAdd_ll, oAdd_tt, oOrd_ii, oOrd_ss, oInS_r, oInt_r, oInt0_r, oLen_l, oLen_k, oLen_t, oLen_s, oAbs_r, oInt1_i, oInt1_b, oReprB_r, int1_r, int2_r, isLst_l, see_v, see_s, sea_v, sea_s, ↓dIdx, ↓dFld, ↓dFset, ↓dJoin, ↓dListOf, ↓dMeth, ↓dMake_r, ↓dAsgG, ↓dLcN, ↓dLc2, idxK_ss, isStr_s, fldK_0, fldK_S, fsetK_r, isIns_i, dgTup_t, dgSeq_l, dgSeq_k, dgCons_c, dgNil_n, rowK_l, rowK_k, rowK_t, oTup_l, oTup_k, oTup_t, ↓dLoan_r, lnK_ok, lnK_exc, lnE_t, lnE_f, lnE_n, olE_c, olE_n, Bool.true_or, Bool.or_true, Bool.false_or, lf_non, lf_bl, lf_int, lf_str, lf_tup, lf_ins, lfs_n, lfs_c, fr2_l, ol_l, ↓dNeg, ngK_i, oRepS_r, ↓dApp2, ↓dPop2, ↓dPut2, sbK_l, opApp, opPop, opPut, ↓dAppSelf, ↓dAsg3, ↓dTru, truK_b, truK_l, ↓dExt, extK_l, oMin2_r, oIsB_r, ↓dSortSet, ↓dReprT, oEqS_r, ↓dCat, catK_l, ↓dItV, itK_s, itK_t, itK_l, itK_k, ↓dDisp1_r, tkK_ii, ↓dDget, ↓dDin, ↓dDput, dkK_tr, dkK_oi, dkK_os, dputK_t, dputK_oi, dputK_os]
      simp only [b_law_7, List.length_map, ↓dSeq, ↓dIfS, ↓dRet, ↓dRetN, ↓dSkip, ↓dBrk, ↓dCnt, ↓dPk, ↓dC, ↓dO, ↓d2, ↓dNotT, ↓dAndT, ↓dOrT, ↓dIf, ↓dNil, ↓dCons, ↓dNilL, ↓dConsL, ↓dTup, ↓dLst, ↓dBI, ↓dOwnL, ↓dCall, ↓dRng1, ↓dRng2, ↓dFor, ↓dRaise, ↓dRaise0, ↓dPn, ↓dYes, ↓dLc, ↓dExp, ↓onOk_ok, ↓onOk_exc, ↓onFl_ok, ↓onFl_exc, gt0, gtS, Vi.frs, fr_non, own_non, own_und, nz_non, fr_bl, own_bl, nz_bl, fr_int, own_int, nz_int, fr_str, own_str, nz_str, fr_tup, own_tup, nz_tup, fr_lst, own_lst, nz_lst, fr_klst, own_klst, nz_klst, fr_dic, own_dic, nz_dic, fr_ins, own_ins, nz_ins, fr_exo, own_exo, nz_exo, fr_fn, own_fn, nz_fn, eqD_ii, eqD_ss, eqD_bb, eqD_nn, eqD_sn, eqD_ns, eqD_ll, eqD_tt, eqDs_nn, eqDs_cn, eqDs_nc, eqDs_cc, shp_i, shp_b, shp_n, shp_s, shp_l, shp_t, shps_n, shps_c, id_eq, ↓dTry, ↓dIs_eq, ↓dWhat_eq, endT_rt, endT_nx, oEq, oIsN, isN, ↓endK_rt, ↓endK_nx, ↓endK_exc, ↓turnK_nx, ↓turnK_ct, ↓turnK_bk, ↓turnK_rt, ↓turnK_exc, List.set_cons_zero, List.set_cons_succ, List.all_cons, List.all_nil, List.map_cons, List.map_nil, Bool.and_true, Bool.and_self, Bool.true_and, Bool.not_true, Bool.not_false, true_and, and_true, List.take_succ_cons, List.take_zero, List.cons_append, List.nil_append, Bool.false_eq_true, if_false, if_true, ite_false, ite_true, wb_n, wb_sl, wb_vc, wb_vn, wb_v1, wb_v2, wb_v3, wb_v4, wb_v5, wb_v6, unb, reb, List.length_cons, List.length_nil, ↓dVar_r, ↓dFr_r, ↓dSet_r, ↓dgN_r, ↓dPut_r, ↓dApp_r, ↓dB_r, ↓dAndV_r, ↓dOrV_r, ↓dNotV_r, ↓dChn_r, ↓dSl_r, ↓dLenSet_r, ↓dItS_r, ↓dItL_r, ↓dItT_r, ↓dPs_r, eAt_c, exF_ok, putK_li, appK_l, blK_b, slK_s, slK_l, oIx_l, oIx_k, oIx_t, oIx_s, oAll_m, stK_b, seqK_l, seqK_k, tupK_t, inK_b, dAt_non, dAt_bl, dAt_int, dAt_str, dAt_tup, dAt_lst, dAt_klst, dAt_dic, dAt_ins, dAt_exo, dAt_fn, dAt_und, oAdd_ii, oAdd_ss, oAdd_ll, oAdd_tt, oOrd_ii, oOrd_ss, oInS_r, oInt_r, oInt0_r, oLen_l, oLen_k, oLen_t, oLen_s, oAbs_r, oInt1_i, oInt1_b, oReprB_r, int1_r, int2_r, isLst_l, see_v, see_s, sea_v, sea_s, ↓dIdx, ↓dFld, ↓dFset, ↓dJoin, ↓dListOf, ↓dMeth, ↓dMake_r, ↓dAsgG, ↓dLcN, ↓dLc2, idxK_ss, isStr_s, fldK_0, fldK_S, fsetK_r, isIns_i, dgTup_t, dgSeq_l, dgSeq_k, dgCons_c, dgNil_n, rowK_l, rowK_k, rowK_t, oTup_l, oTup_k, oTup_t, ↓dLoan_r, lnK_ok, lnK_exc, lnE_t, lnE_f, lnE_n, olE_c, olE_n, Bool.true_or, Bool.or_true, Bool.false_or, lf_non, lf_bl, lf_int, lf_str, lf_tup, lf_ins, lfs_n, lfs_c, fr2_l, ol_l, ↓dNeg, ngK_i, oRepS_r, ↓dApp2, ↓dPop2, ↓dPut2, sbK_l, opApp, opPop, opPut, ↓dAppSelf, ↓dAsg3, ↓dTru, truK_b, truK_l, ↓dExt, extK_l, oMin2_r, oIsB_r, ↓dSortSet, ↓dReprT, oEqS_r, ↓dCat, catK_l, ↓dItV, itK_s, itK_t, itK_l, itK_k, ↓dDisp1_r, tkK_ii, ↓dDget, ↓dDin, ↓dDput, dkK_tr, dkK_oi, dkK_os, dputK_t, dputK_oi, dputK_os]
      refine ⟨by omega, ?_⟩
      refine lcN_inv (ρ := []) (fun i acc ρ => ρ = [.klst (ns.map .int), stD nums p', .str L, .int (1 + v), accD m, .und, tabD m, .und, .lst true (m.acc.map .bl), .und, .und, .und, .und, .und, .und, .und, .und, .und] ∧ acc = (m.tab.take i).map ownJ) _ 0 [] _ ⟨rfl, rfl⟩ ?_ ?_
      · rintro i d acc ρ N hd ⟨rfl, rfl⟩ kN
        obtain ⟨row, hr, rfl⟩ := map_get hd
        simp only [own_ints, ↓dSeq, ↓dIfS, ↓dRet, ↓dRetN, ↓dSkip, ↓dBrk, ↓dCnt, ↓dPk, ↓dC, ↓dO, ↓d2, ↓dNotT, ↓dAndT, ↓dOrT, ↓dIf, ↓dNil, ↓dCons, ↓dNilL, ↓dConsL, ↓dTup, ↓dLst, ↓dBI, ↓dOwnL, ↓dCall, ↓dRng1, ↓dRng2, ↓dFor, ↓dRaise, ↓dRaise0, ↓dPn, ↓dYes, ↓dLc, ↓dExp, ↓onOk_ok, ↓onOk_exc, ↓onFl_ok, ↓onFl_exc, gt0, gtS, Vi.frs, fr_non, own_non, own_und, nz_non, fr_bl, own_bl, nz_bl, fr_int, own_int, nz_int, fr_str, own_str, nz_str, fr_tup, own_tup, nz_tup, fr_lst, own_lst, nz_lst, fr_klst, own_klst, nz_klst, fr_dic, own_dic, nz_dic, fr_ins, own_ins, nz_ins, fr_exo, own_exo, nz_exo, fr_fn, own_fn, nz_fn, eqD_ii, eqD_ss, eqD_bb, eqD_nn, eqD_sn, eqD_ns, eqD_ll, eqD_tt, eqDs_nn, eqDs_cn, eqDs_nc, eqDs_cc, shp_i, shp_b, shp_n, shp_s, shp_l, shp_t, shps_n, shps_c, id_eq, ↓dTry, ↓dIs_eq, ↓dWhat_eq, endT_rt, endT_nx, oEq, oIsN, isN, ↓endK_rt, ↓endK_nx, ↓endK_exc, ↓turnK_nx, ↓turnK_ct, ↓turnK_bk, ↓turnK_rt, ↓turnK_exc, List.set_cons_zero, List.set_cons_succ, List.all_cons, List.all_nil, List.map_cons, List.map_nil, Bool.and_true, Bool.and_self, Bool.true_and, Bool.not_true, Bool.not_false, true_and, and_true, List.take_succ_cons, List.take_zero, List.cons_append, List.nil_append, Bool.false_eq_true, if_false, if_true, ite_false, ite_true, wb_n, wb_sl, wb_vc, wb_vn, wb_v1, wb_v2, wb_v3, wb_v4, wb_v5, wb_v6, unb, reb, List.length_cons, List.length_nil, ↓dVar_r, ↓dFr_r, ↓dSet_r, ↓dgN_r, ↓dPut_r, ↓dApp_r, ↓dB_r, ↓dAndV_r, ↓dOrV_r, ↓dNotV_r, ↓dChn_r, ↓dSl_r, ↓dLenSet_r, ↓dItS_r, ↓dItL_r, ↓dItT_r, ↓dPs_r, eAt_c, exF_ok, putK_li, appK_l, blK_b, slK_s, slK_l, oIx_l, oIx_k, oIx_t, oIx_s, oAll_m, stK_b, seqK_l, seqK_k, tupK_t, inK_b, dAt_non, dAt_bl, dAt_int, dAt_str, dAt_tup, dAt_lst, dAt_klst, dAt_dic, dAt_ins, dAt_exo, dAt_fn, dAt_und, oAdd_ii, oAdd_ss, oAdd_ll, oAdd_tt, oOrd_ii, oOrd_ss, oInS_r, oInt_r, oInt0_r, oLen_l, oLen_k, oLen_t, oLen_s, oAbs_r, oInt1_i, oInt1_b, oReprB_r, int1_r, int2_r, isLst_l, see_v, see_s, sea_v, sea_s, ↓dIdx, ↓dFld, ↓dFset, ↓dJoin, ↓dListOf, ↓dMeth, ↓dMake_r, ↓dAsgG, ↓dLcN, ↓dLc2, idxK_ss, isStr_s, fldK_0, fldK_S, fsetK_r, isIns_i, dgTup_t, dgSeq_l, dgSeq_k, dgCons_c, dgNil_n, rowK_l, rowK_k, rowK_t, oTup_l, oTup_k, oTup_t, ↓dLoan_r, lnK_ok, lnK_exc, lnE_t, lnE_f, lnE_n, olE_c, olE_n, Bool.true_or, Bool.or_true, Bool.false_or, lf_non, lf_bl, lf_int, lf_str, lf_tup, lf_ins, lfs_n, lfs_c, fr2_l, ol_l, ↓dNeg, ngK_i, oRepS_r, ↓dApp2, ↓dPop2, ↓dPut2, sbK_l, opApp, opPop, opPut, ↓dAppSelf, ↓dAsg3, ↓dTru, truK_b, truK_l, ↓dExt, extK_l, oMin2_r, oIsB_r, ↓dSortSet, ↓dReprT, oEqS_r, ↓dCat, catK_l, ↓dItV, itK_s, itK_t, itK_l, itK_k, ↓dDisp1_r, tkK_ii, ↓dDget, ↓dDin, ↓dDput, dkK_tr, dkK_oi, dkK_os, dputK_t, dputK_oi, dputK_os]
        refine kN _ _ ⟨rfl, ?_⟩
        rw [Nat.zero_add, take_get hr, List.map_append, fr_ints]
        rfl
      · rintro acc ρ ⟨rfl, rfl⟩
        rw [Nat.zero_add, List.length_map, List.take_length]
        simp only [b_law_8, fr_bls, fr_ownJ, ol1_ownJ, ol1_bls, ↓dSeq, ↓dIfS, ↓dRet, ↓dRetN, ↓dSkip, ↓dBrk, ↓dCnt, ↓dPk, ↓dC, ↓dO, ↓d2, ↓dNotT, ↓dAndT, ↓dOrT, ↓dIf, ↓dNil, ↓dCons, ↓dNilL, ↓dConsL, ↓dTup, ↓dLst, ↓dBI, ↓dOwnL, ↓dCall, ↓dRng1, ↓dRng2, ↓dFor, ↓dRaise, ↓dRaise0, ↓dPn, ↓dYes, ↓dLc, ↓dExp, ↓onOk_ok, ↓onOk_exc, ↓onFl_ok, ↓onFl_exc, gt0, gtS, Vi.frs, fr_non, own_non, own_und, nz_non, fr_bl, own_bl, nz_bl, fr_int, own_int, nz_int, fr_str, own_str, nz_str, fr_tup, own_tup, nz_tup, fr_lst, own_lst, nz_lst, fr_klst, own_klst, nz_klst, fr_dic, own_dic, nz_dic, fr_ins, own_ins, nz_ins, fr_exo, own_exo, nz_exo, fr_fn, own_fn, nz_fn, eqD_ii, eqD_ss, eqD_bb, eqD_nn, eqD_sn, eqD_ns, eqD_ll, eqD_tt, eqDs_nn, eqDs_cn, eqDs_nc, eqDs_cc, shp_i, shp_b, shp_n, shp_s, shp_l, shp_t, shps_n, shps_c, id_eq, ↓dTry, ↓dIs_eq, ↓dWhat_eq, endT_rt, endT_nx, oEq, oIsN, isN, ↓endK_rt, ↓endK_nx, ↓endK_exc, ↓turnK_nx, ↓turnK_ct, ↓turnK_bk, ↓turnK_rt, ↓turnK_exc, List.set_cons_zero, List.set_cons_succ, List.all_cons, List.all_nil, List.map_cons, List.map_nil, Bool.and_true, Bool.and_self, Bool.true_and, Bool.not_true, Bool.not_false, true_and, and_true, List.take_succ_cons, List.take_zero, List.cons_append, List.nil_append, Bool.false_eq_true, if_false, if_true, ite_false, ite_true, wb_n, wb_sl, wb_vc, wb_vn, wb_v1, wb_v2, wb_v3, wb_v4, wb_v5, wb_v6, unb, reb, List.length_cons, List.length_nil, ↓dVar_r, ↓dFr_r, ↓dSet_r, ↓dgN_r, ↓dPut_r, ↓dApp_r, ↓dB_r, ↓dAndV_r, ↓dOrV_r, ↓dNotV_r, ↓dChn_r, ↓dSl_r, ↓dLenSet_r, ↓dItS_r, ↓dItL_r, ↓dItT_r, ↓dPs_r, eAt_c, exF_ok, putK_li, appK_l, blK_b, slK_s, slK_l, oIx_l, oIx_k, oIx_t, oIx_s, oAll_m, stK_b, seqK_l, seqK_k, tupK_t, inK_b, dAt_non, dAt_bl, dAt_int, dAt_str, dAt_tup, dAt_lst, dAt_klst, dAt_dic, dAt_ins, dAt_exo, dAt_fn, dAt_und, oAdd_ii, oAdd_ss, oAdd_ll, oAdd_tt, oOrd_ii, oOrd_ss, oInS_r, oInt_r, oInt0_r, oLen_l, oLen_k, oLen_t, oLen_s, oAbs_r, oInt1_i, oInt1_b, oReprB_r, int1_r, int2_r, isLst_l, see_v, see_s, sea_v, sea_s, ↓dIdx, ↓dFld, ↓dFset, ↓dJoin, ↓dListOf, ↓dMeth, ↓dMake_r, ↓dAsgG, ↓dLcN, ↓dLc2, idxK_ss, isStr_s, fldK_0, fldK_S, fsetK_r, isIns_i, dgTup_t, dgSeq_l, dgSeq_k, dgCons_c, dgNil_n, rowK_l, rowK_k, rowK_t, oTup_l, oTup_k, oTup_t, ↓dLoan_r, lnK_ok, lnK_exc, lnE_t, lnE_f, lnE_n, olE_c, olE_n, Bool.true_or, Bool.or_true, Bool.false_or, lf_non, lf_bl, lf_int, lf_str, lf_tup, lf_ins, lfs_n, lfs_c, fr2_l, ol_l, ↓dNeg, ngK_i, oRepS_r, ↓dApp2, ↓dPop2, ↓dPut2, sbK_l, opApp, opPop, opPut, ↓dAppSelf, ↓dAsg3, ↓dTru, truK_b, truK_l, ↓dExt, extK_l, oMin2_r, oIsB_r, ↓dSortSet, ↓dReprT, oEqS_r, ↓dCat, catK_l, ↓dItV, itK_s, itK_t, itK_l, itK_k, ↓dDisp1_r, tkK_ii, ↓dDget, ↓dDin, ↓dDput, dkK_tr, dkK_oi, dkK_os, dputK_t, dputK_oi, dputK_os]
        refine make_ma ok bd ?_
        have lfA : lfs (List.map D.bl m.acc) = true := lfs_map fun b _ => lf_bl b
        have lfT : lfs (List.map rowI m.tab) = true := lfs_map fun row _ => by
          show lf (.tup (row.map .int)) = true
          rw [lf_tup]
          exact lfs_map fun q _ => lf_int q
        simp only [lfA, lfT, b_law_9, own_bls, ↓dSeq, ↓dIfS, ↓dRet, ↓dRetN, ↓dSkip, ↓dBrk, ↓dCnt, ↓dPk, ↓dC, ↓dO, ↓d2, ↓dNotT, ↓dAndT, ↓dOrT, ↓dIf, ↓dNil, ↓dCons, ↓dNilL, ↓dConsL, ↓dTup, ↓dLst, ↓dBI, ↓dOwnL, ↓dCall, ↓dRng1, ↓dRng2, ↓dFor, ↓dRaise, ↓dRaise0, ↓dPn, ↓dYes, ↓dLc, ↓dExp, ↓onOk_ok, ↓onOk_exc, ↓onFl_ok, ↓onFl_exc, gt0, gtS, Vi.frs, fr_non, own_non, own_und, nz_non, fr_bl, own_bl, nz_bl, fr_int, own_int, nz_int, fr_str, own_str, nz_str, fr_tup, own_tup, nz_tup, fr_lst, own_lst, nz_lst, fr_klst, own_klst, nz_klst, fr_dic, own_dic, nz_dic, fr_ins, own_ins, nz_ins, fr_exo, own_exo, nz_exo, fr_fn, own_fn, nz_fn, eqD_ii, eqD_ss, eqD_bb, eqD_nn, eqD_sn, eqD_ns, eqD_ll, eqD_tt, eqDs_nn, eqDs_cn, eqDs_nc, eqDs_cc, shp_i, shp_b, shp_n, shp_s, shp_l, shp_t, shps_n, shps_c, id_eq, ↓dTry, ↓dIs_eq, ↓dWhat_eq, endT_rt, endT_nx, oEq, oIsN, isN, ↓endK_rt, ↓endK_nx, ↓endK_exc, ↓turnK_nx, ↓turnK_ct, ↓turnK_bk, ↓turnK_rt, ↓turnK_exc, List.set_cons_zero, List.set_cons_succ, List.all_cons, List.all_nil, List.map_cons, List.map_nil, Bool.and_true, Bool.and_self, Bool.true_and, Bool.not_true, Bool.not_false, true_and, and_true, List.take_succ_cons, List.take_zero, List.cons_append, List.nil_append, Bool.false_eq_true, if_false, if_true, ite_false, ite_true, wb_n, wb_sl, wb_vc, wb_vn, wb_v1, wb_v2, wb_v3, wb_v4, wb_v5, wb_v6, unb, reb, List.length_cons, List.length_nil, ↓dVar_r, ↓dFr_r, ↓dSet_r, ↓dgN_r, ↓dPut_r, ↓dApp_r, ↓dB_r, ↓dAndV_r, ↓dOrV_r, ↓dNotV_r, ↓dChn_r, ↓dSl_r, ↓dLenSet_r, ↓dItS_r, ↓dItL_r, ↓dItT_r, ↓dPs_r, eAt_c, exF_ok, putK_li, appK_l, blK_b, slK_s, slK_l, oIx_l, oIx_k, oIx_t, oIx_s, oAll_m, stK_b, seqK_l, seqK_k, tupK_t, inK_b, dAt_non, dAt_bl, dAt_int, dAt_str, dAt_tup, dAt_lst, dAt_klst, dAt_dic, dAt_ins, dAt_exo, dAt_fn, dAt_und, oAdd_ii, oAdd_ss, oAdd_ll, oAdd_tt, oOrd_ii, oOrd_ss, oInS_r, oInt_r, oInt0_r, oLen_l, oLen_k, oLen_t, oLen_s, oAbs_r, oInt1_i, oInt1_b, oReprB_r, int1_r, int2_r, isLst_l, see_v, see_s, sea_v, sea_s, ↓dIdx, ↓dFld, ↓dFset, ↓dJoin, ↓dListOf, ↓dMeth, ↓dMake_r, ↓dAsgG, ↓dLcN, ↓dLc2, idxK_ss, isStr_s, fldK_0, fldK_S, fsetK_r, isIns_i, dgTup_t, dgSeq_l, dgSeq_k, dgCons_c, dgNil_n, rowK_l, rowK_k, rowK_t, oTup_l, oTup_k, oTup_t, ↓dLoan_r, lnK_ok, lnK_exc, lnE_t, lnE_f, lnE_n, olE_c, olE_n, Bool.true_or, Bool.or_true, Bool.false_or, lf_non, lf_bl, lf_int, lf_str, lf_tup, lf_ins, lfs_n, lfs_c, fr2_l, ol_l, ↓dNeg, ngK_i, oRepS_r, ↓dApp2, ↓dPop2, ↓dPut2, sbK_l, opApp, opPop, opPut, ↓dAppSelf, ↓dAsg3, ↓dTru, truK_b, truK_l, ↓dExt, extK_l, oMin2_r, oIsB_r, ↓dSortSet, ↓dReprT, oEqS_r, ↓dCat, catK_l, ↓dItV, itK_s, itK_t, itK_l, itK_k, ↓dDisp1_r, tkK_ii, ↓dDget, ↓dDin, ↓dDput, dkK_tr, dkK_oi, dkK_os, dputK_t, dputK_oi, dputK_os]
        have bt := bd.n3
        refine ⟨by rw [List.length_map]; omega, ?_⟩
        have oo : ((m.tab.map rowI).all fun d => !own d) = true := own_all_map (fun _ => rfl) _
        have rowsT : ∀ {i : Nat} {row : List Int}, m.tab[i]? = some row → (m.tab.take i).map rowI ++ [.tup (row.map .int)] = (m.tab.take (i + 1)).map rowI := fun {i row} h => by
          rw [take_get h, List.map_append]
          rfl
        refine lc_dn (fun i acc => acc = (m.tab.take i).map rowI) rfl ?_ ?_
        · rintro i d acc N hd rfl kN
          obtain ⟨row, hr, rfl⟩ := map_get hd
          simp only [own_ints, ↓dSeq, ↓dIfS, ↓dRet, ↓dRetN, ↓dSkip, ↓dBrk, ↓dCnt, ↓dPk, ↓dC, ↓dO, ↓d2, ↓dNotT, ↓dAndT, ↓dOrT, ↓dIf, ↓dNil, ↓dCons, ↓dNilL, ↓dConsL, ↓dTup, ↓dLst, ↓dBI, ↓dOwnL, ↓dCall, ↓dRng1, ↓dRng2, ↓dFor, ↓dRaise, ↓dRaise0, ↓dPn, ↓dYes, ↓dLc, ↓dExp, ↓onOk_ok, ↓onOk_exc, ↓onFl_ok, ↓onFl_exc, gt0, gtS, Vi.frs, fr_non, own_non, own_und, nz_non, fr_bl, own_bl, nz_bl, fr_int, own_int, nz_int, fr_str, own_str, nz_str, fr_tup, own_tup, nz_tup, fr_lst, own_lst, nz_lst, fr_klst, own_klst, nz_klst, fr_dic, own_dic, nz_dic, fr_ins, own_ins, nz_ins, fr_exo, own_exo, nz_exo, fr_fn, own_fn, nz_fn, eqD_ii, eqD_ss, eqD_bb, eqD_nn, eqD_sn, eqD_ns, eqD_ll, eqD_tt, eqDs_nn, eqDs_cn, eqDs_nc, eqDs_cc, shp_i, shp_b, shp_n, shp_s, shp_l, shp_t, shps_n, shps_c, id_eq, ↓dTry, ↓dIs_eq, ↓dWhat_eq, endT_rt, endT_nx, oEq, oIsN, isN, ↓endK_rt, ↓endK_nx, ↓endK_exc, ↓turnK_nx, ↓turnK_ct, ↓turnK_bk, ↓turnK_rt, ↓turnK_exc, List.set_cons_zero, List.set_cons_succ, List.all_cons, List.all_nil, List.map_cons, List.map_nil, Bool.and_true, Bool.and_self, Bool.true_and, Bool.not_true, Bool.not_false, true_and, and_true, List.take_succ_cons, List.take_zero, List.cons_append, List.nil_append, Bool.false_eq_true, if_false, if_true, ite_false, ite_true, wb_n, wb_sl, wb_vc, wb_vn, wb_v1, wb_v2, wb_v3, wb_v4, wb_v5, wb_v6, unb, reb, List.length_cons, List.length_nil, ↓dVar_r, ↓dFr_r, ↓dSet_r, ↓dgN_r, ↓dPut_r, ↓dApp_r, ↓dB_r, ↓dAndV_r, ↓dOrV_r, ↓dNotV_r, ↓dChn_r, ↓dSl_r, ↓dLenSet_r, ↓dItS_r, ↓dItL_r, ↓dItT_r, ↓dPs_r, eAt_c, exF_ok, putK_li, appK_l, blK_b, slK_s, slK_l, oIx_l, oIx_k, oIx_t, oIx_s, oAll_m, stK_b, seqK_l, seqK_k, tupK_t, inK_b, dAt_non, dAt_bl, dAt_int, dAt_str, dAt_tup, dAt_lst, dAt_klst, dAt_dic, dAt_ins, dAt_exo, dAt_fn, dAt_und, oAdd_ii, oAdd_ss, oAdd_ll, oAdd_tt, oOrd_ii, oOrd_ss, oInS_r, oInt_r, oInt0_r, oLen_l, oLen_k, oLen_t, oLen_s, oAbs_r, oInt1_i, oInt1_b, oReprB_r, int1_r, int2_r, isLst_l, see_v, see_s, sea_v, sea_s, ↓dIdx, ↓dFld, ↓dFset, ↓dJoin, ↓dListOf, ↓dMeth, ↓dMake_r, ↓dAsgG, ↓dLcN, ↓dLc2, idxK_ss, isStr_s, fldK_0, fldK_S, fsetK_r, isIns_i, dgTup_t, dgSeq_l, dgSeq_k, dgCons_c, dgNil_n, rowK_l, rowK_k, rowK_t, oTup_l, oTup_k, oTup_t, ↓dLoan_r, lnK_ok, lnK_exc, lnE_t, lnE_f, lnE_n, olE_c, olE_n, Bool.true_or, Bool.or_true, Bool.false_or, lf_non, lf_bl, lf_int, lf_str, lf_tup, lf_ins, lfs_n, lfs_c, fr2_l, ol_l, ↓dNeg, ngK_i, oRepS_r, ↓dApp2, ↓dPop2, ↓dPut2, sbK_l, opApp, opPop, opPut, ↓dAppSelf, ↓dAsg3, ↓dTru, truK_b, truK_l, ↓dExt, extK_l, oMin2_r, oIsB_r, ↓dSortSet, ↓dReprT, oEqS_r, ↓dCat, catK_l, ↓dItV, itK_s, itK_t, itK_l, itK_k, ↓dDisp1_r, tkK_ii, ↓dDget, ↓dDin, ↓dDput, dkK_tr, dkK_oi, dkK_os, dputK_t, dputK_oi, dputK_os]
          exact kN _ (rowsT hr)
        · rintro acc rfl
          rw [List.length_map, List.take_length]
          simp only [oo, ↓dSeq, ↓dIfS, ↓dRet, ↓dRetN, ↓dSkip, ↓dBrk, ↓dCnt, ↓dPk, ↓dC, ↓dO, ↓d2, ↓dNotT, ↓dAndT, ↓dOrT, ↓dIf, ↓dNil, ↓dCons, ↓dNilL, ↓dConsL, ↓dTup, ↓dLst, ↓dBI, ↓dOwnL, ↓dCall, ↓dRng1, ↓dRng2, ↓dFor, ↓dRaise, ↓dRaise0, ↓dPn, ↓dYes, ↓dLc, ↓dExp, ↓onOk_ok, ↓onOk_exc, ↓onFl_ok, ↓onFl_exc, gt0, gtS, Vi.frs, fr_non, own_non, own_und, nz_non, fr_bl, own_bl, nz_bl, fr_int, own_int, nz_int, fr_str, own_str, nz_str, fr_tup, own_tup, nz_tup, fr_lst, own_lst, nz_lst, fr_klst, own_klst, nz_klst, fr_dic, own_dic, nz_dic, fr_ins, own_ins, nz_ins, fr_exo, own_exo, nz_exo, fr_fn, own_fn, nz_fn, eqD_ii, eqD_ss, eqD_bb, eqD_nn, eqD_sn, eqD_ns, eqD_ll, eqD_tt, eqDs_nn, eqDs_cn, eqDs_nc, eqDs_cc, shp_i, shp_b, shp_n, shp_s, shp_l, shp_t, shps_n, shps_c, id_eq, ↓dTry, ↓dIs_eq, ↓dWhat_eq, endT_rt, endT_nx, oEq, oIsN, isN, ↓endK_rt, ↓endK_nx, ↓endK_exc, ↓turnK_nx, ↓turnK_ct, ↓turnK_bk, ↓turnK_rt, ↓turnK_exc, List.set_cons_zero, List.set_cons_succ, List.all_cons, List.all_nil, List.map_cons, List.map_nil, Bool.and_true, Bool.and_self, Bool.true_and, Bool.not_true, Bool.not_false, true_and, and_true, List.take_succ_cons, List.take_zero, List.cons_append, List.nil_append, Bool.false_eq_true, if_false, if_true, ite_false, ite_true, wb_n, wb_sl, wb_vc, wb_vn, wb_v1, wb_v2, wb_v3, wb_v4, wb_v5, wb_v6, unb, reb, List.length_cons, List.length_nil, ↓dVar_r, ↓dFr_r, ↓dSet_r, ↓dgN_r, ↓dPut_r, ↓dApp_r, ↓dB_r, ↓dAndV_r, ↓dOrV_r, ↓dNotV_r, ↓dChn_r, ↓dSl_r, ↓dLenSet_r, ↓dItS_r, ↓dItL_r, ↓dItT_r, ↓dPs_r, eAt_c, exF_ok, putK_li, appK_l, blK_b, slK_s, slK_l, oIx_l, oIx_k, oIx_t, oIx_s, oAll_m, stK_b, seqK_l, seqK_k, tupK_t, inK_b, dAt_non, dAt_bl, dAt_int, dAt_str, dAt_tup, dAt_lst, dAt_klst, dAt_dic, dAt_ins, dAt_exo, dAt_fn, dAt_und, oAdd_ii, oAdd_ss, oAdd_ll, oAdd_tt, oOrd_ii, oOrd_ss, oInS_r, oInt_r, oInt0_r, oLen_l, oLen_k, oLen_t, oLen_s, oAbs_r, oInt1_i, oInt1_b, oReprB_r, int1_r, int2_r, isLst_l, see_v, see_s, sea_v, sea_s, ↓dIdx, ↓dFld, ↓dFset, ↓dJoin, ↓dListOf, ↓dMeth, ↓dMake_r, ↓dAsgG, ↓dLcN, ↓dLc2, idxK_ss, isStr_s, fldK_0, fldK_S, fsetK_r, isIns_i, dgTup_t, dgSeq_l, dgSeq_k, dgCons_c, dgNil_n, rowK_l, rowK_k, rowK_t, oTup_l, oTup_k, oTup_t, ↓dLoan_r, lnK_ok, lnK_exc, lnE_t, lnE_f, lnE_n, olE_c, olE_n, Bool.true_or, Bool.or_true, Bool.false_or, lf_non, lf_bl, lf_int, lf_str, lf_tup, lf_ins, lfs_n, lfs_c, fr2_l, ol_l, ↓dNeg, ngK_i, oRepS_r, ↓dApp2, ↓dPop2, ↓dPut2, sbK_l, opApp, opPop, opPut, ↓dAppSelf, ↓dAsg3, ↓dTru, truK_b, truK_l, ↓dExt, extK_l, oMin2_r, oIsB_r, ↓dSortSet, ↓dReprT, oEqS_r, ↓dCat, catK_l, ↓dItV, itK_s, itK_t, itK_l, itK_k, ↓dDisp1_r, tkK_ii, ↓dDget, ↓dDin, ↓dDput, dkK_tr, dkK_oi, dkK_os, dputK_t, dputK_oi, dputK_os]
          refine make_maT ok bd ?_
          simp only [b_law_10, ↓dSeq, ↓dIfS, ↓dRet, ↓dRetN, ↓dSkip, ↓dBrk, ↓dCnt, ↓dPk, ↓dC, ↓dO, ↓d2, ↓dNotT, ↓dAndT, ↓dOrT, ↓dIf, ↓dNil, ↓dCons, ↓dNilL, ↓dConsL, ↓dTup, ↓dLst, ↓dBI, ↓dOwnL, ↓dCall, ↓dRng1, ↓dRng2, ↓dFor, ↓dRaise, ↓dRaise0, ↓dPn, ↓dYes, ↓dLc, ↓dExp, ↓onOk_ok, ↓onOk_exc, ↓onFl_ok, ↓onFl_exc, gt0, gtS, Vi.frs, fr_non, own_non, own_und, nz_non, fr_bl, own_bl, nz_bl, fr_int, own_int, nz_int, fr_str, own_str, nz_str, fr_tup, own_tup, nz_tup, fr_lst, own_lst, nz_lst, fr_klst, own_klst, nz_klst, fr_dic, own_dic, nz_dic, fr_ins, own_ins, nz_ins, fr_exo, own_exo, nz_exo, fr_fn, own_fn, nz_fn, eqD_ii, eqD_ss, eqD_bb, eqD_nn, eqD_sn, eqD_ns, eqD_ll, eqD_tt, eqDs_nn, eqDs_cn, eqDs_nc, eqDs_cc, shp_i, shp_b, shp_n, shp_s, shp_l, shp_t, shps_n, shps_c, id_eq, ↓dTry, ↓dIs_eq, ↓dWhat_eq, endT_rt, endT_nx, oEq, oIsN, isN, ↓endK_rt, ↓endK_nx, ↓endK_exc, ↓turnK_nx, ↓turnK_ct, ↓turnK_bk, ↓turnK_rt, ↓turnK_exc, List.set_cons_zero, List.set_cons_succ, List.all_cons, List.all_nil, List.map_cons, List.map_nil, Bool.and_true, Bool.and_self, Bool.true_and, Bool.not_true, Bool.not_false, true_and, and_true, List.take_succ_cons, List.take_zero, List.cons_append, List.nil_append, Bool.false_eq_true, if_false, if_true, ite_false, ite_true, wb_n, wb_sl, wb_vc, wb_vn, wb_v1, wb_v2, wb_v3, wb_v4, wb_v5, wb_v6, unb, reb, List.length_cons, List.length_nil, ↓dVar_r, ↓dFr_r, ↓dSet_r, ↓dgN_r, ↓dPut_r, ↓dApp_r, ↓dB_r, ↓dAndV_r, ↓dOrV_r, ↓dNotV_r, ↓dChn_r, ↓dSl_r, ↓dLenSet_r, ↓dItS_r, ↓dItL_r, ↓dItT_r, ↓dPs_r, eAt_c, exF_ok, putK_li, appK_l, blK_b, slK_s, slK_l, oIx_l, oIx_k, oIx_t, oIx_s, oAll_m, stK_b, seqK_l, seqK_k, tupK_t, inK_b, dAt_non, dAt_bl, dAt_int, dAt_str, dAt_tup, dAt_lst, dAt_klst, dAt_dic, dAt_ins, dAt_exo, dAt_fn, dAt_und, oAdd_ii, oAdd_ss, oAdd_ll, oAdd_tt, oOrd_ii, oOrd_ss, oInS_r, oInt_r, oInt0_r, oLen_l, oLen_k, oLen_t, oLen_s, oAbs_r, oInt1_i, oInt1_b, oReprB_r, int1_r, int2_r, isLst_l, see_v, see_s, sea_v, sea_s, ↓dIdx, ↓dFld, ↓dFset, ↓dJoin, ↓dListOf, ↓dMeth, ↓dMake_r, ↓dAsgG, ↓dLcN, ↓dLc2, idxK_ss, isStr_s, fldK_0, fldK_S, fsetK_r, isIns_i, dgTup_t, dgSeq_l, dgSeq_k, dgCons_c, dgNil_n, rowK_l, rowK_k, rowK_t, oTup_l, oTup_k, oTup_t, ↓dLoan_r, lnK_ok, lnK_exc, lnE_t, lnE_f, lnE_n, olE_c, olE_n, Bool.true_or, Bool.or_true, Bool.false_or, lf_non, lf_bl, lf_int, lf_str, lf_tup, lf_ins, lfs_n, lfs_c, fr2_l, ol_l, ↓dNeg, ngK_i, oRepS_r, ↓dApp2, ↓dPop2, ↓dPut2, sbK_l, opApp, opPop, opPut, ↓dAppSelf, ↓dAsg3, ↓dTru, truK_b, truK_l, ↓dExt, extK_l, oMin2_r, oIsB_r, ↓dSortSet, ↓dReprT, oEqS_r, ↓dCat, catK_l, ↓dItV, itK_s, itK_t, itK_l, itK_k, ↓dDisp1_r, tkK_ii, ↓dDget, ↓dDin, ↓dDput, dkK_tr, dkK_oi, dkK_os, dputK_t, dputK_oi, dputK_os]
          refine atD_of (map_at (f := D.bl) (l := m.acc) (i := 0) (d := false) (by omega)) rfl ?_
          simp only [↓dSeq, ↓dIfS, ↓dRet, ↓dRetN, ↓dSkip, ↓dBrk, ↓dCnt, ↓dPk, ↓dC, ↓dO, ↓d2, ↓dNotT, ↓dAndT, ↓dOrT, ↓dIf, ↓dNil, ↓dCons, ↓dNilL, ↓dConsL, ↓dTup, ↓dLst, ↓dBI, ↓dOwnL, ↓dCall, ↓dRng1, ↓dRng2, ↓dFor, ↓dRaise, ↓dRaise0, ↓dPn, ↓dYes, ↓dLc, ↓dExp, ↓onOk_ok, ↓onOk_exc, ↓onFl_ok, ↓onFl_exc, gt0, gtS, Vi.frs, fr_non, own_non, own_und, nz_non, fr_bl, own_bl, nz_bl, fr_int, own_int, nz_int, fr_str, own_str, nz_str, fr_tup, own_tup, nz_tup, fr_lst, own_lst, nz_lst, fr_klst, own_klst, nz_klst, fr_dic, own_dic, nz_dic, fr_ins, own_ins, nz_ins, fr_exo, own_exo, nz_exo, fr_fn, own_fn, nz_fn, eqD_ii, eqD_ss, eqD_bb, eqD_nn, eqD_sn, eqD_ns, eqD_ll, eqD_tt, eqDs_nn, eqDs_cn, eqDs_nc, eqDs_cc, shp_i, shp_b, shp_n, shp_s, shp_l, shp_t, shps_n, shps_c, id_eq, ↓dTry, ↓dIs_eq, ↓dWhat_eq, endT_rt, endT_nx, oEq, oIsN, isN, ↓endK_rt, ↓endK_nx, ↓endK_exc, ↓turnK_nx, ↓turnK_ct, ↓turnK_bk, ↓turnK_rt, ↓turnK_exc, List.set_cons_zero, List.set_cons_succ, List.all_cons, List.all_nil, List.map_cons, List.map_nil, Bool.and_true, Bool.and_self, Bool.true_and, Bool.not_true, Bool.not_false, true_and, and_true, List.take_succ_cons, List.take_zero, List.cons_append, List.nil_append, Bool.false_eq_true, if_false, if_true, ite_false, ite_true, wb_n, wb_sl, wb_vc, wb_vn, wb_v1, wb_v2, wb_v3, wb_v4, wb_v5, wb_v6, unb, reb, List.length_cons, List.length_nil, ↓dVar_r, ↓dFr_r, ↓dSet_r, ↓dgN_r, ↓dPut_r, ↓dApp_r, ↓dB_r, ↓dAndV_r, ↓dOrV_r, ↓dNotV_r, ↓dChn_r, ↓dSl_r, ↓dLenSet_r, ↓dItS_r, ↓dItL_r, ↓dItT_r, ↓dPs_r, eAt_c, exF_ok, putK_li, appK_l, blK_b, slK_s, slK_l, oIx_l, oIx_k, oIx_t, oIx_s, oAll_m, stK_b, seqK_l, seqK_k, tupK_t, inK_b, dAt_non, dAt_bl, dAt_int, dAt_str, dAt_tup, dAt_lst, dAt_klst, dAt_dic, dAt_ins, dAt_exo, dAt_fn, dAt_und, oAdd_ii, oAdd_ss, oAdd_ll, oAdd_tt, oOrd_ii, oOrd_ss, oInS_r, oInt_r, oInt0_r, oLen_l, oLen_k, oLen_t, oLen_s, oAbs_r, oInt1_i, oInt1_b, oReprB_r, int1_r, int2_r, isLst_l, see_v, see_s, sea_v, sea_s, ↓dIdx, ↓dFld, ↓dFset, ↓dJoin, ↓dListOf, ↓dMeth, ↓dMake_r, ↓dAsgG, ↓dLcN, ↓dLc2, idxK_ss, isStr_s, fldK_0, fldK_S, fsetK_r, isIns_i, dgTup_t, dgSeq_l, dgSeq_k, dgCons_c, dgNil_n, rowK_l, rowK_k, rowK_t, oTup_l, oTup_k, oTup_t, ↓dLoan_r, lnK_ok, lnK_exc, lnE_t, lnE_f, lnE_n, olE_c, olE_n, Bool.true_or, Bool.or_true, Bool.false_or, lf_non, lf_bl, lf_int, lf_str, lf_tup, lf_ins, lfs_n, lfs_c, fr2_l, ol_l, ↓dNeg, ngK_i, oRepS_r, ↓dApp2, ↓dPop2, ↓dPut2, sbK_l, opApp, opPop, opPut, ↓dAppSelf, ↓dAsg3, ↓dTru, truK_b, truK_l, ↓dExt, extK_l, oMin2_r, oIsB_r, ↓dSortSet, ↓dReprT, oEqS_r, ↓dCat, catK_l, ↓dItV, itK_s, itK_t, itK_l, itK_k, ↓dDisp1_r, tkK_ii, ↓dDget, ↓dDin, ↓dDput, dkK_tr, dkK_oi, dkK_os, dputK_t, dputK_oi, dputK_os]
          refine ⟨0, by rw [List.length_map]; exact ixN_of (Int.le_refl 0) (by omega), ?_⟩
          generalize (List.map D.bl m.acc).set 0 _ = jk
          simp only [b_law_11, ↓dSeq, ↓dIfS, ↓dRet, ↓dRetN, ↓dSkip, ↓dBrk, ↓dCnt, ↓dPk, ↓dC, ↓dO, ↓d2, ↓dNotT, ↓dAndT, ↓dOrT, ↓dIf, ↓dNil, ↓dCons, ↓dNilL, ↓dConsL, ↓dTup, ↓dLst, ↓dBI, ↓dOwnL, ↓dCall, ↓dRng1, ↓dRng2, ↓dFor, ↓dRaise, ↓dRaise0, ↓dPn, ↓dYes, ↓dLc, ↓dExp, ↓onOk_ok, ↓onOk_exc, ↓onFl_ok, ↓onFl_exc, gt0, gtS, Vi.frs, fr_non, own_non, own_und, nz_non, fr_bl, own_bl, nz_bl, fr_int, own_int, nz_int, fr_str, own_str, nz_str, fr_tup, own_tup, nz_tup, fr_lst, own_lst, nz_lst, fr_klst, own_klst, nz_klst, fr_dic, own_dic, nz_dic, fr_ins, own_ins, nz_ins, fr_exo, own_exo, nz_exo, fr_fn, own_fn, nz_fn, eqD_ii, eqD_ss, eqD_bb, eqD_nn, eqD_sn, eqD_ns, eqD_ll, eqD_tt, eqDs_nn, eqDs_cn, eqDs_nc, eqDs_cc, shp_i, shp_b, shp_n, shp_s, shp_l, shp_t, shps_n, shps_c, id_eq, ↓dTry, ↓dIs_eq, ↓dWhat_eq, endT_rt, endT_nx, oEq, oIsN, isN, ↓endK_rt, ↓endK_nx, ↓endK_exc, ↓turnK_nx, ↓turnK_ct, ↓turnK_bk, ↓turnK_rt, ↓turnK_exc, List.set_cons_zero, List.set_cons_succ, List.all_cons, List.all_nil, List.map_cons, List.map_nil, Bool.and_true, Bool.and_self, Bool.true_and, Bool.not_true, Bool.not_false, true_and, and_true, List.take_succ_cons, List.take_zero, List.cons_append, List.nil_append, Bool.false_eq_true, if_false, if_true, ite_false, ite_true, wb_n, wb_sl, wb_vc, wb_vn, wb_v1, wb_v2, wb_v3, wb_v4, wb_v5, wb_v6, unb, reb, List.length_cons, List.length_nil, ↓dVar_r, ↓dFr_r, ↓dSet_r, ↓dgN_r, ↓dPut_r, ↓dApp_r, ↓dB_r, ↓dAndV_r, ↓dOrV_r, ↓dNotV_r, ↓dChn_r, ↓dSl_r, ↓dLenSet_r, ↓dItS_r, ↓dItL_r, ↓dItT_r, ↓dPs_r, eAt_c, exF_ok, putK_li, appK_l, blK_b, slK_s, slK_l, oIx_l, oIx_k, oIx_t, oIx_s, oAll_m, stK_b, seqK_l, seqK_k, tupK_t, inK_b, dAt_non, dAt_bl, dAt_int, dAt_str, dAt_tup, dAt_lst, dAt_klst, dAt_dic, dAt_ins, dAt_exo, dAt_fn, dAt_und, oAdd_ii, oAdd_ss, oAdd_ll, oAdd_tt, oOrd_ii, oOrd_ss, oInS_r, oInt_r, oInt0_r, oLen_l, oLen_k, oLen_t, oLen_s, oAbs_r, oInt1_i, oInt1_b, oReprB_r, int1_r, int2_r, isLst_l, see_v, see_s, sea_v, sea_s, ↓dIdx, ↓dFld, ↓dFset, ↓dJoin, ↓dListOf, ↓dMeth, ↓dMake_r, ↓dAsgG, ↓dLcN, ↓dLc2, idxK_ss, isStr_s, fldK_0, fldK_S, fsetK_r, isIns_i, dgTup_t, dgSeq_l, dgSeq_k, dgCons_c, dgNil_n, rowK_l, rowK_k, rowK_t, oTup_l, oTup_k, oTup_t, ↓dLoan_r, lnK_ok, lnK_exc, lnE_t, lnE_f, lnE_n, olE_c, olE_n, Bool.true_or, Bool.or_true, Bool.false_or, lf_non, lf_bl, lf_int, lf_str, lf_tup, lf_ins, lfs_n, lfs_c, fr2_l, ol_l, ↓dNeg, ngK_i, oRepS_r, ↓dApp2, ↓dPop2, ↓dPut2, sbK_l, opApp, opPop, opPut, ↓dAppSelf, ↓dAsg3, ↓dTru, truK_b, truK_l, ↓dExt, extK_l, oMin2_r, oIsB_r, ↓dSortSet, ↓dReprT, oEqS_r, ↓dCat, catK_l, ↓dItV, itK_s, itK_t, itK_l, itK_k, ↓dDisp1_r, tkK_ii, ↓dDget, ↓dDin, ↓dDput, dkK_tr, dkK_oi, dkK_os, dputK_t, dputK_oi, dputK_os]
          obtain ⟨row, hrow⟩ : ∃ row, m.tab[0]? = some row := ⟨_, List.getElem?_eq_getElem (by omega)⟩
          have rl := ok.rl row (List.mem_of_getElem? hrow)
          refine ⟨0, row.map D.int, by rw [List.length_map]; exact ixN_of (Int.le_refl 0) (by omega), by rw [List.getElem?_map, hrow]; rfl, by rw [List.length_map]; omega, ?_⟩
          simp only [b_law_12, ↓dSeq, ↓dIfS, ↓dRet, ↓dRetN, ↓dSkip, ↓dBrk, ↓dCnt, ↓dPk, ↓dC, ↓dO, ↓d2, ↓dNotT, ↓dAndT, ↓dOrT, ↓dIf, ↓dNil, ↓dCons, ↓dNilL, ↓dConsL, ↓dTup, ↓dLst, ↓dBI, ↓dOwnL, ↓dCall, ↓dRng1, ↓dRng2, ↓dFor, ↓dRaise, ↓dRaise0, ↓dPn, ↓dYes, ↓dLc, ↓dExp, ↓onOk_ok, ↓onOk_exc, ↓onFl_ok, ↓onFl_exc, gt0, gtS, Vi.frs, fr_non, own_non, own_und, nz_non, fr_bl, own_bl, nz_bl, fr_int, own_int, nz_int, fr_str, own_str, nz_str, fr_tup, own_tup, nz_tup, fr_lst, own_lst, nz_lst, fr_klst, own_klst, nz_klst, fr_dic, own_dic, nz_dic, fr_ins, own_ins, nz_ins, fr_exo, own_exo, nz_exo, fr_fn, own_fn, nz_fn, eqD_ii, eqD_ss, eqD_bb, eqD_nn, eqD_sn, eqD_ns, eqD_ll, eqD_tt, eqDs_nn, eqDs_cn, eqDs_nc, eqDs_cc, shp_i, shp_b, shp_n, shp_s, shp_l, shp_t, shps_n, shps_c, id_eq, ↓dTry, ↓dIs_eq, ↓dWhat_eq, endT_rt, endT_nx, oEq, oIsN, isN, ↓endK_rt, ↓endK_nx, ↓endK_exc, ↓turnK_nx, ↓turnK_ct, ↓turnK_bk, ↓turnK_rt, ↓turnK_exc, List.set_cons_zero, List.set_cons_succ, List.all_cons, List.all_nil, List.map_cons, List.map_nil, Bool.and_true, Bool.and_self, Bool.true_and, Bool.not_true, Bool.not_false, true_and, and_true, List.take_succ_cons, List.take_zero, List.cons_append, List.nil_append, Bool.false_eq_true, if_false, if_true, ite_false, ite_true, wb_n, wb_sl, wb_vc, wb_vn, wb_v1, wb_v2, wb_v3, wb_v4, wb_v5, wb_v6, unb, reb, List.length_cons, List.length_nil, ↓dVar_r, ↓dFr_r, ↓dSet_r, ↓dgN_r, ↓dPut_r, ↓dApp_r, ↓dB_r, ↓dAndV_r, ↓dOrV_r, ↓dNotV_r, ↓dChn_r, ↓dSl_r, ↓dLenSet_r, ↓dItS_r, ↓dItL_r, ↓dItT_r, ↓dPs_r, eAt_c, exF_ok, putK_li, appK_l, blK_b, slK_s, slK_l, oIx_l, oIx_k, oIx_t, oIx_s, oAll_m, stK_b, seqK_l, seqK_k, tupK_t, inK_b, dAt_non, dAt_bl, dAt_int, dAt_str, dAt_tup, dAt_lst, dAt_klst, dAt_dic, dAt_ins, dAt_exo, dAt_fn, dAt_und, oAdd_ii, oAdd_ss, oAdd_ll, oAdd_tt, oOrd_ii, oOrd_ss, oInS_r, oInt_r, oInt0_r, oLen_l, oLen_k, oLen_t, oLen_s, oAbs_r, oInt1_i, oInt1_b, oReprB_r, int1_r, int2_r, isLst_l, see_v, see_s, sea_v, sea_s, ↓dIdx, ↓dFld, ↓dFset, ↓dJoin, ↓dListOf, ↓dMeth, ↓dMake_r, ↓dAsgG, ↓dLcN, ↓dLc2, idxK_ss, isStr_s, fldK_0, fldK_S, fsetK_r, isIns_i, dgTup_t, dgSeq_l, dgSeq_k, dgCons_c, dgNil_n, rowK_l, rowK_k, rowK_t, oTup_l, oTup_k, oTup_t, ↓dLoan_r, lnK_ok, lnK_exc, lnE_t, lnE_f, lnE_n, olE_c, olE_n, Bool.true_or, Bool.or_true, Bool.false_or, lf_non, lf_bl, lf_int, lf_str, lf_tup, lf_ins, lfs_n, lfs_c, fr2_l, ol_l, ↓dNeg, ngK_i, oRepS_r, ↓dApp2, ↓dPop2, ↓dPut2, sbK_l, opApp, opPop, opPut, ↓dAppSelf, ↓dAsg3, ↓dTru, truK_b, truK_l, ↓dExt, extK_l, oMin2_r, oIsB_r, ↓dSortSet, ↓dReprT, oEqS_r, ↓dCat, catK_l, ↓dItV, itK_s, itK_t, itK_l, itK_k, ↓dDisp1_r, tkK_ii, ↓dDget, ↓dDin, ↓dDput, dkK_tr, dkK_oi, dkK_os, dputK_t, dputK_oi, dputK_os]
          refine ⟨0, by rw [List.length_set, List.length_map]; exact ixN_of (Int.le_refl 0) (by omega), by rw [List.length_set, List.length_map]; omega, by rw [List.length_set, List.length_map]; omega, ?_⟩
          simp only [b_law_13, own_bls, List.length_map, ↓dSeq, ↓dIfS, ↓dRet, ↓dRetN, ↓dSkip, ↓dBrk, ↓dCnt, ↓dPk, ↓dC, ↓dO, ↓d2, ↓dNotT, ↓dAndT, ↓dOrT, ↓dIf, ↓dNil, ↓dCons, ↓dNilL, ↓dConsL, ↓dTup, ↓dLst, ↓dBI, ↓dOwnL, ↓dCall, ↓dRng1, ↓dRng2, ↓dFor, ↓dRaise, ↓dRaise0, ↓dPn, ↓dYes, ↓dLc, ↓dExp, ↓onOk_ok, ↓onOk_exc, ↓onFl_ok, ↓onFl_exc, gt0, gtS, Vi.frs, fr_non, own_non, own_und, nz_non, fr_bl, own_bl, nz_bl, fr_int, own_int, nz_int, fr_str, own_str, nz_str, fr_tup, own_tup, nz_tup, fr_lst, own_lst, nz_lst, fr_klst, own_klst, nz_klst, fr_dic, own_dic, nz_dic, fr_ins, own_ins, nz_ins, fr_exo, own_exo, nz_exo, fr_fn, own_fn, nz_fn, eqD_ii, eqD_ss, eqD_bb, eqD_nn, eqD_sn, eqD_ns, eqD_ll, eqD_tt, eqDs_nn, eqDs_cn, eqDs_nc, eqDs_cc, shp_i, shp_b, shp_n, shp_s, shp_l, shp_t, shps_n, shps_c, id_eq, ↓dTry, ↓dIs_eq, ↓dWhat_eq, endT_rt, endT_nx, oEq, oIsN, isN, ↓endK_rt, ↓endK_nx, ↓endK_exc, ↓turnK_nx, ↓turnK_ct, ↓turnK_bk, ↓turnK_rt, ↓turnK_exc, List.set_cons_zero, List.set_cons_succ, List.all_cons, List.all_nil, List.map_cons, List.map_nil, Bool.and_true, Bool.and_self, Bool.true_and, Bool.not_true, Bool.not_false, true_and, and_true, List.take_succ_cons, List.take_zero, List.cons_append, List.nil_append, Bool.false_eq_true, if_false, if_true, ite_false, ite_true, wb_n, wb_sl, wb_vc, wb_vn, wb_v1, wb_v2, wb_v3, wb_v4, wb_v5, wb_v6, unb, reb, List.length_cons, List.length_nil, ↓dVar_r, ↓dFr_r, ↓dSet_r, ↓dgN_r, ↓dPut_r, ↓dApp_r, ↓dB_r, ↓dAndV_r, ↓dOrV_r, ↓dNotV_r, ↓dChn_r, ↓dSl_r, ↓dLenSet_r, ↓dItS_r, ↓dItL_r, ↓dItT_r, ↓dPs_r, eAt_c, exF_ok, putK_li, appK_l, blK_b, slK_s, slK_l, oIx_l, oIx_k, oIx_t, oIx_s, oAll_m, stK_b, seqK_l, seqK_k, tupK_t, inK_b, dAt_non, dAt_bl, dAt_int, dAt_str, dAt_tup, dAt_lst, dAt_klst, dAt_dic, dAt_ins, dAt_exo, dAt_fn, dAt_und, oAdd_ii, oAdd_ss, oAdd_ll, oAdd_tt, oOrd_ii, oOrd_ss, oInS_r, oInt_r, oInt0_r, oLen_l, oLen_k, oLen_t, oLen_s, oAbs_r, oInt1_i, oInt1_b, oReprB_r, int1_r, int2_r, isLst_l, see_v, see_s, sea_v, sea_s, ↓dIdx, ↓dFld, ↓dFset, ↓dJoin, ↓dListOf, ↓dMeth, ↓dMake_r, ↓dAsgG, ↓dLcN, ↓dLc2, idxK_ss, isStr_s, fldK_0, fldK_S, fsetK_r, isIns_i, dgTup_t, dgSeq_l, dgSeq_k, dgCons_c, dgNil_n, rowK_l, rowK_k, rowK_t, oTup_l, oTup_k, oTup_t, ↓dLoan_r, lnK_ok, lnK_exc, lnE_t, lnE_f, lnE_n, olE_c, olE_n, Bool.true_or, Bool.or_true, Bool.false_or, lf_non, lf_bl, lf_int, lf_str, lf_tup, lf_ins, lfs_n, lfs_c, fr2_l, ol_l, ↓dNeg, ngK_i, oRepS_r, ↓dApp2, ↓dPop2, ↓dPut2, sbK_l, opApp, opPop, opPut, ↓dAppSelf, ↓dAsg3, ↓dTru, truK_b, truK_l, ↓dExt, extK_l, oMin2_r, oIsB_r, ↓dSortSet, ↓dReprT, oEqS_r, ↓dCat, catK_l, ↓dItV, itK_s, itK_t, itK_l, itK_k, ↓dDisp1_r, tkK_ii, ↓dDget, ↓dDin, ↓dDput, dkK_tr, dkK_oi, dkK_os, dputK_t, dputK_oi, dputK_os]
          refine ⟨by omega, ?_⟩
          refine lc_dn (fun i acc => acc = (m.tab.take i).map rowI) rfl ?_ ?_
          · rintro i d acc N hd rfl kN
            obtain ⟨row, hr, rfl⟩ := map_get hd
            simp only [own_ints, ↓dSeq, ↓dIfS, ↓dRet, ↓dRetN, ↓dSkip, ↓dBrk, ↓dCnt, ↓dPk, ↓dC, ↓dO, ↓d2, ↓dNotT, ↓dAndT, ↓dOrT, ↓dIf, ↓dNil, ↓dCons, ↓dNilL, ↓dConsL, ↓dTup, ↓dLst, ↓dBI, ↓dOwnL, ↓dCall, ↓dRng1, ↓dRng2, ↓dFor, ↓dRaise, ↓dRaise0, ↓dPn, ↓dYes, ↓dLc, ↓dExp, ↓onOk_ok, ↓onOk_exc, ↓onFl_ok, ↓onFl_exc, gt0, gtS, Vi.frs, fr_non, own_non, own_und, nz_non, fr_bl, own_bl, nz_bl, fr_int, own_int, nz_int, fr_str, own_str, nz_str, fr_tup, own_tup, nz_tup, fr_lst, own_lst, nz_lst, fr_klst, own_klst, nz_klst, fr_dic, own_dic, nz_dic, fr_ins, own_ins, nz_ins, fr_exo, own_exo, nz_exo, fr_fn, own_fn, nz_fn, eqD_ii, eqD_ss, eqD_bb, eqD_nn, eqD_sn, eqD_ns, eqD_ll, eqD_tt, eqDs_nn, eqDs_cn, eqDs_nc, eqDs_cc, shp_i, shp_b, shp_n, shp_s, shp_l, shp_t, shps_n, shps_c, id_eq, ↓dTry, ↓dIs_eq, ↓dWhat_eq, endT_rt, endT_nx, oEq, oIsN, isN, ↓endK_rt, ↓endK_nx, ↓endK_exc, ↓turnK_nx, ↓turnK_ct, ↓turnK_bk, ↓turnK_rt, ↓turnK_exc, List.set_cons_zero, List.set_cons_succ, List.all_cons, List.all_nil, List.map_cons, List.map_nil, Bool.and_true, Bool.and_self, Bool.true_and, Bool.not_true, Bool.not_false, true_and, and_true, List.take_succ_cons, List.take_zero, List.cons_append, List.nil_append, Bool.false_eq_true, if_false, if_true, ite_false, ite_true, wb_n, wb_sl, wb_vc, wb_vn, wb_v1, wb_v2, wb_v3, wb_v4, wb_v5, wb_v6, unb, reb, List.length_cons, List.length_nil, ↓dVar_r, ↓dFr_r, ↓dSet_r, ↓dgN_r, ↓dPut_r, ↓dApp_r, ↓dB_r, ↓dAndV_r, ↓dOrV_r, ↓dNotV_r, ↓dChn_r, ↓dSl_r, ↓dLenSet_r, ↓dItS_r, ↓dItL_r, ↓dItT_r, ↓dPs_r, eAt_c, exF_ok, putK_li, appK_l, blK_b, slK_s, slK_l, oIx_l, oIx_k, oIx_t, oIx_s, oAll_m, stK_b, seqK_l, seqK_k, tupK_t, inK_b, dAt_non, dAt_bl, dAt_int, dAt_str, dAt_tup, dAt_lst, dAt_klst, dAt_dic, dAt_ins, dAt_exo, dAt_fn, dAt_und, oAdd_ii, oAdd_ss, oAdd_ll, oAdd_tt, oOrd_ii, oOrd_ss, oInS_r, oInt_r, oInt0_r, oLen_l, oLen_k, oLen_t, oLen_s, oAbs_r, oInt1_i, oInt1_b, oReprB_r, int1_r, int2_r, isLst_l, see_v, see_s, sea_v, sea_s, ↓dIdx, ↓dFld, ↓dFset, ↓dJoin, ↓dListOf, ↓dMeth, ↓dMake_r, ↓dAsgG, ↓dLcN, ↓dLc2, idxK_ss, isStr_s, fldK_0, fldK_S, fsetK_r, isIns_i, dgTup_t, dgSeq_l, dgSeq_k, dgCons_c, dgNil_n, rowK_l, rowK_k, rowK_t, oTup_l, oTup_k, oTup_t, ↓dLoan_r, lnK_ok, lnK_exc, lnE_t, lnE_f, lnE_n, olE_c, olE_n, Bool.true_or, Bool.or_true, Bool.false_or, lf_non, lf_bl, lf_int, lf_str, lf_tup, lf_ins, lfs_n, lfs_c, fr2_l, ol_l, ↓dNeg, ngK_i, oRepS_r, ↓dApp2, ↓dPop2, ↓dPut2, sbK_l, opApp, opPop, opPut, ↓dAppSelf, ↓dAsg3, ↓dTru, truK_b, truK_l, ↓dExt, extK_l, oMin2_r, oIsB_r, ↓dSortSet, ↓dReprT, oEqS_r, ↓dCat, catK_l, ↓dItV, itK_s, itK_t, itK_l, itK_k, ↓dDisp1_r, tkK_ii, ↓dDget, ↓dDin, ↓dDput, dkK_tr, dkK_oi, dkK_os, dputK_t, dputK_oi, dputK_os]
            exact kN _ (rowsT hr)
          · rintro acc rfl
            rw [List.length_map, List.take_length]
            simp only [oo, b_law_14, ↓dSeq, ↓dIfS, ↓dRet, ↓dRetN, ↓dSkip, ↓dBrk, ↓dCnt, ↓dPk, ↓dC, ↓dO, ↓d2, ↓dNotT, ↓dAndT, ↓dOrT, ↓dIf, ↓dNil, ↓dCons, ↓dNilL, ↓dConsL, ↓dTup, ↓dLst, ↓dBI, ↓dOwnL, ↓dCall, ↓dRng1, ↓dRng2, ↓dFor, ↓dRaise, ↓dRaise0, ↓dPn, ↓dYes, ↓dLc, ↓dExp, ↓onOk_ok, ↓onOk_exc, ↓onFl_ok, ↓onFl_exc, gt0, gtS, Vi.frs, fr_non, own_non, own_und, nz_non, fr_bl, own_bl, nz_bl, fr_int, own_int, nz_int, fr_str, own_str, nz_str, fr_tup, own_tup, nz_tup, fr_lst, own_lst, nz_lst, fr_klst, own_klst, nz_klst, fr_dic, own_dic, nz_dic, fr_ins, own_ins, nz_ins, fr_exo, own_exo, nz_exo, fr_fn, own_fn, nz_fn, eqD_ii, eqD_ss, eqD_bb, eqD_nn, eqD_sn, eqD_ns, eqD_ll, eqD_tt, eqDs_nn, eqDs_cn, eqDs_nc, eqDs_cc, shp_i, shp_b, shp_n, shp_s, shp_l, shp_t, shps_n, shps_c, id_eq, ↓dTry, ↓dIs_eq, ↓dWhat_eq, endT_rt, endT_nx, oEq, oIsN, isN, ↓endK_rt, ↓endK_nx, ↓endK_exc, ↓turnK_nx, ↓turnK_ct, ↓turnK_bk, ↓turnK_rt, ↓turnK_exc, List.set_cons_zero, List.set_cons_succ, List.all_cons, List.all_nil, List.map_cons, List.map_nil, Bool.and_true, Bool.and_self, Bool.true_and, Bool.not_true, Bool.not_false, true_and, and_true, List.take_succ_cons, List.take_zero, List.cons_append, List.nil_append, Bool.false_eq_true, if_false, if_true, ite_false, ite_true, wb_n, wb_sl, wb_vc, wb_vn, wb_v1, wb_v2, wb_v3, wb_v4, wb_v5, wb_v6, unb, reb, List.length_cons, List.length_nil, ↓dVar_r, ↓dFr_r, ↓dSet_r, ↓dgN_r, ↓dPut_r, ↓dApp_r, ↓dB_r, ↓dAndV_r, ↓dOrV_r, ↓dNotV_r, ↓dChn_r, ↓dSl_r, ↓dLenSet_r, ↓dItS_r, ↓dItL_r, ↓dItT_r, ↓dPs_r, eAt_c, exF_ok, putK_li, appK_l, blK_b, slK_s, slK_l, oIx_l, oIx_k, oIx_t, oIx_s, oAll_m, stK_b, seqK_l, seqK_k, tupK_t, inK_b, dAt_non, dAt_bl, dAt_int, dAt_str, dAt_tup, dAt_lst, dAt_klst, dAt_dic, dAt_ins, dAt_exo, dAt_fn, dAt_und, oAdd_ii, oAdd_ss, oAdd_ll, oAdd_tt, oOrd_ii, oOrd_ss, oInS_r, oInt_r, oInt0_r, oLen_l, oLen_k, oLen_t, oLen_s, oAbs_r, oInt1_i, oInt1_b, oReprB_r, int1_r, int2_r, isLst_l, see_v, see_s, sea_v, sea_s, ↓dIdx, ↓dFld, ↓dFset, ↓dJoin, ↓dListOf, ↓dMeth, ↓dMake_r, ↓dAsgG, ↓dLcN, ↓dLc2, idxK_ss, isStr_s, fldK_0, fldK_S, fsetK_r, isIns_i, dgTup_t, dgSeq_l, dgSeq_k, dgCons_c, dgNil_n, rowK_l, rowK_k, rowK_t, oTup_l, oTup_k, oTup_t, ↓dLoan_r, lnK_ok, lnK_exc, lnE_t, lnE_f, lnE_n, olE_c, olE_n, Bool.true_or, Bool.or_true, Bool.false_or, lf_non, lf_bl, lf_int, lf_str, lf_tup, lf_ins, lfs_n, lfs_c, fr2_l, ol_l, ↓dNeg, ngK_i, oRepS_r, ↓dApp2, ↓dPop2, ↓dPut2, sbK_l, opApp, opPop, opPut, ↓dAppSelf, ↓dAsg3, ↓dTru, truK_b, truK_l, ↓dExt, extK_l, oMin2_r, oIsB_r, ↓dSortSet, ↓dReprT, oEqS_r, ↓dCat, catK_l, ↓dItV, itK_s, itK_t, itK_l, itK_k, ↓dDisp1_r, tkK_ii, ↓dDget, ↓dDin, ↓dDput, dkK_tr, dkK_oi, dkK_os, dputK_t, dputK_oi, dputK_os]
            refine ⟨by decide, ⟨by decide, by decide⟩, ?_⟩
            refine for_dn (fun _ ρ => ∃ (p' : Int) (x5 x7 x14 x15 : D), ρ = [.klst (ns.map .int), stD nums p', .str L, .int (1 + v), accD m, x5, tabD m, x7, .lst true jk, .und, .und, maD L m, maD L m, .tup (maL L m), x14, x15, .und, .und]) ⟨p', _, _, _, _, rfl⟩ ?_ ?_
            · rintro i d ρ N hd ⟨p', x5, x7, x14, x15, rfl⟩ kN
              obtain ⟨hi, rfl⟩ := rngD_get hd
              simp only [↓dSeq, ↓dIfS, ↓dRet, ↓dRetN, ↓dSkip, ↓dBrk, ↓dCnt, ↓dPk, ↓dC, ↓dO, ↓d2, ↓dNotT, ↓dAndT, ↓dOrT, ↓dIf, ↓dNil, ↓dCons, ↓dNilL, ↓dConsL, ↓dTup, ↓dLst, ↓dBI, ↓dOwnL, ↓dCall, ↓dRng1, ↓dRng2, ↓dFor, ↓dRaise, ↓dRaise0, ↓dPn, ↓dYes, ↓dLc, ↓dExp, ↓onOk_ok, ↓onOk_exc, ↓onFl_ok, ↓onFl_exc, gt0, gtS, Vi.frs, fr_non, own_non, own_und, nz_non, fr_bl, own_bl, nz_bl, fr_int, own_int, nz_int, fr_str, own_str, nz_str, fr_tup, own_tup, nz_tup, fr_lst, own_lst, nz_lst, fr_klst, own_klst, nz_klst, fr_dic, own_dic, nz_dic, fr_ins, own_ins, nz_ins, fr_exo, own_exo, nz_exo, fr_fn, own_fn, nz_fn, eqD_ii, eqD_ss, eqD_bb, eqD_nn, eqD_sn, eqD_ns, eqD_ll, eqD_tt, eqDs_nn, eqDs_cn, eqDs_nc, eqDs_cc, shp_i, shp_b, shp_n, shp_s, shp_l, shp_t, shps_n, shps_c, id_eq, ↓dTry, ↓dIs_eq, ↓dWhat_eq, endT_rt, endT_nx, oEq, oIsN, isN, ↓endK_rt, ↓endK_nx, ↓endK_exc, ↓turnK_nx, ↓turnK_ct, ↓turnK_bk, ↓turnK_rt, ↓turnK_exc, List.set_cons_zero, List.set_cons_succ, List.all_cons, List.all_nil, List.map_cons, List.map_nil, Bool.and_true, Bool.and_self, Bool.true_and, Bool.not_true, Bool.not_false, true_and, and_true, List.take_succ_cons, List.take_zero, List.cons_append, List.nil_append, Bool.false_eq_true, if_false, if_true, ite_false, ite_true, wb_n, wb_sl, wb_vc, wb_vn, wb_v1, wb_v2, wb_v3, wb_v4, wb_v5, wb_v6, unb, reb, List.length_cons, List.length_nil, ↓dVar_r, ↓dFr_r, ↓dSet_r, ↓dgN_r, ↓dPut_r, ↓dApp_r, ↓dB_r, ↓dAndV_r, ↓dOrV_r, ↓dNotV_r, ↓dChn_r, ↓dSl_r, ↓dLenSet_r, ↓dItS_r, ↓dItL_r, ↓dItT_r, ↓dPs_r, eAt_c, exF_ok, putK_li, appK_l, blK_b, slK_s, slK_l, oIx_l, oIx_k, oIx_t, oIx_s, oAll_m, stK_b, seqK_l, seqK_k, tupK_t, inK_b, dAt_non, dAt_bl, dAt_int, dAt_str, dAt_tup, dAt_lst, dAt_klst, dAt_dic, dAt_ins, dAt_exo, dAt_fn, dAt_und, oAdd_ii, oAdd_ss, oAdd_ll, oAdd_tt, oOrd_ii, oOrd_ss, oInS_r, oInt_r, oInt0_r, oLen_l, oLen_k, oLen_t, oLen_s, oAbs_r, oInt1_i, oInt1_b, oReprB_r, int1_r, int2_r, isLst_l, see_v, see_s, sea_v, sea_s, ↓dIdx, ↓dFld, ↓dFset, ↓dJoin, ↓dListOf, ↓dMeth, ↓dMake_r, ↓dAsgG, ↓dLcN, ↓dLc2, idxK_ss, isStr_s, fldK_0, fldK_S, fsetK_r, isIns_i, dgTup_t, dgSeq_l, dgSeq_k, dgCons_c, dgNil_n, rowK_l, rowK_k, rowK_t, oTup_l, oTup_k, oTup_t, ↓dLoan_r, lnK_ok, lnK_exc, lnE_t, lnE_f, lnE_n, olE_c, olE_n, Bool.true_or, Bool.or_true, Bool.false_or, lf_non, lf_bl, lf_int, lf_str, lf_tup, lf_ins, lfs_n, lfs_c, fr2_l, ol_l, ↓dNeg, ngK_i, oRepS_r, ↓dApp2, ↓dPop2, ↓dPut2, sbK_l, opApp, opPop, opPut, ↓dAppSelf, ↓dAsg3, ↓dTru, truK_b, truK_l, ↓dExt, extK_l, oMin2_r, oIsB_r, ↓dSortSet, ↓dReprT, oEqS_r, ↓dCat, catK_l, ↓dItV, itK_s, itK_t, itK_l, itK_k, ↓dDisp1_r, tkK_ii, ↓dDget, ↓dDin, ↓dDput, dkK_tr, dkK_oi, dkK_os, dputK_t, dputK_oi, dputK_os]
              refine call_step rfl rfl rfl ⟨nums, p', 14, rfl, n0, n1, by decide, fun u y u0 u1 => ⟨rfl, ?_⟩⟩
              simp only [↓dSeq, ↓dIfS, ↓dRet, ↓dRetN, ↓dSkip, ↓dBrk, ↓dCnt, ↓dPk, ↓dC, ↓dO, ↓d2, ↓dNotT, ↓dAndT, ↓dOrT, ↓dIf, ↓dNil, ↓dCons, ↓dNilL, ↓dConsL, ↓dTup, ↓dLst, ↓dBI, ↓dOwnL, ↓dCall, ↓dRng1, ↓dRng2, ↓dFor, ↓dRaise, ↓dRaise0, ↓dPn, ↓dYes, ↓dLc, ↓dExp, ↓onOk_ok, ↓onOk_exc, ↓onFl_ok, ↓onFl_exc, gt0, gtS, Vi.frs, fr_non, own_non, own_und, nz_non, fr_bl, own_bl, nz_bl, fr_int, own_int, nz_int, fr_str, own_str, nz_str, fr_tup, own_tup, nz_tup, fr_lst, own_lst, nz_lst, fr_klst, own_klst, nz_klst, fr_dic, own_dic, nz_dic, fr_ins, own_ins, nz_ins, fr_exo, own_exo, nz_exo, fr_fn, own_fn, nz_fn, eqD_ii, eqD_ss, eqD_bb, eqD_nn, eqD_sn, eqD_ns, eqD_ll, eqD_tt, eqDs_nn, eqDs_cn, eqDs_nc, eqDs_cc, shp_i, shp_b, shp_n, shp_s, shp_l, shp_t, shps_n, shps_c, id_eq, ↓dTry, ↓dIs_eq, ↓dWhat_eq, endT_rt, endT_nx, oEq, oIsN, isN, ↓endK_rt, ↓endK_nx, ↓endK_exc, ↓turnK_nx, ↓turnK_ct, ↓turnK_bk, ↓turnK_rt, ↓turnK_exc, List.set_cons_zero, List.set_cons_succ, List.all_cons, List.all_nil, List.map_cons, List.map_nil, Bool.and_true, Bool.and_self, Bool.true_and, Bool.not_true, Bool.not_false, true_and, and_true, List.take_succ_cons, List.take_zero, List.cons_append, List.nil_append, Bool.false_eq_true, if_false, if_true, ite_false, ite_true, wb_n, wb_sl, wb_vc, wb_vn, wb_v1, wb_v2, wb_v3, wb_v4, wb_v5, wb_v6, unb, reb, List.length_cons, List.length_nil, ↓dVar_r, ↓dFr_r, ↓dSet_r, ↓dgN_r, ↓dPut_r, ↓dApp_r, ↓dB_r, ↓dAndV_r, ↓dOrV_r, ↓dNotV_r, ↓dChn_r, ↓dSl_r, ↓dLenSet_r, ↓dItS_r, ↓dItL_r, ↓dItT_r, ↓dPs_r, eAt_c, exF_ok, putK_li, appK_l, blK_b, slK_s, slK_l, oIx_l, oIx_k, oIx_t, oIx_s, oAll_m, stK_b, seqK_l, seqK_k, tupK_t, inK_b, dAt_non, dAt_bl, dAt_int, dAt_str, dAt_tup, dAt_lst, dAt_klst, dAt_dic, dAt_ins, dAt_exo, dAt_fn, dAt_und, oAdd_ii, oAdd_ss, oAdd_ll, oAdd_tt, oOrd_ii, oOrd_ss, oInS_r, oInt_r, oInt0_r, oLen_l, oLen_k, oLen_t, oLen_s, oAbs_r, oInt1_i, oInt1_b, oReprB_r, int1_r, int2_r, isLst_l, see_v, see_s, sea_v, sea_s, ↓dIdx, ↓dFld, ↓dFset, ↓dJoin, ↓dListOf, ↓dMeth, ↓dMake_r, ↓dAsgG, ↓dLcN, ↓dLc2, idxK_ss, isStr_s, fldK_0, fldK_S, fsetK_r, isIns_i, dgTup_t, dgSeq_l, dgSeq_k, dgCons_c, dgNil_n, rowK_l, rowK_k, rowK_t, oTup_l, oTup_k, oTup_t, ↓dLoan_r, lnK_ok, lnK_exc, lnE_t, lnE_f, lnE_n, olE_c, olE_n, Bool.true_or, Bool.or_true, Bool.false_or, lf_non, lf_bl, lf_int, lf_str, lf_tup, lf_ins, lfs_n, lfs_c, fr2_l, ol_l, ↓dNeg, ngK_i, oRepS_r, ↓dApp2, ↓dPop2, ↓dPut2, sbK_l, opApp, opPop, opPut, ↓dAppSelf, ↓dAsg3, ↓dTru, truK_b, truK_l, ↓dExt, extK_l, oMin2_r, oIsB_r, ↓dSortSet, ↓dReprT, oEqS_r, ↓dCat, catK_l, ↓dItV, itK_s, itK_t, itK_l, itK_k, ↓dDisp1_r, tkK_ii, ↓dDget, ↓dDin, ↓dDput, dkK_tr, dkK_oi, dkK_os, dputK_t, dputK_oi, dputK_os]
              refine ⟨⟨by omega, by omega⟩, by rw [rngD_len]; omega, ?_⟩
              refine lcE_inv (ρ := []) (fun j acc ρ => ∃ (p' : Int) (t : List Nat), ρ = [.klst (ns.map .int), stD nums p', .str L, .int (1 + v), accD m, .int (0 + (i : Int)), tabD m, x7, .lst true jk, .und, .und, maD L m, maD L m, .tup (maL L m), x14, x15, .und, .und] ∧ acc = t.map (fun c => D.str [c]) ∧ t.length = j ∧ ∀ c ∈ t, c ∈ L) _ 0 [] _ ⟨_, [], rfl, rfl, rfl, fun _ h => nomatch h⟩ ?_ ?_
              · rintro j d acc ρ N2 hd2 ⟨p', t, rfl, rfl, hl, hp⟩ kN2
                obtain ⟨hj, rfl⟩ := rngD_get hd2
                simp only [↓dSeq, ↓dIfS, ↓dRet, ↓dRetN, ↓dSkip, ↓dBrk, ↓dCnt, ↓dPk, ↓dC, ↓dO, ↓d2, ↓dNotT, ↓dAndT, ↓dOrT, ↓dIf, ↓dNil, ↓dCons, ↓dNilL, ↓dConsL, ↓dTup, ↓dLst, ↓dBI, ↓dOwnL, ↓dCall, ↓dRng1, ↓dRng2, ↓dFor, ↓dRaise, ↓dRaise0, ↓dPn, ↓dYes, ↓dLc, ↓dExp, ↓onOk_ok, ↓onOk_exc, ↓onFl_ok, ↓onFl_exc, gt0, gtS, Vi.frs, fr_non, own_non, own_und, nz_non, fr_bl, own_bl, nz_bl, fr_int, own_int, nz_int, fr_str, own_str, nz_str, fr_tup, own_tup, nz_tup, fr_lst, own_lst, nz_lst, fr_klst, own_klst, nz_klst, fr_dic, own_dic, nz_dic, fr_ins, own_ins, nz_ins, fr_exo, own_exo, nz_exo, fr_fn, own_fn, nz_fn, eqD_ii, eqD_ss, eqD_bb, eqD_nn, eqD_sn, eqD_ns, eqD_ll, eqD_tt, eqDs_nn, eqDs_cn, eqDs_nc, eqDs_cc, shp_i, shp_b, shp_n, shp_s, shp_l, shp_t, shps_n, shps_c, id_eq, ↓dTry, ↓dIs_eq, ↓dWhat_eq, endT_rt, endT_nx, oEq, oIsN, isN, ↓endK_rt, ↓endK_nx, ↓endK_exc, ↓turnK_nx, ↓turnK_ct, ↓turnK_bk, ↓turnK_rt, ↓turnK_exc, List.set_cons_zero, List.set_cons_succ, List.all_cons, List.all_nil, List.map_cons, List.map_nil, Bool.and_true, Bool.and_self, Bool.true_and, Bool.not_true, Bool.not_false, true_and, and_true, List.take_succ_cons, List.take_zero, List.cons_append, List.nil_append, Bool.false_eq_true, if_false, if_true, ite_false, ite_true, wb_n, wb_sl, wb_vc, wb_vn, wb_v1, wb_v2, wb_v3, wb_v4, wb_v5, wb_v6, unb, reb, List.length_cons, List.length_nil, ↓dVar_r, ↓dFr_r, ↓dSet_r, ↓dgN_r, ↓dPut_r, ↓dApp_r, ↓dB_r, ↓dAndV_r, ↓dOrV_r, ↓dNotV_r, ↓dChn_r, ↓dSl_r, ↓dLenSet_r, ↓dItS_r, ↓dItL_r, ↓dItT_r, ↓dPs_r, eAt_c, exF_ok, putK_li, appK_l, blK_b, slK_s, slK_l, oIx_l, oIx_k, oIx_t, oIx_s, oAll_m, stK_b, seqK_l, seqK_k, tupK_t, inK_b, dAt_non, dAt_bl, dAt_int, dAt_str, dAt_tup, dAt_lst, dAt_klst, dAt_dic, dAt_ins, dAt_exo, dAt_fn, dAt_und, oAdd_ii, oAdd_ss, oAdd_ll, oAdd_tt, oOrd_ii, oOrd_ss, oInS_r, oInt_r, oInt0_r, oLen_l, oLen_k, oLen_t, oLen_s, oAbs_r, oInt1_i, oInt1_b, oReprB_r, int1_r, int2_r, isLst_l, see_v, see_s, sea_v, sea_s, ↓dIdx, ↓dFld, ↓dFset, ↓dJoin, ↓dListOf, ↓dMeth, ↓dMake_r, ↓dAsgG, ↓dLcN, ↓dLc2, idxK_ss, isStr_s, fldK_0, fldK_S, fsetK_r, isIns_i, dgTup_t, dgSeq_l, dgSeq_k, dgCons_c, dgNil_n, rowK_l, rowK_k, rowK_t, oTup_l, oTup_k, oTup_t, ↓dLoan_r, lnK_ok, lnK_exc, lnE_t, lnE_f, lnE_n, olE_c, olE_n, Bool.true_or, Bool.or_true, Bool.false_or, lf_non, lf_bl, lf_int, lf_str, lf_tup, lf_ins, lfs_n, lfs_c, fr2_l, ol_l, ↓dNeg, ngK_i, oRepS_r, ↓dApp2, ↓dPop2, ↓dPut2, sbK_l, opApp, opPop, opPut, ↓dAppSelf, ↓dAsg3, ↓dTru, truK_b, truK_l, ↓dExt, extK_l, oMin2_r, oIsB_r, ↓dSortSet, ↓dReprT, oEqS_r, ↓dCat, catK_l, ↓dItV, itK_s, itK_t, itK_l, itK_k, ↓dDisp1_r, tkK_ii, ↓dDget, ↓dDin, ↓dDput, dkK_tr, dkK_oi, dkK_os, dputK_t, dputK_oi, dputK_os]
                refine ⟨by omega, call_step rfl rfl rfl ⟨nums, p', L.length, rfl, n0, n1, by omega, fun v2 x2 w0 w1 => ⟨rfl, ?_⟩⟩⟩
                simp only [↓dSeq, ↓dIfS, ↓dRet, ↓dRetN, ↓dSkip, ↓dBrk, ↓dCnt, ↓dPk, ↓dC, ↓dO, ↓d2, ↓dNotT, ↓dAndT, ↓dOrT, ↓dIf, ↓dNil, ↓dCons, ↓dNilL, ↓dConsL, ↓dTup, ↓dLst, ↓dBI, ↓dOwnL, ↓dCall, ↓dRng1, ↓dRng2, ↓dFor, ↓dRaise, ↓dRaise0, ↓dPn, ↓dYes, ↓dLc, ↓dExp, ↓onOk_ok, ↓onOk_exc, ↓onFl_ok, ↓onFl_exc, gt0, gtS, Vi.frs, fr_non, own_non, own_und, nz_non, fr_bl, own_bl, nz_bl, fr_int, own_int, nz_int, fr_str, own_str, nz_str, fr_tup, own_tup, nz_tup, fr_lst, own_lst, nz_lst, fr_klst, own_klst, nz_klst, fr_dic, own_dic, nz_dic, fr_ins, own_ins, nz_ins, fr_exo, own_exo, nz_exo, fr_fn, own_fn, nz_fn, eqD_ii, eqD_ss, eqD_bb, eqD_nn, eqD_sn, eqD_ns, eqD_ll, eqD_tt, eqDs_nn, eqDs_cn, eqDs_nc, eqDs_cc, shp_i, shp_b, shp_n, shp_s, shp_l, shp_t, shps_n, shps_c, id_eq, ↓dTry, ↓dIs_eq, ↓dWhat_eq, endT_rt, endT_nx, oEq, oIsN, isN, ↓endK_rt, ↓endK_nx, ↓endK_exc, ↓turnK_nx, ↓turnK_ct, ↓turnK_bk, ↓turnK_rt, ↓turnK_exc, List.set_cons_zero, List.set_cons_succ, List.all_cons, List.all_nil, List.map_cons, List.map_nil, Bool.and_true, Bool.and_self, Bool.true_and, Bool.not_true, Bool.not_false, true_and, and_true, List.take_succ_cons, List.take_zero, List.cons_append, List.nil_append, Bool.false_eq_true, if_false, if_true, ite_false, ite_true, wb_n, wb_sl, wb_vc, wb_vn, wb_v1, wb_v2, wb_v3, wb_v4, wb_v5, wb_v6, unb, reb, List.length_cons, List.length_nil, ↓dVar_r, ↓dFr_r, ↓dSet_r, ↓dgN_r, ↓dPut_r, ↓dApp_r, ↓dB_r, ↓dAndV_r, ↓dOrV_r, ↓dNotV_r, ↓dChn_r, ↓dSl_r, ↓dLenSet_r, ↓dItS_r, ↓dItL_r, ↓dItT_r, ↓dPs_r, eAt_c, exF_ok, putK_li, appK_l, blK_b, slK_s, slK_l, oIx_l, oIx_k, oIx_t, oIx_s, oAll_m, stK_b, seqK_l, seqK_k, tupK_t, inK_b, dAt_non, dAt_bl, dAt_int, dAt_str, dAt_tup, dAt_lst, dAt_klst, dAt_dic, dAt_ins, dAt_exo, dAt_fn, dAt_und, oAdd_ii, oAdd_ss, oAdd_ll, oAdd_tt, oOrd_ii, oOrd_ss, oInS_r, oInt_r, oInt0_r, oLen_l, oLen_k, oLen_t, oLen_s, oAbs_r, oInt1_i, oInt1_b, oReprB_r, int1_r, int2_r, isLst_l, see_v, see_s, sea_v, sea_s, ↓dIdx, ↓dFld, ↓dFset, ↓dJoin, ↓dListOf, ↓dMeth, ↓dMake_r, ↓dAsgG, ↓dLcN, ↓dLc2, idxK_ss, isStr_s, fldK_0, fldK_S, fsetK_r, isIns_i, dgTup_t, dgSeq_l, dgSeq_k, dgCons_c, dgNil_n, rowK_l, rowK_k, rowK_t, oTup_l, oTup_k, oTup_t, ↓dLoan_r, lnK_ok, lnK_exc, lnE_t, lnE_f, lnE_n, olE_c, olE_n, Bool.true_or, Bool.or_true, Bool.false_or, lf_non, lf_bl, lf_int, lf_str, lf_tup, lf_ins, lfs_n, lfs_c, fr2_l, ol_l, ↓dNeg, ngK_i, oRepS_r, ↓dApp2, ↓dPop2, ↓dPut2, sbK_l, opApp, opPop, opPut, ↓dAppSelf, ↓dAsg3, ↓dTru, truK_b, truK_l, ↓dExt, extK_l, oMin2_r, oIsB_r, ↓dSortSet, ↓dReprT, oEqS_r, ↓dCat, catK_l, ↓dItV, itK_s, itK_t, itK_l, itK_k, ↓dDisp1_r, tkK_ii, ↓dDget, ↓dDin, ↓dDput, dkK_tr, dkK_oi, dkK_os, dputK_t, dputK_oi, dputK_os]
                obtain ⟨c, e, hc⟩ := atI_ok (xs := L) w0 (by exact w1)
                have hc2 := List.mem_of_getElem? hc
                refine ⟨by omega, atS_of e ?_⟩
                simp only [↓dSeq, ↓dIfS, ↓dRet, ↓dRetN, ↓dSkip, ↓dBrk, ↓dCnt, ↓dPk, ↓dC, ↓dO, ↓d2, ↓dNotT, ↓dAndT, ↓dOrT, ↓dIf, ↓dNil, ↓dCons, ↓dNilL, ↓dConsL, ↓dTup, ↓dLst, ↓dBI, ↓dOwnL, ↓dCall, ↓dRng1, ↓dRng2, ↓dFor, ↓dRaise, ↓dRaise0, ↓dPn, ↓dYes, ↓dLc, ↓dExp, ↓onOk_ok, ↓onOk_exc, ↓onFl_ok, ↓onFl_exc, gt0, gtS, Vi.frs, fr_non, own_non, own_und, nz_non, fr_bl, own_bl, nz_bl, fr_int, own_int, nz_int, fr_str, own_str, nz_str, fr_tup, own_tup, nz_tup, fr_lst, own_lst, nz_lst, fr_klst, own_klst, nz_klst, fr_dic, own_dic, nz_dic, fr_ins, own_ins, nz_ins, fr_exo, own_exo, nz_exo, fr_fn, own_fn, nz_fn, eqD_ii, eqD_ss, eqD_bb, eqD_nn, eqD_sn, eqD_ns, eqD_ll, eqD_tt, eqDs_nn, eqDs_cn, eqDs_nc, eqDs_cc, shp_i, shp_b, shp_n, shp_s, shp_l, shp_t, shps_n, shps_c, id_eq, ↓dTry, ↓dIs_eq, ↓dWhat_eq, endT_rt, endT_nx, oEq, oIsN, isN, ↓endK_rt, ↓endK_nx, ↓endK_exc, ↓turnK_nx, ↓turnK_ct, ↓turnK_bk, ↓turnK_rt, ↓turnK_exc, List.set_cons_zero, List.set_cons_succ, List.all_cons, List.all_nil, List.map_cons, List.map_nil, Bool.and_true, Bool.and_self, Bool.true_and, Bool.not_true, Bool.not_false, true_and, and_true, List.take_succ_cons, List.take_zero, List.cons_append, List.nil_append, Bool.false_eq_true, if_false, if_true, ite_false, ite_true, wb_n, wb_sl, wb_vc, wb_vn, wb_v1, wb_v2, wb_v3, wb_v4, wb_v5, wb_v6, unb, reb, List.length_cons, List.length_nil, ↓dVar_r, ↓dFr_r, ↓dSet_r, ↓dgN_r, ↓dPut_r, ↓dApp_r, ↓dB_r, ↓dAndV_r, ↓dOrV_r, ↓dNotV_r, ↓dChn_r, ↓dSl_r, ↓dLenSet_r, ↓dItS_r, ↓dItL_r, ↓dItT_r, ↓dPs_r, eAt_c, exF_ok, putK_li, appK_l, blK_b, slK_s, slK_l, oIx_l, oIx_k, oIx_t, oIx_s, oAll_m, stK_b, seqK_l, seqK_k, tupK_t, inK_b, dAt_non, dAt_bl, dAt_int, dAt_str, dAt_tup, dAt_lst, dAt_klst, dAt_dic, dAt_ins, dAt_exo, dAt_fn, dAt_und, oAdd_ii, oAdd_ss, oAdd_ll, oAdd_tt, oOrd_ii, oOrd_ss, oInS_r, oInt_r, oInt0_r, oLen_l, oLen_k, oLen_t, oLen_s, oAbs_r, oInt1_i, oInt1_b, oReprB_r, int1_r, int2_r, isLst_l, see_v, see_s, sea_v, sea_s, ↓dIdx, ↓dFld, ↓dFset, ↓dJoin, ↓dListOf, ↓dMeth, ↓dMake_r, ↓dAsgG, ↓dLcN, ↓dLc2, idxK_ss, isStr_s, fldK_0, fldK_S, fsetK_r, isIns_i, dgTup_t, dgSeq_l, dgSeq_k, dgCons_c, dgNil_n, rowK_l, rowK_k, rowK_t, oTup_l, oTup_k, oTup_t, ↓dLoan_r, lnK_ok, lnK_exc, lnE_t, lnE_f, lnE_n, olE_c, olE_n, Bool.true_or, Bool.or_true, Bool.false_or, lf_non, lf_bl, lf_int, lf_str, lf_tup, lf_ins, lfs_n, lfs_c, fr2_l, ol_l, ↓dNeg, ngK_i, oRepS_r, ↓dApp2, ↓dPop2, ↓dPut2, sbK_l, opApp, opPop, opPut, ↓dAppSelf, ↓dAsg3, ↓dTru, truK_b, truK_l, ↓dExt, extK_l, oMin2_r, oIsB_r, ↓dSortSet, ↓dReprT, oEqS_r, ↓dCat, catK_l, ↓dItV, itK_s, itK_t, itK_l, itK_k, ↓dDisp1_r, tkK_ii, ↓dDget, ↓dDin, ↓dDput, dkK_tr, dkK_oi, dkK_os, dputK_t, dputK_oi, dputK_os]
                refine kN2 _ _ ⟨_, t ++ [c], rfl, by simp, by simp [hl], fun d hd => (List.mem_append.mp hd).elim (hp d) fun h => by rw [List.mem_singleton.mp h]; exact hc2⟩
              · rintro acc ρ ⟨p', t, rfl, rfl, hl, hp⟩
                rw [rngD_len] at hl
                simp only [↓dSeq, ↓dIfS, ↓dRet, ↓dRetN, ↓dSkip, ↓dBrk, ↓dCnt, ↓dPk, ↓dC, ↓dO, ↓d2, ↓dNotT, ↓dAndT, ↓dOrT, ↓dIf, ↓dNil, ↓dCons, ↓dNilL, ↓dConsL, ↓dTup, ↓dLst, ↓dBI, ↓dOwnL, ↓dCall, ↓dRng1, ↓dRng2, ↓dFor, ↓dRaise, ↓dRaise0, ↓dPn, ↓dYes, ↓dLc, ↓dExp, ↓onOk_ok, ↓onOk_exc, ↓onFl_ok, ↓onFl_exc, gt0, gtS, Vi.frs, fr_non, own_non, own_und, nz_non, fr_bl, own_bl, nz_bl, fr_int, own_int, nz_int, fr_str, own_str, nz_str, fr_tup, own_tup, nz_tup, fr_lst, own_lst, nz_lst, fr_klst, own_klst, nz_klst, fr_dic, own_dic, nz_dic, fr_ins, own_ins, nz_ins, fr_exo, own_exo, nz_exo, fr_fn, own_fn, nz_fn, eqD_ii, eqD_ss, eqD_bb, eqD_nn, eqD_sn, eqD_ns, eqD_ll, eqD_tt, eqDs_nn, eqDs_cn, eqDs_nc, eqDs_cc, shp_i, shp_b, shp_n, shp_s, shp_l, shp_t, shps_n, shps_c, id_eq, ↓dTry, ↓dIs_eq, ↓dWhat_eq, endT_rt, endT_nx, oEq, oIsN, isN, ↓endK_rt, ↓endK_nx, ↓endK_exc, ↓turnK_nx, ↓turnK_ct, ↓turnK_bk, ↓turnK_rt, ↓turnK_exc, List.set_cons_zero, List.set_cons_succ, List.all_cons, List.all_nil, List.map_cons, List.map_nil, Bool.and_true, Bool.and_self, Bool.true_and, Bool.not_true, Bool.not_false, true_and, and_true, List.take_succ_cons, List.take_zero, List.cons_append, List.nil_append, Bool.false_eq_true, if_false, if_true, ite_false, ite_true, wb_n, wb_sl, wb_vc, wb_vn, wb_v1, wb_v2, wb_v3, wb_v4, wb_v5, wb_v6, unb, reb, List.length_cons, List.length_nil, ↓dVar_r, ↓dFr_r, ↓dSet_r, ↓dgN_r, ↓dPut_r, ↓dApp_r, ↓dB_r, ↓dAndV_r, ↓dOrV_r, ↓dNotV_r, ↓dChn_r, ↓dSl_r, ↓dLenSet_r, ↓dItS_r, ↓dItL_r, ↓dItT_r, ↓dPs_r, eAt_c, exF_ok, putK_li, appK_l, blK_b, slK_s, slK_l, oIx_l, oIx_k, oIx_t, oIx_s, oAll_m, stK_b, seqK_l, seqK_k, tupK_t, inK_b, dAt_non, dAt_bl, dAt_int, dAt_str, dAt_tup, dAt_lst, dAt_klst, dAt_dic, dAt_ins, dAt_exo, dAt_fn, dAt_und, oAdd_ii, oAdd_ss, oAdd_ll, oAdd_tt, oOrd_ii, oOrd_ss, oInS_r, oInt_r, oInt0_r, oLen_l, oLen_k, oLen_t, oLen_s, oAbs_r, oInt1_i, oInt1_b, oReprB_r, int1_r, int2_r, isLst_l, see_v, see_s, sea_v, sea_s, ↓dIdx, ↓dFld, ↓dFset, ↓dJoin, ↓dListOf, ↓dMeth, ↓dMake_r, ↓dAsgG, ↓dLcN, ↓dLc2, idxK_ss, isStr_s, fldK_0, fldK_S, fsetK_r, isIns_i, dgTup_t, dgSeq_l, dgSeq_k, dgCons_c, dgNil_n, rowK_l, rowK_k, rowK_t, oTup_l, oTup_k, oTup_t, ↓dLoan_r, lnK_ok, lnK_exc, lnE_t, lnE_f, lnE_n, olE_c, olE_n, Bool.true_or, Bool.or_true, Bool.false_or, lf_non, lf_bl, lf_int, lf_str, lf_tup, lf_ins, lfs_n, lfs_c, fr2_l, ol_l, ↓dNeg, ngK_i, oRepS_r, ↓dApp2, ↓dPop2, ↓dPut2, sbK_l, opApp, opPop, opPut, ↓dAppSelf, ↓dAsg3, ↓dTru, truK_b, truK_l, ↓dExt, extK_l, oMin2_r, oIsB_r, ↓dSortSet, ↓dReprT, oEqS_r, ↓dCat, catK_l, ↓dItV, itK_s, itK_t, itK_l, itK_k, ↓dDisp1_r, tkK_ii, ↓dDget, ↓dDin, ↓dDput, dkK_tr, dkK_oi, dkK_os, dputK_t, dputK_oi, dputK_os]
                refine joinK_l (strs_sg t) ⟨?_, ?_⟩
                · rw [List.map_map, List.length_map]
                  have := sum_sg t
                  show (t.map fun _ => 1).sum + t.length * 0 ≤ _
                  omega
                rw [joinL_nil, flat_sg]
                simp only [b_law_16, ↓dSeq, ↓dIfS, ↓dRet, ↓dRetN, ↓dSkip, ↓dBrk, ↓dCnt, ↓dPk, ↓dC, ↓dO, ↓d2, ↓dNotT, ↓dAndT, ↓dOrT, ↓dIf, ↓dNil, ↓dCons, ↓dNilL, ↓dConsL, ↓dTup, ↓dLst, ↓dBI, ↓dOwnL, ↓dCall, ↓dRng1, ↓dRng2, ↓dFor, ↓dRaise, ↓dRaise0, ↓dPn, ↓dYes, ↓dLc, ↓dExp, ↓onOk_ok, ↓onOk_exc, ↓onFl_ok, ↓onFl_exc, gt0, gtS, Vi.frs, fr_non, own_non, own_und, nz_non, fr_bl, own_bl, nz_bl, fr_int, own_int, nz_int, fr_str, own_str, nz_str, fr_tup, own_tup, nz_tup, fr_lst, own_lst, nz_lst, fr_klst, own_klst, nz_klst, fr_dic, own_dic, nz_dic, fr_ins, own_ins, nz_ins, fr_exo, own_exo, nz_exo, fr_fn, own_fn, nz_fn, eqD_ii, eqD_ss, eqD_bb, eqD_nn, eqD_sn, eqD_ns, eqD_ll, eqD_tt, eqDs_nn, eqDs_cn, eqDs_nc, eqDs_cc, shp_i, shp_b, shp_n, shp_s, shp_l, shp_t, shps_n, shps_c, id_eq, ↓dTry, ↓dIs_eq, ↓dWhat_eq, endT_rt, endT_nx, oEq, oIsN, isN, ↓endK_rt, ↓endK_nx, ↓endK_exc, ↓turnK_nx, ↓turnK_ct, ↓turnK_bk, ↓turnK_rt, ↓turnK_exc, List.set_cons_zero, List.set_cons_succ, List.all_cons, List.all_nil, List.map_cons, List.map_nil, Bool.and_true, Bool.and_self, Bool.true_and, Bool.not_true, Bool.not_false, true_and, and_true, List.take_succ_cons, List.take_zero, List.cons_append, List.nil_append, Bool.false_eq_true, if_false, if_true, ite_false, ite_true, wb_n, wb_sl, wb_vc, wb_vn, wb_v1, wb_v2, wb_v3, wb_v4, wb_v5, wb_v6, unb, reb, List.length_cons, List.length_nil, ↓dVar_r, ↓dFr_r, ↓dSet_r, ↓dgN_r, ↓dPut_r, ↓dApp_r, ↓dB_r, ↓dAndV_r, ↓dOrV_r, ↓dNotV_r, ↓dChn_r, ↓dSl_r, ↓dLenSet_r, ↓dItS_r, ↓dItL_r, ↓dItT_r, ↓dPs_r, eAt_c, exF_ok, putK_li, appK_l, blK_b, slK_s, slK_l, oIx_l, oIx_k, oIx_t, oIx_s, oAll_m, stK_b, seqK_l, seqK_k, tupK_t, inK_b, dAt_non, dAt_bl, dAt_int, dAt_str, dAt_tup, dAt_lst, dAt_klst, dAt_dic, dAt_ins, dAt_exo, dAt_fn, dAt_und, oAdd_ii, oAdd_ss, oAdd_ll, oAdd_tt, oOrd_ii, oOrd_ss, oInS_r, oInt_r, oInt0_r, oLen_l, oLen_k, oLen_t, oLen_s, oAbs_r, oInt1_i, oInt1_b, oReprB_r, int1_r, int2_r, isLst_l, see_v, see_s, sea_v, sea_s, ↓dIdx, ↓dFld, ↓dFset, ↓dJoin, ↓dListOf, ↓dMeth, ↓dMake_r, ↓dAsgG, ↓dLcN, ↓dLc2, idxK_ss, isStr_s, fldK_0, fldK_S, fsetK_r, isIns_i, dgTup_t, dgSeq_l, dgSeq_k, dgCons_c, dgNil_n, rowK_l, rowK_k, rowK_t, oTup_l, oTup_k, oTup_t, ↓dLoan_r, lnK_ok, lnK_exc, lnE_t, lnE_f, lnE_n, olE_c, olE_n, Bool.true_or, Bool.or_true, Bool.false_or, lf_non, lf_bl, lf_int, lf_str, lf_tup, lf_ins, lfs_n, lfs_c, fr2_l, ol_l, ↓dNeg, ngK_i, oRepS_r, ↓dApp2, ↓dPop2, ↓dPut2, sbK_l, opApp, opPop, opPut, ↓dAppSelf, ↓dAsg3, ↓dTru, truK_b, truK_l, ↓dExt, extK_l, oMin2_r, oIsB_r, ↓dSortSet, ↓dReprT, oEqS_r, ↓dCat, catK_l, ↓dItV, itK_s, itK_t, itK_l, itK_k, ↓dDisp1_r, tkK_ii, ↓dDget, ↓dDin, ↓dDput, dkK_tr, dkK_oi, dkK_os, dputK_t, dputK_oi, dputK_os]
                simp only [b_law_17, ↓dSeq, ↓dIfS, ↓dRet, ↓dRetN, ↓dSkip, ↓dBrk, ↓dCnt, ↓dPk, ↓dC, ↓dO, ↓d2, ↓dNotT, ↓dAndT, ↓dOrT, ↓dIf, ↓dNil, ↓dCons, ↓dNilL, ↓dConsL, ↓dTup, ↓dLst, ↓dBI, ↓dOwnL, ↓dCall, ↓dRng1, ↓dRng2, ↓dFor, ↓dRaise, ↓dRaise0, ↓dPn, ↓dYes, ↓dLc, ↓dExp, ↓onOk_ok, ↓onOk_exc, ↓onFl_ok, ↓onFl_exc, gt0, gtS, Vi.frs, fr_non, own_non, own_und, nz_non, fr_bl, own_bl, nz_bl, fr_int, own_int, nz_int, fr_str, own_str, nz_str, fr_tup, own_tup, nz_tup, fr_lst, own_lst, nz_lst, fr_klst, own_klst, nz_klst, fr_dic, own_dic, nz_dic, fr_ins, own_ins, nz_ins, fr_exo, own_exo, nz_exo, fr_fn, own_fn, nz_fn, eqD_ii, eqD_ss, eqD_bb, eqD_nn, eqD_sn, eqD_ns, eqD_ll, eqD_tt, eqDs_nn, eqDs_cn, eqDs_nc, eqDs_cc, shp_i, shp_b, shp_n, shp_s, shp_l, shp_t, shps_n, shps_c, id_eq, ↓dTry, ↓dIs_eq, ↓dWhat_eq, endT_rt, endT_nx, oEq, oIsN, isN, ↓endK_rt, ↓endK_nx, ↓endK_exc, ↓turnK_nx, ↓turnK_ct, ↓turnK_bk, ↓turnK_rt, ↓turnK_exc, List.set_cons_zero, List.set_cons_succ, List.all_cons, List.all_nil, List.map_cons, List.map_nil, Bool.and_true, Bool.and_self, Bool.true_and, Bool.not_true, Bool.not_false, true_and, and_true, List.take_succ_cons, List.take_zero, List.cons_append, List.nil_append, Bool.false_eq_true, if_false, if_true, ite_false, ite_true, wb_n, wb_sl, wb_vc, wb_vn, wb_v1, wb_v2, wb_v3, wb_v4, wb_v5, wb_v6, unb, reb, List.length_cons, List.length_nil, ↓dVar_r, ↓dFr_r, ↓dSet_r, ↓dgN_r, ↓dPut_r, ↓dApp_r, ↓dB_r, ↓dAndV_r, ↓dOrV_r, ↓dNotV_r, ↓dChn_r, ↓dSl_r, ↓dLenSet_r, ↓dItS_r, ↓dItL_r, ↓dItT_r, ↓dPs_r, eAt_c, exF_ok, putK_li, appK_l, blK_b, slK_s, slK_l, oIx_l, oIx_k, oIx_t, oIx_s, oAll_m, stK_b, seqK_l, seqK_k, tupK_t, inK_b, dAt_non, dAt_bl, dAt_int, dAt_str, dAt_tup, dAt_lst, dAt_klst, dAt_dic, dAt_ins, dAt_exo, dAt_fn, dAt_und, oAdd_ii, oAdd_ss, oAdd_ll, oAdd_tt, oOrd_ii, oOrd_ss, oInS_r, oInt_r, oInt0_r, oLen_l, oLen_k, oLen_t, oLen_s, oAbs_r, oInt1_i, oInt1_b, oReprB_r, int1_r, int2_r, isLst_l, see_v, see_s, sea_v, sea_s, ↓dIdx, ↓dFld, ↓dFset, ↓dJoin, ↓dListOf, ↓dMeth, ↓dMake_r, ↓dAsgG, ↓dLcN, ↓dLc2, idxK_ss, isStr_s, fldK_0, fldK_S, fsetK_r, isIns_i, dgTup_t, dgSeq_l, dgSeq_k, dgCons_c, dgNil_n, rowK_l, rowK_k, rowK_t, oTup_l, oTup_k, oTup_t, ↓dLoan_r, lnK_ok, lnK_exc, lnE_t, lnE_f, lnE_n, olE_c, olE_n, Bool.true_or, Bool.or_true, Bool.false_or, lf_non, lf_bl, lf_int, lf_str, lf_tup, lf_ins, lfs_n, lfs_c, fr2_l, ol_l, ↓dNeg, ngK_i, oRepS_r, ↓dApp2, ↓dPop2, ↓dPut2, sbK_l, opApp, opPop, opPut, ↓dAppSelf, ↓dAsg3, ↓dTru, truK_b, truK_l, ↓dExt, extK_l, oMin2_r, oIsB_r, ↓dSortSet, ↓dReprT, oEqS_r, ↓dCat, catK_l, ↓dItV, itK_s, itK_t, itK_l, itK_k, ↓dDisp1_r, tkK_ii, ↓dDget, ↓dDin, ↓dDput, dkK_tr, dkK_oi, dkK_os, dputK_t, dputK_oi, dputK_os]
                refine for_dn (fun j ρ => ∃ y : D, ρ = [.klst (ns.map .int), stD nums p', .str L, .int (1 + v), accD m, .int (0 + (i : Int)), tabD m, y, .lst true jk, .und, .und, maD L m, maD L m, .tup (maL L m), .str t, .int (m.run L 0 (t.take j)), .und, .und]) ⟨x7, rfl⟩ ?_ ?_
                · rintro j d ρ N3 hd3 ⟨y, rfl⟩ kN3
                  obtain ⟨c, hc, rfl⟩ := sg_get hd3
                  have hcL := hp c (List.mem_of_getElem? hc)
                  have hq := ok.runIn (t := t.take j) ok.zero fun d h => hp d (List.mem_of_mem_take h)
                  have e := MA.run_snoc (m := m) (L := L) (q := 0) hc
                  generalize m.run L 0 (t.take j) = q at hq e
                  have hr := ok.row hq
                  obtain ⟨k, hk, hL⟩ := idx_mem hcL
                  have hk2 := (List.getElem?_eq_some_iff.mp hL).1
                  simp only [↓dSeq, ↓dIfS, ↓dRet, ↓dRetN, ↓dSkip, ↓dBrk, ↓dCnt, ↓dPk, ↓dC, ↓dO, ↓d2, ↓dNotT, ↓dAndT, ↓dOrT, ↓dIf, ↓dNil, ↓dCons, ↓dNilL, ↓dConsL, ↓dTup, ↓dLst, ↓dBI, ↓dOwnL, ↓dCall, ↓dRng1, ↓dRng2, ↓dFor, ↓dRaise, ↓dRaise0, ↓dPn, ↓dYes, ↓dLc, ↓dExp, ↓onOk_ok, ↓onOk_exc, ↓onFl_ok, ↓onFl_exc, gt0, gtS, Vi.frs, fr_non, own_non, own_und, nz_non, fr_bl, own_bl, nz_bl, fr_int, own_int, nz_int, fr_str, own_str, nz_str, fr_tup, own_tup, nz_tup, fr_lst, own_lst, nz_lst, fr_klst, own_klst, nz_klst, fr_dic, own_dic, nz_dic, fr_ins, own_ins, nz_ins, fr_exo, own_exo, nz_exo, fr_fn, own_fn, nz_fn, eqD_ii, eqD_ss, eqD_bb, eqD_nn, eqD_sn, eqD_ns, eqD_ll, eqD_tt, eqDs_nn, eqDs_cn, eqDs_nc, eqDs_cc, shp_i, shp_b, shp_n, shp_s, shp_l, shp_t, shps_n, shps_c, id_eq, ↓dTry, ↓dIs_eq, ↓dWhat_eq, endT_rt, endT_nx, oEq, oIsN, isN, ↓endK_rt, ↓endK_nx, ↓endK_exc, ↓turnK_nx, ↓turnK_ct, ↓turnK_bk, ↓turnK_rt, ↓turnK_exc, List.set_cons_zero, List.set_cons_succ, List.all_cons, List.all_nil, List.map_cons, List.map_nil, Bool.and_true, Bool.and_self, Bool.true_and, Bool.not_true, Bool.not_false, true_and, and_true, List.take_succ_cons, List.take_zero, List.cons_append, List.nil_append, Bool.false_eq_true, if_false, if_true, ite_false, ite_true, wb_n, wb_sl, wb_vc, wb_vn, wb_v1, wb_v2, wb_v3, wb_v4, wb_v5, wb_v6, unb, reb, List.length_cons, List.length_nil, ↓dVar_r, ↓dFr_r, ↓dSet_r, ↓dgN_r, ↓dPut_r, ↓dApp_r, ↓dB_r, ↓dAndV_r, ↓dOrV_r, ↓dNotV_r, ↓dChn_r, ↓dSl_r, ↓dLenSet_r, ↓dItS_r, ↓dItL_r, ↓dItT_r, ↓dPs_r, eAt_c, exF_ok, putK_li, appK_l, blK_b, slK_s, slK_l, oIx_l, oIx_k, oIx_t, oIx_s, oAll_m, stK_b, seqK_l, seqK_k, tupK_t, inK_b, dAt_non, dAt_bl, dAt_int, dAt_str, dAt_tup, dAt_lst, dAt_klst, dAt_dic, dAt_ins, dAt_exo, dAt_fn, dAt_und, oAdd_ii, oAdd_ss, oAdd_ll, oAdd_tt, oOrd_ii, oOrd_ss, oInS_r, oInt_r, oInt0_r, oLen_l, oLen_k, oLen_t, oLen_s, oAbs_r, oInt1_i, oInt1_b, oReprB_r, int1_r, int2_r, isLst_l, see_v, see_s, sea_v, sea_s, ↓dIdx, ↓dFld, ↓dFset, ↓dJoin, ↓dListOf, ↓dMeth, ↓dMake_r, ↓dAsgG, ↓dLcN, ↓dLc2, idxK_ss, isStr_s, fldK_0, fldK_S, fsetK_r, isIns_i, dgTup_t, dgSeq_l, dgSeq_k, dgCons_c, dgNil_n, rowK_l, rowK_k, rowK_t, oTup_l, oTup_k, oTup_t, ↓dLoan_r, lnK_ok, lnK_exc, lnE_t, lnE_f, lnE_n, olE_c, olE_n, Bool.true_or, Bool.or_true, Bool.false_or, lf_non, lf_bl, lf_int, lf_str, lf_tup, lf_ins, lfs_n, lfs_c, fr2_l, ol_l, ↓dNeg, ngK_i, oRepS_r, ↓dApp2, ↓dPop2, ↓dPut2, sbK_l, opApp, opPop, opPut, ↓dAppSelf, ↓dAsg3, ↓dTru, truK_b, truK_l, ↓dExt, extK_l, oMin2_r, oIsB_r, ↓dSortSet, ↓dReprT, oEqS_r, ↓dCat, catK_l, ↓dItV, itK_s, itK_t, itK_l, itK_k, ↓dDisp1_r, tkK_ii, ↓dDget, ↓dDin, ↓dDput, dkK_tr, dkK_oi, dkK_os, dputK_t, dputK_oi, dputK_os]
                  refine atD_of (map_atI (f := rowJ) (d := []) hq.1 (by rw [ok.tl]; exact hq.2)) rfl ?_
                  simp only [↓dSeq, ↓dIfS, ↓dRet, ↓dRetN, ↓dSkip, ↓dBrk, ↓dCnt, ↓dPk, ↓dC, ↓dO, ↓d2, ↓dNotT, ↓dAndT, ↓dOrT, ↓dIf, ↓dNil, ↓dCons, ↓dNilL, ↓dConsL, ↓dTup, ↓dLst, ↓dBI, ↓dOwnL, ↓dCall, ↓dRng1, ↓dRng2, ↓dFor, ↓dRaise, ↓dRaise0, ↓dPn, ↓dYes, ↓dLc, ↓dExp, ↓onOk_ok, ↓onOk_exc, ↓onFl_ok, ↓onFl_exc, gt0, gtS, Vi.frs, fr_non, own_non, own_und, nz_non, fr_bl, own_bl, nz_bl, fr_int, own_int, nz_int, fr_str, own_str, nz_str, fr_tup, own_tup, nz_tup, fr_lst, own_lst, nz_lst, fr_klst, own_klst, nz_klst, fr_dic, own_dic, nz_dic, fr_ins, own_ins, nz_ins, fr_exo, own_exo, nz_exo, fr_fn, own_fn, nz_fn, eqD_ii, eqD_ss, eqD_bb, eqD_nn, eqD_sn, eqD_ns, eqD_ll, eqD_tt, eqDs_nn, eqDs_cn, eqDs_nc, eqDs_cc, shp_i, shp_b, shp_n, shp_s, shp_l, shp_t, shps_n, shps_c, id_eq, ↓dTry, ↓dIs_eq, ↓dWhat_eq, endT_rt, endT_nx, oEq, oIsN, isN, ↓endK_rt, ↓endK_nx, ↓endK_exc, ↓turnK_nx, ↓turnK_ct, ↓turnK_bk, ↓turnK_rt, ↓turnK_exc, List.set_cons_zero, List.set_cons_succ, List.all_cons, List.all_nil, List.map_cons, List.map_nil, Bool.and_true, Bool.and_self, Bool.true_and, Bool.not_true, Bool.not_false, true_and, and_true, List.take_succ_cons, List.take_zero, List.cons_append, List.nil_append, Bool.false_eq_true, if_false, if_true, ite_false, ite_true, wb_n, wb_sl, wb_vc, wb_vn, wb_v1, wb_v2, wb_v3, wb_v4, wb_v5, wb_v6, unb, reb, List.length_cons, List.length_nil, ↓dVar_r, ↓dFr_r, ↓dSet_r, ↓dgN_r, ↓dPut_r, ↓dApp_r, ↓dB_r, ↓dAndV_r, ↓dOrV_r, ↓dNotV_r, ↓dChn_r, ↓dSl_r, ↓dLenSet_r, ↓dItS_r, ↓dItL_r, ↓dItT_r, ↓dPs_r, eAt_c, exF_ok, putK_li, appK_l, blK_b, slK_s, slK_l, oIx_l, oIx_k, oIx_t, oIx_s, oAll_m, stK_b, seqK_l, seqK_k, tupK_t, inK_b, dAt_non, dAt_bl, dAt_int, dAt_str, dAt_tup, dAt_lst, dAt_klst, dAt_dic, dAt_ins, dAt_exo, dAt_fn, dAt_und, oAdd_ii, oAdd_ss, oAdd_ll, oAdd_tt, oOrd_ii, oOrd_ss, oInS_r, oInt_r, oInt0_r, oLen_l, oLen_k, oLen_t, oLen_s, oAbs_r, oInt1_i, oInt1_b, oReprB_r, int1_r, int2_r, isLst_l, see_v, see_s, sea_v, sea_s, ↓dIdx, ↓dFld, ↓dFset, ↓dJoin, ↓dListOf, ↓dMeth, ↓dMake_r, ↓dAsgG, ↓dLcN, ↓dLc2, idxK_ss, isStr_s, fldK_0, fldK_S, fsetK_r, isIns_i, dgTup_t, dgSeq_l, dgSeq_k, dgCons_c, dgNil_n, rowK_l, rowK_k, rowK_t, oTup_l, oTup_k, oTup_t, ↓dLoan_r, lnK_ok, lnK_exc, lnE_t, lnE_f, lnE_n, olE_c, olE_n, Bool.true_or, Bool.or_true, Bool.false_or, lf_non, lf_bl, lf_int, lf_str, lf_tup, lf_ins, lfs_n, lfs_c, fr2_l, ol_l, ↓dNeg, ngK_i, oRepS_r, ↓dApp2, ↓dPop2, ↓dPut2, sbK_l, opApp, opPop, opPut, ↓dAppSelf, ↓dAsg3, ↓dTru, truK_b, truK_l, ↓dExt, extK_l, oMin2_r, oIsB_r, ↓dSortSet, ↓dReprT, oEqS_r, ↓dCat, catK_l, ↓dItV, itK_s, itK_t, itK_l, itK_k, ↓dDisp1_r, tkK_ii, ↓dDget, ↓dDin, ↓dDput, dkK_tr, dkK_oi, dkK_os, dputK_t, dputK_oi, dputK_os]
                  refine idK_of hk ?_
                  simp only [↓dSeq, ↓dIfS, ↓dRet, ↓dRetN, ↓dSkip, ↓dBrk, ↓dCnt, ↓dPk, ↓dC, ↓dO, ↓d2, ↓dNotT, ↓dAndT, ↓dOrT, ↓dIf, ↓dNil, ↓dCons, ↓dNilL, ↓dConsL, ↓dTup, ↓dLst, ↓dBI, ↓dOwnL, ↓dCall, ↓dRng1, ↓dRng2, ↓dFor, ↓dRaise, ↓dRaise0, ↓dPn, ↓dYes, ↓dLc, ↓dExp, ↓onOk_ok, ↓onOk_exc, ↓onFl_ok, ↓onFl_exc, gt0, gtS, Vi.frs, fr_non, own_non, own_und, nz_non, fr_bl, own_bl, nz_bl, fr_int, own_int, nz_int, fr_str, own_str, nz_str, fr_tup, own_tup, nz_tup, fr_lst, own_lst, nz_lst, fr_klst, own_klst, nz_klst, fr_dic, own_dic, nz_dic, fr_ins, own_ins, nz_ins, fr_exo, own_exo, nz_exo, fr_fn, own_fn, nz_fn, eqD_ii, eqD_ss, eqD_bb, eqD_nn, eqD_sn, eqD_ns, eqD_ll, eqD_tt, eqDs_nn, eqDs_cn, eqDs_nc, eqDs_cc, shp_i, shp_b, shp_n, shp_s, shp_l, shp_t, shps_n, shps_c, id_eq, ↓dTry, ↓dIs_eq, ↓dWhat_eq, endT_rt, endT_nx, oEq, oIsN, isN, ↓endK_rt, ↓endK_nx, ↓endK_exc, ↓turnK_nx, ↓turnK_ct, ↓turnK_bk, ↓turnK_rt, ↓turnK_exc, List.set_cons_zero, List.set_cons_succ, List.all_cons, List.all_nil, List.map_cons, List.map_nil, Bool.and_true, Bool.and_self, Bool.true_and, Bool.not_true, Bool.not_false, true_and, and_true, List.take_succ_cons, List.take_zero, List.cons_append, List.nil_append, Bool.false_eq_true, if_false, if_true, ite_false, ite_true, wb_n, wb_sl, wb_vc, wb_vn, wb_v1, wb_v2, wb_v3, wb_v4, wb_v5, wb_v6, unb, reb, List.length_cons, List.length_nil, ↓dVar_r, ↓dFr_r, ↓dSet_r, ↓dgN_r, ↓dPut_r, ↓dApp_r, ↓dB_r, ↓dAndV_r, ↓dOrV_r, ↓dNotV_r, ↓dChn_r, ↓dSl_r, ↓dLenSet_r, ↓dItS_r, ↓dItL_r, ↓dItT_r, ↓dPs_r, eAt_c, exF_ok, putK_li, appK_l, blK_b, slK_s, slK_l, oIx_l, oIx_k, oIx_t, oIx_s, oAll_m, stK_b, seqK_l, seqK_k, tupK_t, inK_b, dAt_non, dAt_bl, dAt_int, dAt_str, dAt_tup, dAt_lst, dAt_klst, dAt_dic, dAt_ins, dAt_exo, dAt_fn, dAt_und, oAdd_ii, oAdd_ss, oAdd_ll, oAdd_tt, oOrd_ii, oOrd_ss, oInS_r, oInt_r, oInt0_r, oLen_l, oLen_k, oLen_t, oLen_s, oAbs_r, oInt1_i, oInt1_b, oReprB_r, int1_r, int2_r, isLst_l, see_v, see_s, sea_v, sea_s, ↓dIdx, ↓dFld, ↓dFset, ↓dJoin, ↓dListOf, ↓dMeth, ↓dMake_r, ↓dAsgG, ↓dLcN, ↓dLc2, idxK_ss, isStr_s, fldK_0, fldK_S, fsetK_r, isIns_i, dgTup_t, dgSeq_l, dgSeq_k, dgCons_c, dgNil_n, rowK_l, rowK_k, rowK_t, oTup_l, oTup_k, oTup_t, ↓dLoan_r, lnK_ok, lnK_exc, lnE_t, lnE_f, lnE_n, olE_c, olE_n, Bool.true_or, Bool.or_true, Bool.false_or, lf_non, lf_bl, lf_int, lf_str, lf_tup, lf_ins, lfs_n, lfs_c, fr2_l, ol_l, ↓dNeg, ngK_i, oRepS_r, ↓dApp2, ↓dPop2, ↓dPut2, sbK_l, opApp, opPop, opPut, ↓dAppSelf, ↓dAsg3, ↓dTru, truK_b, truK_l, ↓dExt, extK_l, oMin2_r, oIsB_r, ↓dSortSet, ↓dReprT, oEqS_r, ↓dCat, catK_l, ↓dItV, itK_s, itK_t, itK_l, itK_k, ↓dDisp1_r, tkK_ii, ↓dDget, ↓dDin, ↓dDput, dkK_tr, dkK_oi, dkK_os, dputK_t, dputK_oi, dputK_os]
                  refine atD_of (map_at (f := D.int) (d := 0) (by rw [ok.rl _ hr]; exact hk2)) rfl ?_
                  simp only [↓dSeq, ↓dIfS, ↓dRet, ↓dRetN, ↓dSkip, ↓dBrk, ↓dCnt, ↓dPk, ↓dC, ↓dO, ↓d2, ↓dNotT, ↓dAndT, ↓dOrT, ↓dIf, ↓dNil, ↓dCons, ↓dNilL, ↓dConsL, ↓dTup, ↓dLst, ↓dBI, ↓dOwnL, ↓dCall, ↓dRng1, ↓dRng2, ↓dFor, ↓dRaise, ↓dRaise0, ↓dPn, ↓dYes, ↓dLc, ↓dExp, ↓onOk_ok, ↓onOk_exc, ↓onFl_ok, ↓onFl_exc, gt0, gtS, Vi.frs, fr_non, own_non, own_und, nz_non, fr_bl, own_bl, nz_bl, fr_int, own_int, nz_int, fr_str, own_str, nz_str, fr_tup, own_tup, nz_tup, fr_lst, own_lst, nz_lst, fr_klst, own_klst, nz_klst, fr_dic, own_dic, nz_dic, fr_ins, own_ins, nz_ins, fr_exo, own_exo, nz_exo, fr_fn, own_fn, nz_fn, eqD_ii, eqD_ss, eqD_bb, eqD_nn, eqD_sn, eqD_ns, eqD_ll, eqD_tt, eqDs_nn, eqDs_cn, eqDs_nc, eqDs_cc, shp_i, shp_b, shp_n, shp_s, shp_l, shp_t, shps_n, shps_c, id_eq, ↓dTry, ↓dIs_eq, ↓dWhat_eq, endT_rt, endT_nx, oEq, oIsN, isN, ↓endK_rt, ↓endK_nx, ↓endK_exc, ↓turnK_nx, ↓turnK_ct, ↓turnK_bk, ↓turnK_rt, ↓turnK_exc, List.set_cons_zero, List.set_cons_succ, List.all_cons, List.all_nil, List.map_cons, List.map_nil, Bool.and_true, Bool.and_self, Bool.true_and, Bool.not_true, Bool.not_false, true_and, and_true, List.take_succ_cons, List.take_zero, List.cons_append, List.nil_append, Bool.false_eq_true, if_false, if_true, ite_false, ite_true, wb_n, wb_sl, wb_vc, wb_vn, wb_v1, wb_v2, wb_v3, wb_v4, wb_v5, wb_v6, unb, reb, List.length_cons, List.length_nil, ↓dVar_r, ↓dFr_r, ↓dSet_r, ↓dgN_r, ↓dPut_r, ↓dApp_r, ↓dB_r, ↓dAndV_r, ↓dOrV_r, ↓dNotV_r, ↓dChn_r, ↓dSl_r, ↓dLenSet_r, ↓dItS_r, ↓dItL_r, ↓dItT_r, ↓dPs_r, eAt_c, exF_ok, putK_li, appK_l, blK_b, slK_s, slK_l, oIx_l, oIx_k, oIx_t, oIx_s, oAll_m, stK_b, seqK_l, seqK_k, tupK_t, inK_b, dAt_non, dAt_bl, dAt_int, dAt_str, dAt_tup, dAt_lst, dAt_klst, dAt_dic, dAt_ins, dAt_exo, dAt_fn, dAt_und, oAdd_ii, oAdd_ss, oAdd_ll, oAdd_tt, oOrd_ii, oOrd_ss, oInS_r, oInt_r, oInt0_r, oLen_l, oLen_k, oLen_t, oLen_s, oAbs_r, oInt1_i, oInt1_b, oReprB_r, int1_r, int2_r, isLst_l, see_v, see_s, sea_v, sea_s, ↓dIdx, ↓dFld, ↓dFset, ↓dJoin, ↓dListOf, ↓dMeth, ↓dMake_r, ↓dAsgG, ↓dLcN, ↓dLc2, idxK_ss, isStr_s, fldK_0, fldK_S, fsetK_r, isIns_i, dgTup_t, dgSeq_l, dgSeq_k, dgCons_c, dgNil_n, rowK_l, rowK_k, rowK_t, oTup_l, oTup_k, oTup_t, ↓dLoan_r, lnK_ok, lnK_exc, lnE_t, lnE_f, lnE_n, olE_c, olE_n, Bool.true_or, Bool.or_true, Bool.false_or, lf_non, lf_bl, lf_int, lf_str, lf_tup, lf_ins, lfs_n, lfs_c, fr2_l, ol_l, ↓dNeg, ngK_i, oRepS_r, ↓dApp2, ↓dPop2, ↓dPut2, sbK_l, opApp, opPop, opPut, ↓dAppSelf, ↓dAsg3, ↓dTru, truK_b, truK_l, ↓dExt, extK_l, oMin2_r, oIsB_r, ↓dSortSet, ↓dReprT, oEqS_r, ↓dCat, catK_l, ↓dItV, itK_s, itK_t, itK_l, itK_k, ↓dDisp1_r, tkK_ii, ↓dDget, ↓dDin, ↓dDput, dkK_tr, dkK_oi, dkK_os, dputK_t, dputK_oi, dputK_os]
                  refine kN3 _ ⟨.str [c], ?_⟩
                  rw [e]
                  unfold MA.nx
                  rw [hk]
                  rfl
                rintro ρ ⟨y, rfl⟩
                rw [List.length_map, List.take_length]
                have hq := ok.runIn (t := t) ok.zero hp
                simp only [b_law_19, ↓dSeq, ↓dIfS, ↓dRet, ↓dRetN, ↓dSkip, ↓dBrk, ↓dCnt, ↓dPk, ↓dC, ↓dO, ↓d2, ↓dNotT, ↓dAndT, ↓dOrT, ↓dIf, ↓dNil, ↓dCons, ↓dNilL, ↓dConsL, ↓dTup, ↓dLst, ↓dBI, ↓dOwnL, ↓dCall, ↓dRng1, ↓dRng2, ↓dFor, ↓dRaise, ↓dRaise0, ↓dPn, ↓dYes, ↓dLc, ↓dExp, ↓onOk_ok, ↓onOk_exc, ↓onFl_ok, ↓onFl_exc, gt0, gtS, Vi.frs, fr_non, own_non, own_und, nz_non, fr_bl, own_bl, nz_bl, fr_int, own_int, nz_int, fr_str, own_str, nz_str, fr_tup, own_tup, nz_tup, fr_lst, own_lst, nz_lst, fr_klst, own_klst, nz_klst, fr_dic, own_dic, nz_dic, fr_ins, own_ins, nz_ins, fr_exo, own_exo, nz_exo, fr_fn, own_fn, nz_fn, eqD_ii, eqD_ss, eqD_bb, eqD_nn, eqD_sn, eqD_ns, eqD_ll, eqD_tt, eqDs_nn, eqDs_cn, eqDs_nc, eqDs_cc, shp_i, shp_b, shp_n, shp_s, shp_l, shp_t, shps_n, shps_c, id_eq, ↓dTry, ↓dIs_eq, ↓dWhat_eq, endT_rt, endT_nx, oEq, oIsN, isN, ↓endK_rt, ↓endK_nx, ↓endK_exc, ↓turnK_nx, ↓turnK_ct, ↓turnK_bk, ↓turnK_rt, ↓turnK_exc, List.set_cons_zero, List.set_cons_succ, List.all_cons, List.all_nil, List.map_cons, List.map_nil, Bool.and_true, Bool.and_self, Bool.true_and, Bool.not_true, Bool.not_false, true_and, and_true, List.take_succ_cons, List.take_zero, List.cons_append, List.nil_append, Bool.false_eq_true, if_false, if_true, ite_false, ite_true, wb_n, wb_sl, wb_vc, wb_vn, wb_v1, wb_v2, wb_v3, wb_v4, wb_v5, wb_v6, unb, reb, List.length_cons, List.length_nil, ↓dVar_r, ↓dFr_r, ↓dSet_r, ↓dgN_r, ↓dPut_r, ↓dApp_r, ↓dB_r, ↓dAndV_r, ↓dOrV_r, ↓dNotV_r, ↓dChn_r, ↓dSl_r, ↓dLenSet_r, ↓dItS_r, ↓dItL_r, ↓dItT_r, ↓dPs_r, eAt_c, exF_ok, putK_li, appK_l, blK_b, slK_s, slK_l, oIx_l, oIx_k, oIx_t, oIx_s, oAll_m, stK_b, seqK_l, seqK_k, tupK_t, inK_b, dAt_non, dAt_bl, dAt_int, dAt_str, dAt_tup, dAt_lst, dAt_klst, dAt_dic, dAt_ins, dAt_exo, dAt_fn, dAt_und, oAdd_ii, oAdd_ss, oAdd_ll, oAdd_tt, oOrd_ii, oOrd_ss, oInS_r, oInt_r, oInt0_r, oLen_l, oLen_k, oLen_t, oLen_s, oAbs_r, oInt1_i, oInt1_b, oReprB_r, int1_r, int2_r, isLst_l, see_v, see_s, sea_v, sea_s, ↓dIdx, ↓dFld, ↓dFset, ↓dJoin, ↓dListOf, ↓dMeth, ↓dMake_r, ↓dAsgG, ↓dLcN, ↓dLc2, idxK_ss, isStr_s, fldK_0, fldK_S, fsetK_r, isIns_i, dgTup_t, dgSeq_l, dgSeq_k, dgCons_c, dgNil_n, rowK_l, rowK_k, rowK_t, oTup_l, oTup_k, oTup_t, ↓dLoan_r, lnK_ok, lnK_exc, lnE_t, lnE_f, lnE_n, olE_c, olE_n, Bool.true_or, Bool.or_true, Bool.false_or, lf_non, lf_bl, lf_int, lf_str, lf_tup, lf_ins, lfs_n, lfs_c, fr2_l, ol_l, ↓dNeg, ngK_i, oRepS_r, ↓dApp2, ↓dPop2, ↓dPut2, sbK_l, opApp, opPop, opPut, ↓dAppSelf, ↓dAsg3, ↓dTru, truK_b, truK_l, ↓dExt, extK_l, oMin2_r, oIsB_r, ↓dSortSet, ↓dReprT, oEqS_r, ↓dCat, catK_l, ↓dItV, itK_s, itK_t, itK_l, itK_k, ↓dDisp1_r, tkK_ii, ↓dDget, ↓dDin, ↓dDput, dkK_tr, dkK_oi, dkK_os, dputK_t, dputK_oi, dputK_os]
                refine call_step rfl rfl rfl ⟨L, m, t, rfl, ok, hp, by omega, fun posts hpp => ⟨hpp, ?_⟩⟩
                simp only [beq_self_eq_true, ↓dSeq, ↓dIfS, ↓dRet, ↓dRetN, ↓dSkip, ↓dBrk, ↓dCnt, ↓dPk, ↓dC, ↓dO, ↓d2, ↓dNotT, ↓dAndT, ↓dOrT, ↓dIf, ↓dNil, ↓dCons, ↓dNilL, ↓dConsL, ↓dTup, ↓dLst, ↓dBI, ↓dOwnL, ↓dCall, ↓dRng1, ↓dRng2, ↓dFor, ↓dRaise, ↓dRaise0, ↓dPn, ↓dYes, ↓dLc, ↓dExp, ↓onOk_ok, ↓onOk_exc, ↓onFl_ok, ↓onFl_exc, gt0, gtS, Vi.frs, fr_non, own_non, own_und, nz_non, fr_bl, own_bl, nz_bl, fr_int, own_int, nz_int, fr_str, own_str, nz_str, fr_tup, own_tup, nz_tup, fr_lst, own_lst, nz_lst, fr_klst, own_klst, nz_klst, fr_dic, own_dic, nz_dic, fr_ins, own_ins, nz_ins, fr_exo, own_exo, nz_exo, fr_fn, own_fn, nz_fn, eqD_ii, eqD_ss, eqD_bb, eqD_nn, eqD_sn, eqD_ns, eqD_ll, eqD_tt, eqDs_nn, eqDs_cn, eqDs_nc, eqDs_cc, shp_i, shp_b, shp_n, shp_s, shp_l, shp_t, shps_n, shps_c, id_eq, ↓dTry, ↓dIs_eq, ↓dWhat_eq, endT_rt, endT_nx, oEq, oIsN, isN, ↓endK_rt, ↓endK_nx, ↓endK_exc, ↓turnK_nx, ↓turnK_ct, ↓turnK_bk, ↓turnK_rt, ↓turnK_exc, List.set_cons_zero, List.set_cons_succ, List.all_cons, List.all_nil, List.map_cons, List.map_nil, Bool.and_true, Bool.and_self, Bool.true_and, Bool.not_true, Bool.not_false, true_and, and_true, List.take_succ_cons, List.take_zero, List.cons_append, List.nil_append, Bool.false_eq_true, if_false, if_true, ite_false, ite_true, wb_n, wb_sl, wb_vc, wb_vn, wb_v1, wb_v2, wb_v3, wb_v4, wb_v5, wb_v6, unb, reb, List.length_cons, List.length_nil, ↓dVar_r, ↓dFr_r, ↓dSet_r, ↓dgN_r, ↓dPut_r, ↓dApp_r, ↓dB_r, ↓dAndV_r, ↓dOrV_r, ↓dNotV_r, ↓dChn_r, ↓dSl_r, ↓dLenSet_r, ↓dItS_r, ↓dItL_r, ↓dItT_r, ↓dPs_r, eAt_c, exF_ok, putK_li, appK_l, blK_b, slK_s, slK_l, oIx_l, oIx_k, oIx_t, oIx_s, oAll_m, stK_b, seqK_l, seqK_k, tupK_t, inK_b, dAt_non, dAt_bl, dAt_int, dAt_str, dAt_tup, dAt_lst, dAt_klst, dAt_dic, dAt_ins, dAt_exo, dAt_fn, dAt_und, oAdd_ii, oAdd_ss, oAdd_ll, oAdd_tt, oOrd_ii, oOrd_ss, oInS_r, oInt_r, oInt0_r, oLen_l, oLen_k, oLen_t, oLen_s, oAbs_r, oInt1_i, oInt1_b, oReprB_r, int1_r, int2_r, isLst_l, see_v, see_s, sea_v, sea_s, ↓dIdx, ↓dFld, ↓dFset, ↓dJoin, ↓dListOf, ↓dMeth, ↓dMake_r, ↓dAsgG, ↓dLcN, ↓dLc2, idxK_ss, isStr_s, fldK_0, fldK_S, fsetK_r, isIns_i, dgTup_t, dgSeq_l, dgSeq_k, dgCons_c, dgNil_n, rowK_l, rowK_k, rowK_t, oTup_l, oTup_k, oTup_t, ↓dLoan_r, lnK_ok, lnK_exc, lnE_t, lnE_f, lnE_n, olE_c, olE_n, Bool.true_or, Bool.or_true, Bool.false_or, lf_non, lf_bl, lf_int, lf_str, lf_tup, lf_ins, lfs_n, lfs_c, fr2_l, ol_l, ↓dNeg, ngK_i, oRepS_r, ↓dApp2, ↓dPop2, ↓dPut2, sbK_l, opApp, opPop, opPut, ↓dAppSelf, ↓dAsg3, ↓dTru, truK_b, truK_l, ↓dExt, extK_l, oMin2_r, oIsB_r, ↓dSortSet, ↓dReprT, oEqS_r, ↓dCat, catK_l, ↓dItV, itK_s, itK_t, itK_l, itK_k, ↓dDisp1_r, tkK_ii, ↓dDget, ↓dDin, ↓dDput, dkK_tr, dkK_oi, dkK_os, dputK_t, dputK_oi, dputK_os]
                refine call_step rfl rfl rfl ⟨L, m, t, rfl, ok, hp, by omega, fun posts hpp => ⟨hpp, ?_⟩⟩
                simp only [↓dSeq, ↓dIfS, ↓dRet, ↓dRetN, ↓dSkip, ↓dBrk, ↓dCnt, ↓dPk, ↓dC, ↓dO, ↓d2, ↓dNotT, ↓dAndT, ↓dOrT, ↓dIf, ↓dNil, ↓dCons, ↓dNilL, ↓dConsL, ↓dTup, ↓dLst, ↓dBI, ↓dOwnL, ↓dCall, ↓dRng1, ↓dRng2, ↓dFor, ↓dRaise, ↓dRaise0, ↓dPn, ↓dYes, ↓dLc, ↓dExp, ↓onOk_ok, ↓onOk_exc, ↓onFl_ok, ↓onFl_exc, gt0, gtS, Vi.frs, fr_non, own_non, own_und, nz_non, fr_bl, own_bl, nz_bl, fr_int, own_int, nz_int, fr_str, own_str, nz_str, fr_tup, own_tup, nz_tup, fr_lst, own_lst, nz_lst, fr_klst, own_klst, nz_klst, fr_dic, own_dic, nz_dic, fr_ins, own_ins, nz_ins, fr_exo, own_exo, nz_exo, fr_fn, own_fn, nz_fn, eqD_ii, eqD_ss, eqD_bb, eqD_nn, eqD_sn, eqD_ns, eqD_ll, eqD_tt, eqDs_nn, eqDs_cn, eqDs_nc, eqDs_cc, shp_i, shp_b, shp_n, shp_s, shp_l, shp_t, shps_n, shps_c, id_eq, ↓dTry, ↓dIs_eq, ↓dWhat_eq, endT_rt, endT_nx, oEq, oIsN, isN, ↓endK_rt, ↓endK_nx, ↓endK_exc, ↓turnK_nx, ↓turnK_ct, ↓turnK_bk, ↓turnK_rt, ↓turnK_exc, List.set_cons_zero, List.set_cons_succ, List.all_cons, List.all_nil, List.map_cons, List.map_nil, Bool.and_true, Bool.and_self, Bool.true_and, Bool.not_true, Bool.not_false, true_and, and_true, List.take_succ_cons, List.take_zero, List.cons_append, List.nil_append, Bool.false_eq_true, if_false, if_true, ite_false, ite_true, wb_n, wb_sl, wb_vc, wb_vn, wb_v1, wb_v2, wb_v3, wb_v4, wb_v5, wb_v6, unb, reb, List.length_cons, List.length_nil, ↓dVar_r, ↓dFr_r, ↓dSet_r, ↓dgN_r, ↓dPut_r, ↓dApp_r, ↓dB_r, ↓dAndV_r, ↓dOrV_r, ↓dNotV_r, ↓dChn_r, ↓dSl_r, ↓dLenSet_r, ↓dItS_r, ↓dItL_r, ↓dItT_r, ↓dPs_r, eAt_c, exF_ok, putK_li, appK_l, blK_b, slK_s, slK_l, oIx_l, oIx_k, oIx_t, oIx_s, oAll_m, stK_b, seqK_l, seqK_k, tupK_t, inK_b, dAt_non, dAt_bl, dAt_int, dAt_str, dAt_tup, dAt_lst, dAt_klst, dAt_dic, dAt_ins, dAt_exo, dAt_fn, dAt_und, oAdd_ii, oAdd_ss, oAdd_ll, oAdd_tt, oOrd_ii, oOrd_ss, oInS_r, oInt_r, oInt0_r, oLen_l, oLen_k, oLen_t, oLen_s, oAbs_r, oInt1_i, oInt1_b, oReprB_r, int1_r, int2_r, isLst_l, see_v, see_s, sea_v, sea_s, ↓dIdx, ↓dFld, ↓dFset, ↓dJoin, ↓dListOf, ↓dMeth, ↓dMake_r, ↓dAsgG, ↓dLcN, ↓dLc2, idxK_ss, isStr_s, fldK_0, fldK_S, fsetK_r, isIns_i, dgTup_t, dgSeq_l, dgSeq_k, dgCons_c, dgNil_n, rowK_l, rowK_k, rowK_t, oTup_l, oTup_k, oTup_t, ↓dLoan_r, lnK_ok, lnK_exc, lnE_t, lnE_f, lnE_n, olE_c, olE_n, Bool.true_or, Bool.or_true, Bool.false_or, lf_non, lf_bl, lf_int, lf_str, lf_tup, lf_ins, lfs_n, lfs_c, fr2_l, ol_l, ↓dNeg, ngK_i, oRepS_r, ↓dApp2, ↓dPop2, ↓dPut2, sbK_l, opApp, opPop, opPut, ↓dAppSelf, ↓dAsg3, ↓dTru, truK_b, truK_l, ↓dExt, extK_l, oMin2_r, oIsB_r, ↓dSortSet, ↓dReprT, oEqS_r, ↓dCat, catK_l, ↓dItV, itK_s, itK_t, itK_l, itK_k, ↓dDisp1_r, tkK_ii, ↓dDget, ↓dDin, ↓dDput, dkK_tr, dkK_oi, dkK_os, dputK_t, dputK_oi, dputK_os]
                refine atD_of (map_atI (f := D.bl) (d := false) hq.1 hq.2) rfl ?_
                have rb : ∀ b : Bool, ((if b = true then [84, 114, 117, 101] else [70, 97, 108, 115, 101]).all fun x : Nat => decide (x < 128)) = true := fun b => by cases b <;> rfl
                have got : m.acc.getD (m.run L 0 t).toNat false = m.got L t := rfl
                simp only [got, beq_self_eq_true, rb, ↓dSeq, ↓dIfS, ↓dRet, ↓dRetN, ↓dSkip, ↓dBrk, ↓dCnt, ↓dPk, ↓dC, ↓dO, ↓d2, ↓dNotT, ↓dAndT, ↓dOrT, ↓dIf, ↓dNil, ↓dCons, ↓dNilL, ↓dConsL, ↓dTup, ↓dLst, ↓dBI, ↓dOwnL, ↓dCall, ↓dRng1, ↓dRng2, ↓dFor, ↓dRaise, ↓dRaise0, ↓dPn, ↓dYes, ↓dLc, ↓dExp, ↓onOk_ok, ↓onOk_exc, ↓onFl_ok, ↓onFl_exc, gt0, gtS, Vi.frs, fr_non, own_non, own_und, nz_non, fr_bl, own_bl, nz_bl, fr_int, own_int, nz_int, fr_str, own_str, nz_str, fr_tup, own_tup, nz_tup, fr_lst, own_lst, nz_lst, fr_klst, own_klst, nz_klst, fr_dic, own_dic, nz_dic, fr_ins, own_ins, nz_ins, fr_exo, own_exo, nz_exo, fr_fn, own_fn, nz_fn, eqD_ii, eqD_ss, eqD_bb, eqD_nn, eqD_sn, eqD_ns, eqD_ll, eqD_tt, eqDs_nn, eqDs_cn, eqDs_nc, eqDs_cc, shp_i, shp_b, shp_n, shp_s, shp_l, shp_t, shps_n, shps_c, id_eq, ↓dTry, ↓dIs_eq, ↓dWhat_eq, endT_rt, endT_nx, oEq, oIsN, isN, ↓endK_rt, ↓endK_nx, ↓endK_exc, ↓turnK_nx, ↓turnK_ct, ↓turnK_bk, ↓turnK_rt, ↓turnK_exc, List.set_cons_zero, List.set_cons_succ, List.all_cons, List.all_nil, List.map_cons, List.map_nil, Bool.and_true, Bool.and_self, Bool.true_and, Bool.not_true, Bool.not_false, true_and, and_true, List.take_succ_cons, List.take_zero, List.cons_append, List.nil_append, Bool.false_eq_true, if_false, if_true, ite_false, ite_true, wb_n, wb_sl, wb_vc, wb_vn, wb_v1, wb_v2, wb_v3, wb_v4, wb_v5, wb_v6, unb, reb, List.length_cons, List.length_nil, ↓dVar_r, ↓dFr_r, ↓dSet_r, ↓dgN_r, ↓dPut_r, ↓dApp_r, ↓dB_r, ↓dAndV_r, ↓dOrV_r, ↓dNotV_r, ↓dChn_r, ↓dSl_r, ↓dLenSet_r, ↓dItS_r, ↓dItL_r, ↓dItT_r, ↓dPs_r, eAt_c, exF_ok, putK_li, appK_l, blK_b, slK_s, slK_l, oIx_l, oIx_k, oIx_t, oIx_s, oAll_m, stK_b, seqK_l, seqK_k, tupK_t, inK_b, dAt_non, dAt_bl, dAt_int, dAt_str, dAt_tup, dAt_lst, dAt_klst, dAt_dic, dAt_ins, dAt_exo, dAt_fn, dAt_und, oAdd_ii, oAdd_ss, oAdd_ll, oAdd_tt, oOrd_ii, oOrd_ss, oInS_r, oInt_r, oInt0_r, oLen_l, oLen_k, oLen_t, oLen_s, oAbs_r, oInt1_i, oInt1_b, oReprB_r, int1_r, int2_r, isLst_l, see_v, see_s, sea_v, sea_s, ↓dIdx, ↓dFld, ↓dFset, ↓dJoin, ↓dListOf, ↓dMeth, ↓dMake_r, ↓dAsgG, ↓dLcN, ↓dLc2, idxK_ss, isStr_s, fldK_0, fldK_S, fsetK_r, isIns_i, dgTup_t, dgSeq_l, dgSeq_k, dgCons_c, dgNil_n, rowK_l, rowK_k, rowK_t, oTup_l, oTup_k, oTup_t, ↓dLoan_r, lnK_ok, lnK_exc, lnE_t, lnE_f, lnE_n, olE_c, olE_n, Bool.true_or, Bool.or_true, Bool.false_or, lf_non, lf_bl, lf_int, lf_str, lf_tup, lf_ins, lfs_n, lfs_c, fr2_l, ol_l, ↓dNeg, ngK_i, oRepS_r, ↓dApp2, ↓dPop2, ↓dPut2, sbK_l, opApp, opPop, opPut, ↓dAppSelf, ↓dAsg3, ↓dTru, truK_b, truK_l, ↓dExt, extK_l, oMin2_r, oIsB_r, ↓dSortSet, ↓dReprT, oEqS_r, ↓dCat, catK_l, ↓dItV, itK_s, itK_t, itK_l, itK_k, ↓dDisp1_r, tkK_ii, ↓dDget, ↓dDin, ↓dDput, dkK_tr, dkK_oi, dkK_os, dputK_t, dputK_oi, dputK_os]
                refine call_step rfl rfl rfl ⟨L, m, t, rfl, ok, hp, by omega, fun posts hpp => ⟨hpp, ?_⟩⟩
                simp only [beq_self_eq_true, b_law_21, ↓dSeq, ↓dIfS, ↓dRet, ↓dRetN, ↓dSkip, ↓dBrk, ↓dCnt, ↓dPk, ↓dC, ↓dO, ↓d2, ↓dNotT, ↓dAndT, ↓dOrT, ↓dIf, ↓dNil, ↓dCons, ↓dNilL, ↓dConsL, ↓dTup, ↓dLst, ↓dBI, ↓dOwnL, ↓dCall, ↓dRng1, ↓dRng2, ↓dFor, ↓dRaise, ↓dRaise0, ↓dPn, ↓dYes, ↓dLc, ↓dExp, ↓onOk_ok, ↓onOk_exc, ↓onFl_ok, ↓onFl_exc, gt0, gtS, Vi.frs, fr_non, own_non, own_und, nz_non, fr_bl, own_bl, nz_bl, fr_int, own_int, nz_int, fr_str, own_str, nz_str, fr_tup, own_tup, nz_tup, fr_lst, own_lst, nz_lst, fr_klst, own_klst, nz_klst, fr_dic, own_dic, nz_dic, fr_ins, own_ins, nz_ins, fr_exo, own_exo, nz_exo, fr_fn, own_fn, nz_fn, eqD_ii, eqD_ss, eqD_bb, eqD_nn, eqD_sn, eqD_ns, eqD_ll, eqD_tt, eqDs_nn, eqDs_cn, eqDs_nc, eqDs_cc, shp_i, shp_b, shp_n, shp_s, shp_l, shp_t, shps_n, shps_c, id_eq, ↓dTry, ↓dIs_eq, ↓dWhat_eq, endT_rt, endT_nx, oEq, oIsN, isN, ↓endK_rt, ↓endK_nx, ↓endK_exc, ↓turnK_nx, ↓turnK_ct, ↓turnK_bk, ↓turnK_rt, ↓turnK_exc, List.set_cons_zero, List.set_cons_succ, List.all_cons, List.all_nil, List.map_cons, List.map_nil, Bool.and_true, Bool.and_self, Bool.true_and, Bool.not_true, Bool.not_false, true_and, and_true, List.take_succ_cons, List.take_zero, List.cons_append, List.nil_append, Bool.false_eq_true, if_false, if_true, ite_false, ite_true, wb_n, wb_sl, wb_vc, wb_vn, wb_v1, wb_v2, wb_v3, wb_v4, wb_v5, wb_v6, unb, reb, List.length_cons, List.length_nil, ↓dVar_r, ↓dFr_r, ↓dSet_r, ↓dgN_r, ↓dPut_r, ↓dApp_r, ↓dB_r, ↓dAndV_r, ↓dOrV_r, ↓dNotV_r, ↓dChn_r, ↓dSl_r, ↓dLenSet_r, ↓dItS_r, ↓dItL_r, ↓dItT_r, ↓dPs_r, eAt_c, exF_ok, putK_li, appK_l, blK_b, slK_s, slK_l, oIx_l, oIx_k, oIx_t, oIx_s, oAll_m, stK_b, seqK_l, seqK_k, tupK_t, inK_b, dAt_non, dAt_bl, dAt_int, dAt_str, dAt_tup, dAt_lst, dAt_klst, dAt_dic, dAt_ins, dAt_exo, dAt_fn, dAt_und, oAdd_ii, oAdd_ss, oAdd_ll, oAdd_tt, oOrd_ii, oOrd_ss, oInS_r, oInt_r, oInt0_r, oLen_l, oLen_k, oLen_t, oLen_s, oAbs_r, oInt1_i, oInt1_b, oReprB_r, int1_r, int2_r, isLst_l, see_v, see_s, sea_v, sea_s, ↓dIdx, ↓dFld, ↓dFset, ↓dJoin, ↓dListOf, ↓dMeth, ↓dMake_r, ↓dAsgG, ↓dLcN, ↓dLc2, idxK_ss, isStr_s, fldK_0, fldK_S, fsetK_r, isIns_i, dgTup_t, dgSeq_l, dgSeq_k, dgCons_c, dgNil_n, rowK_l, rowK_k, rowK_t, oTup_l, oTup_k, oTup_t, ↓dLoan_r, lnK_ok, lnK_exc, lnE_t, lnE_f, lnE_n, olE_c, olE_n, Bool.true_or, Bool.or_true, Bool.false_or, lf_non, lf_bl, lf_int, lf_str, lf_tup, lf_ins, lfs_n, lfs_c, fr2_l, ol_l, ↓dNeg, ngK_i, oRepS_r, ↓dApp2, ↓dPop2, ↓dPut2, sbK_l, opApp, opPop, opPut, ↓dAppSelf, ↓dAsg3, ↓dTru, truK_b, truK_l, ↓dExt, extK_l, oMin2_r, oIsB_r, ↓dSortSet, ↓dReprT, oEqS_r, ↓dCat, catK_l, ↓dItV, itK_s, itK_t, itK_l, itK_k, ↓dDisp1_r, tkK_ii, ↓dDget, ↓dDin, ↓dDput, dkK_tr, dkK_oi, dkK_os, dputK_t, dputK_oi, dputK_os]
                refine call_step rfl rfl rfl ⟨L, m, nums, p', rfl, ok, n0, n1, l0, l8, f8, fun p3 x y z => ⟨rfl, ?_⟩⟩
                simp only [↓dSeq, ↓dIfS, ↓dRet, ↓dRetN, ↓dSkip, ↓dBrk, ↓dCnt, ↓dPk, ↓dC, ↓dO, ↓d2, ↓dNotT, ↓dAndT, ↓dOrT, ↓dIf, ↓dNil, ↓dCons, ↓dNilL, ↓dConsL, ↓dTup, ↓dLst, ↓dBI, ↓dOwnL, ↓dCall, ↓dRng1, ↓dRng2, ↓dFor, ↓dRaise, ↓dRaise0, ↓dPn, ↓dYes, ↓dLc, ↓dExp, ↓onOk_ok, ↓onOk_exc, ↓onFl_ok, ↓onFl_exc, gt0, gtS, Vi.frs, fr_non, own_non, own_und, nz_non, fr_bl, own_bl, nz_bl, fr_int, own_int, nz_int, fr_str, own_str, nz_str, fr_tup, own_tup, nz_tup, fr_lst, own_lst, nz_lst, fr_klst, own_klst, nz_klst, fr_dic, own_dic, nz_dic, fr_ins, own_ins, nz_ins, fr_exo, own_exo, nz_exo, fr_fn, own_fn, nz_fn, eqD_ii, eqD_ss, eqD_bb, eqD_nn, eqD_sn, eqD_ns, eqD_ll, eqD_tt, eqDs_nn, eqDs_cn, eqDs_nc, eqDs_cc, shp_i, shp_b, shp_n, shp_s, shp_l, shp_t, shps_n, shps_c, id_eq, ↓dTry, ↓dIs_eq, ↓dWhat_eq, endT_rt, endT_nx, oEq, oIsN, isN, ↓endK_rt, ↓endK_nx, ↓endK_exc, ↓turnK_nx, ↓turnK_ct, ↓turnK_bk, ↓turnK_rt, ↓turnK_exc, List.set_cons_zero, List.set_cons_succ, List.all_cons, List.all_nil, List.map_cons, List.map_nil, Bool.and_true, Bool.and_self, Bool.true_and, Bool.not_true, Bool.not_false, true_and, and_true, List.take_succ_cons, List.take_zero, List.cons_append, List.nil_append, Bool.false_eq_true, if_false, if_true, ite_false, ite_true, wb_n, wb_sl, wb_vc, wb_vn, wb_v1, wb_v2, wb_v3, wb_v4, wb_v5, wb_v6, unb, reb, List.length_cons, List.length_nil, ↓dVar_r, ↓dFr_r, ↓dSet_r, ↓dgN_r, ↓dPut_r, ↓dApp_r, ↓dB_r, ↓dAndV_r, ↓dOrV_r, ↓dNotV_r, ↓dChn_r, ↓dSl_r, ↓dLenSet_r, ↓dItS_r, ↓dItL_r, ↓dItT_r, ↓dPs_r, eAt_c, exF_ok, putK_li, appK_l, blK_b, slK_s, slK_l, oIx_l, oIx_k, oIx_t, oIx_s, oAll_m, stK_b, seqK_l, seqK_k, tupK_t, inK_b, dAt_non, dAt_bl, dAt_int, dAt_str, dAt_tup, dAt_lst, dAt_klst, dAt_dic, dAt_ins, dAt_exo, dAt_fn, dAt_und, oAdd_ii, oAdd_ss, oAdd_ll, oAdd_tt, oOrd_ii, oOrd_ss, oInS_r, oInt_r, oInt0_r, oLen_l, oLen_k, oLen_t, oLen_s, oAbs_r, oInt1_i, oInt1_b, oReprB_r, int1_r, int2_r, isLst_l, see_v, see_s, sea_v, sea_s, ↓dIdx, ↓dFld, ↓dFset, ↓dJoin, ↓dListOf, ↓dMeth, ↓dMake_r, ↓dAsgG, ↓dLcN, ↓dLc2, idxK_ss, isStr_s, fldK_0, fldK_S, fsetK_r, isIns_i, dgTup_t, dgSeq_l, dgSeq_k, dgCons_c, dgNil_n, rowK_l, rowK_k, rowK_t, oTup_l, oTup_k, oTup_t, ↓dLoan_r, lnK_ok, lnK_exc, lnE_t, lnE_f, lnE_n, olE_c, olE_n, Bool.true_or, Bool.or_true, Bool.false_or, lf_non, lf_bl, lf_int, lf_str, lf_tup, lf_ins, lfs_n, lfs_c, fr2_l, ol_l, ↓dNeg, ngK_i, oRepS_r, ↓dApp2, ↓dPop2, ↓dPut2, sbK_l, opApp, opPop, opPut, ↓dAppSelf, ↓dAsg3, ↓dTru, truK_b, truK_l, ↓dExt, extK_l, oMin2_r, oIsB_r, ↓dSortSet, ↓dReprT, oEqS_r, ↓dCat, catK_l, ↓dItV, itK_s, itK_t, itK_l, itK_k, ↓dDisp1_r, tkK_ii, ↓dDget, ↓dDin, ↓dDput, dkK_tr, dkK_oi, dkK_os, dputK_t, dputK_oi, dputK_os]
                exact kN _ ⟨_, _, _, _, _, rfl⟩
            · rintro ρ ⟨p', x5, x7, x14, x15, rfl⟩
              have shown := ma_shows ok hasc l8 f8
              have fin : ∀ p' : Int, b_law_25 [.klst (ns.map .int), stD nums p', .str L, .int (1 + v), accD m, x5, tabD m, x7, .lst true jk, .und, .und, maD L m, maD L m, .tup (maL L m), x14, x15, .und, .und] (endK 1 K') := fun p' => by
                simp only [b_law_25, ↓dSeq, ↓dIfS, ↓dRet, ↓dRetN, ↓dSkip, ↓dBrk, ↓dCnt, ↓dPk, ↓dC, ↓dO, ↓d2, ↓dNotT, ↓dAndT, ↓dOrT, ↓dIf, ↓dNil, ↓dCons, ↓dNilL, ↓dConsL, ↓dTup, ↓dLst, ↓dBI, ↓dOwnL, ↓dCall, ↓dRng1, ↓dRng2, ↓dFor, ↓dRaise, ↓dRaise0, ↓dPn, ↓dYes, ↓dLc, ↓dExp, ↓onOk_ok, ↓onOk_exc, ↓onFl_ok, ↓onFl_exc, gt0, gtS, Vi.frs, fr_non, own_non, own_und, nz_non, fr_bl, own_bl, nz_bl, fr_int, own_int, nz_int, fr_str, own_str, nz_str, fr_tup, own_tup, nz_tup, fr_lst, own_lst, nz_lst, fr_klst, own_klst, nz_klst, fr_dic, own_dic, nz_dic, fr_ins, own_ins, nz_ins, fr_exo, own_exo, nz_exo, fr_fn, own_fn, nz_fn, eqD_ii, eqD_ss, eqD_bb, eqD_nn, eqD_sn, eqD_ns, eqD_ll, eqD_tt, eqDs_nn, eqDs_cn, eqDs_nc, eqDs_cc, shp_i, shp_b, shp_n, shp_s, shp_l, shp_t, shps_n, shps_c, id_eq, ↓dTry, ↓dIs_eq, ↓dWhat_eq, endT_rt, endT_nx, oEq, oIsN, isN, ↓endK_rt, ↓endK_nx, ↓endK_exc, ↓turnK_nx, ↓turnK_ct, ↓turnK_bk, ↓turnK_rt, ↓turnK_exc, List.set_cons_zero, List.set_cons_succ, List.all_cons, List.all_nil, List.map_cons, List.map_nil, Bool.and_true, Bool.and_self, Bool.true_and, Bool.not_true, Bool.not_false, true_and, and_true, List.take_succ_cons, List.take_zero, List.cons_append, List.nil_append, Bool.false_eq_true, if_false, if_true, ite_false, ite_true, wb_n, wb_sl, wb_vc, wb_vn, wb_v1, wb_v2, wb_v3, wb_v4, wb_v5, wb_v6, unb, reb, List.length_cons, List.length_nil, ↓dVar_r, ↓dFr_r, ↓dSet_r, ↓dgN_r, ↓dPut_r, ↓dApp_r, ↓dB_r, ↓dAndV_r, ↓dOrV_r, ↓dNotV_r, ↓dChn_r, ↓dSl_r, ↓dLenSet_r, ↓dItS_r, ↓dItL_r, ↓dItT_r, ↓dPs_r, eAt_c, exF_ok, putK_li, appK_l, blK_b, slK_s, slK_l, oIx_l, oIx_k, oIx_t, oIx_s, oAll_m, stK_b, seqK_l, seqK_k, tupK_t, inK_b, dAt_non, dAt_bl, dAt_int, dAt_str, dAt_tup, dAt_lst, dAt_klst, dAt_dic, dAt_ins, dAt_exo, dAt_fn, dAt_und, oAdd_ii, oAdd_ss, oAdd_ll, oAdd_tt, oOrd_ii, oOrd_ss, oInS_r, oInt_r, oInt0_r, oLen_l, oLen_k, oLen_t, oLen_s, oAbs_r, oInt1_i, oInt1_b, oReprB_r, int1_r, int2_r, isLst_l, see_v, see_s, sea_v, sea_s, ↓dIdx, ↓dFld, ↓dFset, ↓dJoin, ↓dListOf, ↓dMeth, ↓dMake_r, ↓dAsgG, ↓dLcN, ↓dLc2, idxK_ss, isStr_s, fldK_0, fldK_S, fsetK_r, isIns_i, dgTup_t, dgSeq_l, dgSeq_k, dgCons_c, dgNil_n, rowK_l, rowK_k, rowK_t, oTup_l, oTup_k, oTup_t, ↓dLoan_r, lnK_ok, lnK_exc, lnE_t, lnE_f, lnE_n, olE_c, olE_n, Bool.true_or, Bool.or_true, Bool.false_or, lf_non, lf_bl, lf_int, lf_str, lf_tup, lf_ins, lfs_n, lfs_c, fr2_l, ol_l, ↓dNeg, ngK_i, oRepS_r, ↓dApp2, ↓dPop2, ↓dPut2, sbK_l, opApp, opPop, opPut, ↓dAppSelf, ↓dAsg3, ↓dTru, truK_b, truK_l, ↓dExt, extK_l, oMin2_r, oIsB_r, ↓dSortSet, ↓dReprT, oEqS_r, ↓dCat, catK_l, ↓dItV, itK_s, itK_t, itK_l, itK_k, ↓dDisp1_r, tkK_ii, ↓dDget, ↓dDin, ↓dDput, dkK_tr, dkK_oi, dkK_os, dputK_t, dputK_oi, dputK_os]
                refine ⟨by decide, ?_⟩
                simp only [b_law_26, ↓dSeq, ↓dIfS, ↓dRet, ↓dRetN, ↓dSkip, ↓dBrk, ↓dCnt, ↓dPk, ↓dC, ↓dO, ↓d2, ↓dNotT, ↓dAndT, ↓dOrT, ↓dIf, ↓dNil, ↓dCons, ↓dNilL, ↓dConsL, ↓dTup, ↓dLst, ↓dBI, ↓dOwnL, ↓dCall, ↓dRng1, ↓dRng2, ↓dFor, ↓dRaise, ↓dRaise0, ↓dPn, ↓dYes, ↓dLc, ↓dExp, ↓onOk_ok, ↓onOk_exc, ↓onFl_ok, ↓onFl_exc, gt0, gtS, Vi.frs, fr_non, own_non, own_und, nz_non, fr_bl, own_bl, nz_bl, fr_int, own_int, nz_int, fr_str, own_str, nz_str, fr_tup, own_tup, nz_tup, fr_lst, own_lst, nz_lst, fr_klst, own_klst, nz_klst, fr_dic, own_dic, nz_dic, fr_ins, own_ins, nz_ins, fr_exo, own_exo, nz_exo, fr_fn, own_fn, nz_fn, eqD_ii, eqD_ss, eqD_bb, eqD_nn, eqD_sn, eqD_ns, eqD_ll, eqD_tt, eqDs_nn, eqDs_cn, eqDs_nc, eqDs_cc, shp_i, shp_b, shp_n, shp_s, shp_l, shp_t, shps_n, shps_c, id_eq, ↓dTry, ↓dIs_eq, ↓dWhat_eq, endT_rt, endT_nx, oEq, oIsN, isN, ↓endK_rt, ↓endK_nx, ↓endK_exc, ↓turnK_nx, ↓turnK_ct, ↓turnK_bk, ↓turnK_rt, ↓turnK_exc, List.set_cons_zero, List.set_cons_succ, List.all_cons, List.all_nil, List.map_cons, List.map_nil, Bool.and_true, Bool.and_self, Bool.true_and, Bool.not_true, Bool.not_false, true_and, and_true, List.take_succ_cons, List.take_zero, List.cons_append, List.nil_append, Bool.false_eq_true, if_false, if_true, ite_false, ite_true, wb_n, wb_sl, wb_vc, wb_vn, wb_v1, wb_v2, wb_v3, wb_v4, wb_v5, wb_v6, unb, reb, List.length_cons, List.length_nil, ↓dVar_r, ↓dFr_r, ↓dSet_r, ↓dgN_r, ↓dPut_r, ↓dApp_r, ↓dB_r, ↓dAndV_r, ↓dOrV_r, ↓dNotV_r, ↓dChn_r, ↓dSl_r, ↓dLenSet_r, ↓dItS_r, ↓dItL_r, ↓dItT_r, ↓dPs_r, eAt_c, exF_ok, putK_li, appK_l, blK_b, slK_s, slK_l, oIx_l, oIx_k, oIx_t, oIx_s, oAll_m, stK_b, seqK_l, seqK_k, tupK_t, inK_b, dAt_non, dAt_bl, dAt_int, dAt_str, dAt_tup, dAt_lst, dAt_klst, dAt_dic, dAt_ins, dAt_exo, dAt_fn, dAt_und, oAdd_ii, oAdd_ss, oAdd_ll, oAdd_tt, oOrd_ii, oOrd_ss, oInS_r, oInt_r, oInt0_r, oLen_l, oLen_k, oLen_t, oLen_s, oAbs_r, oInt1_i, oInt1_b, oReprB_r, int1_r, int2_r, isLst_l, see_v, see_s, sea_v, sea_s, ↓dIdx, ↓dFld, ↓dFset, ↓dJoin, ↓dListOf, ↓dMeth, ↓dMake_r, ↓dAsgG, ↓dLcN, ↓dLc2, idxK_ss, isStr_s, fldK_0, fldK_S, fsetK_r, isIns_i, dgTup_t, dgSeq_l, dgSeq_k, dgCons_c, dgNil_n, rowK_l, rowK_k, rowK_t, oTup_l, oTup_k, oTup_t, ↓dLoan_r, lnK_ok, lnK_exc, lnE_t, lnE_f, lnE_n, olE_c, olE_n, Bool.true_or, Bool.or_true, Bool.false_or, lf_non, lf_bl, lf_int, lf_str, lf_tup, lf_ins, lfs_n, lfs_c, fr2_l, ol_l, ↓dNeg, ngK_i, oRepS_r, ↓dApp2, ↓dPop2, ↓dPut2, sbK_l, opApp, opPop, opPut, ↓dAppSelf, ↓dAsg3, ↓dTru, truK_b, truK_l, ↓dExt, extK_l, oMin2_r, oIsB_r, ↓dSortSet, ↓dReprT, oEqS_r, ↓dCat, catK_l, ↓dItV, itK_s, itK_t, itK_l, itK_k, ↓dDisp1_r, tkK_ii, ↓dDget, ↓dDin, ↓dDput, dkK_tr, dkK_oi, dkK_os, dputK_t, dputK_oi, dputK_os]
                refine call_step rfl rfl rfl ⟨L, m, rfl, fun posts hp => ⟨hp, ?_⟩⟩
                have tt : ∀ s : List Nat, decide (s = s) = true := fun s => decide_eq_true rfl
                simp only [tt, ↓dSeq, ↓dIfS, ↓dRet, ↓dRetN, ↓dSkip, ↓dBrk, ↓dCnt, ↓dPk, ↓dC, ↓dO, ↓d2, ↓dNotT, ↓dAndT, ↓dOrT, ↓dIf, ↓dNil, ↓dCons, ↓dNilL, ↓dConsL, ↓dTup, ↓dLst, ↓dBI, ↓dOwnL, ↓dCall, ↓dRng1, ↓dRng2, ↓dFor, ↓dRaise, ↓dRaise0, ↓dPn, ↓dYes, ↓dLc, ↓dExp, ↓onOk_ok, ↓onOk_exc, ↓onFl_ok, ↓onFl_exc, gt0, gtS, Vi.frs, fr_non, own_non, own_und, nz_non, fr_bl, own_bl, nz_bl, fr_int, own_int, nz_int, fr_str, own_str, nz_str, fr_tup, own_tup, nz_tup, fr_lst, own_lst, nz_lst, fr_klst, own_klst, nz_klst, fr_dic, own_dic, nz_dic, fr_ins, own_ins, nz_ins, fr_exo, own_exo, nz_exo, fr_fn, own_fn, nz_fn, eqD_ii, eqD_ss, eqD_bb, eqD_nn, eqD_sn, eqD_ns, eqD_ll, eqD_tt, eqDs_nn, eqDs_cn, eqDs_nc, eqDs_cc, shp_i, shp_b, shp_n, shp_s, shp_l, shp_t, shps_n, shps_c, id_eq, ↓dTry, ↓dIs_eq, ↓dWhat_eq, endT_rt, endT_nx, oEq, oIsN, isN, ↓endK_rt, ↓endK_nx, ↓endK_exc, ↓turnK_nx, ↓turnK_ct, ↓turnK_bk, ↓turnK_rt, ↓turnK_exc, List.set_cons_zero, List.set_cons_succ, List.all_cons, List.all_nil, List.map_cons, List.map_nil, Bool.and_true, Bool.and_self, Bool.true_and, Bool.not_true, Bool.not_false, true_and, and_true, List.take_succ_cons, List.take_zero, List.cons_append, List.nil_append, Bool.false_eq_true, if_false, if_true, ite_false, ite_true, wb_n, wb_sl, wb_vc, wb_vn, wb_v1, wb_v2, wb_v3, wb_v4, wb_v5, wb_v6, unb, reb, List.length_cons, List.length_nil, ↓dVar_r, ↓dFr_r, ↓dSet_r, ↓dgN_r, ↓dPut_r, ↓dApp_r, ↓dB_r, ↓dAndV_r, ↓dOrV_r, ↓dNotV_r, ↓dChn_r, ↓dSl_r, ↓dLenSet_r, ↓dItS_r, ↓dItL_r, ↓dItT_r, ↓dPs_r, eAt_c, exF_ok, putK_li, appK_l, blK_b, slK_s, slK_l, oIx_l, oIx_k, oIx_t, oIx_s, oAll_m, stK_b, seqK_l, seqK_k, tupK_t, inK_b, dAt_non, dAt_bl, dAt_int, dAt_str, dAt_tup, dAt_lst, dAt_klst, dAt_dic, dAt_ins, dAt_exo, dAt_fn, dAt_und, oAdd_ii, oAdd_ss, oAdd_ll, oAdd_tt, oOrd_ii, oOrd_ss, oInS_r, oInt_r, oInt0_r, oLen_l, oLen_k, oLen_t, oLen_s, oAbs_r, oInt1_i, oInt1_b, oReprB_r, int1_r, int2_r, isLst_l, see_v, see_s, sea_v, sea_s, ↓dIdx, ↓dFld, ↓dFset, ↓dJoin, ↓dListOf, ↓dMeth, ↓dMake_r, ↓dAsgG, ↓dLcN, ↓dLc2, idxK_ss, isStr_s, fldK_0, fldK_S, fsetK_r, isIns_i, dgTup_t, dgSeq_l, dgSeq_k, dgCons_c, dgNil_n, rowK_l, rowK_k, rowK_t, oTup_l, oTup_k, oTup_t, ↓dLoan_r, lnK_ok, lnK_exc, lnE_t, lnE_f, lnE_n, olE_c, olE_n, Bool.true_or, Bool.or_true, Bool.false_or, lf_non, lf_bl, lf_int, lf_str, lf_tup, lf_ins, lfs_n, lfs_c, fr2_l, ol_l, ↓dNeg, ngK_i, oRepS_r, ↓dApp2, ↓dPop2, ↓dPut2, sbK_l, opApp, opPop, opPut, ↓dAppSelf, ↓dAsg3, ↓dTru, truK_b, truK_l, ↓dExt, extK_l, oMin2_r, oIsB_r, ↓dSortSet, ↓dReprT, oEqS_r, ↓dCat, catK_l, ↓dItV, itK_s, itK_t, itK_l, itK_k, ↓dDisp1_r, tkK_ii, ↓dDget, ↓dDin, ↓dDput, dkK_tr, dkK_oi, dkK_os, dputK_t, dputK_oi, dputK_os]
                exact ⟨shown, shown, shown, shown, kk _ rfl⟩
              simp only [b_law_23, ↓dSeq, ↓dIfS, ↓dRet, ↓dRetN, ↓dSkip, ↓dBrk, ↓dCnt, ↓dPk, ↓dC, ↓dO, ↓d2, ↓dNotT, ↓dAndT, ↓dOrT, ↓dIf, ↓dNil, ↓dCons, ↓dNilL, ↓dConsL, ↓dTup, ↓dLst, ↓dBI, ↓dOwnL, ↓dCall, ↓dRng1, ↓dRng2, ↓dFor, ↓dRaise, ↓dRaise0, ↓dPn, ↓dYes, ↓dLc, ↓dExp, ↓onOk_ok, ↓onOk_exc, ↓onFl_ok, ↓onFl_exc, gt0, gtS, Vi.frs, fr_non, own_non, own_und, nz_non, fr_bl, own_bl, nz_bl, fr_int, own_int, nz_int, fr_str, own_str, nz_str, fr_tup, own_tup, nz_tup, fr_lst, own_lst, nz_lst, fr_klst, own_klst, nz_klst, fr_dic, own_dic, nz_dic, fr_ins, own_ins, nz_ins, fr_exo, own_exo, nz_exo, fr_fn, own_fn, nz_fn, eqD_ii, eqD_ss, eqD_bb, eqD_nn, eqD_sn, eqD_ns, eqD_ll, eqD_tt, eqDs_nn, eqDs_cn, eqDs_nc, eqDs_cc, shp_i, shp_b, shp_n, shp_s, shp_l, shp_t, shps_n, shps_c, id_eq, ↓dTry, ↓dIs_eq, ↓dWhat_eq, endT_rt, endT_nx, oEq, oIsN, isN, ↓endK_rt, ↓endK_nx, ↓endK_exc, ↓turnK_nx, ↓turnK_ct, ↓turnK_bk, ↓turnK_rt, ↓turnK_exc, List.set_cons_zero, List.set_cons_succ, List.all_cons, List.all_nil, List.map_cons, List.map_nil, Bool.and_true, Bool.and_self, Bool.true_and, Bool.not_true, Bool.not_false, true_and, and_true, List.take_succ_cons, List.take_zero, List.cons_append, List.nil_append, Bool.false_eq_true, if_false, if_true, ite_false, ite_true, wb_n, wb_sl, wb_vc, wb_vn, wb_v1, wb_v2, wb_v3, wb_v4, wb_v5, wb_v6, unb, reb, List.length_cons, List.length_nil, ↓dVar_r, ↓dFr_r, ↓dSet_r, ↓dgN_r, ↓dPut_r, ↓dApp_r, ↓dB_r, ↓dAndV_r, ↓dOrV_r, ↓dNotV_r, ↓dChn_r, ↓dSl_r, ↓dLenSet_r, ↓dItS_r, ↓dItL_r, ↓dItT_r, ↓dPs_r, eAt_c, exF_ok, putK_li, appK_l, blK_b, slK_s, slK_l, oIx_l, oIx_k, oIx_t, oIx_s, oAll_m, stK_b, seqK_l, seqK_k, tupK_t, inK_b, dAt_non, dAt_bl, dAt_int, dAt_str, dAt_tup, dAt_lst, dAt_klst, dAt_dic, dAt_ins, dAt_exo, dAt_fn, dAt_und, oAdd_ii, oAdd_ss, oAdd_ll, oAdd_tt, oOrd_ii, oOrd_ss, oInS_r, oInt_r, oInt0_r, oLen_l, oLen_k, oLen_t, oLen_s, oAbs_r, oInt1_i, oInt1_b, oReprB_r, int1_r, int2_r, isLst_l, see_v, see_s, sea_v, sea_s, ↓dIdx, ↓dFld, ↓dFset, ↓dJoin, ↓dListOf, ↓dMeth, ↓dMake_r, ↓dAsgG, ↓dLcN, ↓dLc2, idxK_ss, isStr_s, fldK_0, fldK_S, fsetK_r, isIns_i, dgTup_t, dgSeq_l, dgSeq_k, dgCons_c, dgNil_n, rowK_l, rowK_k, rowK_t, oTup_l, oTup_k, oTup_t, ↓dLoan_r, lnK_ok, lnK_exc, lnE_t, lnE_f, lnE_n, olE_c, olE_n, Bool.true_or, Bool.or_true, Bool.false_or, lf_non, lf_bl, lf_int, lf_str, lf_tup, lf_ins, lfs_n, lfs_c, fr2_l, ol_l, ↓dNeg, ngK_i, oRepS_r, ↓dApp2, ↓dPop2, ↓dPut2, sbK_l, opApp, opPop, opPut, ↓dAppSelf, ↓dAsg3, ↓dTru, truK_b, truK_l, ↓dExt, extK_l, oMin2_r, oIsB_r, ↓dSortSet, ↓dReprT, oEqS_r, ↓dCat, catK_l, ↓dItV, itK_s, itK_t, itK_l, itK_k, ↓dDisp1_r, tkK_ii, ↓dDget, ↓dDin, ↓dDput, dkK_tr, dkK_oi, dkK_os, dputK_t, dputK_oi, dputK_os]
              refine call_step rfl rfl rfl ⟨nums, p', 8, rfl, n0, n1, by decide, fun u y u0 u1 => ⟨rfl, ?_⟩⟩
              simp only [↓dSeq, ↓dIfS, ↓dRet, ↓dRetN, ↓dSkip, ↓dBrk, ↓dCnt, ↓dPk, ↓dC, ↓dO, ↓d2, ↓dNotT, ↓dAndT, ↓dOrT, ↓dIf, ↓dNil, ↓dCons, ↓dNilL, ↓dConsL, ↓dTup, ↓dLst, ↓dBI, ↓dOwnL, ↓dCall, ↓dRng1, ↓dRng2, ↓dFor, ↓dRaise, ↓dRaise0, ↓dPn, ↓dYes, ↓dLc, ↓dExp, ↓onOk_ok, ↓onOk_exc, ↓onFl_ok, ↓onFl_exc, gt0, gtS, Vi.frs, fr_non, own_non, own_und, nz_non, fr_bl, own_bl, nz_bl, fr_int, own_int, nz_int, fr_str, own_str, nz_str, fr_tup, own_tup, nz_tup, fr_lst, own_lst, nz_lst, fr_klst, own_klst, nz_klst, fr_dic, own_dic, nz_dic, fr_ins, own_ins, nz_ins, fr_exo, own_exo, nz_exo, fr_fn, own_fn, nz_fn, eqD_ii, eqD_ss, eqD_bb, eqD_nn, eqD_sn, eqD_ns, eqD_ll, eqD_tt, eqDs_nn, eqDs_cn, eqDs_nc, eqDs_cc, shp_i, shp_b, shp_n, shp_s, shp_l, shp_t, shps_n, shps_c, id_eq, ↓dTry, ↓dIs_eq, ↓dWhat_eq, endT_rt, endT_nx, oEq, oIsN, isN, ↓endK_rt, ↓endK_nx, ↓endK_exc, ↓turnK_nx, ↓turnK_ct, ↓turnK_bk, ↓turnK_rt, ↓turnK_exc, List.set_cons_zero, List.set_cons_succ, List.all_cons, List.all_nil, List.map_cons, List.map_nil, Bool.and_true, Bool.and_self, Bool.true_and, Bool.not_true, Bool.not_false, true_and, and_true, List.take_succ_cons, List.take_zero, List.cons_append, List.nil_append, Bool.false_eq_true, if_false, if_true, ite_false, ite_true, wb_n, wb_sl, wb_vc, wb_vn, wb_v1, wb_v2, wb_v3, wb_v4, wb_v5, wb_v6, unb, reb, List.length_cons, List.length_nil, ↓dVar_r, ↓dFr_r, ↓dSet_r, ↓dgN_r, ↓dPut_r, ↓dApp_r, ↓dB_r, ↓dAndV_r, ↓dOrV_r, ↓dNotV_r, ↓dChn_r, ↓dSl_r, ↓dLenSet_r, ↓dItS_r, ↓dItL_r, ↓dItT_r, ↓dPs_r, eAt_c, exF_ok, putK_li, appK_l, blK_b, slK_s, slK_l, oIx_l, oIx_k, oIx_t, oIx_s, oAll_m, stK_b, seqK_l, seqK_k, tupK_t, inK_b, dAt_non, dAt_bl, dAt_int, dAt_str, dAt_tup, dAt_lst, dAt_klst, dAt_dic, dAt_ins, dAt_exo, dAt_fn, dAt_und, oAdd_ii, oAdd_ss, oAdd_ll, oAdd_tt, oOrd_ii, oOrd_ss, oInS_r, oInt_r, oInt0_r, oLen_l, oLen_k, oLen_t, oLen_s, oAbs_r, oInt1_i, oInt1_b, oReprB_r, int1_r, int2_r, isLst_l, see_v, see_s, sea_v, sea_s, ↓dIdx, ↓dFld, ↓dFset, ↓dJoin, ↓dListOf, ↓dMeth, ↓dMake_r, ↓dAsgG, ↓dLcN, ↓dLc2, idxK_ss, isStr_s, fldK_0, fldK_S, fsetK_r, isIns_i, dgTup_t, dgSeq_l, dgSeq_k, dgCons_c, dgNil_n, rowK_l, rowK_k, rowK_t, oTup_l, oTup_k, oTup_t, ↓dLoan_r, lnK_ok, lnK_exc, lnE_t, lnE_f, lnE_n, olE_c, olE_n, Bool.true_or, Bool.or_true, Bool.false_or, lf_non, lf_bl, lf_int, lf_str, lf_tup, lf_ins, lfs_n, lfs_c, fr2_l, ol_l, ↓dNeg, ngK_i, oRepS_r, ↓dApp2, ↓dPop2, ↓dPut2, sbK_l, opApp, opPop, opPut, ↓dAppSelf, ↓dAsg3, ↓dTru, truK_b, truK_l, ↓dExt, extK_l, oMin2_r, oIsB_r, ↓dSortSet, ↓dReprT, oEqS_r, ↓dCat, catK_l, ↓dItV, itK_s, itK_t, itK_l, itK_k, ↓dDisp1_r, tkK_ii, ↓dDget, ↓dDin, ↓dDput, dkK_tr, dkK_oi, dkK_os, dputK_t, dputK_oi, dputK_os]
              refine if_b (fun _ => ?_) fun _ => fin _
              refine call_step rfl rfl rfl ⟨nums, _, 1000, rfl, n0, n1, by decide, fun a y2 a0 a1 => ⟨rfl, ?_⟩⟩
              simp only [↓dSeq, ↓dIfS, ↓dRet, ↓dRetN, ↓dSkip, ↓dBrk, ↓dCnt, ↓dPk, ↓dC, ↓dO, ↓d2, ↓dNotT, ↓dAndT, ↓dOrT, ↓dIf, ↓dNil, ↓dCons, ↓dNilL, ↓dConsL, ↓dTup, ↓dLst, ↓dBI, ↓dOwnL, ↓dCall, ↓dRng1, ↓dRng2, ↓dFor, ↓dRaise, ↓dRaise0, ↓dPn, ↓dYes, ↓dLc, ↓dExp, ↓onOk_ok, ↓onOk_exc, ↓onFl_ok, ↓onFl_exc, gt0, gtS, Vi.frs, fr_non, own_non, own_und, nz_non, fr_bl, own_bl, nz_bl, fr_int, own_int, nz_int, fr_str, own_str, nz_str, fr_tup, own_tup, nz_tup, fr_lst, own_lst, nz_lst, fr_klst, own_klst, nz_klst, fr_dic, own_dic, nz_dic, fr_ins, own_ins, nz_ins, fr_exo, own_exo, nz_exo, fr_fn, own_fn, nz_fn, eqD_ii, eqD_ss, eqD_bb, eqD_nn, eqD_sn, eqD_ns, eqD_ll, eqD_tt, eqDs_nn, eqDs_cn, eqDs_nc, eqDs_cc, shp_i, shp_b, shp_n, shp_s, shp_l, shp_t, shps_n, shps_c, id_eq, ↓dTry, ↓dIs_eq, ↓dWhat_eq, endT_rt, endT_nx, oEq, oIsN, isN, ↓endK_rt, ↓endK_nx, ↓endK_exc, ↓turnK_nx, ↓turnK_ct, ↓turnK_bk, ↓turnK_rt, ↓turnK_exc, List.set_cons_zero, List.set_cons_succ, List.all_cons, List.all_nil, List.map_cons, List.map_nil, Bool.and_true, Bool.and_self, Bool.true_and, Bool.not_true, Bool.not_false, true_and, and_true, List.take_succ_cons, List.take_zero, List.cons_append, List.nil_append, Bool.false_eq_true, if_false, if_true, ite_false, ite_true, wb_n, wb_sl, wb_vc, wb_vn, wb_v1, wb_v2, wb_v3, wb_v4, wb_v5, wb_v6, unb, reb, List.length_cons, List.length_nil, ↓dVar_r, ↓dFr_r, ↓dSet_r, ↓dgN_r, ↓dPut_r, ↓dApp_r, ↓dB_r, ↓dAndV_r, ↓dOrV_r, ↓dNotV_r, ↓dChn_r, ↓dSl_r, ↓dLenSet_r, ↓dItS_r, ↓dItL_r, ↓dItT_r, ↓dPs_r, eAt_c, exF_ok, putK_li, appK_l, blK_b, slK_s, slK_l, oIx_l, oIx_k, oIx_t, oIx_s, oAll_m, stK_b, seqK_l, seqK_k, tupK_t, inK_b, dAt_non, dAt_bl, dAt_int, dAt_str, dAt_tup, dAt_lst, dAt_klst, dAt_dic, dAt_ins, dAt_exo, dAt_fn, dAt_und, oAdd_ii, oAdd_ss, oAdd_ll, oAdd_tt, oOrd_ii, oOrd_ss, oInS_r, oInt_r, oInt0_r, oLen_l, oLen_k, oLen_t, oLen_s, oAbs_r, oInt1_i, oInt1_b, oReprB_r, int1_r, int2_r, isLst_l, see_v, see_s, sea_v, sea_s, ↓dIdx, ↓dFld, ↓dFset, ↓dJoin, ↓dListOf, ↓dMeth, ↓dMake_r, ↓dAsgG, ↓dLcN, ↓dLc2, idxK_ss, isStr_s, fldK_0, fldK_S, fsetK_r, isIns_i, dgTup_t, dgSeq_l, dgSeq_k, dgCons_c, dgNil_n, rowK_l, rowK_k, rowK_t, oTup_l, oTup_k, oTup_t, ↓dLoan_r, lnK_ok, lnK_exc, lnE_t, lnE_f, lnE_n, olE_c, olE_n, Bool.true_or, Bool.or_true, Bool.false_or, lf_non, lf_bl, lf_int, lf_str, lf_tup, lf_ins, lfs_n, lfs_c, fr2_l, ol_l, ↓dNeg, ngK_i, oRepS_r, ↓dApp2, ↓dPop2, ↓dPut2, sbK_l, opApp, opPop, opPut, ↓dAppSelf, ↓dAsg3, ↓dTru, truK_b, truK_l, ↓dExt, extK_l, oMin2_r, oIsB_r, ↓dSortSet, ↓dReprT, oEqS_r, ↓dCat, catK_l, ↓dItV, itK_s, itK_t, itK_l, itK_k, ↓dDisp1_r, tkK_ii, ↓dDget, ↓dDin, ↓dDput, dkK_tr, dkK_oi, dkK_os, dputK_t, dputK_oi, dputK_os]
              refine ⟨.inl ⟨by omega, by omega⟩, call_step rfl rfl rfl ⟨nums, _, 5, rfl, n0, n1, by decide, fun b y3 b0 b1 => ⟨rfl, ?_⟩⟩⟩
              simp only [↓dSeq, ↓dIfS, ↓dRet, ↓dRetN, ↓dSkip, ↓dBrk, ↓dCnt, ↓dPk, ↓dC, ↓dO, ↓d2, ↓dNotT, ↓dAndT, ↓dOrT, ↓dIf, ↓dNil, ↓dCons, ↓dNilL, ↓dConsL, ↓dTup, ↓dLst, ↓dBI, ↓dOwnL, ↓dCall, ↓dRng1, ↓dRng2, ↓dFor, ↓dRaise, ↓dRaise0, ↓dPn, ↓dYes, ↓dLc, ↓dExp, ↓onOk_ok, ↓onOk_exc, ↓onFl_ok, ↓onFl_exc, gt0, gtS, Vi.frs, fr_non, own_non, own_und, nz_non, fr_bl, own_bl, nz_bl, fr_int, own_int, nz_int, fr_str, own_str, nz_str, fr_tup, own_tup, nz_tup, fr_lst, own_lst, nz_lst, fr_klst, own_klst, nz_klst, fr_dic, own_dic, nz_dic, fr_ins, own_ins, nz_ins, fr_exo, own_exo, nz_exo, fr_fn, own_fn, nz_fn, eqD_ii, eqD_ss, eqD_bb, eqD_nn, eqD_sn, eqD_ns, eqD_ll, eqD_tt, eqDs_nn, eqDs_cn, eqDs_nc, eqDs_cc, shp_i, shp_b, shp_n, shp_s, shp_l, shp_t, shps_n, shps_c, id_eq, ↓dTry, ↓dIs_eq, ↓dWhat_eq, endT_rt, endT_nx, oEq, oIsN, isN, ↓endK_rt, ↓endK_nx, ↓endK_exc, ↓turnK_nx, ↓turnK_ct, ↓turnK_bk, ↓turnK_rt, ↓turnK_exc, List.set_cons_zero, List.set_cons_succ, List.all_cons, List.all_nil, List.map_cons, List.map_nil, Bool.and_true, Bool.and_self, Bool.true_and, Bool.not_true, Bool.not_false, true_and, and_true, List.take_succ_cons, List.take_zero, List.cons_append, List.nil_append, Bool.false_eq_true, if_false, if_true, ite_false, ite_true, wb_n, wb_sl, wb_vc, wb_vn, wb_v1, wb_v2, wb_v3, wb_v4, wb_v5, wb_v6, unb, reb, List.length_cons, List.length_nil, ↓dVar_r, ↓dFr_r, ↓dSet_r, ↓dgN_r, ↓dPut_r, ↓dApp_r, ↓dB_r, ↓dAndV_r, ↓dOrV_r, ↓dNotV_r, ↓dChn_r, ↓dSl_r, ↓dLenSet_r, ↓dItS_r, ↓dItL_r, ↓dItT_r, ↓dPs_r, eAt_c, exF_ok, putK_li, appK_l, blK_b, slK_s, slK_l, oIx_l, oIx_k, oIx_t, oIx_s, oAll_m, stK_b, seqK_l, seqK_k, tupK_t, inK_b, dAt_non, dAt_bl, dAt_int, dAt_str, dAt_tup, dAt_lst, dAt_klst, dAt_dic, dAt_ins, dAt_exo, dAt_fn, dAt_und, oAdd_ii, oAdd_ss, oAdd_ll, oAdd_tt, oOrd_ii, oOrd_ss, oInS_r, oInt_r, oInt0_r, oLen_l, oLen_k, oLen_t, oLen_s, oAbs_r, oInt1_i, oInt1_b, oReprB_r, int1_r, int2_r, isLst_l, see_v, see_s, sea_v, sea_s, ↓dIdx, ↓dFld, ↓dFset, ↓dJoin, ↓dListOf, ↓dMeth, ↓dMake_r, ↓dAsgG, ↓dLcN, ↓dLc2, idxK_ss, isStr_s, fldK_0, fldK_S, fsetK_r, isIns_i, dgTup_t, dgSeq_l, dgSeq_k, dgCons_c, dgNil_n, rowK_l, rowK_k, rowK_t, oTup_l, oTup_k, oTup_t, ↓dLoan_r, lnK_ok, lnK_exc, lnE_t, lnE_f, lnE_n, olE_c, olE_n, Bool.true_or, Bool.or_true, Bool.false_or, lf_non, lf_bl, lf_int, lf_str, lf_tup, lf_ins, lfs_n, lfs_c, fr2_l, ol_l, ↓dNeg, ngK_i, oRepS_r, ↓dApp2, ↓dPop2, ↓dPut2, sbK_l, opApp, opPop, opPut, ↓dAppSelf, ↓dAsg3, ↓dTru, truK_b, truK_l, ↓dExt, extK_l, oMin2_r, oIsB_r, ↓dSortSet, ↓dReprT, oEqS_r, ↓dCat, catK_l, ↓dItV, itK_s, itK_t, itK_l, itK_k, ↓dDisp1_r, tkK_ii, ↓dDget, ↓dDin, ↓dDput, dkK_tr, dkK_oi, dkK_os, dputK_t, dputK_oi, dputK_os]
              refine call_step rfl rfl rfl ⟨L, 1 + a * 2, 1 + b, rfl, l0, l8, nd, by omega, by omega, by omega, by omega, fun posts hp => ⟨hp, ?_⟩⟩
              simp only [↓dSeq, ↓dIfS, ↓dRet, ↓dRetN, ↓dSkip, ↓dBrk, ↓dCnt, ↓dPk, ↓dC, ↓dO, ↓d2, ↓dNotT, ↓dAndT, ↓dOrT, ↓dIf, ↓dNil, ↓dCons, ↓dNilL, ↓dConsL, ↓dTup, ↓dLst, ↓dBI, ↓dOwnL, ↓dCall, ↓dRng1, ↓dRng2, ↓dFor, ↓dRaise, ↓dRaise0, ↓dPn, ↓dYes, ↓dLc, ↓dExp, ↓onOk_ok, ↓onOk_exc, ↓onFl_ok, ↓onFl_exc, gt0, gtS, Vi.frs, fr_non, own_non, own_und, nz_non, fr_bl, own_bl, nz_bl, fr_int, own_int, nz_int, fr_str, own_str, nz_str, fr_tup, own_tup, nz_tup, fr_lst, own_lst, nz_lst, fr_klst, own_klst, nz_klst, fr_dic, own_dic, nz_dic, fr_ins, own_ins, nz_ins, fr_exo, own_exo, nz_exo, fr_fn, own_fn, nz_fn, eqD_ii, eqD_ss, eqD_bb, eqD_nn, eqD_sn, eqD_ns, eqD_ll, eqD_tt, eqDs_nn, eqDs_cn, eqDs_nc, eqDs_cc, shp_i, shp_b, shp_n, shp_s, shp_l, shp_t, shps_n, shps_c, id_eq, ↓dTry, ↓dIs_eq, ↓dWhat_eq, endT_rt, endT_nx, oEq, oIsN, isN, ↓endK_rt, ↓endK_nx, ↓endK_exc, ↓turnK_nx, ↓turnK_ct, ↓turnK_bk, ↓turnK_rt, ↓turnK_exc, List.set_cons_zero, List.set_cons_succ, List.all_cons, List.all_nil, List.map_cons, List.map_nil, Bool.and_true, Bool.and_self, Bool.true_and, Bool.not_true, Bool.not_false, true_and, and_true, List.take_succ_cons, List.take_zero, List.cons_append, List.nil_append, Bool.false_eq_true, if_false, if_true, ite_false, ite_true, wb_n, wb_sl, wb_vc, wb_vn, wb_v1, wb_v2, wb_v3, wb_v4, wb_v5, wb_v6, unb, reb, List.length_cons, List.length_nil, ↓dVar_r, ↓dFr_r, ↓dSet_r, ↓dgN_r, ↓dPut_r, ↓dApp_r, ↓dB_r, ↓dAndV_r, ↓dOrV_r, ↓dNotV_r, ↓dChn_r, ↓dSl_r, ↓dLenSet_r, ↓dItS_r, ↓dItL_r, ↓dItT_r, ↓dPs_r, eAt_c, exF_ok, putK_li, appK_l, blK_b, slK_s, slK_l, oIx_l, oIx_k, oIx_t, oIx_s, oAll_m, stK_b, seqK_l, seqK_k, tupK_t, inK_b, dAt_non, dAt_bl, dAt_int, dAt_str, dAt_tup, dAt_lst, dAt_klst, dAt_dic, dAt_ins, dAt_exo, dAt_fn, dAt_und, oAdd_ii, oAdd_ss, oAdd_ll, oAdd_tt, oOrd_ii, oOrd_ss, oInS_r, oInt_r, oInt0_r, oLen_l, oLen_k, oLen_t, oLen_s, oAbs_r, oInt1_i, oInt1_b, oReprB_r, int1_r, int2_r, isLst_l, see_v, see_s, sea_v, sea_s, ↓dIdx, ↓dFld, ↓dFset, ↓dJoin, ↓dListOf, ↓dMeth, ↓dMake_r, ↓dAsgG, ↓dLcN, ↓dLc2, idxK_ss, isStr_s, fldK_0, fldK_S, fsetK_r, isIns_i, dgTup_t, dgSeq_l, dgSeq_k, dgCons_c, dgNil_n, rowK_l, rowK_k, rowK_t, oTup_l, oTup_k, oTup_t, ↓dLoan_r, lnK_ok, lnK_exc, lnE_t, lnE_f, lnE_n, olE_c, olE_n, Bool.true_or, Bool.or_true, Bool.false_or, lf_non, lf_bl, lf_int, lf_str, lf_tup, lf_ins, lfs_n, lfs_c, fr2_l, ol_l, ↓dNeg, ngK_i, oRepS_r, ↓dApp2, ↓dPop2, ↓dPut2, sbK_l, opApp, opPop, opPut, ↓dAppSelf, ↓dAsg3, ↓dTru, truK_b, truK_l, ↓dExt, extK_l, oMin2_r, oIsB_r, ↓dSortSet, ↓dReprT, oEqS_r, ↓dCat, catK_l, ↓dItV, itK_s, itK_t, itK_l, itK_k, ↓dDisp1_r, tkK_ii, ↓dDget, ↓dDin, ↓dDput, dkK_tr, dkK_oi, dkK_os, dputK_t, dputK_oi, dputK_os]
              exact fin _


abbrev ctx (K : PySem.W.Frag) (cls fnA : Nat → Addr) : Ct := ⟨K, cls, fldT, fnA⟩
/-- what the top has written -/
structure Txt (P : Program) (K : PySem.W.Frag) (mg : Str → Option Value) (cls fnA : Nat → Addr) (fd : Nat → FuncData) (D fI : Addr) : Prop where
  z_abs : mg "abs" = none
  z_all : mg "all" = none
  z_int : mg "int" = none
  z_isinstance : mg "isinstance" = none
  z_len : mg "len" = none
  z_list : mg "list" = none
  z_range : mg "range" = none
  z_repr : mg "repr" = none
  z_tuple : mg "tuple" = none
  z_super : mg "super" = none
  base : PySem.AnyX.Base P K D fI
  kinds : ∀ C, fam C = true → PySem.AnyX.Kind K D fI (cls C)
  gc : ∀ j nm, errNm j = some nm → mg nm = some (.ref (cls j))
  exm : ∀ j C b, subE j C = some b → PySem.W.exmOne K (.ref (cls C)) (.ref (cls j)) = some b
  kit : ∀ j C b, subE j C = some b → ExcC K (cls C) ∧ PySem.W.kitOne K (.ref (cls C)) (.ref (cls j)) = some b
  kits : ∀ js C b, subsE js C = some b → (∀ j ∈ js, j < nErr) → ExcC K (cls C) ∧ PySem.W.kitAny K (.ref (cls C)) (js.map fun j => .ref (cls j)) = some b
  kitV : ∀ C b, allE C = some b → ExcC K (cls C) ∧ PySem.W.kitOne K (.ref (cls C)) (.type "ValueError") = some b
  g_Machine : mg "Machine" = some (.ref (cls 5))
  cl_Machine : Cls K (cls 5)
  na_Machine_letters : NoAttr K (cls 5) "letters"
  na_Machine_accepting : NoAttr K (cls 5) "accepting"
  na_Machine_table : NoAttr K (cls 5) "table"
  mk_Machine : Mk K (cls 5) (fnA 9)
  F__law_cell : Fun K "_law_cell" "_law_cell" st__law_cell (fnA 0) (fd 0)
  g__law_cell : mg "_law_cell" = some (.ref (fnA 0))
  k__law_cell : PySem.W.keepIn K (.ref (fnA 0)) = true
  b__law_cell : Binds K (fd 0) ["_law_script", "_law_k"] []
  F__law_numbers : Fun K "_law_numbers" "_law_numbers" st__law_numbers (fnA 1) (fd 1)
  g__law_numbers : mg "_law_numbers" = some (.ref (fnA 1))
  k__law_numbers : PySem.W.keepIn K (.ref (fnA 1)) = true
  b__law_numbers : Binds K (fd 1) ["_law_cell_here", "_law_many"] []
  F__law_state : Fun K "_law_state" "_law_state" st__law_state (fnA 2) (fd 2)
  g__law_state : mg "_law_state" = some (.ref (fnA 2))
  k__law_state : PySem.W.keepIn K (.ref (fnA 2)) = true
  b__law_state : Binds K (fd 2) ["_law_script", "_law_start", "_law_many"] []
  F__law_next : Fun K "_law_next" "_law_next" st__law_next (fnA 3) (fd 3)
  g__law_next : mg "_law_next" = some (.ref (fnA 3))
  k__law_next : PySem.W.keepIn K (.ref (fnA 3)) = true
  b__law_next : Binds K (fd 3) ["_law_state_here", "_law_many"] []
  F__law_letters : Fun K "_law_letters" "_law_letters" st__law_letters (fnA 4) (fd 4)
  g__law_letters : mg "_law_letters" = some (.ref (fnA 4))
  k__law_letters : PySem.W.keepIn K (.ref (fnA 4)) = true
  b__law_letters : Binds K (fd 4) ["_law_state_here", "_law_most"] []
  F_Machine__is_whole : Fun K "_is_whole" "Machine._is_whole" st_Machine__is_whole (fnA 10) (fd 10)
  me_Machine__is_whole : Meth K (cls 5) "_is_whole" (fnA 10)
  b_Machine__is_whole : Binds K (fd 10) ["self"] []
  F_Machine___init__ : Fun K "__init__" "Machine.__init__" st_Machine___init__ (fnA 9) (fd 9)
  b_Machine___init__ : Binds K (fd 9) ["self", "letters", "accepting", "table"] []
  F__law_made : Fun K "_law_made" "_law_made" st__law_made (fnA 5) (fd 5)
  g__law_made : mg "_law_made" = some (.ref (fnA 5))
  k__law_made : PySem.W.keepIn K (.ref (fnA 5)) = true
  b__law_made : Binds K (fd 5) ["_law_letters_here", "_law_accepting", "_law_table"] []
  F__law_faulty : Fun K "_law_faulty" "_law_faulty" st__law_faulty (fnA 6) (fd 6)
  g__law_faulty : mg "_law_faulty" = some (.ref (fnA 6))
  k__law_faulty : PySem.W.keepIn K (.ref (fnA 6)) = true
  b__law_faulty : Binds K (fd 6) ["_law_letters_here", "_law_accepting", "_law_table", "_law_state_here"] []
  F_Machine_run : Fun K "run" "Machine.run" st_Machine_run (fnA 11) (fd 11)
  me_Machine_run : Meth K (cls 5) "run" (fnA 11)
  b_Machine_run : Binds K (fd 11) ["self", "text"] []
  F_Machine_accepts : Fun K "accepts" "Machine.accepts" st_Machine_accepts (fnA 12) (fd 12)
  me_Machine_accepts : Meth K (cls 5) "accepts" (fnA 12)
  b_Machine_accepts : Binds K (fd 12) ["self", "text"] []
  F__law_ring : Fun K "_law_ring" "_law_ring" st__law_ring (fnA 7) (fd 7)
  g__law_ring : mg "_law_ring" = some (.ref (fnA 7))
  k__law_ring : PySem.W.keepIn K (.ref (fnA 7)) = true
  b__law_ring : Binds K (fd 7) ["_law_letters_here", "_law_many", "_law_step"] []
  F_Machine_picture : Fun K "picture" "Machine.picture" st_Machine_picture (fnA 13) (fd 13)
  me_Machine_picture : Meth K (cls 5) "picture" (fnA 13)
  b_Machine_picture : Binds K (fd 13) ["self"] []
  F_law : Fun K "law" "law" st_law (fnA 8) (fd 8)
  g_law : mg "law" = some (.ref (fnA 8))
  k_law : PySem.W.keepIn K (.ref (fnA 8)) = true
  b_law : Binds K (fd 8) ["_law_script"] []
section
variable {P : Program} {w : World} {K : PySem.W.Frag} {mg : Str → Option Value} {base : Heap} {cls fnA : Nat → Addr} {fd : Nat → FuncData} {D fI : Addr}
theorem ok__law_cell (T : Txt P K mg cls fnA fd D fI) : FnOk P w K mg base (L2.CX P w) 1 (fnA 0) (fd 0) ["_law_script", "_law_k"] (spOf (ctx K cls fnA) [] 2 S__law_cell) :=
  fn_ok (S := S__law_cell) (B := b__law_cell) T.F__law_cell sc__law_cell (fun cdv A outer s H E hr => by
  unfold b__law_cell
  exact (SS_cons (S_if (T_cmp or_lt b2_ord (O_pk 1) (O_of (E_bi cr_len ba_len rfl T.z_len (by decide +kernel) (A_cons (O_pk 0) A_nil))) (by with_unfolding_all rfl)) (SS_one (S_ret (N_of (E_ix ix_all b2_ix (O_pk 0) (O_pk 1) (fun _ _ => rfl))))) SS_nil)
  (SS_one (S_ret (N_of E_int))))) (by decide) p__law_cell
theorem ok__law_numbers (T : Txt P K mg cls fnA fd D fI) : FnOk P w K mg base (L2.CX P w) 1 (fnA 1) (fd 1) ["_law_cell_here", "_law_many"] (spOf (ctx K cls fnA) [] 2 S__law_numbers) :=
  fn_ok (S := S__law_numbers) (B := b__law_numbers) T.F__law_numbers sc__law_numbers (fun cdv A outer s H E hr => by
  unfold b__law_numbers
  exact (SS_cons (S_set (i := 2) sc__law_numbers.nd rfl (by first | exact Or.inl rfl | exact Or.inr rfl) (show ¬ (2 ∈ ([] : List Nat)) by decide) (N_of (E_bi call_abs ba_abs rfl T.z_abs (by decide +kernel) (A_cons (O_pk 0) A_nil))))
  (SS_cons (S_set (i := 3) sc__law_numbers.nd rfl (by first | exact Or.inl rfl | exact Or.inr rfl) (show ¬ (3 ∈ ([] : List Nat)) by decide) (N_of (E_var 2)))
  (SS_cons (S_set (i := 4) sc__law_numbers.nd rfl (by first | exact Or.inl rfl | exact Or.inr rfl) (show ¬ (4 ∈ ([] : List Nat)) by decide) (N_lst L_nil))
  (SS_cons (S_for (passes_of rfl) rfl (I_rng1 rfl T.z_range (L_cons (E_var 1) L_nil)) (G_name (i := 5) sc__law_numbers.nd rfl (by first | exact Or.inl rfl | exact Or.inr rfl) (show ¬ (5 ∈ ([] : List Nat)) by decide)) (SS_one (S_if (PW.pt (W_and (T_cmp or_ge b2_ord (O_pk 3) (O_of (E_op op_pow (b2_int (g := gPow) fun _ _ _ => fz_int) (O_of E_int) (O_of E_int))) (by with_unfolding_all rfl)) (W_and1 (T_cmp or_gt b2_ord (O_pk 2) (O_of E_int) (by with_unfolding_all rfl))))) (SS_cons (S_app (j := 4) rfl (by first | exact Or.inl rfl | exact Or.inr (Or.inl rfl) | exact Or.inr (Or.inr rfl)) (N_of (E_op op_mod (b2_int (g := gMod) fun _ _ _ => fz_int) (O_of (E_ty call_int1 ba_int rfl T.z_int (by decide +kernel) (A_cons (O_pk 2) A_nil))) (O_of E_int))))
  (SS_one (S_set (i := 2) sc__law_numbers.nd rfl (by first | exact Or.inl rfl | exact Or.inr rfl) (show ¬ (2 ∈ ([] : List Nat)) by decide) (N_of (E_op op_fdiv (b2_int (g := gDiv) fun _ _ _ => fz_int) (O_pk 2) (O_of E_int)))))) (SS_cons (S_set (i := 6) sc__law_numbers.nd rfl (by first | exact Or.inl rfl | exact Or.inr rfl) (show ¬ (6 ∈ ([] : List Nat)) by decide) (N_of (E_op op_mod (b2_int (g := gMod) fun _ _ _ => fz_int) (O_of (E_ty call_int1 ba_int rfl T.z_int (by decide +kernel) (A_cons (O_of (E_op or_add b2_add (O_of (E_op or_add b2_add (O_of (E_op op_mul (b2_int (g := gMul) fun _ _ _ => fz_int) (O_pk 3) (O_of E_int))) (O_of (E_op op_mul (b2_int (g := gMul) fun _ _ _ => fz_int) (O_pk 5) (O_of E_int))))) (O_of E_int))) A_nil))) (O_of E_int))))
  (SS_cons (S_set (i := 6) sc__law_numbers.nd rfl (by first | exact Or.inl rfl | exact Or.inr rfl) (show ¬ (6 ∈ ([] : List Nat)) by decide) (N_of (E_op op_mod (b2_int (g := gMod) fun _ _ _ => fz_int) (O_of (E_ty call_int1 ba_int rfl T.z_int (by decide +kernel) (A_cons (O_of (E_op or_add b2_add (O_of (E_op or_add b2_add (O_of (E_op op_mul (b2_int (g := gMul) fun _ _ _ => fz_int) (O_pk 6) (O_pk 6))) (O_of (E_op op_mul (b2_int (g := gMul) fun _ _ _ => fz_int) (O_of E_int) (O_pk 5))))) (O_of E_int))) A_nil))) (O_of E_int))))
  (SS_one (S_app (j := 4) rfl (by first | exact Or.inl rfl | exact Or.inr (Or.inl rfl) | exact Or.inr (Or.inr rfl)) (N_of (E_op op_mod (b2_int (g := gMod) fun _ _ _ => fz_int) (O_of (E_ty call_int1 ba_int rfl T.z_int (by decide +kernel) (A_cons (O_of (E_op op_fdiv (b2_int (g := gDiv) fun _ _ _ => fz_int) (O_pk 6) (O_of E_int))) A_nil))) (O_of E_int))))))))))
  (SS_one (S_ret (N_of (E_var 4))))))))) (by decide) p__law_numbers
theorem ok__law_state (T : Txt P K mg cls fnA fd D fI) : FnOk P w K mg base (L2.CX P w) 2 (fnA 2) (fd 2) ["_law_script", "_law_start", "_law_many"] (spOf (ctx K cls fnA) [] 3 S__law_state) :=
  fn_ok (S := S__law_state) (B := b__law_state) T.F__law_state sc__law_state (fun cdv A outer s H E hr => by
  unfold b__law_state
  exact (SS_cons (S_set (i := 3) sc__law_state.nd rfl (by first | exact Or.inl rfl | exact Or.inr rfl) (show ¬ (3 ∈ ([] : List Nat)) by decide) (N_lst L_nil))
  (SS_cons (S_for (passes_of rfl) rfl (I_rng2 rfl T.z_range (L_cons (E_var 1) (L_cons (E_op or_add b2_add (O_pk 1) (O_pk 2)) L_nil))) (G_name (i := 4) sc__law_state.nd rfl (by first | exact Or.inl rfl | exact Or.inr rfl) (show ¬ (4 ∈ ([] : List Nat)) by decide)) (SS_cons (S_set (i := 5) sc__law_state.nd rfl (by first | exact Or.inl rfl | exact Or.inr rfl) (show ¬ (5 ∈ ([] : List Nat)) by decide) (N_call (ok__law_cell T) (hr.mono (by decide)) (takes_of rfl rfl rfl rfl) rfl T.g__law_cell T.k__law_cell T.b__law_cell .nil Dft.nil (A_cons (O_of (E_var 0)) (A_cons (O_of (E_var 4)) A_nil))))
  (SS_cons (S_if (T_cmp or_lt b2_ord (O_of (E_bi call_abs ba_abs rfl T.z_abs (by decide +kernel) (A_cons (O_pk 5) A_nil))) (O_of (E_op op_pow (b2_int (g := gPow) fun _ _ _ => fz_int) (O_of E_int) (O_of E_int))) (by with_unfolding_all rfl)) (SS_one (S_set (i := 5) sc__law_state.nd rfl (by first | exact Or.inl rfl | exact Or.inr rfl) (show ¬ (5 ∈ ([] : List Nat)) by decide) (N_of (E_op or_add b2_add (O_of (E_op op_mul (b2_int (g := gMul) fun _ _ _ => fz_int) (O_pk 5) (O_of E_int))) (O_pk 4))))) SS_nil)
  (SS_one (S_set (i := 3) sc__law_state.nd rfl (by first | exact Or.inl rfl | exact Or.inr rfl) (show ¬ (3 ∈ ([] : List Nat)) by decide) (N_of (E_op or_add b2_add (O_pk 3) (O_of (E_of_N (N_call (ok__law_numbers T) (hr.mono (by decide)) (takes_of rfl rfl rfl rfl) rfl T.g__law_numbers T.k__law_numbers T.b__law_numbers .nil Dft.nil (A_cons (O_of (E_var 5)) (A_cons (O_of E_int) A_nil))))))))))))
  (SS_one (S_ret (N_lst (L_cons (E_var 3) (L_cons E_int L_nil)))))))) (by decide) p__law_state
theorem ok__law_next (T : Txt P K mg cls fnA fd D fI) : FnOk P w K mg base (L2.CX P w) 1 (fnA 3) (fd 3) ["_law_state_here", "_law_many"] (spOf (ctx K cls fnA) [0] 2 S__law_next) :=
  fn_ok (S := S__law_next) (B := b__law_next) T.F__law_next sc__law_next (fun cdv A outer s H E hr => by
  unfold b__law_next
  exact (SS_cons (S_set (i := 2) sc__law_next.nd rfl (by first | exact Or.inl rfl | exact Or.inr rfl) (show ¬ (2 ∈ ([0] : List Nat)) by decide) (N_of (E_ix ix_all b2_ix (O_pk 0) (O_of E_int) (fun _ _ => rfl))))
  (SS_cons (S_set (i := 3) sc__law_next.nd rfl (by first | exact Or.inl rfl | exact Or.inr rfl) (show ¬ (3 ∈ ([0] : List Nat)) by decide) (N_of (E_ix ix_all b2_ix (O_pk 0) (O_of E_int) (fun _ _ => rfl))))
  (SS_cons (S_put (j := 0) rfl (by first | exact Or.inl rfl | exact Or.inr (Or.inl rfl) | exact Or.inr (Or.inr rfl)) E_int (E_op or_add b2_add (O_pk 3) (O_of E_int)))
  (SS_one (S_ret (N_of (E_op op_mod (b2_int (g := gMod) fun _ _ _ => fz_int) (O_of (E_ty call_int1 ba_int rfl T.z_int (by decide +kernel) (A_cons (O_of (E_op or_add b2_add (O_of (E_ix ix_all b2_ix (O_pk 2) (O_of (E_op op_mod (b2_int (g := gMod) fun _ _ _ => fz_int) (O_pk 3) (O_of (E_bi cr_len ba_len rfl T.z_len (by decide +kernel) (A_cons (O_pk 2) A_nil))))) (fun _ _ => rfl))) (O_of (E_op op_mul (b2_int (g := gMul) fun _ _ _ => fz_int) (O_of (E_op op_fdiv (b2_int (g := gDiv) fun _ _ _ => fz_int) (O_pk 3) (O_of (E_bi cr_len ba_len rfl T.z_len (by decide +kernel) (A_cons (O_pk 2) A_nil))))) (O_of E_int))))) A_nil))) (O_pk 1))))))))) (by decide) p__law_next
theorem ok__law_letters (T : Txt P K mg cls fnA fd D fI) : FnOk P w K mg base (L2.CX P w) 2 (fnA 4) (fd 4) ["_law_state_here", "_law_most"] (spOf (ctx K cls fnA) [0] 2 S__law_letters) :=
  fn_ok (S := S__law_letters) (B := b__law_letters) T.F__law_letters sc__law_letters (fun cdv A outer s H E hr => by
  unfold b__law_letters
  exact (SS_cons (S_set (i := 2) sc__law_letters.nd rfl (by first | exact Or.inl rfl | exact Or.inr rfl) (show ¬ (2 ∈ ([0] : List Nat)) by decide) (N_of (E_str (l := [97, 98, 99, 100, 101, 102, 103, 104, 105, 106, 107, 108, 109, 110, 111, 112, 113, 114, 115, 116, 117, 118, 119, 120, 121, 122, 65, 66, 67, 68, 69, 70, 71, 72, 73, 74, 75, 76, 77, 78, 79, 80, 81, 82, 83, 84, 85, 86, 87, 88, 89, 90, 48, 49, 50, 51, 52, 53, 54, 55, 56, 57, 60, 62, 61, 58, 95, 64, 35]) (by decide +kernel))))
  (SS_cons (S_set (i := 3) sc__law_letters.nd rfl (by first | exact Or.inl rfl | exact Or.inr rfl) (show ¬ (3 ∈ ([0] : List Nat)) by decide) (N_of (E_str (l := []) (by decide +kernel))))
  (SS_cons (S_for (passes_of rfl) rfl (I_rng1 rfl T.z_range (L_cons (E_op or_add b2_add (O_of E_int) (O_of (E_of_N (N_call (ok__law_next T) (hr.mono (by decide)) (takes_of rfl rfl rfl rfl) rfl T.g__law_next T.k__law_next T.b__law_next .nil Dft.nil (A_cons (O_pk 0) (A_cons (O_of (E_var 1)) A_nil)))))) L_nil)) (G_name (i := 4) sc__law_letters.nd rfl (by first | exact Or.inl rfl | exact Or.inr rfl) (show ¬ (4 ∈ ([0] : List Nat)) by decide)) (SS_cons (S_set (i := 5) sc__law_letters.nd rfl (by first | exact Or.inl rfl | exact Or.inr rfl) (show ¬ (5 ∈ ([0] : List Nat)) by decide) (N_of (E_ix ix_all b2_ix (O_pk 2) (O_of (E_of_N (N_call (ok__law_next T) (hr.mono (by decide)) (takes_of rfl rfl rfl rfl) rfl T.g__law_next T.k__law_next T.b__law_next .nil Dft.nil (A_cons (O_pk 0) (A_cons (O_of E_int) A_nil))))) (fun _ _ => rfl))))
  (SS_one (S_if (T_cmp op_notIn_sign (b2_inS (g := not)) (O_pk 5) (O_pk 3) (by with_unfolding_all rfl)) (SS_one (S_set (i := 3) sc__law_letters.nd rfl (by first | exact Or.inl rfl | exact Or.inr rfl) (show ¬ (3 ∈ ([0] : List Nat)) by decide) (N_of (E_op or_add b2_add (O_pk 3) (O_pk 5))))) SS_nil))))
  (SS_one (S_ret (N_of (E_var 3)))))))) (by decide) p__law_letters
theorem ok_Machine__is_whole (T : Txt P K mg cls fnA fd D fI) : FnOk P w K mg base (L2.CX P w) 1 (fnA 10) (fd 10) ["self"] (spOf (ctx K cls fnA) [] 1 S_Machine__is_whole) :=
  fn_ok (S := S_Machine__is_whole) (B := b_Machine__is_whole) T.F_Machine__is_whole sc_Machine__is_whole (fun cdv A outer s H E hr => by
  unfold b_Machine__is_whole
  exact (SS_cons (S_set (i := 1) sc_Machine__is_whole.nd rfl (by first | exact Or.inl rfl | exact Or.inr rfl) (show ¬ (1 ∈ ([] : List Nat)) by decide) (N_of (E_bi cr_len ba_len rfl T.z_len (by decide +kernel) (A_cons (O_of (E_fld (C := 5) (j := 1) T.cl_Machine T.na_Machine_accepting rfl (show (fldT 5).Nodup by decide) (O_pk 0))) A_nil))))
  (SS_cons (S_if (PW.pt (W_or (T_cmp (op_eqD (un64 hr)) b2_eqD (O_pk 1) (O_of E_int) (by with_unfolding_all rfl)) (W_or1 (T_cmp (op_neD (un64 hr)) b2_neD (O_of (E_bi cr_len ba_len rfl T.z_len (by decide +kernel) (A_cons (O_of (E_fld (C := 5) (j := 2) T.cl_Machine T.na_Machine_table rfl (show (fldT 5).Nodup by decide) (O_pk 0))) A_nil))) (O_pk 1) (by with_unfolding_all rfl))))) (SS_one (S_ret (N_of E_bl))) SS_nil)
  (SS_cons (S_for (passes_of rfl) rfl (I_tup rfl (E_fld (C := 5) (j := 2) T.cl_Machine T.na_Machine_table rfl (show (fldT 5).Nodup by decide) (O_pk 0))) (G_name (i := 2) sc_Machine__is_whole.nd rfl (by first | exact Or.inl rfl | exact Or.inr rfl) (show ¬ (2 ∈ ([] : List Nat)) by decide)) (SS_one (S_if (PW.pt (W_or (T_cmp (op_neD (un64 hr)) b2_neD (O_of (E_bi cr_len ba_len rfl T.z_len (by decide +kernel) (A_cons (O_pk 2) A_nil))) (O_of (E_bi cr_len ba_len rfl T.z_len (by decide +kernel) (A_cons (O_of (E_fld (C := 5) (j := 0) T.cl_Machine T.na_Machine_letters rfl (show (fldT 5).Nodup by decide) (O_pk 0))) A_nil))) (by with_unfolding_all rfl)) (W_or1 (T_not (T_val (E_bi (cr_all rfl) (ba_all (g := allG)) rfl T.z_all (by decide +kernel) (A_cons (O_of (E_lc (own' := [("state", 3)]) (io := [0, 1, 2]) rfl sc_Machine__is_whole.nd (show ∀ i, i < 4 → i ∉ ([3] : List Nat) → i ∈ ([0, 1, 2] : List Nat) by decide) (I_var (I_list rfl (E_var 2)) (I_tup rfl (E_var 2)) (I_str (E_var 2))) ⟨⟨rfl, by decide +kernel, (by dsimp only [cxOf, envOfC]; decide +kernel), (by dsimp only [cxOf, envOfC]; decide +kernel), (by dsimp only [cxOf, envOfC]; decide +kernel)⟩, fun _ _ _ _ _ => (G_name (i := 3) sc_Machine__is_whole.nd rfl (by first | exact Or.inl rfl | exact Or.inr rfl) (show ¬ (3 ∈ ([0, 1, 2] : List Nat)) by decide)), fun _ _ _ _ _ => Ts_nil, fun _ _ _ _ _ => (E_chn or_le b2_ord or_lt b2_ord (O_of E_int) (O_pk 3) (O_pk 1))⟩)) A_nil)) (by intro _; rfl)))))) (SS_one (S_ret (N_of E_bl))) SS_nil)))
  (SS_one (S_ret (N_of E_bl))))))) (by decide) p_Machine__is_whole
theorem ok_Machine___init__ (T : Txt P K mg cls fnA fd D fI) : FnOk P w K mg base (L2.CX P w) 2 (fnA 9) (fd 9) ["self", "letters", "accepting", "table"] (spOf (ctx K cls fnA) [0] 4 S_Machine___init__) :=
  fn_ok (S := S_Machine___init__) (B := b_Machine___init__) T.F_Machine___init__ sc_Machine___init__ (fun cdv A outer s H E hr => by
  unfold b_Machine___init__
  exact (SS_cons (S_fld (C := 5) (i := 0) (j := 0) T.cl_Machine T.na_Machine_letters rfl (by decide) (show (fldT 5).Nodup by decide) rfl (by first | exact Or.inl rfl | exact Or.inr (Or.inl rfl) | exact Or.inr (Or.inr rfl)) (E_var 1))
  (SS_cons (S_fld (C := 5) (i := 0) (j := 1) T.cl_Machine T.na_Machine_accepting rfl (by decide) (show (fldT 5).Nodup by decide) rfl (by first | exact Or.inl rfl | exact Or.inr (Or.inl rfl) | exact Or.inr (Or.inr rfl)) (E_ty call_tup ba_tup rfl T.z_tuple (by decide +kernel) (A_cons (O_pk 2) A_nil)))
  (SS_cons (S_fld (C := 5) (i := 0) (j := 2) T.cl_Machine T.na_Machine_table rfl (by decide) (show (fldT 5).Nodup by decide) rfl (by first | exact Or.inl rfl | exact Or.inr (Or.inl rfl) | exact Or.inr (Or.inr rfl)) (E_ty call_tup ba_tup rfl T.z_tuple (by decide +kernel) (A_cons (O_of (E_lc (own' := [("row", 4)]) (io := [0, 1, 2, 3]) rfl sc_Machine___init__.nd (show ∀ i, i < 5 → i ∉ ([4] : List Nat) → i ∈ ([0, 1, 2, 3] : List Nat) by decide) (I_var (I_list rfl (E_var 3)) (I_tup rfl (E_var 3)) (I_str (E_var 3))) ⟨⟨rfl, by decide +kernel, (by dsimp only [cxOf, envOfC]; decide +kernel), (by dsimp only [cxOf, envOfC]; decide +kernel), (by dsimp only [cxOf, envOfC]; decide +kernel)⟩, fun _ _ _ _ _ => (G_name (i := 4) sc_Machine___init__.nd rfl (by first | exact Or.inl rfl | exact Or.inr rfl) (show ¬ (4 ∈ ([0, 1, 2, 3] : List Nat)) by decide)), fun _ _ _ _ _ => Ts_nil, fun _ _ _ _ _ => (E_ty call_tup ba_tup rfl T.z_tuple (by decide +kernel) (A_cons (O_pk 4) A_nil))⟩)) A_nil)))
  (SS_one (S_if (T_not (T_val (E_of_N (N_meth0 (C := 5) (O_of (E_var 0)) T.cl_Machine T.me_Machine__is_whole (show ¬ (("_is_whole" : Str) ∈ fldT 5) by decide) (ok_Machine__is_whole T) (hr.mono (by decide)) (takes_of rfl rfl rfl rfl) T.b_Machine__is_whole .nil Dft.nil)) (by intro _; rfl))) (SS_one (S_raise0 (C := 2) (k := 0) rfl (takes_of rfl rfl rfl rfl) T.base (T.kinds 2 rfl) T.z_super (hr.mono (by decide)) (T.gc 2 "BadMachine" rfl) rfl)) SS_nil)))))) (by decide) p_Machine___init__
theorem ok__law_made (T : Txt P K mg cls fnA fd D fI) : FnOk P w K mg base (L2.CX P w) 4 (fnA 5) (fd 5) ["_law_letters_here", "_law_accepting", "_law_table"] (spOf (ctx K cls fnA) [] 3 S__law_made) :=
  fn_ok (S := S__law_made) (B := b__law_made cls) T.F__law_made sc__law_made (fun cdv A outer s H E hr => by
  unfold b__law_made
  exact (SS_cons (S_try (i := 3) rfl rfl sc__law_made.nd rfl rfl ⟨rfl, by decide, Or.inl (T.gc 1 "MachineError" rfl)⟩ (takes_of rfl rfl rfl rfl) (T.exm 1) (show ¬ (3 ∈ ([] : List Nat)) by decide) (fun W pn xe tk2 hp2 => (SS_one (S_expr (E_of_N (N_make (C := 5) T.mk_Machine (ok_Machine___init__ T) (hr.mono (by decide)) tk2 rfl T.g_Machine T.b_Machine___init__ .nil Dft.nil (L_cons (E_var 0) (L_cons (E_var 1) (L_cons (E_var 2) L_nil)))))))) (fun a oe cls d pn hz hf => (SS_one (S_ret (N_of (E_and (E_is (i := 3) hz hf (T.kit 2) (pe_glob rfl (T.gc 2 "BadMachine" rfl) (v := .ref _) rfl) (fun _ r => r) rfl T.z_isinstance) (E_and (E_not (E_isT (i := 3) hz hf (fun C b e => T.kits [3, 4] C b e (by decide)) (ClsL.cons ⟨pe_glob rfl (T.gc 3 "BadRewriter" rfl) (v := .ref _) rfl, fun _ r => r⟩ (ClsL.cons ⟨pe_glob rfl (T.gc 4 "ProgramError" rfl) (v := .ref _) rfl, fun _ r => r⟩ ClsL.nil rfl) rfl) (by simp) rfl T.z_isinstance)) (E_one (E_cmp op_isN b2_isN (O_of (E_what (i := 3) hz hf T.kinds)) (O_of E_non) (by with_unfolding_all rfl))))))))))
  (SS_one (S_ret (N_of E_bl))))) (by decide) p__law_made
theorem ok__law_faulty (T : Txt P K mg cls fnA fd D fI) : FnOk P w K mg base (L2.CX P w) 5 (fnA 6) (fd 6) ["_law_letters_here", "_law_accepting", "_law_table", "_law_state_here"] (spOf (ctx K cls fnA) [3] 4 S__law_faulty) :=
  fn_ok (S := S__law_faulty) (B := b__law_faulty) T.F__law_faulty sc__law_faulty (fun cdv A outer s H E hr => by
  unfold b__law_faulty
  exact (SS_cons (S_set (i := 4) sc__law_faulty.nd rfl (by first | exact Or.inl rfl | exact Or.inr rfl) (show ¬ (4 ∈ ([3] : List Nat)) by decide) (N_call (ok__law_next T) (hr.mono (by decide)) (takes_of rfl rfl rfl rfl) rfl T.g__law_next T.k__law_next T.b__law_next .nil Dft.nil (A_cons (O_pk 3) (A_cons (O_of E_int) A_nil))))
  (SS_cons (S_setLcN (i := 5) (own' := [("_law_row", 6)]) (io := [0, 1, 2, 3, 4, 5, 7, 8]) rfl sc__law_faulty.nd rfl rfl (show ¬ (5 ∈ ([3] : List Nat)) by decide) rfl (show ∀ i, i < 9 → i ∉ ([6] : List Nat) → i ∈ ([0, 1, 2, 3, 4, 5, 7, 8] : List Nat) by decide) (I_var (I_list rfl (E_var 2)) (I_tup rfl (E_var 2)) (I_str (E_var 2))) ⟨⟨rfl, by decide +kernel, (by dsimp only [cxOf, envOfC]; decide +kernel), (by dsimp only [cxOf, envOfC]; decide +kernel), (by dsimp only [cxOf, envOfC]; decide +kernel)⟩, fun _ _ _ _ _ => (G_name (i := 6) sc__law_faulty.nd rfl (by first | exact Or.inl rfl | exact Or.inr rfl) (show ¬ (6 ∈ ([0, 1, 2, 3, 4, 5, 7, 8] : List Nat)) by decide)), fun _ _ _ _ _ => Ts_nil, fun _ _ _ _ _ => (N_listOf (O_pk 6) rfl rfl T.z_list)⟩)
  (SS_cons (S_set (i := 7) sc__law_faulty.nd rfl (by first | exact Or.inl rfl | exact Or.inr rfl) (show ¬ (7 ∈ ([3] : List Nat)) by decide) (N_call (ok__law_next T) (hr.mono (by decide)) (takes_of rfl rfl rfl rfl) rfl T.g__law_next T.k__law_next T.b__law_next .nil Dft.nil (A_cons (O_pk 3) (A_cons (O_of (E_bi cr_len ba_len rfl T.z_len (by decide +kernel) (A_cons (O_pk 5) A_nil))) A_nil))))
  (SS_cons (S_set (i := 8) sc__law_faulty.nd rfl (by first | exact Or.inl rfl | exact Or.inr rfl) (show ¬ (8 ∈ ([3] : List Nat)) by decide) (N_call (ok__law_next T) (hr.mono (by decide)) (takes_of rfl rfl rfl rfl) rfl T.g__law_next T.k__law_next T.b__law_next .nil Dft.nil (A_cons (O_pk 3) (A_cons (O_of (E_bi cr_len ba_len rfl T.z_len (by decide +kernel) (A_cons (O_pk 0) A_nil))) A_nil))))
  (SS_cons (S_if (T_cmp (op_eqD (un64 hr)) b2_eqD (O_pk 4) (O_of E_int) (by with_unfolding_all rfl)) (SS_one (S_ret (N_call (ok__law_made T) (hr.mono (by decide)) (takes_of rfl rfl rfl rfl) rfl T.g__law_made T.k__law_made T.b__law_made .nil Dft.nil (A_cons (O_of (E_var 0)) (A_cons (O_of (E_lst L_nil)) (A_cons (O_of (E_lst L_nil)) A_nil)))))) SS_nil)
  (SS_cons (S_if (T_cmp (op_eqD (un64 hr)) b2_eqD (O_pk 4) (O_of E_int) (by with_unfolding_all rfl)) (SS_one (S_ret (N_of (E_loan [false, false, false, false, false, true, false, false, false] (E_of_N (N_call (ok__law_made T) (hr.mono (by decide)) (takes_of rfl rfl rfl rfl) rfl T.g__law_made T.k__law_made T.b__law_made .nil Dft.nil (A_cons (O_of (E_var 0)) (A_cons (O_of (E_var 1)) (A_cons (O_of (E_op or_add b2_add (O_pk 5) (O_of (E_lst (L_cons (E_ix ix_all b2_ix (O_pk 5) (O_of E_int) (fun _ _ => rfl)) L_nil))))) A_nil))))))))) SS_nil)
  (SS_cons (S_if (T_cmp (op_eqD (un64 hr)) b2_eqD (O_pk 4) (O_of E_int) (by with_unfolding_all rfl)) (SS_one (S_ret (N_of (E_loan [false, false, false, false, false, true, false, false, false] (E_of_N (N_call (ok__law_made T) (hr.mono (by decide)) (takes_of rfl rfl rfl rfl) rfl T.g__law_made T.k__law_made T.b__law_made .nil Dft.nil (A_cons (O_of (E_var 0)) (A_cons (O_of (E_op or_add b2_add (O_pk 1) (O_of (E_lst (L_cons E_bl L_nil))))) (A_cons (O_of (E_var 5)) A_nil))))))))) SS_nil)
  (SS_cons (S_if (T_cmp (op_eqD (un64 hr)) b2_eqD (O_pk 4) (O_of E_int) (by with_unfolding_all rfl)) (SS_one (S_app2 (j := 5) rfl (by first | exact Or.inl rfl | exact Or.inr (Or.inl rfl) | exact Or.inr (Or.inr rfl)) (Sm_var 7) Sm_int (fun _ _ => rfl))) (SS_one (S_if (T_cmp (op_eqD (un64 hr)) b2_eqD (O_pk 4) (O_of E_int) (by with_unfolding_all rfl)) (SS_one (S_pop2 (j := 5) rfl (by first | exact Or.inl rfl | exact Or.inr (Or.inl rfl) | exact Or.inr (Or.inr rfl)) (Sm_var 7) (Sm_var 8) (fun _ _ => rfl))) (SS_one (S_if (T_cmp (op_eqD (un64 hr)) b2_eqD (O_pk 4) (O_of E_int) (by with_unfolding_all rfl)) (SS_one (S_put2 (j := 5) rfl (by first | exact Or.inl rfl | exact Or.inr (Or.inl rfl) | exact Or.inr (Or.inr rfl)) (Sm_var 7) (Sm_var 8) (fun _ _ => rfl) (E_op or_add b2_add (O_of (E_bi cr_len ba_len rfl T.z_len (by decide +kernel) (A_cons (O_pk 5) A_nil))) (O_of (E_of_N (N_call (ok__law_next T) (hr.mono (by decide)) (takes_of rfl rfl rfl rfl) rfl T.g__law_next T.k__law_next T.b__law_next .nil Dft.nil (A_cons (O_pk 3) (A_cons (O_of E_int) A_nil)))))))) (SS_one (S_put2 (j := 5) rfl (by first | exact Or.inl rfl | exact Or.inr (Or.inl rfl) | exact Or.inr (Or.inr rfl)) (Sm_var 7) (Sm_var 8) (fun _ _ => rfl) (E_op op_sub (b2_int0 (g := gSub) fun _ _ _ => fz_int) (O_of (E_neg E_int)) (O_of (E_of_N (N_call (ok__law_next T) (hr.mono (by decide)) (takes_of rfl rfl rfl rfl) rfl T.g__law_next T.k__law_next T.b__law_next .nil Dft.nil (A_cons (O_pk 3) (A_cons (O_of E_int) A_nil)))))))))))))
  (SS_one (S_ret (N_of (E_loan [false, false, false, false, false, true, false, false, false] (E_of_N (N_call (ok__law_made T) (hr.mono (by decide)) (takes_of rfl rfl rfl rfl) rfl T.g__law_made T.k__law_made T.b__law_made .nil Dft.nil (A_cons (O_of (E_var 0)) (A_cons (O_of (E_var 1)) (A_cons (O_of (E_var 5)) A_nil)))))))))))))))))) (by decide) p__law_faulty
theorem ok_Machine_run (T : Txt P K mg cls fnA fd D fI) : FnOk P w K mg base (L2.CX P w) 1 (fnA 11) (fd 11) ["self", "text"] (spOf (ctx K cls fnA) [] 2 S_Machine_run) :=
  fn_ok (S := S_Machine_run) (B := b_Machine_run) T.F_Machine_run sc_Machine_run (fun cdv A outer s H E hr => by
  unfold b_Machine_run
  exact (SS_cons (S_set (i := 2) sc_Machine_run.nd rfl (by first | exact Or.inl rfl | exact Or.inr rfl) (show ¬ (2 ∈ ([] : List Nat)) by decide) (N_of E_int))
  (SS_cons (S_for (passes_of rfl) rfl (I_var (I_list rfl (E_var 1)) (I_tup rfl (E_var 1)) (I_str (E_var 1))) (G_name (i := 3) sc_Machine_run.nd rfl (by first | exact Or.inl rfl | exact Or.inr rfl) (show ¬ (3 ∈ ([] : List Nat)) by decide)) (SS_one (S_set (i := 2) sc_Machine_run.nd rfl (by first | exact Or.inl rfl | exact Or.inr rfl) (show ¬ (2 ∈ ([] : List Nat)) by decide) (N_of (E_ix ix_all b2_ix (O_of (E_ix ix_all b2_ix (O_of (E_fld (C := 5) (j := 2) T.cl_Machine T.na_Machine_table rfl (show (fldT 5).Nodup by decide) (O_pk 0))) (O_pk 2) (fun _ _ => rfl))) (O_of (E_idx rfl (takes_of rfl rfl rfl rfl) (O_of (E_fld (C := 5) (j := 0) T.cl_Machine T.na_Machine_letters rfl (show (fldT 5).Nodup by decide) (O_pk 0))) (E_var 3))) (fun _ _ => rfl))))))
  (SS_one (S_ret (N_of (E_var 2))))))) (by decide) p_Machine_run
theorem ok_Machine_accepts (T : Txt P K mg cls fnA fd D fI) : FnOk P w K mg base (L2.CX P w) 2 (fnA 12) (fd 12) ["self", "text"] (spOf (ctx K cls fnA) [] 2 S_Machine_accepts) :=
  fn_ok (S := S_Machine_accepts) (B := b_Machine_accepts) T.F_Machine_accepts sc_Machine_accepts (fun cdv A outer s H E hr => by
  unfold b_Machine_accepts
  exact (SS_one (S_ret (N_of (E_ix ix_all b2_ix (O_of (E_fld (C := 5) (j := 1) T.cl_Machine T.na_Machine_accepting rfl (show (fldT 5).Nodup by decide) (O_pk 0))) (O_of (E_of_N (N_meth (C := 5) (O_of (E_var 0)) T.cl_Machine T.me_Machine_run (show ¬ (("run" : Str) ∈ fldT 5) by decide) (ok_Machine_run T) (hr.mono (by decide)) (takes_of rfl rfl rfl rfl) T.b_Machine_run .nil Dft.nil (A_cons (O_of (E_var 1)) A_nil)))) (fun _ _ => rfl)))))) (by decide) p_Machine_accepts
theorem ok__law_ring (T : Txt P K mg cls fnA fd D fI) : FnOk P w K mg base (L2.CX P w) 4 (fnA 7) (fd 7) ["_law_letters_here", "_law_many", "_law_step"] (spOf (ctx K cls fnA) [] 3 S__law_ring) :=
  fn_ok (S := S__law_ring) (B := b__law_ring) T.F__law_ring sc__law_ring (fun cdv A outer s H E hr => by
  unfold b__law_ring
  exact (SS_cons (S_setLc (i := 3) (own' := [("_law_k", 4)]) (io := [0, 1, 2, 3, 5, 6, 7, 8]) rfl sc__law_ring.nd rfl rfl (show ¬ (3 ∈ ([] : List Nat)) by decide) rfl (show ∀ i, i < 9 → i ∉ ([4] : List Nat) → i ∈ ([0, 1, 2, 3, 5, 6, 7, 8] : List Nat) by decide) (I_rng1 rfl T.z_range (L_cons (E_var 1) L_nil)) ⟨⟨rfl, by decide +kernel, (by dsimp only [cxOf, envOfC]; decide +kernel), (by dsimp only [cxOf, envOfC]; decide +kernel), (by dsimp only [cxOf, envOfC]; decide +kernel)⟩, fun _ _ _ _ _ => (G_name (i := 4) sc__law_ring.nd rfl (by first | exact Or.inl rfl | exact Or.inr rfl) (show ¬ (4 ∈ ([0, 1, 2, 3, 5, 6, 7, 8] : List Nat)) by decide)), fun _ _ _ _ _ => Ts_nil, fun _ _ _ _ _ => (E_cmp (op_eqD (un64 hr)) b2_eqD (O_of (E_op op_mod (b2_int (g := gMod) fun _ _ _ => fz_int) (O_of (E_ty call_int1 ba_int rfl T.z_int (by decide +kernel) (A_cons (O_of (E_op op_mul (b2_int (g := gMul) fun _ _ _ => fz_int) (O_pk 4) (O_pk 2))) A_nil))) (O_of E_int))) (O_of E_int) (by with_unfolding_all rfl))⟩)
  (SS_cons (S_set (i := 5) sc__law_ring.nd rfl (by first | exact Or.inl rfl | exact Or.inr rfl) (show ¬ (5 ∈ ([] : List Nat)) by decide) (N_make (C := 5) T.mk_Machine (ok_Machine___init__ T) (hr.mono (by decide)) (takes_of rfl rfl rfl rfl) rfl T.g_Machine T.b_Machine___init__ .nil Dft.nil (L_cons (E_var 0) (L_cons (E_var 3) (L_cons (E_lc (own' := [("_law_k", 4)]) (io := [0, 1, 2, 3, 5, 6, 7, 8]) rfl sc__law_ring.nd (show ∀ i, i < 9 → i ∉ ([4] : List Nat) → i ∈ ([0, 1, 2, 3, 5, 6, 7, 8] : List Nat) by decide) (I_rng1 rfl T.z_range (L_cons (E_var 1) L_nil)) ⟨⟨rfl, by decide +kernel, (by dsimp only [cxOf, envOfC]; decide +kernel), (by dsimp only [cxOf, envOfC]; decide +kernel), (by dsimp only [cxOf, envOfC]; decide +kernel)⟩, fun _ _ _ _ _ => (G_name (i := 4) sc__law_ring.nd rfl (by first | exact Or.inl rfl | exact Or.inr rfl) (show ¬ (4 ∈ ([0, 1, 2, 3, 5, 6, 7, 8] : List Nat)) by decide)), fun _ _ _ _ _ => Ts_nil, fun _ _ _ _ _ => (E_lc (own' := [("_law_j", 6)]) (io := [0, 1, 2, 3, 4, 5, 7, 8]) rfl sc__law_ring.nd (show ∀ i, i < 9 → i ∉ ([6] : List Nat) → i ∈ ([0, 1, 2, 3, 4, 5, 7, 8] : List Nat) by decide) (I_rng1 rfl T.z_range (L_cons (E_bi cr_len ba_len rfl T.z_len (by decide +kernel) (A_cons (O_pk 0) A_nil)) L_nil)) ⟨⟨rfl, by decide +kernel, (by first | (simp only [comp_names]; dsimp only [cxOf, envOfC]; decide +kernel) | (dsimp only [cxOf, envOfC, compEnvC, relabel]; decide +kernel)), (by first | (simp only [comp_names]; dsimp only [cxOf, envOfC]; decide +kernel) | (dsimp only [cxOf, envOfC, compEnvC, relabel]; decide +kernel)), (by first | (simp only [comp_names]; dsimp only [cxOf, envOfC]; decide +kernel) | (dsimp only [cxOf, envOfC, compEnvC, relabel]; decide +kernel))⟩, fun _ _ _ _ _ => (G_name (i := 6) sc__law_ring.nd rfl (by first | exact Or.inl rfl | exact Or.inr rfl) (show ¬ (6 ∈ ([0, 1, 2, 3, 4, 5, 7, 8] : List Nat)) by decide)), fun _ _ _ _ _ => Ts_nil, fun _ _ _ _ _ => (E_op op_mod (b2_int (g := gMod) fun _ _ _ => fz_int) (O_of (E_ty call_int1 ba_int rfl T.z_int (by decide +kernel) (A_cons (O_of (E_op or_add b2_add (O_of (E_op or_add b2_add (O_pk 4) (O_of E_int))) (O_pk 6))) A_nil))) (O_pk 1))⟩)⟩) L_nil)))))
  (SS_cons (S_set (i := 7) sc__law_ring.nd rfl (by first | exact Or.inl rfl | exact Or.inr rfl) (show ¬ (7 ∈ ([] : List Nat)) by decide) (N_of (E_op or_add b2_add (O_of (E_op op_repS b2_repS (O_of (E_ix ix_all b2_ix (O_pk 0) (O_of E_int) (fun _ _ => rfl))) (O_of E_int))) (O_of (E_op op_repS b2_repS (O_of (E_ix ix_all b2_ix (O_pk 0) (O_of (E_neg E_int)) (fun _ _ => rfl))) (O_of E_int))))))
  (SS_cons (S_set (i := 8) sc__law_ring.nd rfl (by first | exact Or.inl rfl | exact Or.inr rfl) (show ¬ (8 ∈ ([] : List Nat)) by decide) (N_of (E_op op_mod (b2_int (g := gMod) fun _ _ _ => fz_int) (O_of (E_ty call_int1 ba_int rfl T.z_int (by decide +kernel) (A_cons (O_of (E_op or_add b2_add (O_of E_int) (O_of (E_op op_mul (b2_int (g := gMul) fun _ _ _ => fz_int) (O_of E_int) (O_of (E_bi cr_len ba_len rfl T.z_len (by decide +kernel) (A_cons (O_pk 0) A_nil))))))) A_nil))) (O_pk 1))))
  (SS_one (S_ret (N_of (E_and (E_cmp (op_eqD (un64 hr)) b2_eqD (O_of (E_of_N (N_meth (C := 5) (O_of (E_var 5)) T.cl_Machine T.me_Machine_run (show ¬ (("run" : Str) ∈ fldT 5) by decide) (ok_Machine_run T) (hr.mono (by decide)) (takes_of rfl rfl rfl rfl) T.b_Machine_run .nil Dft.nil (A_cons (O_of (E_var 7)) A_nil)))) (O_pk 8) (by with_unfolding_all rfl)) (E_one (E_cmp (op_eqD (un64 hr)) b2_eqD (O_of (E_bi call_repr_bool ba_reprB rfl T.z_repr (by decide +kernel) (A_cons (O_of (E_of_N (N_meth (C := 5) (O_of (E_var 5)) T.cl_Machine T.me_Machine_accepts (show ¬ (("accepts" : Str) ∈ fldT 5) by decide) (ok_Machine_accepts T) (hr.mono (by decide)) (takes_of rfl rfl rfl rfl) T.b_Machine_accepts .nil Dft.nil (A_cons (O_of (E_var 7)) A_nil)))) A_nil))) (O_of (E_bi call_repr_bool ba_reprB rfl T.z_repr (by decide +kernel) (A_cons (O_of (E_ix ix_all b2_ix (O_pk 3) (O_pk 8) (fun _ _ => rfl))) A_nil))) (by with_unfolding_all rfl)))))))))))) (by decide) p__law_ring
theorem ok_Machine_picture (T : Txt P K mg cls fnA fd D fI) : FnOk P w K mg base (L2.CX P w) 1 (fnA 13) (fd 13) ["self"] (spOf (ctx K cls fnA) [] 1 S_Machine_picture) :=
  fn_ok (S := S_Machine_picture) (B := b_Machine_picture) T.F_Machine_picture sc_Machine_picture (fun cdv A outer s H E hr => by
  unfold b_Machine_picture
  exact (SS_one (S_ret (N_of (E_tup (L_cons (E_fld (C := 5) (j := 0) T.cl_Machine T.na_Machine_letters rfl (show (fldT 5).Nodup by decide) (O_pk 0)) (L_cons (E_fld (C := 5) (j := 1) T.cl_Machine T.na_Machine_accepting rfl (show (fldT 5).Nodup by decide) (O_pk 0)) (L_cons (E_fld (C := 5) (j := 2) T.cl_Machine T.na_Machine_table rfl (show (fldT 5).Nodup by decide) (O_pk 0)) L_nil)))))))) (by decide) p_Machine_picture
theorem ok_law (T : Txt P K mg cls fnA fd D fI) : TopOk P w K mg base (fnA 8) (fd 8) ["_law_script"] (spOf (ctx K cls fnA) [] 1 S_law) :=
  fn_top (S := S_law) (B := b_law) (k := 5) T.F_law sc_law ⟨rfl, by decide, by decide⟩ (fun cdv s H E hr hgd => by
  unfold b_law
  exact (SS_cons (S_set (i := 1) sc_law.nd rfl (by first | exact Or.inl rfl | exact Or.inr rfl) (show ¬ (1 ∈ ([] : List Nat)) by decide) (N_call (ok__law_state T) (hr.mono (by decide)) (takes_of rfl rfl rfl rfl) rfl T.g__law_state T.k__law_state T.b__law_state .nil Dft.nil (A_cons (O_of (E_var 0)) (A_cons (O_of E_int) (A_cons (O_of E_int) A_nil)))))
  (SS_cons (S_set (i := 2) sc_law.nd rfl (by first | exact Or.inl rfl | exact Or.inr rfl) (show ¬ (2 ∈ ([] : List Nat)) by decide) (N_call (ok__law_letters T) (hr.mono (by decide)) (takes_of rfl rfl rfl rfl) rfl T.g__law_letters T.k__law_letters T.b__law_letters .nil Dft.nil (A_cons (O_pk 1) (A_cons (O_of E_int) A_nil))))
  (SS_cons (S_set (i := 3) sc_law.nd rfl (by first | exact Or.inl rfl | exact Or.inr rfl) (show ¬ (3 ∈ ([] : List Nat)) by decide) (N_of (E_op or_add b2_add (O_of E_int) (O_of (E_of_N (N_call (ok__law_next T) (hr.mono (by decide)) (takes_of rfl rfl rfl rfl) rfl T.g__law_next T.k__law_next T.b__law_next .nil Dft.nil (A_cons (O_pk 1) (A_cons (O_of E_int) A_nil))))))))
  (SS_cons (S_setLc (i := 4) (own' := [("_law_k", 5)]) (io := [0, 1, 2, 3, 4, 6, 7, 8, 9, 10, 11, 12, 13, 14, 15, 16, 17]) rfl sc_law.nd rfl rfl (show ¬ (4 ∈ ([] : List Nat)) by decide) rfl (show ∀ i, i < 18 → i ∉ ([5] : List Nat) → i ∈ ([0, 1, 2, 3, 4, 6, 7, 8, 9, 10, 11, 12, 13, 14, 15, 16, 17] : List Nat) by decide) (I_rng1 rfl T.z_range (L_cons (E_var 3) L_nil)) ⟨⟨rfl, by decide +kernel, (by dsimp only [cxOf, envOfC]; decide +kernel), (by dsimp only [cxOf, envOfC]; decide +kernel), (by dsimp only [cxOf, envOfC]; decide +kernel)⟩, fun _ _ _ _ _ => (G_name (i := 5) sc_law.nd rfl (by first | exact Or.inl rfl | exact Or.inr rfl) (show ¬ (5 ∈ ([0, 1, 2, 3, 4, 6, 7, 8, 9, 10, 11, 12, 13, 14, 15, 16, 17] : List Nat)) by decide)), fun _ _ _ _ _ => Ts_nil, fun _ _ _ _ _ => (E_cmp (op_eqD (un64 hr)) b2_eqD (O_of (E_of_N (N_call (ok__law_next T) (hr.mono (by decide)) takes0 rfl T.g__law_next T.k__law_next T.b__law_next .nil Dft.nil (A_cons (O_pk 1) (A_cons (O_of E_int) A_nil))))) (O_of E_int) (by with_unfolding_all rfl))⟩)
  (SS_cons (S_setLc (i := 6) (own' := [("_law_k", 5)]) (io := [0, 1, 2, 3, 4, 6, 7, 8, 9, 10, 11, 12, 13, 14, 15, 16, 17]) rfl sc_law.nd rfl rfl (show ¬ (6 ∈ ([] : List Nat)) by decide) rfl (show ∀ i, i < 18 → i ∉ ([5] : List Nat) → i ∈ ([0, 1, 2, 3, 4, 6, 7, 8, 9, 10, 11, 12, 13, 14, 15, 16, 17] : List Nat) by decide) (I_rng1 rfl T.z_range (L_cons (E_var 3) L_nil)) ⟨⟨rfl, by decide +kernel, (by dsimp only [cxOf, envOfC]; decide +kernel), (by dsimp only [cxOf, envOfC]; decide +kernel), (by dsimp only [cxOf, envOfC]; decide +kernel)⟩, fun _ _ _ _ _ => (G_name (i := 5) sc_law.nd rfl (by first | exact Or.inl rfl | exact Or.inr rfl) (show ¬ (5 ∈ ([0, 1, 2, 3, 4, 6, 7, 8, 9, 10, 11, 12, 13, 14, 15, 16, 17] : List Nat)) by decide)), fun _ _ _ _ _ => Ts_nil, fun _ _ _ _ _ => (E_lc (own' := [("_law_letter", 7)]) (io := [0, 1, 2, 3, 4, 5, 6, 8, 9, 10, 11, 12, 13, 14, 15, 16, 17]) rfl sc_law.nd (show ∀ i, i < 18 → i ∉ ([7] : List Nat) → i ∈ ([0, 1, 2, 3, 4, 5, 6, 8, 9, 10, 11, 12, 13, 14, 15, 16, 17] : List Nat) by decide) (I_var (I_list rfl (E_var 2)) (I_tup rfl (E_var 2)) (I_str (E_var 2))) ⟨⟨rfl, by decide +kernel, (by first | (simp only [comp_names]; dsimp only [cxOf, envOfC]; decide +kernel) | (dsimp only [cxOf, envOfC, compEnvC, relabel]; decide +kernel)), (by first | (simp only [comp_names]; dsimp only [cxOf, envOfC]; decide +kernel) | (dsimp only [cxOf, envOfC, compEnvC, relabel]; decide +kernel)), (by first | (simp only [comp_names]; dsimp only [cxOf, envOfC]; decide +kernel) | (dsimp only [cxOf, envOfC, compEnvC, relabel]; decide +kernel))⟩, fun _ _ _ _ _ => (G_name (i := 7) sc_law.nd rfl (by first | exact Or.inl rfl | exact Or.inr rfl) (show ¬ (7 ∈ ([0, 1, 2, 3, 4, 5, 6, 8, 9, 10, 11, 12, 13, 14, 15, 16, 17] : List Nat)) by decide)), fun _ _ _ _ _ => Ts_nil, fun _ _ _ _ _ => (E_of_N (N_call (ok__law_next T) (hr.mono (by decide)) takes0 rfl T.g__law_next T.k__law_next T.b__law_next .nil Dft.nil (A_cons (O_pk 1) (A_cons (O_of (E_var 3)) A_nil))))⟩)⟩)
  (SS_cons (S_set (i := 8) sc_law.nd rfl (by first | exact Or.inl rfl | exact Or.inr rfl) (show ¬ (8 ∈ ([] : List Nat)) by decide) (N_listOf (O_pk 4) rfl rfl T.z_list))
  (SS_cons (S_setLcN (i := 9) (own' := [("_law_row", 10)]) (io := [0, 1, 2, 3, 4, 5, 6, 7, 8, 9, 11, 12, 13, 14, 15, 16, 17]) rfl sc_law.nd rfl rfl (show ¬ (9 ∈ ([] : List Nat)) by decide) rfl (show ∀ i, i < 18 → i ∉ ([10] : List Nat) → i ∈ ([0, 1, 2, 3, 4, 5, 6, 7, 8, 9, 11, 12, 13, 14, 15, 16, 17] : List Nat) by decide) (I_var (I_list rfl (E_var 6)) (I_tup rfl (E_var 6)) (I_str (E_var 6))) ⟨⟨rfl, by decide +kernel, (by dsimp only [cxOf, envOfC]; decide +kernel), (by dsimp only [cxOf, envOfC]; decide +kernel), (by dsimp only [cxOf, envOfC]; decide +kernel)⟩, fun _ _ _ _ _ => (G_name (i := 10) sc_law.nd rfl (by first | exact Or.inl rfl | exact Or.inr rfl) (show ¬ (10 ∈ ([0, 1, 2, 3, 4, 5, 6, 7, 8, 9, 11, 12, 13, 14, 15, 16, 17] : List Nat)) by decide)), fun _ _ _ _ _ => Ts_nil, fun _ _ _ _ _ => (N_listOf (O_pk 10) rfl rfl T.z_list)⟩)
  (SS_cons (S_set (i := 11) sc_law.nd rfl (by first | exact Or.inl rfl | exact Or.inr rfl) (show ¬ (11 ∈ ([] : List Nat)) by decide) (N_of (E_loan [false, false, false, false, false, false, false, false, true, true, false, false, false, false, false, false, false, false] (E_of_N (N_make (C := 5) T.mk_Machine (ok_Machine___init__ T) (hr.mono (by decide)) (takes_of rfl rfl rfl rfl) rfl T.g_Machine T.b_Machine___init__ .nil Dft.nil (L_cons (E_var 2) (L_cons (E_var 8) (L_cons (E_var 9) L_nil))))))))
  (SS_cons (S_set (i := 12) sc_law.nd rfl (by first | exact Or.inl rfl | exact Or.inr rfl) (show ¬ (12 ∈ ([] : List Nat)) by decide) (N_make (C := 5) T.mk_Machine (ok_Machine___init__ T) (hr.mono (by decide)) (takes_of rfl rfl rfl rfl) rfl T.g_Machine T.b_Machine___init__ .nil Dft.nil (L_cons (E_var 2) (L_cons (E_ty call_tup ba_tup rfl T.z_tuple (by decide +kernel) (A_cons (O_pk 4) A_nil)) (L_cons (E_ty call_tup ba_tup rfl T.z_tuple (by decide +kernel) (A_cons (O_of (E_lc (own' := [("_law_row", 10)]) (io := [0, 1, 2, 3, 4, 5, 6, 7, 8, 9, 11, 12, 13, 14, 15, 16, 17]) rfl sc_law.nd (show ∀ i, i < 18 → i ∉ ([10] : List Nat) → i ∈ ([0, 1, 2, 3, 4, 5, 6, 7, 8, 9, 11, 12, 13, 14, 15, 16, 17] : List Nat) by decide) (I_var (I_list rfl (E_var 6)) (I_tup rfl (E_var 6)) (I_str (E_var 6))) ⟨⟨rfl, by decide +kernel, (by dsimp only [cxOf, envOfC]; decide +kernel), (by dsimp only [cxOf, envOfC]; decide +kernel), (by dsimp only [cxOf, envOfC]; decide +kernel)⟩, fun _ _ _ _ _ => (G_name (i := 10) sc_law.nd rfl (by first | exact Or.inl rfl | exact Or.inr rfl) (show ¬ (10 ∈ ([0, 1, 2, 3, 4, 5, 6, 7, 8, 9, 11, 12, 13, 14, 15, 16, 17] : List Nat)) by decide)), fun _ _ _ _ _ => Ts_nil, fun _ _ _ _ _ => (E_ty call_tup ba_tup rfl T.z_tuple (by decide +kernel) (A_cons (O_pk 10) A_nil))⟩)) A_nil)) L_nil)))))
  (SS_cons (S_put (j := 8) rfl (by first | exact Or.inl rfl | exact Or.inr (Or.inl rfl) | exact Or.inr (Or.inr rfl)) E_int (E_not (E_ix ix_all b2_ix (O_pk 8) (O_of E_int) (fun _ _ => rfl))))
  (SS_cons (S_app2 (j := 9) rfl (by first | exact Or.inl rfl | exact Or.inr (Or.inl rfl) | exact Or.inr (Or.inr rfl)) Sm_int Sm_int (fun _ _ => rfl))
  (SS_cons (S_appSelf (j := 9) rfl (by first | exact Or.inl rfl | exact Or.inr (Or.inl rfl) | exact Or.inr (Or.inr rfl)) Sm_int (fun _ _ => rfl))
  (SS_cons (S_set (i := 13) sc_law.nd rfl (by first | exact Or.inl rfl | exact Or.inr rfl) (show ¬ (13 ∈ ([] : List Nat)) by decide) (N_of (E_tup (L_cons (E_var 2) (L_cons (E_ty call_tup ba_tup rfl T.z_tuple (by decide +kernel) (A_cons (O_pk 4) A_nil)) (L_cons (E_ty call_tup ba_tup rfl T.z_tuple (by decide +kernel) (A_cons (O_of (E_lc (own' := [("_law_row", 10)]) (io := [0, 1, 2, 3, 4, 5, 6, 7, 8, 9, 11, 12, 13, 14, 15, 16, 17]) rfl sc_law.nd (show ∀ i, i < 18 → i ∉ ([10] : List Nat) → i ∈ ([0, 1, 2, 3, 4, 5, 6, 7, 8, 9, 11, 12, 13, 14, 15, 16, 17] : List Nat) by decide) (I_var (I_list rfl (E_var 6)) (I_tup rfl (E_var 6)) (I_str (E_var 6))) ⟨⟨rfl, by decide +kernel, (by dsimp only [cxOf, envOfC]; decide +kernel), (by dsimp only [cxOf, envOfC]; decide +kernel), (by dsimp only [cxOf, envOfC]; decide +kernel)⟩, fun _ _ _ _ _ => (G_name (i := 10) sc_law.nd rfl (by first | exact Or.inl rfl | exact Or.inr rfl) (show ¬ (10 ∈ ([0, 1, 2, 3, 4, 5, 6, 7, 8, 9, 11, 12, 13, 14, 15, 16, 17] : List Nat)) by decide)), fun _ _ _ _ _ => Ts_nil, fun _ _ _ _ _ => (E_ty call_tup ba_tup rfl T.z_tuple (by decide +kernel) (A_cons (O_pk 10) A_nil))⟩)) A_nil)) L_nil))))))
  (SS_cons (S_for (passes_of rfl) rfl (I_rng1 rfl T.z_range (L_cons E_int L_nil)) (G_name (i := 5) sc_law.nd rfl (by first | exact Or.inl rfl | exact Or.inr rfl) (show ¬ (5 ∈ ([] : List Nat)) by decide)) (SS_cons (S_set (i := 14) sc_law.nd rfl (by first | exact Or.inl rfl | exact Or.inr rfl) (show ¬ (14 ∈ ([] : List Nat)) by decide) (N_of (E_join rfl (E_str (l := []) (by decide +kernel)) (O_of (E_lc (own' := [("_law_j", 16)]) (io := [0, 1, 2, 3, 4, 5, 6, 7, 8, 9, 10, 11, 12, 13, 14, 15, 17]) rfl sc_law.nd (show ∀ i, i < 18 → i ∉ ([16] : List Nat) → i ∈ ([0, 1, 2, 3, 4, 5, 6, 7, 8, 9, 10, 11, 12, 13, 14, 15, 17] : List Nat) by decide) (I_rng1 rfl T.z_range (L_cons (E_of_N (N_call (ok__law_next T) (hr.mono (by decide)) (takes_of rfl rfl rfl rfl) rfl T.g__law_next T.k__law_next T.b__law_next .nil Dft.nil (A_cons (O_pk 1) (A_cons (O_of E_int) A_nil)))) L_nil)) ⟨⟨rfl, by decide +kernel, (by dsimp only [cxOf, envOfC]; decide +kernel), (by dsimp only [cxOf, envOfC]; decide +kernel), (by dsimp only [cxOf, envOfC]; decide +kernel)⟩, fun _ _ _ _ _ => (G_name (i := 16) sc_law.nd rfl (by first | exact Or.inl rfl | exact Or.inr rfl) (show ¬ (16 ∈ ([0, 1, 2, 3, 4, 5, 6, 7, 8, 9, 10, 11, 12, 13, 14, 15, 17] : List Nat)) by decide)), fun _ _ _ _ _ => Ts_nil, fun _ _ _ _ _ => (E_ix ix_all b2_ix (O_pk 2) (O_of (E_of_N (N_call (ok__law_next T) (hr.mono (by decide)) takes0 rfl T.g__law_next T.k__law_next T.b__law_next .nil Dft.nil (A_cons (O_pk 1) (A_cons (O_of (E_bi cr_len ba_len rfl T.z_len (by decide +kernel) (A_cons (O_pk 2) A_nil))) A_nil))))) (fun _ _ => rfl))⟩)))))
  (SS_cons (S_set (i := 15) sc_law.nd rfl (by first | exact Or.inl rfl | exact Or.inr rfl) (show ¬ (15 ∈ ([] : List Nat)) by decide) (N_of E_int))
  (SS_cons (S_for (passes_of rfl) rfl (I_var (I_list rfl (E_var 14)) (I_tup rfl (E_var 14)) (I_str (E_var 14))) (G_name (i := 7) sc_law.nd rfl (by first | exact Or.inl rfl | exact Or.inr rfl) (show ¬ (7 ∈ ([] : List Nat)) by decide)) (SS_one (S_set (i := 15) sc_law.nd rfl (by first | exact Or.inl rfl | exact Or.inr rfl) (show ¬ (15 ∈ ([] : List Nat)) by decide) (N_of (E_ix ix_all b2_ix (O_of (E_ix ix_all b2_ix (O_pk 6) (O_pk 15) (fun _ _ => rfl))) (O_of (E_idx rfl (takes_of rfl rfl rfl rfl) (O_pk 2) (E_var 7))) (fun _ _ => rfl))))))
  (SS_cons (S_if (PW.pt (W_or (T_cmp (op_neD (un64 hr)) b2_neD (O_of (E_of_N (N_meth (C := 5) (O_of (E_var 11)) T.cl_Machine T.me_Machine_run (show ¬ (("run" : Str) ∈ fldT 5) by decide) (ok_Machine_run T) (hr.mono (by decide)) (takes_of rfl rfl rfl rfl) T.b_Machine_run .nil Dft.nil (A_cons (O_of (E_var 14)) A_nil)))) (O_pk 15) (by with_unfolding_all rfl)) (W_or (T_cmp (op_neD (un64 hr)) b2_neD (O_of (E_bi call_repr_bool ba_reprB rfl T.z_repr (by decide +kernel) (A_cons (O_of (E_of_N (N_meth (C := 5) (O_of (E_var 11)) T.cl_Machine T.me_Machine_accepts (show ¬ (("accepts" : Str) ∈ fldT 5) by decide) (ok_Machine_accepts T) (hr.mono (by decide)) (takes_of rfl rfl rfl rfl) T.b_Machine_accepts .nil Dft.nil (A_cons (O_of (E_var 14)) A_nil)))) A_nil))) (O_of (E_bi call_repr_bool ba_reprB rfl T.z_repr (by decide +kernel) (A_cons (O_of (E_ix ix_all b2_ix (O_pk 4) (O_pk 15) (fun _ _ => rfl))) A_nil))) (by with_unfolding_all rfl)) (W_or1 (T_cmp (op_neD (un64 hr)) b2_neD (O_of (E_of_N (N_meth (C := 5) (O_of (E_var 12)) T.cl_Machine T.me_Machine_run (show ¬ (("run" : Str) ∈ fldT 5) by decide) (ok_Machine_run T) (hr.mono (by decide)) (takes_of rfl rfl rfl rfl) T.b_Machine_run .nil Dft.nil (A_cons (O_of (E_var 14)) A_nil)))) (O_pk 15) (by with_unfolding_all rfl)))))) (SS_one (S_ret (N_of E_bl))) SS_nil)
  (SS_one (S_if (T_not (T_val (E_of_N (N_call (ok__law_faulty T) (hr.mono (by decide)) (takes_of rfl rfl rfl rfl) rfl T.g__law_faulty T.k__law_faulty T.b__law_faulty .nil Dft.nil (A_cons (O_of (E_var 2)) (A_cons (O_of (E_var 4)) (A_cons (O_of (E_var 6)) (A_cons (O_pk 1) A_nil)))))) (by intro _; rfl))) (SS_one (S_ret (N_of E_bl))) SS_nil)))))))
  (SS_cons (S_if (PW.pt (W_and (T_cmp (op_eqD (un64 hr)) b2_eqD (O_of (E_of_N (N_call (ok__law_next T) (hr.mono (by decide)) (takes_of rfl rfl rfl rfl) rfl T.g__law_next T.k__law_next T.b__law_next .nil Dft.nil (A_cons (O_pk 1) (A_cons (O_of E_int) A_nil))))) (O_of E_int) (by with_unfolding_all rfl)) (W_and1 (T_not (T_val (E_of_N (N_call (ok__law_ring T) (hr.mono (by decide)) (takes_of rfl rfl rfl rfl) rfl T.g__law_ring T.k__law_ring T.b__law_ring .nil Dft.nil (A_cons (O_of (E_var 2)) (A_cons (O_of (E_op or_add b2_add (O_of E_int) (O_of (E_op op_mul (b2_int (g := gMul) fun _ _ _ => fz_int) (O_of (E_of_N (N_call (ok__law_next T) (hr.mono (by decide)) (takes_of rfl rfl rfl rfl) rfl T.g__law_next T.k__law_next T.b__law_next .nil Dft.nil (A_cons (O_pk 1) (A_cons (O_of E_int) A_nil))))) (O_of E_int))))) (A_cons (O_of (E_op or_add b2_add (O_of E_int) (O_of (E_of_N (N_call (ok__law_next T) (hr.mono (by decide)) (takes_of rfl rfl rfl rfl) rfl T.g__law_next T.k__law_next T.b__law_next .nil Dft.nil (A_cons (O_pk 1) (A_cons (O_of E_int) A_nil))))))) A_nil))))) (by intro _; rfl)))))) (SS_one (S_ret (N_of E_bl))) SS_nil)
  (SS_cons (S_set (i := 17) sc_law.nd rfl (by first | exact Or.inl rfl | exact Or.inr rfl) (show ¬ (17 ∈ ([] : List Nat)) by decide) (N_of (E_tup (L_cons (E_fld (C := 5) (j := 0) T.cl_Machine T.na_Machine_letters rfl (show (fldT 5).Nodup by decide) (O_pk 11)) (L_cons (E_fld (C := 5) (j := 1) T.cl_Machine T.na_Machine_accepting rfl (show (fldT 5).Nodup by decide) (O_pk 11)) (L_cons (E_fld (C := 5) (j := 2) T.cl_Machine T.na_Machine_table rfl (show (fldT 5).Nodup by decide) (O_pk 11)) L_nil))))))
  (SS_one (S_ret (N_of (E_and (E_cmp op_eq b2_eqS (O_of (E_reprT hgd hr.units (E_of_N (N_meth0 (C := 5) (O_of (E_var 11)) T.cl_Machine T.me_Machine_picture (show ¬ (("picture" : Str) ∈ fldT 5) by decide) (ok_Machine_picture T) (hr.mono (by decide)) (takes_of rfl rfl rfl rfl) T.b_Machine_picture .nil Dft.nil)) rfl T.z_repr)) (O_of (E_reprT hgd hr.units (E_var 13) rfl T.z_repr)) (by with_unfolding_all rfl)) (E_one (E_cmp op_eq b2_eqS (O_of (E_reprT hgd hr.units (E_var 17) rfl T.z_repr)) (O_of (E_reprT hgd hr.units (E_var 13) rfl T.z_repr)) (by with_unfolding_all rfl)))))))))))))))))))))))) p_law
end
theorem all_mk {P : Program} {w : World} {K : PySem.W.Frag} {h : Heap} {mg : Str → Option Value} {fa : Addr}
    {C0 C1 C2 C3 C4 C5 f0 f1 f2 f3 f4 f5 f6 f7 f8 f9 f10 f11 f12 f13 fI : Addr}
    {nm0 q0 : Str} {N0 : Addr} {bs0 bm0 : List Value} {sn0 : List Str} {sub0 : List Value} {ab0 : Bool} {col0 : Option Bool} {dd0 : Option Addr} {ka0 kb0 kc0 kd0 ke0 : Option Value}
    {nm1 q1 : Str} {N1 : Addr} {bs1 bm1 : List Value} {sn1 : List Str} {sub1 : List Value} {ab1 : Bool} {col1 : Option Bool} {dd1 : Option Addr} {ka1 kb1 kc1 kd1 ke1 : Option Value}
    {nm2 q2 : Str} {N2 : Addr} {bs2 bm2 : List Value} {sn2 : List Str} {sub2 : List Value} {ab2 : Bool} {col2 : Option Bool} {dd2 : Option Addr} {ka2 kb2 kc2 kd2 ke2 : Option Value}
    {nm3 q3 : Str} {N3 : Addr} {bs3 bm3 : List Value} {sn3 : List Str} {sub3 : List Value} {ab3 : Bool} {col3 : Option Bool} {dd3 : Option Addr} {ka3 kb3 kc3 kd3 ke3 : Option Value}
    {nm4 q4 : Str} {N4 : Addr} {bs4 bm4 : List Value} {sn4 : List Str} {sub4 : List Value} {ab4 : Bool} {col4 : Option Bool} {dd4 : Option Addr} {ka4 kb4 kc4 kd4 ke4 : Option Value}
    {oc : Value} {od : Option Addr} {dT : Addr} {kV doc pm : Value} {an : Option Addr} {cda cc : Addr} {ct : Value} {osl : Array (Option Value)} {p1 p2 p3 q1_ q2_ q3_ q4_ q5_ q6_ r1 r2 r3 r4 : Pos}
    {oT : Obj} {nT : Nat}
    {cl : Value} {cld : Option Addr} {csl : Array (Option Value)} {ccl : Value} {cdd : Option Addr} {vs : Array Value} {ccs : Array (Option Value)} {file : Str} {tf : Tok}
    {oc0 kV0 dc0 pm0 cd0 ct0 : Value} {od0 an0 : Option Addr} {sl0 : Array (Option Value)}
    {oc1 kV1 dc1 pm1 cd1 ct1 : Value} {od1 an1 : Option Addr} {sl1 : Array (Option Value)}
    {oc2 kV2 dc2 pm2 cd2 ct2 : Value} {od2 an2 : Option Addr} {sl2 : Array (Option Value)}
    {oc3 kV3 dc3 pm3 cd3 ct3 : Value} {od3 an3 : Option Addr} {sl3 : Array (Option Value)}
    {oc4 kV4 dc4 pm4 cd4 ct4 : Value} {od4 an4 : Option Addr} {sl4 : Array (Option Value)}
    {oc5 kV5 dc5 pm5 cd5 ct5 : Value} {od5 an5 : Option Addr} {sl5 : Array (Option Value)}
    {oc6 kV6 dc6 pm6 cd6 ct6 : Value} {od6 an6 : Option Addr} {sl6 : Array (Option Value)}
    {oc7 kV7 dc7 pm7 cd7 ct7 : Value} {od7 an7 : Option Addr} {sl7 : Array (Option Value)}
    {oc8 kV8 dc8 pm8 cd8 ct8 : Value} {od8 an8 : Option Addr} {sl8 : Array (Option Value)}
    {oc9 kV9 dc9 pm9 cd9 ct9 : Value} {od9 an9 : Option Addr} {sl9 : Array (Option Value)}
    {oc10 kV10 dc10 pm10 cd10 ct10 : Value} {od10 an10 : Option Addr} {sl10 : Array (Option Value)}
    {oc11 kV11 dc11 pm11 cd11 ct11 : Value} {od11 an11 : Option Addr} {sl11 : Array (Option Value)}
    {oc12 kV12 dc12 pm12 cd12 ct12 : Value} {od12 an12 : Option Addr} {sl12 : Array (Option Value)}
    {oc13 kV13 dc13 pm13 cd13 ct13 : Value} {od13 an13 : Option Addr} {sl13 : Array (Option Value)}
    (X : K.In h) (G : h.Ns mainGlobals mg) (hfa : mg "law" = some (.ref fa))
    (aC0 : PySem.W.nsIn K mainGlobals "AnytextError" = some (some (.ref C0)))
    (xC0 : K.lookup C0 = some (excClassObj nm0 q0 C0 N0 bs0 bm0 true sn0 sub0 ab0 col0 dd0 ka0 kb0 kc0 kd0 ke0 "ValueError.__new__"))
    (aC1 : PySem.W.nsIn K mainGlobals "MachineError" = some (some (.ref C1)))
    (xC1 : K.lookup C1 = some (excClassObj nm1 q1 C1 N1 bs1 bm1 true sn1 sub1 ab1 col1 dd1 ka1 kb1 kc1 kd1 ke1 "ValueError.__new__"))
    (aC2 : PySem.W.nsIn K mainGlobals "BadMachine" = some (some (.ref C2)))
    (xC2 : K.lookup C2 = some (excClassObj nm2 q2 C2 N2 bs2 bm2 true sn2 sub2 ab2 col2 dd2 ka2 kb2 kc2 kd2 ke2 "ValueError.__new__"))
    (aC3 : PySem.W.nsIn K mainGlobals "BadRewriter" = some (some (.ref C3)))
    (xC3 : K.lookup C3 = some (excClassObj nm3 q3 C3 N3 bs3 bm3 true sn3 sub3 ab3 col3 dd3 ka3 kb3 kc3 kd3 ke3 "ValueError.__new__"))
    (aC4 : PySem.W.nsIn K mainGlobals "ProgramError" = some (some (.ref C4)))
    (xC4 : K.lookup C4 = some (excClassObj nm4 q4 C4 N4 bs4 bm4 true sn4 sub4 ab4 col4 dd4 ka4 kb4 kc4 kd4 ke4 "ValueError.__new__"))
    (aI : PySem.W.findIn K (.ref C0) "__init__" = some (some (.ref fI)))
    (lI : K.lookup fI = some ⟨oc, od, .func (PySem.W.ksFn "__init__" "AnytextError.__init__" (PySem.AnyX.aArgs p1 p2 p3) (PySem.AnyX.aBody q1_ q2_ q3_ q4_ q5_ q6_ r1 r2 r3 r4) PySem.AnyX.aScope (.ref dT) kV doc pm an (.ref cda) ct cc), osl⟩)
    (cI : PySem.W.codeIn K (.ref cda) "AnytextError.__init__" = true)
    (lT : K.lookup dT = some oT)
    (sT : oT.data = .seq #[.none] nT)
    (lc : K.lookup cc = some ⟨cl, cld, .cell (some (.ref C0)), csl⟩)
    (ld : K.lookup cda = some ⟨ccl, cdd, .fields vs, ccs⟩)
    (hvs : vs[2]? = some (.str file tf))
    (hfile : ((P.main.file : Str) == file) = true)
    (hln : (q3_.endLine == q5_.line) = true)
    (htop : (P.main.scope.names.lookup ("super" : Str)).isSome = false)
    (hany : PySem.W.nsIn K PySem.cStatics "thirdparty.any" = some none)
    (tI : PySem.W.typeIn K (.ref fI) = some (.type "function"))
    (kb_0 : kindB K C0 fI C0 bm0 = true)
    (kb_1 : kindB K C0 fI C1 bm1 = true)
    (kb_2 : kindB K C0 fI C2 bm2 = true)
    (kb_3 : kindB K C0 fI C3 bm3 = true)
    (kb_4 : kindB K C0 fI C4 bm4 = true)
    (tb : tabB K (fun i => [C0, C1, C2, C3, C4, C5].getD i 0) nErr subE = true)
    (z_abs : PySem.W.nsIn K mainGlobals "abs" = some none)
    (z_all : PySem.W.nsIn K mainGlobals "all" = some none)
    (z_int : PySem.W.nsIn K mainGlobals "int" = some none)
    (z_isinstance : PySem.W.nsIn K mainGlobals "isinstance" = some none)
    (z_len : PySem.W.nsIn K mainGlobals "len" = some none)
    (z_list : PySem.W.nsIn K mainGlobals "list" = some none)
    (z_range : PySem.W.nsIn K mainGlobals "range" = some none)
    (z_repr : PySem.W.nsIn K mainGlobals "repr" = some none)
    (z_tuple : PySem.W.nsIn K mainGlobals "tuple" = some none)
    (z_super : PySem.W.nsIn K mainGlobals "super" = some none)
    (aC5 : PySem.W.nsIn K mainGlobals "Machine" = some (some (.ref C5)))
    (pg5 : PySem.W.plainGet K C5 Str.empty = true)
    (hd5 : PySem.W.hasDictIn K C5 = true)
    (po5 : PySem.W.plainOver K C5 = true)
    (sa5 : PySem.W.findIn K (.ref C5) "__setattr__" = some (some (.builtin "object.__setattr__")))
    (mk5 : PySem.W.makesIn K C5 = true)
    (kc5 : PySem.W.keepIn K (.ref C5) = true)
    (na5_letters : PySem.W.findIn K (.ref C5) "letters" = some none)
    (na5_accepting : PySem.W.findIn K (.ref C5) "accepting" = some none)
    (na5_table : PySem.W.findIn K (.ref C5) "table" = some none)
    (a0 : PySem.W.nsIn K mainGlobals "_law_cell" = some (some (.ref f0)))
    (l0 : K.lookup f0 = some ⟨oc0, od0, .func (PySem.W.fnOf "_law_cell" "_law_cell" (defArgs st__law_cell) (defBody st__law_cell) (defScope st__law_cell) .none kV0 dc0 pm0 an0 cd0 ct0), sl0⟩)
    (c0 : PySem.W.codeIn K cd0 "_law_cell" = true)
    (k0 : PySem.W.keepIn K (.ref f0) = true)
    (a1 : PySem.W.nsIn K mainGlobals "_law_numbers" = some (some (.ref f1)))
    (l1 : K.lookup f1 = some ⟨oc1, od1, .func (PySem.W.fnOf "_law_numbers" "_law_numbers" (defArgs st__law_numbers) (defBody st__law_numbers) (defScope st__law_numbers) .none kV1 dc1 pm1 an1 cd1 ct1), sl1⟩)
    (c1 : PySem.W.codeIn K cd1 "_law_numbers" = true)
    (k1 : PySem.W.keepIn K (.ref f1) = true)
    (a2 : PySem.W.nsIn K mainGlobals "_law_state" = some (some (.ref f2)))
    (l2 : K.lookup f2 = some ⟨oc2, od2, .func (PySem.W.fnOf "_law_state" "_law_state" (defArgs st__law_state) (defBody st__law_state) (defScope st__law_state) .none kV2 dc2 pm2 an2 cd2 ct2), sl2⟩)
    (c2 : PySem.W.codeIn K cd2 "_law_state" = true)
    (k2 : PySem.W.keepIn K (.ref f2) = true)
    (a3 : PySem.W.nsIn K mainGlobals "_law_next" = some (some (.ref f3)))
    (l3 : K.lookup f3 = some ⟨oc3, od3, .func (PySem.W.fnOf "_law_next" "_law_next" (defArgs st__law_next) (defBody st__law_next) (defScope st__law_next) .none kV3 dc3 pm3 an3 cd3 ct3), sl3⟩)
    (c3 : PySem.W.codeIn K cd3 "_law_next" = true)
    (k3 : PySem.W.keepIn K (.ref f3) = true)
    (a4 : PySem.W.nsIn K mainGlobals "_law_letters" = some (some (.ref f4)))
    (l4 : K.lookup f4 = some ⟨oc4, od4, .func (PySem.W.fnOf "_law_letters" "_law_letters" (defArgs st__law_letters) (defBody st__law_letters) (defScope st__law_letters) .none kV4 dc4 pm4 an4 cd4 ct4), sl4⟩)
    (c4 : PySem.W.codeIn K cd4 "_law_letters" = true)
    (k4 : PySem.W.keepIn K (.ref f4) = true)
    (a5 : PySem.W.nsIn K mainGlobals "_law_made" = some (some (.ref f5)))
    (l5 : K.lookup f5 = some ⟨oc5, od5, .func (PySem.W.fnOf "_law_made" "_law_made" (defArgs st__law_made) (defBody st__law_made) (defScope st__law_made) .none kV5 dc5 pm5 an5 cd5 ct5), sl5⟩)
    (c5 : PySem.W.codeIn K cd5 "_law_made" = true)
    (k5 : PySem.W.keepIn K (.ref f5) = true)
    (a6 : PySem.W.nsIn K mainGlobals "_law_faulty" = some (some (.ref f6)))
    (l6 : K.lookup f6 = some ⟨oc6, od6, .func (PySem.W.fnOf "_law_faulty" "_law_faulty" (defArgs st__law_faulty) (defBody st__law_faulty) (defScope st__law_faulty) .none kV6 dc6 pm6 an6 cd6 ct6), sl6⟩)
    (c6 : PySem.W.codeIn K cd6 "_law_faulty" = true)
    (k6 : PySem.W.keepIn K (.ref f6) = true)
    (a7 : PySem.W.nsIn K mainGlobals "_law_ring" = some (some (.ref f7)))
    (l7 : K.lookup f7 = some ⟨oc7, od7, .func (PySem.W.fnOf "_law_ring" "_law_ring" (defArgs st__law_ring) (defBody st__law_ring) (defScope st__law_ring) .none kV7 dc7 pm7 an7 cd7 ct7), sl7⟩)
    (c7 : PySem.W.codeIn K cd7 "_law_ring" = true)
    (k7 : PySem.W.keepIn K (.ref f7) = true)
    (a8 : PySem.W.nsIn K mainGlobals "law" = some (some (.ref f8)))
    (l8 : K.lookup f8 = some ⟨oc8, od8, .func (PySem.W.fnOf "law" "law" (defArgs st_law) (defBody st_law) (defScope st_law) .none kV8 dc8 pm8 an8 cd8 ct8), sl8⟩)
    (c8 : PySem.W.codeIn K cd8 "law" = true)
    (k8 : PySem.W.keepIn K (.ref f8) = true)
    (a9 : PySem.W.findIn K (.ref C5) "__init__" = some (some (.ref f9)))
    (i9 : PySem.W.isFn K (.ref f9) = true)
    (l9 : K.lookup f9 = some ⟨oc9, od9, .func (PySem.W.fnOf "__init__" "Machine.__init__" (defArgs st_Machine___init__) (defBody st_Machine___init__) (defScope st_Machine___init__) .none kV9 dc9 pm9 an9 cd9 ct9), sl9⟩)
    (c9 : PySem.W.codeIn K cd9 "Machine.__init__" = true)
    (k9 : PySem.W.keepIn K (.ref f9) = true)
    (a10 : PySem.W.findIn K (.ref C5) "_is_whole" = some (some (.ref f10)))
    (i10 : PySem.W.isFn K (.ref f10) = true)
    (l10 : K.lookup f10 = some ⟨oc10, od10, .func (PySem.W.fnOf "_is_whole" "Machine._is_whole" (defArgs st_Machine__is_whole) (defBody st_Machine__is_whole) (defScope st_Machine__is_whole) .none kV10 dc10 pm10 an10 cd10 ct10), sl10⟩)
    (c10 : PySem.W.codeIn K cd10 "Machine._is_whole" = true)
    (k10 : PySem.W.keepIn K (.ref f10) = true)
    (a11 : PySem.W.findIn K (.ref C5) "run" = some (some (.ref f11)))
    (i11 : PySem.W.isFn K (.ref f11) = true)
    (l11 : K.lookup f11 = some ⟨oc11, od11, .func (PySem.W.fnOf "run" "Machine.run" (defArgs st_Machine_run) (defBody st_Machine_run) (defScope st_Machine_run) .none kV11 dc11 pm11 an11 cd11 ct11), sl11⟩)
    (c11 : PySem.W.codeIn K cd11 "Machine.run" = true)
    (k11 : PySem.W.keepIn K (.ref f11) = true)
    (a12 : PySem.W.findIn K (.ref C5) "accepts" = some (some (.ref f12)))
    (i12 : PySem.W.isFn K (.ref f12) = true)
    (l12 : K.lookup f12 = some ⟨oc12, od12, .func (PySem.W.fnOf "accepts" "Machine.accepts" (defArgs st_Machine_accepts) (defBody st_Machine_accepts) (defScope st_Machine_accepts) .none kV12 dc12 pm12 an12 cd12 ct12), sl12⟩)
    (c12 : PySem.W.codeIn K cd12 "Machine.accepts" = true)
    (k12 : PySem.W.keepIn K (.ref f12) = true)
    (a13 : PySem.W.findIn K (.ref C5) "picture" = some (some (.ref f13)))
    (i13 : PySem.W.isFn K (.ref f13) = true)
    (l13 : K.lookup f13 = some ⟨oc13, od13, .func (PySem.W.fnOf "picture" "Machine.picture" (defArgs st_Machine_picture) (defBody st_Machine_picture) (defScope st_Machine_picture) .none kV13 dc13 pm13 an13 cd13 ct13), sl13⟩)
    (c13 : PySem.W.codeIn K cd13 "Machine.picture" = true)
    (k13 : PySem.W.keepIn K (.ref f13) = true) :
    ∃ fd : FuncData, (∀ (s : Shared) (u : Value), BindsTo s fd ⟨[u], []⟩ [("_law_script", u)]) ∧ ∀ base : Heap, K.In base → base.Ns mainGlobals mg → TopOk P w K mg base fa fd ["_law_script"] (spLaw K) := by
  have e : some (Value.ref fa) = some (Value.ref f8) := hfa.symm.trans (PySem.W.mg_of X G a8)
  have e2 : f8 = fa := by
    injection e with e1
    injection e1 with e3
    exact e3.symm
  subst e2
  have K0 := kind_of xC0 kb_0
  have K1 := kind_of xC1 kb_1
  have K2 := kind_of xC2 kb_2
  have K3 := kind_of xC3 kb_3
  have K4 := kind_of xC4 kb_4
  have kd : ∀ C, C < nErr → PySem.AnyX.Kind K C0 fI ((fun i => [C0, C1, C2, C3, C4, C5].getD i 0) C) ∧ ExcC K ((fun i => [C0, C1, C2, C3, C4, C5].getD i 0) C) := by
    intro C hC
    match C, hC with
    | 0, _ => exact K0
    | 1, _ => exact K1
    | 2, _ => exact K2
    | 3, _ => exact K3
    | 4, _ => exact K4
    | C + 5, hC => exact absurd hC (by unfold nErr; omega)
  have gc : ∀ j nm, errNm j = some nm → mg nm = some (.ref ((fun i => [C0, C1, C2, C3, C4, C5].getD i 0) j)) := by
    intro j nm hj
    match j, hj with
    | 0, hj => cases hj; exact PySem.W.mg_of X G aC0
    | 1, hj => cases hj; exact PySem.W.mg_of X G aC1
    | 2, hj => cases hj; exact PySem.W.mg_of X G aC2
    | 3, hj => cases hj; exact PySem.W.mg_of X G aC3
    | 4, hj => cases hj; exact PySem.W.mg_of X G aC4
    | j + 5, hj => exact absurd hj (by unfold errNm; simp)
  have lt1 : ∀ {j C : Nat} {b : Bool}, subE j C = some b → C < nErr ∧ j < nErr := by
    intro j C b e
    unfold subE at e
    obtain ⟨r, h1, h2⟩ := Option.bind_eq_some_iff.mp e
    have l1 := (List.getElem?_eq_some_iff.mp h1).1
    have l2 := (List.getElem?_eq_some_iff.mp h2).1
    have l3 : ∀ r ∈ subTab, r.length = nErr := by decide
    exact ⟨by rw [← l3 r (List.mem_of_getElem? h1)]; exact l2, l1⟩
  have base : PySem.AnyX.Base P K C0 fI := ⟨⟨oc, od, dT, oT, nT, kV, doc, pm, an, cda, cc, ct, osl, p1, p2, p3, q1_, q2_, q3_, q4_, q5_, q6_, r1, r2, r3, r4, cl, cld, csl, ccl, cdd, vs, ccs, file, tf, lI, lT, sT, cI, lc, ld, hvs, hfile, hln⟩, by
    unfold PySem.W.clsIn
    rw [xC0]
    exact ⟨_, rfl⟩, htop, hany, tI⟩
  have kits : ∀ js C b, subsE js C = some b → (∀ j ∈ js, j < nErr) → ExcC K ((fun i => [C0, C1, C2, C3, C4, C5].getD i 0) C) ∧ PySem.W.kitAny K (.ref ((fun i => [C0, C1, C2, C3, C4, C5].getD i 0) C)) (js.map fun j => .ref ((fun i => [C0, C1, C2, C3, C4, C5].getD i 0) j)) = some b := by
    intro js C b e hjs
    unfold subsE at e
    split at e
    · rename_i hC
      cases e
      refine ⟨(kd C hC).2, kitAny_of (g := fun j => subE j C == some true) fun j hj => ?_⟩
      obtain ⟨h1, _, h3⟩ := (tab_of tb C hC).2 j (hjs j hj)
      rw [h3]
      cases h4 : subE j C with
      | none => rw [h4] at h1; cases h1
      | some v => cases v <;> rfl
    · cases e
  have kitV : ∀ C b, allE C = some b → ExcC K ((fun i => [C0, C1, C2, C3, C4, C5].getD i 0) C) ∧ PySem.W.kitOne K (.ref ((fun i => [C0, C1, C2, C3, C4, C5].getD i 0) C)) (.type "ValueError") = some b := by
    intro C b e
    unfold allE at e
    split at e
    · rename_i hC
      cases e
      exact ⟨(kd C hC).2, (tab_of tb C hC).1⟩
    · cases e
  have T : Txt P K mg (fun i => [C0, C1, C2, C3, C4, C5].getD i 0) (fun i => [f0, f1, f2, f3, f4, f5, f6, f7, f8, f9, f10, f11, f12, f13].getD i 0) (fun i => [PySem.W.fnOf "_law_cell" "_law_cell" (defArgs st__law_cell) (defBody st__law_cell) (defScope st__law_cell) .none kV0 dc0 pm0 an0 cd0 ct0, PySem.W.fnOf "_law_numbers" "_law_numbers" (defArgs st__law_numbers) (defBody st__law_numbers) (defScope st__law_numbers) .none kV1 dc1 pm1 an1 cd1 ct1, PySem.W.fnOf "_law_state" "_law_state" (defArgs st__law_state) (defBody st__law_state) (defScope st__law_state) .none kV2 dc2 pm2 an2 cd2 ct2, PySem.W.fnOf "_law_next" "_law_next" (defArgs st__law_next) (defBody st__law_next) (defScope st__law_next) .none kV3 dc3 pm3 an3 cd3 ct3, PySem.W.fnOf "_law_letters" "_law_letters" (defArgs st__law_letters) (defBody st__law_letters) (defScope st__law_letters) .none kV4 dc4 pm4 an4 cd4 ct4, PySem.W.fnOf "_law_made" "_law_made" (defArgs st__law_made) (defBody st__law_made) (defScope st__law_made) .none kV5 dc5 pm5 an5 cd5 ct5, PySem.W.fnOf "_law_faulty" "_law_faulty" (defArgs st__law_faulty) (defBody st__law_faulty) (defScope st__law_faulty) .none kV6 dc6 pm6 an6 cd6 ct6, PySem.W.fnOf "_law_ring" "_law_ring" (defArgs st__law_ring) (defBody st__law_ring) (defScope st__law_ring) .none kV7 dc7 pm7 an7 cd7 ct7, PySem.W.fnOf "law" "law" (defArgs st_law) (defBody st_law) (defScope st_law) .none kV8 dc8 pm8 an8 cd8 ct8, PySem.W.fnOf "__init__" "Machine.__init__" (defArgs st_Machine___init__) (defBody st_Machine___init__) (defScope st_Machine___init__) .none kV9 dc9 pm9 an9 cd9 ct9, PySem.W.fnOf "_is_whole" "Machine._is_whole" (defArgs st_Machine__is_whole) (defBody st_Machine__is_whole) (defScope st_Machine__is_whole) .none kV10 dc10 pm10 an10 cd10 ct10, PySem.W.fnOf "run" "Machine.run" (defArgs st_Machine_run) (defBody st_Machine_run) (defScope st_Machine_run) .none kV11 dc11 pm11 an11 cd11 ct11, PySem.W.fnOf "accepts" "Machine.accepts" (defArgs st_Machine_accepts) (defBody st_Machine_accepts) (defScope st_Machine_accepts) .none kV12 dc12 pm12 an12 cd12 ct12, PySem.W.fnOf "picture" "Machine.picture" (defArgs st_Machine_picture) (defBody st_Machine_picture) (defScope st_Machine_picture) .none kV13 dc13 pm13 an13 cd13 ct13].getD i (PySem.W.fnOf "law" "law" (defArgs st_law) (defBody st_law) (defScope st_law) .none kV8 dc8 pm8 an8 cd8 ct8)) C0 fI :=
    { z_abs := PySem.W.mg_none_of X G z_abs
      z_all := PySem.W.mg_none_of X G z_all
      z_int := PySem.W.mg_none_of X G z_int
      z_isinstance := PySem.W.mg_none_of X G z_isinstance
      z_len := PySem.W.mg_none_of X G z_len
      z_list := PySem.W.mg_none_of X G z_list
      z_range := PySem.W.mg_none_of X G z_range
      z_repr := PySem.W.mg_none_of X G z_repr
      z_tuple := PySem.W.mg_none_of X G z_tuple
      z_super := PySem.W.mg_none_of X G z_super
      base := base
      kinds := fun C hC => (kd C (of_decide_eq_true hC)).1
      gc := gc
      exm := fun j C b e => ((tab_of tb C (lt1 e).1).2 j (lt1 e).2).2.1.trans e
      kit := fun j C b e => ⟨(kd C (lt1 e).1).2, ((tab_of tb C (lt1 e).1).2 j (lt1 e).2).2.2.trans e⟩
      kits := kits
      kitV := kitV
      g_Machine := PySem.W.mg_of X G aC5
      cl_Machine := ⟨pg5, hd5, po5, sa5⟩
      mk_Machine := ⟨mk5, a9, i9, kc5⟩
      na_Machine_letters := na5_letters
      na_Machine_accepting := na5_accepting
      na_Machine_table := na5_table
      F__law_cell := fun_mk (st := st__law_cell) l0 c0 k0
      g__law_cell := PySem.W.mg_of X G a0
      k__law_cell := k0
      b__law_cell := (fun_mk (st := st__law_cell) l0 c0 k0).binds (ps := ["_law_script", "_law_k"]) fun _ _ _ _ _ _ us hl => match us, hl with | [_, _], _ => rfl
      F__law_numbers := fun_mk (st := st__law_numbers) l1 c1 k1
      g__law_numbers := PySem.W.mg_of X G a1
      k__law_numbers := k1
      b__law_numbers := (fun_mk (st := st__law_numbers) l1 c1 k1).binds (ps := ["_law_cell_here", "_law_many"]) fun _ _ _ _ _ _ us hl => match us, hl with | [_, _], _ => rfl
      F__law_state := fun_mk (st := st__law_state) l2 c2 k2
      g__law_state := PySem.W.mg_of X G a2
      k__law_state := k2
      b__law_state := (fun_mk (st := st__law_state) l2 c2 k2).binds (ps := ["_law_script", "_law_start", "_law_many"]) fun _ _ _ _ _ _ us hl => match us, hl with | [_, _, _], _ => rfl
      F__law_next := fun_mk (st := st__law_next) l3 c3 k3
      g__law_next := PySem.W.mg_of X G a3
      k__law_next := k3
      b__law_next := (fun_mk (st := st__law_next) l3 c3 k3).binds (ps := ["_law_state_here", "_law_many"]) fun _ _ _ _ _ _ us hl => match us, hl with | [_, _], _ => rfl
      F__law_letters := fun_mk (st := st__law_letters) l4 c4 k4
      g__law_letters := PySem.W.mg_of X G a4
      k__law_letters := k4
      b__law_letters := (fun_mk (st := st__law_letters) l4 c4 k4).binds (ps := ["_law_state_here", "_law_most"]) fun _ _ _ _ _ _ us hl => match us, hl with | [_, _], _ => rfl
      F__law_made := fun_mk (st := st__law_made) l5 c5 k5
      g__law_made := PySem.W.mg_of X G a5
      k__law_made := k5
      b__law_made := (fun_mk (st := st__law_made) l5 c5 k5).binds (ps := ["_law_letters_here", "_law_accepting", "_law_table"]) fun _ _ _ _ _ _ us hl => match us, hl with | [_, _, _], _ => rfl
      F__law_faulty := fun_mk (st := st__law_faulty) l6 c6 k6
      g__law_faulty := PySem.W.mg_of X G a6
      k__law_faulty := k6
      b__law_faulty := (fun_mk (st := st__law_faulty) l6 c6 k6).binds (ps := ["_law_letters_here", "_law_accepting", "_law_table", "_law_state_here"]) fun _ _ _ _ _ _ us hl => match us, hl with | [_, _, _, _], _ => rfl
      F__law_ring := fun_mk (st := st__law_ring) l7 c7 k7
      g__law_ring := PySem.W.mg_of X G a7
      k__law_ring := k7
      b__law_ring := (fun_mk (st := st__law_ring) l7 c7 k7).binds (ps := ["_law_letters_here", "_law_many", "_law_step"]) fun _ _ _ _ _ _ us hl => match us, hl with | [_, _, _], _ => rfl
      F_law := fun_mk (st := st_law) l8 c8 k8
      g_law := PySem.W.mg_of X G a8
      k_law := k8
      b_law := (fun_mk (st := st_law) l8 c8 k8).binds (ps := ["_law_script"]) fun _ _ _ _ _ _ us hl => match us, hl with | [_], _ => rfl
      F_Machine___init__ := fun_mk (st := st_Machine___init__) l9 c9 k9
      b_Machine___init__ := (fun_mk (st := st_Machine___init__) l9 c9 k9).binds (ps := ["self", "letters", "accepting", "table"]) fun _ _ _ _ _ _ us hl => match us, hl with | [_, _, _, _], _ => rfl
      F_Machine__is_whole := fun_mk (st := st_Machine__is_whole) l10 c10 k10
      me_Machine__is_whole := ⟨a10, i10, k10⟩
      b_Machine__is_whole := (fun_mk (st := st_Machine__is_whole) l10 c10 k10).binds (ps := ["self"]) fun _ _ _ _ _ _ us hl => match us, hl with | [_], _ => rfl
      F_Machine_run := fun_mk (st := st_Machine_run) l11 c11 k11
      me_Machine_run := ⟨a11, i11, k11⟩
      b_Machine_run := (fun_mk (st := st_Machine_run) l11 c11 k11).binds (ps := ["self", "text"]) fun _ _ _ _ _ _ us hl => match us, hl with | [_, _], _ => rfl
      F_Machine_accepts := fun_mk (st := st_Machine_accepts) l12 c12 k12
      me_Machine_accepts := ⟨a12, i12, k12⟩
      b_Machine_accepts := (fun_mk (st := st_Machine_accepts) l12 c12 k12).binds (ps := ["self", "text"]) fun _ _ _ _ _ _ us hl => match us, hl with | [_, _], _ => rfl
      F_Machine_picture := fun_mk (st := st_Machine_picture) l13 c13 k13
      me_Machine_picture := ⟨a13, i13, k13⟩
      b_Machine_picture := (fun_mk (st := st_Machine_picture) l13 c13 k13).binds (ps := ["self"]) fun _ _ _ _ _ _ us hl => match us, hl with | [_], _ => rfl }
  exact ⟨_, fun s u => .of_eq rfl, fun base _ _ => (ok_law (w := w) (base := base) T).imp fun vs H Q E q => law_sp q⟩

end K07
open PySem PySem.W PyProof.Rows
set_option maxRecDepth 100000 in
set_option maxHeartbeats 0 in
theorem PySem.Challenge.cw_anytext_k07_machines_holds : PySem.Challenge.rw_anytext_k07_machines.Holds := by
  w_on; o_law; k_head; (case hw => w_witness2)
  k_fill
  refine Vi.walkG (l := PySem.Challenge.rw_anytext_k07_machines) rfl rfl (fun w h Y => PySem.W.kIn_of Y) ?F
  case F =>
    intro w mg fa h KX G hmg
    refine' K07.all_mk KX G hmg ?aC0 ?xC0 ?aC1 ?xC1 ?aC2 ?xC2 ?aC3 ?xC3 ?aC4 ?xC4 ?aI ?lI ?cI ?lT ?sT ?lc ?ld ?hvs ?hfile ?hln ?htop ?hany ?tI ?kb_0 ?kb_1 ?kb_2 ?kb_3 ?kb_4 ?tb ?z_abs ?z_all ?z_int ?z_isinstance ?z_len ?z_list ?z_range ?z_repr ?z_tuple ?z_super ?aC5 ?pg5 ?hd5 ?po5 ?sa5 ?mk5 ?kc5 ?na5_letters ?na5_accepting ?na5_table ?a0 ?l0 ?c0 ?k0 ?a1 ?l1 ?c1 ?k1 ?a2 ?l2 ?c2 ?k2 ?a3 ?l3 ?c3 ?k3 ?a4 ?l4 ?c4 ?k4 ?a5 ?l5 ?c5 ?k5 ?a6 ?l6 ?c6 ?k6 ?a7 ?l7 ?c7 ?k7 ?a8 ?l8 ?c8 ?k8 ?a9 ?i9 ?l9 ?c9 ?k9 ?a10 ?i10 ?l10 ?c10 ?k10 ?a11 ?i11 ?l11 ?c11 ?k11 ?a12 ?i12 ?l12 ?c12 ?k12 ?a13 ?i13 ?l13 ?c13 ?k13
    (case aC0 => k_is)
    (case xC0 => k_is)
    (case aC1 => k_is)
    (case xC1 => k_is)
    (case aC2 => k_is)
    (case xC2 => k_is)
    (case aC3 => k_is)
    (case xC3 => k_is)
    (case aC4 => k_is)
    (case xC4 => k_is)
    (case aI => k_is)
    (case lI => k_is)
    (case cI => k_is)
    (case lT => k_is)
    (case sT => exact rfl)
    (case lc => k_is)
    (case ld => k_is)
    (case hvs => exact rfl)
    (case hfile => first | rfl | decide +kernel | kernel_rfl)
    (case hln => first | rfl | decide +kernel)
    (case htop => first | decide +kernel | kernel_rfl)
    (case hany => k_is)
    (case tI => k_is)
    (case kb_0 => kernel_rfl)
    (case kb_1 => kernel_rfl)
    (case kb_2 => kernel_rfl)
    (case kb_3 => kernel_rfl)
    (case kb_4 => kernel_rfl)
    (case tb => kernel_rfl)
    (case z_abs => k_is)
    (case z_all => k_is)
    (case z_int => k_is)
    (case z_isinstance => k_is)
    (case z_len => k_is)
    (case z_list => k_is)
    (case z_range => k_is)
    (case z_repr => k_is)
    (case z_tuple => k_is)
    (case z_super => k_is)
    (case aC5 => k_is)
    (case pg5 => k_is)
    (case hd5 => k_is)
    (case po5 => k_is)
    (case sa5 => k_is)
    (case mk5 => k_is)
    (case kc5 => k_is)
    (case na5_letters => k_is)
    (case na5_accepting => k_is)
    (case na5_table => k_is)
    (case a0 => k_is)
    (case l0 => k_is)
    (case c0 => k_is)
    (case k0 => k_is)
    (case a1 => k_is)
    (case l1 => k_is)
    (case c1 => k_is)
    (case k1 => k_is)
    (case a2 => k_is)
    (case l2 => k_is)
    (case c2 => k_is)
    (case k2 => k_is)
    (case a3 => k_is)
    (case l3 => k_is)
    (case c3 => k_is)
    (case k3 => k_is)
    (case a4 => k_is)
    (case l4 => k_is)
    (case c4 => k_is)
    (case k4 => k_is)
    (case a5 => k_is)
    (case l5 => k_is)
    (case c5 => k_is)
    (case k5 => k_is)
    (case a6 => k_is)
    (case l6 => k_is)
    (case c6 => k_is)
    (case k6 => k_is)
    (case a7 => k_is)
    (case l7 => k_is)
    (case c7 => k_is)
    (case k7 => k_is)
    (case a8 => k_is)
    (case l8 => k_is)
    (case c8 => k_is)
    (case k8 => k_is)
    (case a9 => k_is)
    (case i9 => k_is)
    (case l9 => k_is)
    (case c9 => k_is)
    (case k9 => k_is)
    (case a10 => k_is)
    (case i10 => k_is)
    (case l10 => k_is)
    (case c10 => k_is)
    (case k10 => k_is)
    (case a11 => k_is)
    (case i11 => k_is)
    (case l11 => k_is)
    (case c11 => k_is)
    (case k11 => k_is)
    (case a12 => k_is)
    (case i12 => k_is)
    (case l12 => k_is)
    (case c12 => k_is)
    (case k12 => k_is)
    (case a13 => k_is)
    (case i13 => k_is)
    (case l13 => k_is)
    (case c13 => k_is)
    (case k13 => k_is)
