import PyProof.Rows.All
import Wide.All
import OpenK.AllK
import Wide.FinOn
import HandS.ForMost
import HandS.Exc
import HandS.WordsExc
import HandS.CallSlots
import KE.KExcSuper
import HandS.ExcOwn
import KE.KExcIs
import HandS.ExcIs
import HandS.Strs
import PyProof.StrWalks
import HandS.RaiseMore
import HandS.AnyAll
import HandS.Ends
import HandS.StrMore
import HandS.Conv
import HandS.Text
import HandS.TryOnly
import HandS.Dict
import KE.KDictDisplayH
import KE.KxIndex
import HandS.Style
import HandS.SetFor
import HandS.SortInts
import HandS.Zip
import HandS.TupAny
import KE.GoesNew
import KE.GoesMore
import HandS.More
import HandS.DictComp
import HandS.Iter
import PyProof.Rows.MatchSeqLen
import HandS.WrittenGet
import HandS.HeadHook3
import HandS.IsInst
import HandS.Codes
import PySem.Challenge.RW_anytext_k48_values_written
set_option Elab.async false
set_option linter.all false
set_option maxRecDepth 100000
set_option maxHeartbeats 8000000
/-! Vi1: data without a heap, and how they lie in the tracked heap: frozen parts F, owned parts named by paths. -/
namespace Vi
open PySem L2

/-- a dict's keys: ints and texts, or tuples of them -/
inductive DKs where
  | one (ks : List Key) | tup (ks : List (List Key))
def DKs.len : DKs → Nat
  | .one ks => ks.length
  | .tup ks => ks.length
def DKs.ho : DKs → List V → HO
  | .one ks, vs => .dK (ks.zip vs)
  | .tup ks, vs => .dT (ks.zip vs)
inductive D where
  | und | non | bl (b : Bool) | int (i : Int) | str (s : List Nat) | tup (xs : List D) | lst (o : Bool) (xs : List D) | klst (xs : List D)
  | dic (o : Bool) (ks : DKs) (vs : List D) | ins (o : Bool) (C : Nat) (vs : List D) | exo (a cd : Addr) (C : Nat) (w : D) | fn (k : Nat)

/-- what is fixed: the written part, the classes' places, their attributes in order -/
structure Ct where
  K : PySem.W.Frag
  cls : Nat → Addr
  flds : Nat → List Str
  fnA : Nat → Addr

abbrev Nm := Addr → Option (List Nat)
def Sub (F F' : Hp) : Prop := ∀ b o, F b = some o → F' b = some o
theorem Sub.refl (F : Hp) : Sub F F := fun _ _ h => h
theorem Sub.trans {F G H : Hp} (a : Sub F G) (b : Sub G H) : Sub F H := fun x o h => b x o (a x o h)

mutual
/-- d stands at v, all of it in F -/
def Fz (c : Ct) (F : Hp) : D → V → Prop
  | .und, _ => False
  | .non, v => v = .non
  | .bl b, v => v = .bl b
  | .int i, v => v = .int i
  | .str s, v => v = .str ⟨s.toArray⟩
  | .tup ds, v => ∃ a vs, v = .ref a ∧ F a = some (.tup vs) ∧ FzL c F ds vs
  | .lst _ ds, v => ∃ a vs, v = .ref a ∧ F a = some (.lst vs) ∧ FzL c F ds vs
  | .klst ds, v => ∃ a vs, v = .ref a ∧ SqL c.K F a vs ∧ FzL c F ds vs
  | .dic _ ks ds, v => ∃ a vs, v = .ref a ∧ Rd F a (ks.ho vs) ∧ ks.len = ds.length ∧ FzL c F ds vs
  | .ins _ C ds, v => ∃ a dx vs, v = .ref a ∧ F a = some (.ins (c.cls C) dx ((c.flds C).zip vs)) ∧ ds.length ≤ (c.flds C).length ∧ FzL c F ds vs
  | .exo a cd _ w, v => v = .ref a ∧ ∃ vw, F cd = some (.xd [("what", vw)]) ∧ Fz c F w vw
  | .fn k, v => v = .ref (c.fnA k)
def FzL (c : Ct) (F : Hp) : List D → List V → Prop
  | [], vs => vs = []
  | d :: ds, vs => ∃ v r, vs = v :: r ∧ Fz c F d v ∧ FzL c F ds r
end

mutual
/-- d stands at v: the owned lists, dicts, instances by their names' paths, the rest in F -/
def Rv (c : Ct) (F H : Hp) (Θ : Nm) : D → List Nat → V → Prop
  | .lst true ds, π, v => ∃ a vs, v = .ref a ∧ Θ a = some π ∧ H a = some (.lst vs) ∧ RvL c F H Θ ds π 0 vs
  | .dic true ks ds, π, v => ∃ a vs, v = .ref a ∧ Θ a = some π ∧ H a = some (ks.ho vs) ∧ ks.len = ds.length ∧ RvL c F H Θ ds π 0 vs
  | .ins true C ds, π, v => ∃ a dx vs, v = .ref a ∧ Θ a = some π ∧ H a = some (.ins (c.cls C) dx ((c.flds C).zip vs)) ∧ ds.length ≤ (c.flds C).length ∧ RvL c F H Θ ds π 0 vs
  | .lst false ds, _, v => ∃ a vs, v = .ref a ∧ F a = some (.lst vs) ∧ FzL c F ds vs
  | .klst ds, _, v => ∃ a vs, v = .ref a ∧ SqL c.K F a vs ∧ FzL c F ds vs
  | .dic false ks ds, _, v => ∃ a vs, v = .ref a ∧ Rd F a (ks.ho vs) ∧ ks.len = ds.length ∧ FzL c F ds vs
  | .ins false C ds, _, v => ∃ a dx vs, v = .ref a ∧ F a = some (.ins (c.cls C) dx ((c.flds C).zip vs)) ∧ ds.length ≤ (c.flds C).length ∧ FzL c F ds vs
  | .und, _, _ => False
  | .non, _, v => v = .non
  | .bl b, _, v => v = .bl b
  | .int i, _, v => v = .int i
  | .str s, _, v => v = .str ⟨s.toArray⟩
  | .tup ds, _, v => ∃ a vs, v = .ref a ∧ F a = some (.tup vs) ∧ FzL c F ds vs
  | .exo a cd _ w, _, v => v = .ref a ∧ ∃ vw, F cd = some (.xd [("what", vw)]) ∧ Fz c F w vw
  | .fn k, _, v => v = .ref (c.fnA k)
def RvL (c : Ct) (F H : Hp) (Θ : Nm) : List D → List Nat → Nat → List V → Prop
  | [], _, _, vs => vs = []
  | d :: ds, π, k, vs => ∃ v r, vs = v :: r ∧ Rv c F H Θ d (π ++ [k]) v ∧ RvL c F H Θ ds π (k + 1) r
end

/-- an owned list, dict, instance -/
def own : D → Bool
  | .lst o _ => o
  | .dic o _ _ => o
  | .ins o _ _ => o
  | _ => false
def fr : D → D
  | .lst _ xs => .lst false xs
  | .dic _ ks vs => .dic false ks vs
  | .ins _ C vs => .ins false C vs
  | d => d
theorem own_fr (d : D) : own (fr d) = false := by cases d <;> rfl
theorem fr_of {d : D} (h : own d = false) : fr d = d := by
  cases d <;> first | rfl | (simp only [own] at h; subst h; rfl)
theorem Fz_fr (c : Ct) (F : Hp) (d : D) (v : V) : Fz c F (fr d) v ↔ Fz c F d v := by cases d <;> (simp only [fr, Fz])
theorem Rv_of_own {c : Ct} {F H : Hp} {Θ : Nm} {π : List Nat} {d : D} {v : V} (h : own d = false) : Rv c F H Θ d π v ↔ Fz c F d v := by
  cases d with
  | lst o xs => cases o <;> first | (cases h; done) | (simp only [Rv, Fz])
  | dic o ks xs => cases o <;> first | (cases h; done) | (simp only [Rv, Fz])
  | ins o C xs => cases o <;> first | (cases h; done) | (simp only [Rv, Fz])
  | _ => simp only [Rv, Fz]

section
variable {c : Ct} {F F' H H' : Hp} {Θ Θ' : Nm}
theorem rd_sub {u : HO} {a : Addr} (e : Sub F F') (h : Rd F a u) : Rd F' a u := by
  rcases h with h | ⟨o, h⟩
  · exact Or.inl (e a _ h)
  · exact Or.inr ⟨o, e a _ h⟩
theorem sql_sub {a : Addr} {xs : List V} (e : Sub F F') (h : SqL c.K F a xs) : SqL c.K F' a xs := h.elim (fun h => .inl (rd_sub e h)) .inr
theorem sqt_sub {a : Addr} {xs : List V} (e : Sub F F') (h : SqT c.K F a xs) : SqT c.K F' a xs := h.elim (fun h => .inl (rd_sub e h)) .inr
mutual
theorem Fz.mono (e : Sub F F') : ∀ (d : D) (v : V), Fz c F d v → Fz c F' d v
  | .und, _, h => h
  | .non, _, h => h
  | .bl _, _, h => h
  | .int _, _, h => h
  | .str _, _, h => h
  | .fn _, _, h => h
  | .tup ds, v, h => by
    simp only [Fz] at h ⊢
    obtain ⟨a, vs, e1, h1, h2⟩ := h
    exact ⟨a, vs, e1, e _ _ h1, FzL.mono e ds vs h2⟩
  | .lst _ ds, v, h => by
    simp only [Fz] at h ⊢
    obtain ⟨a, vs, e1, h1, h2⟩ := h
    exact ⟨a, vs, e1, e _ _ h1, FzL.mono e ds vs h2⟩
  | .klst ds, v, h => by
    simp only [Fz] at h ⊢
    obtain ⟨a, vs, e1, h1, h2⟩ := h
    exact ⟨a, vs, e1, sql_sub e h1, FzL.mono e ds vs h2⟩
  | .dic _ ks ds, v, h => by
    simp only [Fz] at h ⊢
    obtain ⟨a, vs, e1, h1, h3, h2⟩ := h
    exact ⟨a, vs, e1, rd_sub e h1, h3, FzL.mono e ds vs h2⟩
  | .ins _ C ds, v, h => by
    simp only [Fz] at h ⊢
    obtain ⟨a, dx, vs, e1, h1, h3, h2⟩ := h
    exact ⟨a, dx, vs, e1, e _ _ h1, h3, FzL.mono e ds vs h2⟩
  | .exo a cd C w, v, h => by
    simp only [Fz] at h ⊢
    obtain ⟨e1, vw, h1, h2⟩ := h
    exact ⟨e1, vw, e _ _ h1, Fz.mono e w vw h2⟩
theorem FzL.mono (e : Sub F F') : ∀ (ds : List D) (vs : List V), FzL c F ds vs → FzL c F' ds vs
  | [], _, h => h
  | d :: ds, vs, h => by
    simp only [FzL] at h ⊢
    obtain ⟨v, r, e1, h1, h2⟩ := h
    exact ⟨v, r, e1, Fz.mono e d v h1, FzL.mono e ds r h2⟩
end
mutual
theorem Rv.move (e : Sub F F') : ∀ (d : D) (π π' : List Nat) (v : V), (∀ b ρ, Θ b = some (π ++ ρ) → Θ' b = some (π' ++ ρ) ∧ H' b = H b) → Rv c F H Θ d π v → Rv c F' H' Θ' d π' v
  | .lst true ds, π, π', v, k, h => by
    simp only [Rv] at h ⊢
    obtain ⟨a, vs, e1, h1, h2, h3⟩ := h
    have q := k a [] (by simpa using h1)
    exact ⟨a, vs, e1, by simpa using q.1, by rw [q.2]; exact h2, RvL.move e ds π π' 0 vs (fun b i ρ z => k b (i :: ρ) z) h3⟩
  | .dic true ks ds, π, π', v, k, h => by
    simp only [Rv] at h ⊢
    obtain ⟨a, vs, e1, h1, h2, h4, h3⟩ := h
    have q := k a [] (by simpa using h1)
    exact ⟨a, vs, e1, by simpa using q.1, by rw [q.2]; exact h2, h4, RvL.move e ds π π' 0 vs (fun b i ρ z => k b (i :: ρ) z) h3⟩
  | .ins true C ds, π, π', v, k, h => by
    simp only [Rv] at h ⊢
    obtain ⟨a, dx, vs, e1, h1, h2, h4, h3⟩ := h
    have q := k a [] (by simpa using h1)
    exact ⟨a, dx, vs, e1, by simpa using q.1, by rw [q.2]; exact h2, h4, RvL.move e ds π π' 0 vs (fun b i ρ z => k b (i :: ρ) z) h3⟩
  | .lst false ds, π, π', v, k, h => (Rv_of_own rfl).mpr (Fz.mono e _ _ ((Rv_of_own rfl).mp h))
  | .dic false ks ds, π, π', v, k, h => (Rv_of_own rfl).mpr (Fz.mono e _ _ ((Rv_of_own rfl).mp h))
  | .ins false C ds, π, π', v, k, h => (Rv_of_own rfl).mpr (Fz.mono e _ _ ((Rv_of_own rfl).mp h))
  | .und, π, π', v, k, h => (Rv_of_own rfl).mpr (Fz.mono e _ _ ((Rv_of_own rfl).mp h))
  | .non, π, π', v, k, h => (Rv_of_own rfl).mpr (Fz.mono e _ _ ((Rv_of_own rfl).mp h))
  | .bl b, π, π', v, k, h => (Rv_of_own rfl).mpr (Fz.mono e _ _ ((Rv_of_own rfl).mp h))
  | .int b, π, π', v, k, h => (Rv_of_own rfl).mpr (Fz.mono e _ _ ((Rv_of_own rfl).mp h))
  | .str b, π, π', v, k, h => (Rv_of_own rfl).mpr (Fz.mono e _ _ ((Rv_of_own rfl).mp h))
  | .klst b, π, π', v, k, h => (Rv_of_own rfl).mpr (Fz.mono e _ _ ((Rv_of_own rfl).mp h))
  | .tup b, π, π', v, k, h => (Rv_of_own rfl).mpr (Fz.mono e _ _ ((Rv_of_own rfl).mp h))
  | .exo .., π, π', v, k, h => (Rv_of_own rfl).mpr (Fz.mono e _ _ ((Rv_of_own rfl).mp h))
  | .fn b, π, π', v, k, h => (Rv_of_own rfl).mpr (Fz.mono e _ _ ((Rv_of_own rfl).mp h))
theorem RvL.move (e : Sub F F') : ∀ (ds : List D) (π π' : List Nat) (j : Nat) (vs : List V), (∀ b i ρ, Θ b = some (π ++ i :: ρ) → Θ' b = some (π' ++ i :: ρ) ∧ H' b = H b) → RvL c F H Θ ds π j vs → RvL c F' H' Θ' ds π' j vs
  | [], _, _, _, _, _, h => by simp only [RvL] at h ⊢; exact h
  | d :: ds, π, π', j, vs, k, h => by
    simp only [RvL] at h ⊢
    obtain ⟨v, r, e1, h1, h2⟩ := h
    refine ⟨v, r, e1, Rv.move e d (π ++ [j]) (π' ++ [j]) v (fun b ρ z => ?_) h1, RvL.move e ds π π' (j + 1) r k h2⟩
    have q := k b j ρ (by rw [z, List.append_assoc]; rfl)
    exact ⟨by rw [q.1, List.append_assoc]; rfl, q.2⟩
end
mutual
/-- all of it into F' -/
theorem Rv.frz (e : Sub F F') : ∀ (d : D) (π : List Nat) (v : V), (∀ b ρ o, Θ b = some (π ++ ρ) → H b = some o → F' b = some o) → Rv c F H Θ d π v → Fz c F' d v
  | .lst true ds, π, v, k, h => by
    simp only [Rv] at h
    simp only [Fz]
    obtain ⟨a, vs, e1, h1, h2, h3⟩ := h
    exact ⟨a, vs, e1, k a [] _ (by simpa using h1) h2, RvL.frz e ds π 0 vs k h3⟩
  | .dic true ks ds, π, v, k, h => by
    simp only [Rv] at h
    simp only [Fz]
    obtain ⟨a, vs, e1, h1, h2, h4, h3⟩ := h
    exact ⟨a, vs, e1, Rd.of (k a [] _ (by simpa using h1) h2), h4, RvL.frz e ds π 0 vs k h3⟩
  | .ins true C ds, π, v, k, h => by
    simp only [Rv] at h
    simp only [Fz]
    obtain ⟨a, dx, vs, e1, h1, h2, h4, h3⟩ := h
    exact ⟨a, dx, vs, e1, k a [] _ (by simpa using h1) h2, h4, RvL.frz e ds π 0 vs k h3⟩
  | .lst false ds, π, v, k, h => Fz.mono e _ _ ((Rv_of_own rfl).mp h)
  | .dic false ks ds, π, v, k, h => Fz.mono e _ _ ((Rv_of_own rfl).mp h)
  | .ins false C ds, π, v, k, h => Fz.mono e _ _ ((Rv_of_own rfl).mp h)
  | .und, π, v, k, h => Fz.mono e _ _ ((Rv_of_own rfl).mp h)
  | .non, π, v, k, h => Fz.mono e _ _ ((Rv_of_own rfl).mp h)
  | .bl b, π, v, k, h => Fz.mono e _ _ ((Rv_of_own rfl).mp h)
  | .int b, π, v, k, h => Fz.mono e _ _ ((Rv_of_own rfl).mp h)
  | .str b, π, v, k, h => Fz.mono e _ _ ((Rv_of_own rfl).mp h)
  | .klst b, π, v, k, h => Fz.mono e _ _ ((Rv_of_own rfl).mp h)
  | .tup b, π, v, k, h => Fz.mono e _ _ ((Rv_of_own rfl).mp h)
  | .exo .., π, v, k, h => Fz.mono e _ _ ((Rv_of_own rfl).mp h)
  | .fn b, π, v, k, h => Fz.mono e _ _ ((Rv_of_own rfl).mp h)
theorem RvL.frz (e : Sub F F') : ∀ (ds : List D) (π : List Nat) (j : Nat) (vs : List V), (∀ b ρ o, Θ b = some (π ++ ρ) → H b = some o → F' b = some o) → RvL c F H Θ ds π j vs → FzL c F' ds vs
  | [], _, _, _, _, h => by simp only [RvL] at h; simp only [FzL]; exact h
  | d :: ds, π, j, vs, k, h => by
    simp only [RvL] at h
    simp only [FzL]
    obtain ⟨v, r, e1, h1, h2⟩ := h
    refine ⟨v, r, e1, Rv.frz e d (π ++ [j]) v (fun b ρ o z q => ?_) h1, RvL.frz e ds π (j + 1) r k h2⟩
    exact k b ([j] ++ ρ) o (by rw [z, List.append_assoc]) q
end
theorem FzL.length : ∀ {ds : List D} {vs : List V}, FzL c F ds vs → ds.length = vs.length
  | [], _, h => by simp only [FzL] at h; rw [h]; rfl
  | d :: ds, vs, h => by
    simp only [FzL] at h
    obtain ⟨v, r, e1, _, h2⟩ := h
    rw [e1, List.length_cons, List.length_cons, FzL.length h2]
theorem RvL.length : ∀ {ds : List D} {π : List Nat} {j : Nat} {vs : List V}, RvL c F H Θ ds π j vs → ds.length = vs.length
  | [], _, _, _, h => by simp only [RvL] at h; rw [h]; rfl
  | d :: ds, _, _, vs, h => by
    simp only [RvL] at h
    obtain ⟨v, r, e1, _, h2⟩ := h
    rw [e1, List.length_cons, List.length_cons, RvL.length h2]
theorem FzL.get : ∀ {ds : List D} {vs : List V} {i : Nat} {d : D}, FzL c F ds vs → ds[i]? = some d → ∃ v, vs[i]? = some v ∧ Fz c F d v
  | [], _, _, _, _, e => by simp at e
  | d :: ds, vs, i, x, h, e => by
    simp only [FzL] at h
    obtain ⟨v, r, e1, h1, h2⟩ := h
    subst e1
    cases i with
    | zero => simp at e; subst e; exact ⟨v, rfl, h1⟩
    | succ i =>
      obtain ⟨u, q1, q2⟩ := FzL.get (i := i) h2 (by simpa using e)
      exact ⟨u, by simpa using q1, q2⟩
theorem RvL.get : ∀ {ds : List D} {π : List Nat} {j : Nat} {vs : List V} {i : Nat} {d : D}, RvL c F H Θ ds π j vs → ds[i]? = some d → ∃ v, vs[i]? = some v ∧ Rv c F H Θ d (π ++ [j + i]) v
  | [], _, _, _, _, _, _, e => by simp at e
  | d :: ds, π, j, vs, i, x, h, e => by
    simp only [RvL] at h
    obtain ⟨v, r, e1, h1, h2⟩ := h
    subst e1
    cases i with
    | zero => simp at e; subst e; exact ⟨v, rfl, h1⟩
    | succ i =>
      obtain ⟨u, q1, q2⟩ := RvL.get (i := i) h2 (by simpa using e)
      exact ⟨u, by simpa using q1, by rw [Nat.add_right_comm] at q2; exact q2⟩
theorem FzL.append : ∀ {ds es : List D} {vs ws : List V}, FzL c F ds vs → FzL c F es ws → FzL c F (ds ++ es) (vs ++ ws)
  | [], _, _, _, h, g => by simp only [FzL] at h; subst h; exact g
  | d :: ds, es, vs, ws, h, g => by
    simp only [FzL] at h
    obtain ⟨v, r, e1, h1, h2⟩ := h
    subst e1
    simp only [List.cons_append, FzL]
    exact ⟨v, r ++ ws, rfl, h1, FzL.append h2 g⟩
theorem FzL.nil : FzL c F [] [] := by simp only [FzL]
theorem FzL.cons {d : D} {ds : List D} {v : V} {vs : List V} (h : Fz c F d v) (g : FzL c F ds vs) : FzL c F (d :: ds) (v :: vs) := by
  simp only [FzL]
  exact ⟨v, vs, rfl, h, g⟩
end

/-! ### states -/
abbrev Env := List D
/-- F lies in H; what is owned lies in H, not in F -/
structure Wf (F H : Hp) (Ω : Nm) : Prop where
  sub : Sub F H
  own : ∀ b π, Ω b = some π → F b = none ∧ ∃ o, H b = some o
/-- from one state to a later one: F grows; what is neither frozen nor owned stays so, and as it is -/
structure Stp (F H : Hp) (Ω : Nm) (F' H' : Hp) (Ω' : Nm) : Prop where
  ef : Sub F F'
  ou : ∀ b o, H b = some o → F b = none → Ω b = none → H' b = some o ∧ F' b = none ∧ Ω' b = none
theorem Stp.refl (F H : Hp) (Ω : Nm) : Stp F H Ω F H Ω := ⟨Sub.refl F, fun _ _ h h1 h2 => ⟨h, h1, h2⟩⟩
theorem Stp.trans {F H F1 H1 F2 H2 : Hp} {Ω Ω1 Ω2 : Nm} (a : Stp F H Ω F1 H1 Ω1) (b : Stp F1 H1 Ω1 F2 H2 Ω2) : Stp F H Ω F2 H2 Ω2 :=
  ⟨a.ef.trans b.ef, fun x o h h1 h2 => let ⟨q1, q2, q3⟩ := a.ou x o h h1 h2; b.ou x o q1 q2 q3⟩
/-- the slots -/
def Sl (c : Ct) (F H : Hp) (Ω : Nm) (ρ : Env) (σ : L2.St) : Prop := ∀ i d, ρ[i]? = some d → d ≠ .und → ∃ v, σ[i]? = some (some v) ∧ Rv c F H Ω d [i] v
structure Rel (c : Ct) (F H : Hp) (Ω : Nm) (ρ : Env) (σ : L2.St) : Prop where
  wf : Wf F H Ω
  sl : Sl c F H Ω ρ σ
  len : ρ.length = σ.length
end Vi
/-! Vi2: the judgements over data: expressions, operands, tests, arguments, blocks. -/
namespace Vi
open PySem L2

/-- only new things -/
structure Ext (F H : Hp) (Ω : Nm) (F' H' : Hp) : Prop where
  ef : Sub F F'
  eh : Sub H H'
  wf : Wf F' H' Ω
  nf : ∀ b o, H b = some o → F b = none → F' b = none
theorem Ext.refl {F H : Hp} {Ω : Nm} (w : Wf F H Ω) : Ext F H Ω F H := ⟨Sub.refl _, Sub.refl _, w, fun _ _ _ h => h⟩
theorem Ext.stp {F H F' H' : Hp} {Ω : Nm} (e : Ext F H Ω F' H') : Stp F H Ω F' H' Ω := ⟨e.ef, fun b o h1 h2 h3 => ⟨e.eh b o h1, e.nf b o h1 h2, h3⟩⟩
theorem Ext.trans {F H F1 H1 F2 H2 : Hp} {Ω : Nm} (a : Ext F H Ω F1 H1) (b : Ext F1 H1 Ω F2 H2) : Ext F H Ω F2 H2 :=
  ⟨a.ef.trans b.ef, a.eh.trans b.eh, b.wf, fun x o h1 h2 => b.nf x o (a.eh x o h1) (a.nf x o h1 h2)⟩
/-- a new object, frozen at once -/
theorem Ext.new {F H : Hp} {Ω : Nm} (w : Wf F H Ω) {p : Addr} {o : HO} (hp : H p = none) : Ext F H Ω (upd F p o) (upd H p o) := by
  have hF : F p = none := by
    cases q : F p with
    | none => rfl
    | some u => rw [w.sub p u q] at hp; cases hp
  have eF : Sub F (upd F p o) := fun b u e => by rw [upd_ne (ne_of_none e hF)]; exact e
  have eH : Sub H (upd H p o) := fun b u e => by rw [upd_ne (ne_of_none e hp)]; exact e
  refine ⟨eF, eH, ⟨fun b u e => ?_, fun b π e => ?_⟩, fun b u e1 e2 => ?_⟩
  · by_cases hb : b = p
    · subst hb; rw [upd_same] at e ⊢; exact e
    · rw [upd_ne hb] at e ⊢; exact w.sub b u e
  · obtain ⟨h1, u, h2⟩ := w.own b π e
    have hb : b ≠ p := ne_of_none h2 hp
    exact ⟨by rw [upd_ne hb]; exact h1, u, by rw [upd_ne hb]; exact h2⟩
  · rw [upd_ne (ne_of_none e1 hp)]; exact e2
theorem Rel.ext {c : Ct} {F H F' H' : Hp} {Ω : Nm} {ρ : Env} {σ : L2.St} (r : Rel c F H Ω ρ σ) (e : Ext F H Ω F' H') : Rel c F' H' Ω ρ σ := by
  refine ⟨e.wf, fun i d h1 h2 => ?_, r.len⟩
  obtain ⟨v, q1, q2⟩ := r.sl i d h1 h2
  refine ⟨v, q1, Rv.move e.ef d _ _ v (fun b ρ z => ⟨z, ?_⟩) q2⟩
  obtain ⟨_, o, ho⟩ := r.wf.own b _ z
  rw [ho, e.eh b o ho]

/-! ### what may be read -/
def Vw (c : Ct) (F H : Hp) (d : D) (v : V) : Prop := Fz c F d v ∨ ∃ Θ π, Rv c F H Θ d π v
def VwL (c : Ct) (F H : Hp) (ds : List D) (vs : List V) : Prop := ds.length = vs.length ∧ ∀ (i : Nat) (d : D), ds[i]? = some d → ∃ v, vs[i]? = some v ∧ Vw c F H d v
section
variable {c : Ct} {F H : Hp} {Ω : Nm} {d : D} {v : V}
theorem Vw.fz (h : Vw c F H d v) (ho : own d = false) : Fz c F d v := h.elim id fun ⟨_, _, q⟩ => (Rv_of_own ho).mp q
theorem FzL.vw {ds : List D} {vs : List V} (h : FzL c F ds vs) : VwL c F H ds vs := ⟨h.length, fun _ _ e => let ⟨v, q1, q2⟩ := h.get e; ⟨v, q1, .inl q2⟩⟩
theorem RvL.vw {Θ : Nm} {π : List Nat} {j : Nat} {ds : List D} {vs : List V} (h : RvL c F H Θ ds π j vs) : VwL c F H ds vs := ⟨h.length, fun _ _ e => let ⟨v, q1, q2⟩ := h.get e; ⟨v, q1, .inr ⟨_, _, q2⟩⟩⟩
theorem VwL.fz {ds : List D} {vs : List V} (h : VwL c F H ds vs) (ho : ds.all (fun d => !own d) = true) : FzL c F ds vs := by
  induction ds generalizing vs with
  | nil =>
    cases vs with
    | nil => exact FzL.nil
    | cons a b => cases h.1
  | cons d ds ih =>
    cases vs with
    | nil => cases h.1
    | cons v vs =>
      simp only [List.all_cons, Bool.and_eq_true, Bool.not_eq_true'] at ho
      obtain ⟨v', q1, q2⟩ := h.2 0 d rfl
      cases q1
      exact FzL.cons (q2.fz ho.1) (ih ⟨by simpa using h.1, fun i x e => h.2 (i + 1) x (by simpa using e)⟩ ho.2)
theorem Vw.lst {o : Bool} {ds : List D} (w : Wf F H Ω) (h : Vw c F H (.lst o ds) v) : ∃ a vs, v = .ref a ∧ H a = some (.lst vs) ∧ VwL c F H ds vs := by
  rcases h with h | ⟨Θ, π, h⟩
  · simp only [Fz] at h
    obtain ⟨a, vs, e, h1, h2⟩ := h
    exact ⟨a, vs, e, w.sub _ _ h1, h2.vw⟩
  · cases o with
    | true =>
      simp only [Rv] at h
      obtain ⟨a, vs, e, _, h1, h2⟩ := h
      exact ⟨a, vs, e, h1, h2.vw⟩
    | false =>
      simp only [Rv] at h
      obtain ⟨a, vs, e, h1, h2⟩ := h
      exact ⟨a, vs, e, w.sub _ _ h1, h2.vw⟩
theorem Vw.klst {ds : List D} (w : Wf F H Ω) (h : Vw c F H (.klst ds) v) : ∃ a vs, v = .ref a ∧ SqL c.K H a vs ∧ FzL c F ds vs := by
  have h := h.fz rfl
  simp only [Fz] at h
  obtain ⟨a, vs, e, h1, h2⟩ := h
  exact ⟨a, vs, e, sql_sub w.sub h1, h2⟩
theorem Vw.tup {ds : List D} (w : Wf F H Ω) (h : Vw c F H (.tup ds) v) : ∃ a vs, v = .ref a ∧ F a = some (.tup vs) ∧ SqT c.K H a vs ∧ FzL c F ds vs := by
  have h := h.fz rfl
  simp only [Fz] at h
  obtain ⟨a, vs, e, h1, h2⟩ := h
  exact ⟨a, vs, e, h1, SqT.of (w.sub _ _ h1), h2⟩
theorem Vw.dic {o : Bool} {ks : DKs} {ds : List D} (w : Wf F H Ω) (h : Vw c F H (.dic o ks ds) v) : ∃ a vs, v = .ref a ∧ Rd H a (ks.ho vs) ∧ ks.len = ds.length ∧ VwL c F H ds vs := by
  rcases h with h | ⟨Θ, π, h⟩
  · simp only [Fz] at h
    obtain ⟨a, vs, e, h1, h3, h2⟩ := h
    exact ⟨a, vs, e, rd_sub w.sub h1, h3, h2.vw⟩
  · cases o with
    | true =>
      simp only [Rv] at h
      obtain ⟨a, vs, e, _, h1, h3, h2⟩ := h
      exact ⟨a, vs, e, Rd.of h1, h3, h2.vw⟩
    | false =>
      simp only [Rv] at h
      obtain ⟨a, vs, e, h1, h3, h2⟩ := h
      exact ⟨a, vs, e, rd_sub w.sub h1, h3, h2.vw⟩
theorem Vw.ins {o : Bool} {C : Nat} {ds : List D} (w : Wf F H Ω) (h : Vw c F H (.ins o C ds) v) : ∃ a dx vs, v = .ref a ∧ H a = some (.ins (c.cls C) dx ((c.flds C).zip vs)) ∧ ds.length ≤ (c.flds C).length ∧ VwL c F H ds vs := by
  rcases h with h | ⟨Θ, π, h⟩
  · simp only [Fz] at h
    obtain ⟨a, dx, vs, e, h1, h3, h2⟩ := h
    exact ⟨a, dx, vs, e, w.sub _ _ h1, h3, h2.vw⟩
  · cases o with
    | true =>
      simp only [Rv] at h
      obtain ⟨a, dx, vs, e, _, h1, h3, h2⟩ := h
      exact ⟨a, dx, vs, e, h1, h3, h2.vw⟩
    | false =>
      simp only [Rv] at h
      obtain ⟨a, dx, vs, e, h1, h3, h2⟩ := h
      exact ⟨a, dx, vs, e, w.sub _ _ h1, h3, h2.vw⟩
end

/-! ### results, judgements -/
inductive R (α : Type) where
  | ok (a : α)
  | exc (C : Nat) (w : D)
def onOk {α β : Type} (K : R β → Env → Prop) (f : α → Env → Prop) : R α → Env → Prop
  | .ok a, ρ => f a ρ
  | .exc C w, ρ => K (.exc C w) ρ
@[simp] theorem onOk_ok {α β : Type} (K : R β → Env → Prop) (f : α → Env → Prop) (a : α) (ρ : Env) : onOk K f (.ok a) ρ = f a ρ := rfl
@[simp] theorem onOk_exc {α β : Type} (K : R β → Env → Prop) (f : α → Env → Prop) (C : Nat) (w : D) (ρ : Env) : onOk K f (.exc C w) ρ = K (.exc C w) ρ := rfl
/-- an operand: a value, or the slot where it stands -/
inductive Opd where
  | vl (d : D)
  | sl (i : Nat)
def gt (ρ : Env) (i : Nat) : D := ρ.getD i .und
def see (ρ : Env) : Opd → D
  | .vl d => d
  | .sl i => gt ρ i
def nz : D → Bool
  | .und => false
  | _ => true
theorem nz_ne {d : D} (h : nz d = true) : d ≠ .und := fun e => by subst e; cases h
theorem gt_some {ρ : Env} {i : Nat} (h : nz (gt ρ i) = true) : ρ[i]? = some (gt ρ i) := by
  unfold gt at h ⊢
  rw [List.getD_eq_getElem?_getD] at h ⊢
  cases e : ρ[i]? with
  | none => rw [e] at h; cases h
  | some d => rfl
abbrev DE := Env → (R D → Env → Prop) → Prop
abbrev DO := Env → (R Opd → Env → Prop) → Prop
abbrev DT := Env → (R Bool → Env → Prop) → Prop
abbrev DA := Env → (R (List Opd) → Env → Prop) → Prop
inductive Fl where
  | nx | bk | ct
  | rt (d : D)
  | exc (C : Nat) (w : D)
abbrev DS := Env → (Fl → Env → Prop) → Prop

def OpP (c : Ct) (F : Hp) (σ : L2.St) : Opd → V → Prop
  | .vl d, v => Fz c F d v
  | .sl i, v => σ[i]? = some (some v)
def OpPs (c : Ct) (F : Hp) (σ : L2.St) : List Opd → List V → Prop
  | [], vs => vs = []
  | o :: os, vs => ∃ v r, vs = v :: r ∧ OpP c F σ o v ∧ OpPs c F σ os r
theorem OpP.mono {c : Ct} {F F' : Hp} {σ : L2.St} (e : Sub F F') {o : Opd} {v : V} (h : OpP c F σ o v) : OpP c F' σ o v := by
  cases o with
  | vl d => exact Fz.mono e d v h
  | sl i => exact h
theorem OpPs.mono {c : Ct} {F F' : Hp} {σ : L2.St} (e : Sub F F') : ∀ {os : List Opd} {vs : List V}, OpPs c F σ os vs → OpPs c F' σ os vs
  | [], _, h => h
  | o :: os, vs, ⟨v, r, e1, h1, h2⟩ => ⟨v, r, e1, h1.mono e, OpPs.mono e h2⟩
theorem OpP.vw {c : Ct} {F H : Hp} {Ω : Nm} {ρ : Env} {σ : L2.St} (r : Rel c F H Ω ρ σ) {o : Opd} {v : V} (h : OpP c F σ o v) (hn : nz (see ρ o) = true) : Vw c F H (see ρ o) v := by
  cases o with
  | vl d => exact .inl h
  | sl i =>
    obtain ⟨u, q1, q2⟩ := r.sl i _ (gt_some hn) (nz_ne hn)
    have e : σ[i]? = some (some v) := h
    rw [q1] at e
    cases e
    exact .inr ⟨_, _, q2⟩

/-- what is wanted where an own error flies: its class, its dict with the field what -/
def ExW (c : Ct) (W : WX) (F H : Hp) (Ω : Nm) (σ : L2.St) (K : Nat → D → Env → Prop) : Prop :=
  ∀ C w ρ', K C w ρ' → ∀ cd vw F' H' Ω', Stp F H Ω F' H' Ω' → Rel c F' H' Ω' ρ' σ → F' cd = some (.xd [("what", vw)]) → Fz c F' w vw → W (.ref (c.cls C)) (some cd) σ H'
def exK {α : Type} (K : R α → Env → Prop) : Nat → D → Env → Prop := fun C w ρ => K (.exc C w) ρ
theorem ExW.imp {c : Ct} {W : WX} {F H F1 H1 : Hp} {Ω Ω1 : Nm} {σ : L2.St} {K K1 : Nat → D → Env → Prop} (h : ExW c W F H Ω σ K) (s : Stp F H Ω F1 H1 Ω1) (k : ∀ C w ρ, K1 C w ρ → K C w ρ) : ExW c W F1 H1 Ω1 σ K1 :=
  fun C w ρ' q cd vw F' H' Ω' s' r e f => h C w ρ' (k C w ρ' q) cd vw F' H' Ω' (s.trans s') r e f

def tOfE (c : Ct) (W : WX) (T : DE) : TE := fun σ H Q => ∃ F Ω ρ K, Rel c F H Ω ρ σ ∧ T ρ K ∧
  (∀ d ρ', K (.ok d) ρ' → ∀ v F' H' Ω', Stp F H Ω F' H' Ω' → Rel c F' H' Ω' ρ' σ → Fz c F' d v → Q v H') ∧ ExW c W F H Ω σ (exK K)
def tOfO (c : Ct) (W : WX) (T : DO) : TE := fun σ H Q => ∃ F Ω ρ K, Rel c F H Ω ρ σ ∧ T ρ K ∧
  (∀ o ρ', K (.ok o) ρ' → ∀ v F' H' Ω', Stp F H Ω F' H' Ω' → Rel c F' H' Ω' ρ' σ → OpP c F' σ o v → Q v H') ∧ ExW c W F H Ω σ (exK K)
def tOfT (c : Ct) (W : WX) (T : DT) : TT := fun σ H Q => ∃ F Ω ρ K, Rel c F H Ω ρ σ ∧ T ρ K ∧
  (∀ b ρ', K (.ok b) ρ' → ∀ F' H' Ω', Stp F H Ω F' H' Ω' → Rel c F' H' Ω' ρ' σ → Q b H') ∧ ExW c W F H Ω σ (exK K)
def tOfA (c : Ct) (W : WX) (T : DA) : TA := fun σ H Q => ∃ F Ω ρ K, Rel c F H Ω ρ σ ∧ T ρ K ∧
  (∀ os ρ', K (.ok os) ρ' → ∀ vs F' H' Ω', Stp F H Ω F' H' Ω' → Rel c F' H' Ω' ρ' σ → OpPs c F' σ os vs → Q vs H') ∧ ExW c W F H Ω σ (exK K)
/-- a new value of one's own, in the air -/
structure Air (c : Ct) (F H : Hp) (Ω : Nm) (d : D) (v : V) (Θ : Nm) : Prop where
  rv : Rv c F H Θ d [] v
  nm : ∀ b π, Θ b = some π → F b = none ∧ Ω b = none ∧ ∃ o, H b = some o
/-- of what stood free before, nothing is in it -/
def New (F H : Hp) (Ω Θ : Nm) : Prop := ∀ b o, H b = some o → F b = none → Ω b = none → Θ b = none
def tOfN (c : Ct) (W : WX) (T : DE) : TE := fun σ H Q => ∃ F Ω ρ K, Rel c F H Ω ρ σ ∧ T ρ K ∧
  (∀ d ρ', K (.ok d) ρ' → ∀ v F' H' Ω' Θ, Stp F H Ω F' H' Ω' → Rel c F' H' Ω' ρ' σ → Air c F' H' Ω' d v Θ → New F H Ω Θ → Q v H') ∧ ExW c W F H Ω σ (exK K)
/-- the io slots stay the same objects -/
def Io (io : List Nat) (σ σ' : L2.St) : Prop := σ'.length = σ.length ∧ ∀ i ∈ io, σ'[i]? = σ[i]?
structure Ct2 where
  c : Ct
  io : List Nat
def PostS (x : Ct2) (F H : Hp) (Ω : Nm) (σ : L2.St) (F' H' : Hp) (Ω' : Nm) (ρ' : Env) (σ' : L2.St) : Prop := Stp F H Ω F' H' Ω' ∧ Rel x.c F' H' Ω' ρ' σ' ∧ Io x.io σ σ'
def tOfS (x : Ct2) (W : WX) (T : DS) : TS := fun De σ H => ∃ F Ω ρ K, Rel x.c F H Ω ρ σ ∧ T ρ K ∧
  (∀ ρ', K .nx ρ' → ∀ σ' F' H' Ω', PostS x F H Ω σ F' H' Ω' ρ' σ' → De.nx σ' H') ∧
  (∀ ρ', K .bk ρ' → ∀ σ' F' H' Ω', PostS x F H Ω σ F' H' Ω' ρ' σ' → De.bk σ' H') ∧
  (∀ ρ', K .ct ρ' → ∀ σ' F' H' Ω', PostS x F H Ω σ F' H' Ω' ρ' σ' → De.ct σ' H') ∧
  (∀ d ρ', K (.rt d) ρ' → ∀ σ' v F' H' Ω' Θ, PostS x F H Ω σ F' H' Ω' ρ' σ' → Air x.c F' H' Ω' d v Θ → New F H Ω Θ → De.rt v H') ∧
  (∀ C w ρ', K (.exc C w) ρ' → ∀ cd vw σ' F' H' Ω', PostS x F H Ω σ F' H' Ω' ρ' σ' → F' cd = some (.xd [("what", vw)]) → Fz x.c F' w vw → W (.ref (x.c.cls C)) (some cd) σ' H')
theorem Io.refl (io : List Nat) (σ : L2.St) : Io io σ σ := ⟨rfl, fun _ _ => rfl⟩
theorem Io.trans {io : List Nat} {a b d : L2.St} (h : Io io a b) (g : Io io b d) : Io io a d := ⟨g.1.trans h.1, fun i hi => (g.2 i hi).trans (h.2 i hi)⟩
theorem PostS.trans {x : Ct2} {F H F1 H1 F2 H2 : Hp} {Ω Ω1 Ω2 : Nm} {σ σ1 σ2 : L2.St} {ρ1 ρ2 : Env} (a : PostS x F H Ω σ F1 H1 Ω1 ρ1 σ1) (b : PostS x F1 H1 Ω1 σ1 F2 H2 Ω2 ρ2 σ2) : PostS x F H Ω σ F2 H2 Ω2 ρ2 σ2 :=
  ⟨a.1.trans b.1, b.2.1, a.2.2.trans b.2.2⟩
theorem New.step {F H F1 H1 : Hp} {Ω Ω1 Θ : Nm} (s : Stp F H Ω F1 H1 Ω1) (n : New F1 H1 Ω1 Θ) : New F H Ω Θ := fun b o h1 h2 h3 => let ⟨q1, q2, q3⟩ := s.ou b o h1 h2 h3; n b o q1 q2 q3
theorem Air.fz {c : Ct} {F H : Hp} {Ω : Nm} {d : D} {v : V} (h : Fz c F d v) (ho : own d = false) : Air c F H Ω d v (fun _ => none) := ⟨(Rv_of_own ho).mpr h, fun _ _ z => nomatch z⟩
theorem New.none {F H : Hp} {Ω : Nm} : New F H Ω (fun _ => none) := fun _ _ _ _ _ => rfl

theorem _root_.L2.PE.imp {X : Cx} {e : Expr} {t t' : TE} (h : PE X e t) (k : ∀ σ H Q, t' σ H Q → t σ H Q) : PE X e t' := ⟨fun pins s σ H Q I q => h.run pins s σ H Q I (k σ H Q q)⟩
theorem _root_.L2.PT.imp {X : Cx} {e : Expr} {t t' : TT} (h : PT X e t) (k : ∀ σ H Q, t' σ H Q → t σ H Q) : PT X e t' := ⟨fun pins s σ H Q I q => h.run pins s σ H Q I (k σ H Q q)⟩
theorem _root_.L2.PW.imp {X : Cx} {e : Expr} {t t' : TT} (h : PW X e t) (k : ∀ σ H Q, t' σ H Q → t σ H Q) : PW X e t' := ⟨fun wh pins s σ H Q I q => h.run wh pins s σ H Q I (k σ H Q q)⟩
theorem _root_.L2.PA.imp {X : Cx} {e : List Expr} {t t' : TA} (h : PA X e t) (k : ∀ σ H Q, t' σ H Q → t σ H Q) : PA X e t' := ⟨fun pos pins s σ H Q I q => h.run pos pins s σ H Q I (k σ H Q q)⟩
theorem _root_.L2.PS.imp {X : Cx} {e : Stmt} {t t' : TS} (h : PS X e t) (k : ∀ De σ H, t' De σ H → t De σ H) : PS X e t' := ⟨fun pins s σ H De I q => h.run pins s σ H De I (k De σ H q)⟩
theorem _root_.L2.PSs.imp {X : Cx} {e : List Stmt} {t t' : TS} (h : PSs X e t) (k : ∀ De σ H, t' De σ H → t De σ H) : PSs X e t' := ⟨fun pins s σ H De I q => h.run pins s σ H De I (k De σ H q)⟩
end Vi
/-! Vi3: rules for expressions, tests, arguments. -/
namespace Vi
open PySem L2

/-! ### a slot's owned value is frozen -/
def pre (i : Nat) : Option (List Nat) → Bool
  | some (j :: _) => j == i
  | _ => false
def frzF (i : Nat) (Ω : Nm) (F H : Hp) : Hp := fun b => if pre i (Ω b) = true then H b else F b
def drp (i : Nat) (Ω : Nm) : Nm := fun b => if pre i (Ω b) = true then none else Ω b
theorem pre_of {i : Nat} {ρ : List Nat} : pre i (some ([i] ++ ρ)) = true := by simp [pre]
theorem pre_ne {i j : Nat} {ρ : List Nat} (h : j ≠ i) : pre i (some ([j] ++ ρ)) = false := by simp [pre, h]
section
variable {c : Ct} {F H : Hp} {Ω : Nm} {ρ : Env} {σ : L2.St} {i : Nat}
theorem frz_stp (w : Wf F H Ω) : Stp F H Ω (frzF i Ω F H) H (drp i Ω) := by
  refine ⟨fun b o e => ?_, fun b o h1 h2 h3 => ⟨h1, ?_, ?_⟩⟩
  · unfold frzF
    split
    · rename_i h
      cases q : Ω b with
      | none => rw [q] at h; cases h
      | some π => have z := (w.own b π q).1; rw [e] at z; cases z
    · exact e
  · unfold frzF
    rw [h3]
    exact h2
  · unfold drp
    rw [h3]
    rfl
theorem frz_wf (w : Wf F H Ω) : Wf (frzF i Ω F H) H (drp i Ω) := by
  refine ⟨fun b o e => ?_, fun b π e => ?_⟩
  · unfold frzF at e
    split at e
    · exact e
    · exact w.sub b o e
  · unfold drp at e
    unfold frzF
    split at e
    · cases e
    · rename_i h
      rw [if_neg h]
      exact w.own b π e
theorem frz_slot (r : Rel c F H Ω ρ σ) (hn : nz (gt ρ i) = true) : Rel c (frzF i Ω F H) H (drp i Ω) (ρ.set i (fr (gt ρ i))) σ := by
  have hs := gt_some hn
  have hi : i < ρ.length := (List.getElem?_eq_some_iff.mp hs).1
  refine ⟨frz_wf r.wf, fun j d h1 h2 => ?_, by rw [List.length_set]; exact r.len⟩
  by_cases hj : j = i
  · subst hj
    rw [List.getElem?_set_self hi] at h1
    cases h1
    obtain ⟨v, q1, q2⟩ := r.sl j _ hs (nz_ne hn)
    refine ⟨v, q1, (Rv_of_own (own_fr _)).mpr ((Fz_fr _ _ _ _).mpr ?_)⟩
    refine Rv.frz (frz_stp (i := j) r.wf).ef _ _ v (fun b π o z q => ?_) q2
    unfold frzF
    rw [z, if_pos pre_of]
    exact q
  · rw [List.getElem?_set_ne (Ne.symm hj)] at h1
    obtain ⟨v, q1, q2⟩ := r.sl j d h1 h2
    refine ⟨v, q1, Rv.move (frz_stp (i := i) r.wf).ef d _ _ v (fun b π z => ⟨?_, rfl⟩) q2⟩
    unfold drp
    rw [z, if_neg (by rw [pre_ne hj]; exact Bool.false_ne_true)]
end
def frs (ρ : Env) (i : Nat) : Env := if own (gt ρ i) = true then ρ.set i (fr (gt ρ i)) else ρ

/-! ### names, constants -/
def dVar (i : Nat) : DE := fun ρ K => nz (gt ρ i) = true ∧ K (.ok (fr (gt ρ i))) (frs ρ i)
def dPk (i : Nat) : DO := fun ρ K => nz (gt ρ i) = true ∧ K (.ok (.sl i)) ρ
def dC (d : D) : DE := fun ρ K => K (.ok d) ρ
def dO (T : DE) : DO := fun ρ K => T ρ (onOk K fun d ρ' => K (.ok (.vl d)) ρ')
section
variable {X : Cx} {c : Ct} {W : WX}
theorem E_var (i : Nat) {x : Str} {pos : Pos} (hN : X.N[i]? = some x := by rfl) (hv : Vis X.env.scope x := by first | exact Or.inl rfl | exact Or.inr (Or.inl rfl) | exact Or.inr (Or.inr rfl)) (hd : (x == ("__debug__" : Str)) = false := by decide)
    (hcd : (x == ("__classdict__" : Str)) = false := by decide) : PE X (.Name x pos) (tOfE c W (dVar i)) := by
  refine (pe_var hN hv hd hcd).imp fun σ H Q h => ?_
  obtain ⟨F, Ω, ρ, K, r, ⟨hn, hk⟩, k, _⟩ := h
  obtain ⟨v, q1, q2⟩ := r.sl i _ (gt_some hn) (nz_ne hn)
  refine ⟨v, q1, ?_⟩
  unfold frs at hk
  split at hk
  · refine k _ _ hk v _ H _ (frz_stp (i := i) r.wf) (frz_slot r hn) ?_
    rw [Fz_fr]
    refine Rv.frz (frz_stp (i := i) r.wf).ef _ _ v (fun b π o z q => ?_) q2
    unfold frzF
    rw [z, if_pos pre_of]
    exact q
  · rename_i ho
    have ho : own (gt ρ i) = false := by simpa using ho
    refine k _ _ hk v F H Ω (Stp.refl _ _ _) r ?_
    rw [Fz_fr]
    exact (Rv_of_own ho).mp q2
theorem O_pk (i : Nat) {x : Str} {pos : Pos} (hN : X.N[i]? = some x := by rfl) (hv : Vis X.env.scope x := by first | exact Or.inl rfl | exact Or.inr (Or.inl rfl) | exact Or.inr (Or.inr rfl)) (hd : (x == ("__debug__" : Str)) = false := by decide)
    (hcd : (x == ("__classdict__" : Str)) = false := by decide) : PE X (.Name x pos) (tOfO c W (dPk i)) := by
  refine (pe_var hN hv hd hcd).imp fun σ H Q h => ?_
  obtain ⟨F, Ω, ρ, K, r, ⟨hn, hk⟩, k, _⟩ := h
  obtain ⟨v, q1, q2⟩ := r.sl i _ (gt_some hn) (nz_ne hn)
  exact ⟨v, q1, k _ _ hk v F H Ω (Stp.refl _ _ _) r q1⟩
theorem O_of {e : Expr} {T : DE} (h : PE X e (tOfE c W T)) : PE X e (tOfO c W (dO T)) := by
  refine h.imp fun σ H Q h => ?_
  obtain ⟨F, Ω, ρ, K, r, ht, k, kx⟩ := h
  exact ⟨F, Ω, ρ, _, r, ht, fun d ρ' q v F' H' Ω' s r' f => k _ _ q v F' H' Ω' s r' f, kx.imp (Stp.refl _ _ _) fun _ _ _ q => q⟩
theorem E_const {e : Expr} {d : D} {v : V} (h : PE X e (tC v)) (hf : ∀ F, Fz c F d v) : PE X e (tOfE c W (dC d)) := by
  refine h.imp fun σ H Q h => ?_
  obtain ⟨F, Ω, ρ, K, r, ht, k, _⟩ := h
  exact k _ _ ht v F H Ω (Stp.refl _ _ _) r (hf F)
theorem E_int {i : Int} {j pos} : PE X (.Constant (.int i) j pos) (tOfE c W (dC (.int i))) := E_const pe_int fun _ => by simp only [Fz]
theorem E_bl {b : Bool} {j pos} : PE X (.Constant (.bool b) j pos) (tOfE c W (dC (.bl b))) := E_const pe_bl fun _ => by simp only [Fz]
theorem E_non {j pos} : PE X (.Constant .none j pos) (tOfE c W (dC .non)) := E_const pe_non fun _ => by simp only [Fz]
theorem E_str {x : Str} {l : List Nat} {j pos} (hx : x.cps.toList = l) : PE X (.Constant (.str x) j pos) (tOfE c W (dC (.str l))) := E_const pe_str fun _ => by
  simp only [Fz]
  subst hx
  rfl
/-- a module's constant, by its value in the written part -/
theorem E_glob {x : Str} {d : D} {v : V} {u : Value} {pos : Pos} (hg : Gl X x) (hm : X.mg x = some u) (r : RelV v u) (hf : ∀ F, Fz c F d v) (hd : (x == ("__debug__" : Str)) = false := by decide) : PE X (.Name x pos) (tOfE c W (dC d)) :=
  E_const (pe_glob hg hm r hd) hf

/-! ### two operands -/
structure B2 (c : Ct) (r : R2) (o : D → D → (D → Prop) → Prop) : Prop where
  run : ∀ F H Ω, Wf F H Ω → ∀ d e v w, Vw c F H d v → Vw c F H e w → ∀ K : D → Prop, o d e K → ∀ Q : VK, (∀ z, K z → ∀ u F' H', Ext F H Ω F' H' → Fz c F' z u → Q u H') → r v w H Q
def d2 (o : D → D → (D → Prop) → Prop) (A B : DO) : DE := fun ρ K => A ρ (onOk K fun x ρ1 => B ρ1 (onOk K fun y ρ2 => nz (see ρ2 x) = true ∧ nz (see ρ2 y) = true ∧ o (see ρ2 x) (see ρ2 y) fun z => K (.ok z) ρ2))
theorem run2 {r : R2} {o : D → D → (D → Prop) → Prop} {A B : DO} (b : B2 c r o) {σ : L2.St} {H : Hp} {Q : VK} (h : tOfE c W (d2 o A B) σ H Q) : tOp r (tOfO c W A) (tOfO c W B) σ H Q := by
  obtain ⟨F, Ω, ρ, K, r0, ht, k, kx⟩ := h
  refine ⟨F, Ω, ρ, _, r0, ht, fun x ρ1 q1 v F1 H1 Ω1 s1 r1 f1 => ?_, kx.imp (Stp.refl _ _ _) fun _ _ _ q => q⟩
  refine ⟨F1, Ω1, ρ1, _, r1, q1, fun y ρ2 q2 w F2 H2 Ω2 s2 r2 f2 => ?_, kx.imp s1 fun _ _ _ q => q⟩
  obtain ⟨n1, n2, q3⟩ := q2
  refine b.run F2 H2 Ω2 r2.wf _ _ v w ((f1.mono s2.ef).vw r2 n1) (f2.vw r2 n2) _ q3 Q fun z kz u F3 H3 e3 f3 => ?_
  exact k z ρ2 kz u F3 H3 Ω2 ((s1.trans s2).trans e3.stp) (r2.ext e3) f3
theorem E_op {a b : Expr} {op : Operator} {pos : Pos} {r : R2} {o : D → D → (D → Prop) → Prop} {A B : DO} (ho : OpR X (binaryOp op) r) (hb : B2 c r o) (h1 : PE X a (tOfO c W A)) (h2 : PE X b (tOfO c W B)) : PE X (.BinOp a op b pos) (tOfE c W (d2 o A B)) :=
  (pe_op ho h1 h2).imp fun _ _ _ h => run2 hb h
theorem E_cmp {a b : Expr} {op : CmpOp} {pos : Pos} {r : R2} {o : D → D → (D → Prop) → Prop} {A B : DO} (ho : OpR X (compareOp op) r) (hb : B2 c r o) (h1 : PE X a (tOfO c W A)) (h2 : PE X b (tOfO c W B)) (hm : behindInMarks op b = false) : PE X (.Compare a [op] [b] pos) (tOfE c W (d2 o A B)) :=
  (pe_cmpR ho h1 h2 hm).imp fun _ _ _ h => run2 hb h
theorem E_ix {a b : Expr} {pos : Pos} {r : R2} {o : D → D → (D → Prop) → Prop} {A B : DO} (ho : IxR X r) (hb : B2 c r o) (h1 : PE X a (tOfO c W A)) (h2 : PE X b (tOfO c W B)) (hs : PlainIx b) : PE X (.Subscript a b pos) (tOfE c W (d2 o A B)) :=
  (pe_ix ho h1 h2 hs).imp fun _ _ _ h => run2 hb h
theorem B2.imp {r : R2} {o o' : D → D → (D → Prop) → Prop} (b : B2 c r o) (h : ∀ d e K, o' d e K → o d e K) : B2 c r o' := ⟨fun F H Ω w d e v u h1 h2 K q => b.run F H Ω w d e v u h1 h2 K (h _ _ _ q)⟩
theorem B2.or {r r' : R2} {o o' : D → D → (D → Prop) → Prop} (b : B2 c r o) (b' : B2 c r' o') : B2 c (fun x y H Q => r x y H Q ∨ r' x y H Q) (fun d e K => o d e K ∨ o' d e K) :=
  ⟨fun F H Ω w d e v u h1 h2 K q Q k => q.elim (fun q => .inl (b.run F H Ω w d e v u h1 h2 K q Q k)) fun q => .inr (b'.run F H Ω w d e v u h1 h2 K q Q k)⟩

/-! ### tests -/
def dB (T : DE) : DT := fun ρ K => T ρ (onOk K fun d ρ' => match d with | .bl b => K (.ok b) ρ' | _ => False)
theorem tB_of {T : DE} {σ : L2.St} {H : Hp} {Q : Bool → Hp → Prop} (h : tOfT c W (dB T) σ H Q) : tOfE c W T σ H fun x H1 => ∃ k, x = .bl k ∧ Q k H1 := by
  obtain ⟨F, Ω, ρ, K, r0, ht, k, kx⟩ := h
  refine ⟨F, Ω, ρ, _, r0, ht, fun d ρ1 q v F1 H1 Ω1 s1 r1 f1 => ?_, kx.imp (Stp.refl _ _ _) fun _ _ _ q => q⟩
  cases d with
  | bl b =>
    simp only [Fz] at f1
    exact ⟨b, f1, k b ρ1 q F1 H1 Ω1 s1 r1⟩
  | _ => exact q.elim
theorem T_val {e : Expr} {T : DE} (h : PE X e (tOfE c W T)) (he : ∀ whole, isTrue e X.env whole = (do let v ← whole; standAt e.pos; holding [v] (truthy v)) := by intro _; rfl) : PT X e (tOfT c W (dB T)) :=
  (pt_val h he).imp fun _ _ _ h => tB_of h
theorem T_cmp {a b : Expr} {op : CmpOp} {pos : Pos} {r : R2} {o : D → D → (D → Prop) → Prop} {A B : DO} (ho : OpR X (compareOp op) r) (hb : B2 c r o) (h1 : PE X a (tOfO c W A)) (h2 : PE X b (tOfO c W B)) (hm : behindInMarks op b = false) : PT X (.Compare a [op] [b] pos) (tOfT c W (dB (d2 o A B))) :=
  (pt_cmpR ho h1 h2 hm).imp fun σ H Q h => by
    obtain ⟨F, Ω, ρ, K, r0, ht, k, kx⟩ := tB_of h
    exact run2 hb ⟨F, Ω, ρ, K, r0, ht, k, kx⟩
def dNotT (T : DT) : DT := fun ρ K => T ρ (onOk K fun b ρ' => K (.ok (!b)) ρ')
theorem T_not {e : Expr} {pos : Pos} {T : DT} (h : PT X e (tOfT c W T)) : PT X (.UnaryOp .Not e pos) (tOfT c W (dNotT T)) := by
  refine (pt_not h).imp fun σ H Q h => ?_
  obtain ⟨F, Ω, ρ, K, r0, ht, k, kx⟩ := h
  exact ⟨F, Ω, ρ, _, r0, ht, fun b ρ1 q F1 H1 Ω1 s1 r1 => k _ ρ1 q F1 H1 Ω1 s1 r1, kx.imp (Stp.refl _ _ _) fun _ _ _ q => q⟩
def dAndT (T U : DT) : DT := fun ρ K => T ρ (onOk K fun b ρ' => if b = true then U ρ' K else K (.ok false) ρ')
def dOrT (T U : DT) : DT := fun ρ K => T ρ (onOk K fun b ρ' => if b = true then K (.ok true) ρ' else U ρ' K)
theorem W_and1 {a : Expr} {pos : Pos} {T : DT} (h : PT X a (tOfT c W T)) : PW X (.BoolOp .And [a] pos) (tOfT c W T) := pw_and1 h
theorem W_or1 {a : Expr} {pos : Pos} {T : DT} (h : PT X a (tOfT c W T)) : PW X (.BoolOp .Or [a] pos) (tOfT c W T) := pw_or1 h
theorem W_and {a b : Expr} {rest : List Expr} {pos : Pos} {T U : DT} (h : PT X a (tOfT c W T)) (g : PW X (.BoolOp .And (b :: rest) pos) (tOfT c W U)) : PW X (.BoolOp .And (a :: b :: rest) pos) (tOfT c W (dAndT T U)) := by
  refine (pw_and h g).imp fun σ H Q h => ?_
  obtain ⟨F, Ω, ρ, K, r0, ht, k, kx⟩ := h
  refine ⟨F, Ω, ρ, _, r0, ht, fun b ρ1 q F1 H1 Ω1 s1 r1 => ?_, kx.imp (Stp.refl _ _ _) fun _ _ _ q => q⟩
  cases b with
  | true =>
    rw [if_pos rfl]
    exact ⟨F1, Ω1, ρ1, K, r1, by simpa using q, fun b ρ2 q F2 H2 Ω2 s2 r2 => k b ρ2 q F2 H2 Ω2 (s1.trans s2) r2, kx.imp s1 fun _ _ _ q => q⟩
  | false =>
    rw [if_neg Bool.false_ne_true]
    exact k _ ρ1 (by simpa using q) F1 H1 Ω1 s1 r1
theorem W_or {a b : Expr} {rest : List Expr} {pos : Pos} {T U : DT} (h : PT X a (tOfT c W T)) (g : PW X (.BoolOp .Or (b :: rest) pos) (tOfT c W U)) : PW X (.BoolOp .Or (a :: b :: rest) pos) (tOfT c W (dOrT T U)) := by
  refine (pw_or h g).imp fun σ H Q h => ?_
  obtain ⟨F, Ω, ρ, K, r0, ht, k, kx⟩ := h
  refine ⟨F, Ω, ρ, _, r0, ht, fun b ρ1 q F1 H1 Ω1 s1 r1 => ?_, kx.imp (Stp.refl _ _ _) fun _ _ _ q => q⟩
  cases b with
  | false =>
    rw [if_neg Bool.false_ne_true]
    exact ⟨F1, Ω1, ρ1, K, r1, by simpa using q, fun b ρ2 q F2 H2 Ω2 s2 r2 => k b ρ2 q F2 H2 Ω2 (s1.trans s2) r2, kx.imp s1 fun _ _ _ q => q⟩
  | true =>
    rw [if_pos rfl]
    exact k _ ρ1 (by simpa using q) F1 H1 Ω1 s1 r1
/-! .. as values -/
def dBV (f : DE) (k : Bool → Env → (R D → Env → Prop) → Prop) : DE := fun ρ K => f ρ (onOk K fun d ρ' => match d with | .bl b => k b ρ' K | _ => False)
def dAndV (A B : DE) : DE := dBV A fun b ρ' K => if b = true then B ρ' K else K (.ok (.bl false)) ρ'
def dOrV (A B : DE) : DE := dBV A fun b ρ' K => if b = true then K (.ok (.bl true)) ρ' else B ρ' K
def dNotV (A : DE) : DE := dBV A fun b ρ' K => K (.ok (.bl (!b))) ρ'
theorem bv_of {f : DE} {k : Bool → Env → (R D → Env → Prop) → Prop} {σ : L2.St} {H : Hp} {Q : VK} {g : Bool → Hp → Prop} (h : tOfE c W (dBV f k) σ H Q)
    (hg : ∀ b H', tOfE c W (k b) σ H' Q → g b H') : tOfE c W f σ H fun x H1 => ∃ b, x = .bl b ∧ g b H1 := by
  obtain ⟨F, Ω, ρ, K, r0, ht, k', kx⟩ := h
  refine ⟨F, Ω, ρ, _, r0, ht, fun d ρ1 q v F1 H1 Ω1 s1 r1 f1 => ?_, kx.imp (Stp.refl _ _ _) fun _ _ _ q => q⟩
  cases d with
  | bl b =>
    simp only [Fz] at f1
    refine ⟨b, f1, hg b H1 ⟨F1, Ω1, ρ1, K, r1, q, fun d ρ2 q v F2 H2 Ω2 s2 r2 => k' d ρ2 q v F2 H2 Ω2 (s1.trans s2) r2, kx.imp s1 fun _ _ _ q => q⟩⟩
  | _ => exact q.elim
theorem tOfE_ok {d : D} {v : V} {σ : L2.St} {H : Hp} {Q : VK} (h : tOfE c W (fun ρ K => K (.ok d) ρ) σ H Q) (hf : ∀ F, Fz c F d v) : Q v H := by
  obtain ⟨F, Ω, ρ, K, r0, ht, k', kx⟩ := h
  exact k' d ρ ht v F H Ω (Stp.refl _ _ _) r0 (hf F)
theorem E_one {op} {a : Expr} {pos : Pos} {A : DE} (h : PE X a (tOfE c W A)) : PE X (.BoolOp op [a] pos) (tOfE c W A) := pe_one h
theorem E_and {a b : Expr} {rest : List Expr} {pos : Pos} {A B : DE} (h : PE X a (tOfE c W A)) (g : PE X (.BoolOp .And (b :: rest) pos) (tOfE c W B)) : PE X (.BoolOp .And (a :: b :: rest) pos) (tOfE c W (dAndV A B)) :=
  (pe_and h g).imp fun σ H Q h => bv_of h fun b H' z => by
    cases b with
    | true => rw [if_pos rfl]; simpa using z
    | false => rw [if_neg Bool.false_ne_true]; exact tOfE_ok (d := .bl false) (by simpa using z) fun _ => by simp only [Fz]
theorem E_or {a b : Expr} {rest : List Expr} {pos : Pos} {A B : DE} (h : PE X a (tOfE c W A)) (g : PE X (.BoolOp .Or (b :: rest) pos) (tOfE c W B)) : PE X (.BoolOp .Or (a :: b :: rest) pos) (tOfE c W (dOrV A B)) :=
  (pe_or h g).imp fun σ H Q h => bv_of h fun b H' z => by
    cases b with
    | false => rw [if_neg Bool.false_ne_true]; simpa using z
    | true => rw [if_pos rfl]; exact tOfE_ok (d := .bl true) (by simpa using z) fun _ => by simp only [Fz]
theorem E_not {a : Expr} {pos : Pos} {A : DE} (h : PE X a (tOfE c W A)) : PE X (.UnaryOp .Not a pos) (tOfE c W (dNotV A)) :=
  (pe_not h).imp fun σ H Q h => bv_of h fun b H' z => tOfE_ok (d := .bl (!b)) z fun _ => by simp only [Fz]
def dIf (T : DT) (A B : DE) : DE := fun ρ K => T ρ (onOk K fun b ρ' => if b = true then A ρ' K else B ρ' K)
theorem E_if {t a b : Expr} {pos : Pos} {T : DT} {A B : DE} (ht : PT X t (tOfT c W T)) (ha : PE X a (tOfE c W A)) (hb : PE X b (tOfE c W B)) : PE X (.IfExp t a b pos) (tOfE c W (dIf T A B)) := by
  refine (pe_ifExp ht ha hb).imp fun σ H Q h => ?_
  obtain ⟨F, Ω, ρ, K, r0, ht, k, kx⟩ := h
  refine ⟨F, Ω, ρ, _, r0, ht, fun b ρ1 q F1 H1 Ω1 s1 r1 => ?_, kx.imp (Stp.refl _ _ _) fun _ _ _ q => q⟩
  cases b with
  | true =>
    rw [if_pos rfl]
    exact ⟨F1, Ω1, ρ1, K, r1, by simpa using q, fun d ρ2 q v F2 H2 Ω2 s2 r2 => k d ρ2 q v F2 H2 Ω2 (s1.trans s2) r2, kx.imp s1 fun _ _ _ q => q⟩
  | false =>
    rw [if_neg Bool.false_ne_true]
    exact ⟨F1, Ω1, ρ1, K, r1, by simpa using q, fun d ρ2 q v F2 H2 Ω2 s2 r2 => k d ρ2 q v F2 H2 Ω2 (s1.trans s2) r2, kx.imp s1 fun _ _ _ q => q⟩

/-! ### arguments: operands; values -/
def dNil : DA := fun ρ K => K (.ok []) ρ
def dCons (O : DO) (A : DA) : DA := fun ρ K => O ρ (onOk K fun o ρ1 => A ρ1 (onOk K fun os ρ2 => K (.ok (o :: os)) ρ2))
theorem A_nil : PA X [] (tOfA c W dNil) := (pa_nil).imp fun σ H Q h => by
  obtain ⟨F, Ω, ρ, K, r0, ht, k, kx⟩ := h
  exact k [] ρ ht [] F H Ω (Stp.refl _ _ _) r0 rfl
theorem A_cons {e : Expr} {es : List Expr} {O : DO} {A : DA} (h : PE X e (tOfO c W O)) (g : PA X es (tOfA c W A)) (hs : starEach (e :: es) X.env = (false, eval e X.env) :: starEach es X.env := by rfl) : PA X (e :: es) (tOfA c W (dCons O A)) := by
  refine (pa_cons h g hs).imp fun σ H Q h => ?_
  obtain ⟨F, Ω, ρ, K, r0, ht, k, kx⟩ := h
  refine ⟨F, Ω, ρ, _, r0, ht, fun x ρ1 q1 v F1 H1 Ω1 s1 r1 f1 => ?_, kx.imp (Stp.refl _ _ _) fun _ _ _ q => q⟩
  refine ⟨F1, Ω1, ρ1, _, r1, q1, fun y ρ2 q2 w F2 H2 Ω2 s2 r2 f2 => ?_, kx.imp s1 fun _ _ _ q => q⟩
  exact k _ ρ2 q2 (v :: w) F2 H2 Ω2 (s1.trans s2) r2 ⟨v, w, rfl, f1.mono s2.ef, f2⟩
abbrev DL := Env → (R (List D) → Env → Prop) → Prop
def tOfL (c : Ct) (W : WX) (T : DL) : TA := fun σ H Q => ∃ F Ω ρ K, Rel c F H Ω ρ σ ∧ T ρ K ∧
  (∀ ds ρ', K (.ok ds) ρ' → ∀ vs F' H' Ω', Stp F H Ω F' H' Ω' → Rel c F' H' Ω' ρ' σ → FzL c F' ds vs → Q vs H') ∧ ExW c W F H Ω σ (exK K)
def dNilL : DL := fun ρ K => K (.ok []) ρ
def dConsL (O : DE) (A : DL) : DL := fun ρ K => O ρ (onOk K fun o ρ1 => A ρ1 (onOk K fun os ρ2 => K (.ok (o :: os)) ρ2))
theorem L_nil : PA X [] (tOfL c W dNilL) := (pa_nil).imp fun σ H Q h => by
  obtain ⟨F, Ω, ρ, K, r0, ht, k, kx⟩ := h
  exact k [] ρ ht [] F H Ω (Stp.refl _ _ _) r0 FzL.nil
theorem L_cons {e : Expr} {es : List Expr} {O : DE} {A : DL} (h : PE X e (tOfE c W O)) (g : PA X es (tOfL c W A)) (hs : starEach (e :: es) X.env = (false, eval e X.env) :: starEach es X.env := by rfl) : PA X (e :: es) (tOfL c W (dConsL O A)) := by
  refine (pa_cons h g hs).imp fun σ H Q h => ?_
  obtain ⟨F, Ω, ρ, K, r0, ht, k, kx⟩ := h
  refine ⟨F, Ω, ρ, _, r0, ht, fun x ρ1 q1 v F1 H1 Ω1 s1 r1 f1 => ?_, kx.imp (Stp.refl _ _ _) fun _ _ _ q => q⟩
  refine ⟨F1, Ω1, ρ1, _, r1, q1, fun y ρ2 q2 w F2 H2 Ω2 s2 r2 f2 => ?_, kx.imp s1 fun _ _ _ q => q⟩
  exact k _ ρ2 q2 (v :: w) F2 H2 Ω2 (s1.trans s2) r2 (FzL.cons (Fz.mono s2.ef _ _ f1) f2)
theorem sz_ok {n : Nat} (h : n ≤ 16000000) : n ≤ sizeLine := Nat.le_trans h (by decide)
def dTup (L : DL) : DE := fun ρ K => L ρ (onOk K fun ds ρ' => ds.length ≤ 16000000 ∧ K (.ok (.tup ds)) ρ')
def dLst (L : DL) : DE := fun ρ K => L ρ (onOk K fun ds ρ' => ds.length ≤ 16000000 ∧ K (.ok (.lst false ds)) ρ')
theorem E_tup {es : List Expr} {x1} {pos : Pos} {L : DL} (h : PA X es (tOfL c W L)) : PE X (.Tuple es x1 pos) (tOfE c W (dTup L)) := by
  refine (pe_tup h).imp fun σ H Q h => ?_
  obtain ⟨F, Ω, ρ, K, r0, ht, k, kx⟩ := h
  refine ⟨F, Ω, ρ, _, r0, ht, fun ds ρ1 q1 vs F1 H1 Ω1 s1 r1 f1 => ⟨sz_ok (by rw [← f1.length]; exact q1.1), fun p hp => ?_⟩, kx.imp (Stp.refl _ _ _) fun _ _ _ q => q⟩
  have e := Ext.new (o := .tup vs) r1.wf hp
  refine k _ ρ1 q1.2 (.ref p) _ _ Ω1 (s1.trans e.stp) (r1.ext e) ?_
  simp only [Fz]
  exact ⟨p, vs, rfl, upd_same, FzL.mono e.ef _ _ f1⟩
theorem E_lst {es : List Expr} {pos : Pos} {L : DL} (h : PA X es (tOfL c W L)) : PE X (.List es pos) (tOfE c W (dLst L)) := by
  refine (pe_lst h).imp fun σ H Q h => ?_
  obtain ⟨F, Ω, ρ, K, r0, ht, k, kx⟩ := h
  refine ⟨F, Ω, ρ, _, r0, ht, fun ds ρ1 q1 vs F1 H1 Ω1 s1 r1 f1 => ⟨sz_ok (by rw [← f1.length]; exact q1.1), fun p hp => ?_⟩, kx.imp (Stp.refl _ _ _) fun _ _ _ q => q⟩
  have e := Ext.new (o := .lst vs) r1.wf hp
  refine k _ ρ1 q1.2 (.ref p) _ _ Ω1 (s1.trans e.stp) (r1.ext e) ?_
  simp only [Fz]
  exact ⟨p, vs, rfl, upd_same, FzL.mono e.ef _ _ f1⟩

/-! ### built-ins by name: operands in, a value out -/
structure BA (c : Ct) (r : List V → Hp → VK → Prop) (o : List D → (D → Prop) → Prop) : Prop where
  run : ∀ F H Ω, Wf F H Ω → ∀ ds vs, ds.length = vs.length → (∀ (i : Nat) d v, ds[i]? = some d → vs[i]? = some v → Vw c F H d v) → ∀ K : D → Prop, o ds K → ∀ Q : VK, (∀ z, K z → ∀ u F' H', Ext F H Ω F' H' → Fz c F' z u → Q u H') → r vs H Q
def dBI (o : List D → (D → Prop) → Prop) (A : DA) : DE := fun ρ K => A ρ (onOk K fun os ρ' => (os.all fun x => nz (see ρ' x)) = true ∧ o (os.map (see ρ')) fun z => K (.ok z) ρ')
theorem OpPs.vws {F H : Hp} {Ω : Nm} {ρ : Env} {σ : L2.St} (r : Rel c F H Ω ρ σ) : ∀ {os : List Opd} {vs : List V}, OpPs c F σ os vs → (os.all fun x => nz (see ρ x)) = true →
    (os.map (see ρ)).length = vs.length ∧ ∀ (i : Nat) d v, (os.map (see ρ))[i]? = some d → vs[i]? = some v → Vw c F H d v
  | [], vs, h, _ => by
    have e : vs = [] := h
    subst e
    exact ⟨rfl, fun i d v q => by simp at q⟩
  | o :: os, vs, ⟨v, r', e, h1, h2⟩, hn => by
    subst e
    simp only [List.all_cons, Bool.and_eq_true] at hn
    obtain ⟨l, g⟩ := OpPs.vws r h2 hn.2
    refine ⟨by simp only [List.map_cons, List.length_cons, l], fun i d w q1 q2 => ?_⟩
    cases i with
    | zero =>
      simp at q1 q2
      subst q1; subst q2
      exact h1.vw r hn.1
    | succ i => exact g i d w (by simpa using q1) (by simpa using q2)
theorem runA {r : List V → Hp → VK → Prop} {o : List D → (D → Prop) → Prop} {A : DA} (b : BA c r o) {σ : L2.St} {H : Hp} {Q : VK} (h : tOfE c W (dBI o A) σ H Q) : tCB r (tOfA c W A) σ H Q := by
  obtain ⟨F, Ω, ρ, K, r0, ht, k, kx⟩ := h
  refine ⟨F, Ω, ρ, _, r0, ht, fun os ρ1 q1 vs F1 H1 Ω1 s1 r1 f1 => ?_, kx.imp (Stp.refl _ _ _) fun _ _ _ q => q⟩
  obtain ⟨hn, q⟩ := q1
  obtain ⟨l, g⟩ := OpPs.vws r1 f1 hn
  exact b.run F1 H1 Ω1 r1.wf _ _ l g _ q Q fun z kz u F3 H3 e3 f3 => k z ρ1 kz u F3 H3 Ω1 (s1.trans e3.stp) (r1.ext e3) f3
theorem E_bi {x : Str} {id : String} {e : Expr} {es : List Expr} {p pos : Pos} {r : List V → Hp → VK → Prop} {o : List D → (D → Prop) → Prop} {A : DA} (hc : CallR X (.builtin id) r) (hb : BA c r o) (hg : Gl X x) (hm : X.mg x = none) (hv : bootBuiltins x = some (.builtin id)) (ha : PA X (e :: es) (tOfA c W A)) (hn : x ≠ "__name__" := by decide) (hdb : (x == ("__debug__" : Str)) = false := by decide)
    (he : starEach (e :: es) X.env = (false, eval e X.env) :: starEach es X.env := by rfl) (hpl : (backTo pos (starEach es X.env)).any (·.1) = false := by rfl) : PE X (.Call (.Name x p) (e :: es) [] pos) (tOfE c W (dBI o A)) :=
  (pe_callB hc hg hm hv ha hn hdb he hpl).imp fun _ _ _ h => runA hb h
theorem E_ty {x : Str} {T : String} {e : Expr} {es : List Expr} {p pos : Pos} {r : List V → Hp → VK → Prop} {o : List D → (D → Prop) → Prop} {A : DA} (hc : CallR X (.type T) r) (hb : BA c r o) (hg : Gl X x) (hm : X.mg x = none) (hv : bootBuiltins x = some (.type T)) (ha : PA X (e :: es) (tOfA c W A)) (hn : x ≠ "__name__" := by decide) (hdb : (x == ("__debug__" : Str)) = false := by decide)
    (he : starEach (e :: es) X.env = (false, eval e X.env) :: starEach es X.env := by rfl) (hpl : (backTo pos (starEach es X.env)).any (·.1) = false := by rfl) : PE X (.Call (.Name x p) (e :: es) [] pos) (tOfE c W (dBI o A)) :=
  (pe_callTy hc hg hm hv ha hn hdb he hpl).imp fun _ _ _ h => runA hb h
end
end Vi
/-! Vi4: rules for statements. -/
namespace Vi
open PySem L2

def onFl {α : Type} (K : Fl → Env → Prop) (f : α → Env → Prop) : R α → Env → Prop
  | .ok a, ρ => f a ρ
  | .exc C w, ρ => K (.exc C w) ρ
@[simp] theorem onFl_ok {α : Type} (K : Fl → Env → Prop) (f : α → Env → Prop) (a : α) (ρ : Env) : onFl K f (.ok a) ρ = f a ρ := rfl
@[simp] theorem onFl_exc {α : Type} (K : Fl → Env → Prop) (f : α → Env → Prop) (C : Nat) (w : D) (ρ : Env) : onFl K f (.exc C w) ρ = K (.exc C w) ρ := rfl

section
variable {X : Cx} {x : Ct2} {W : WX}
/-- what a block wants, at a later state -/
structure Wants (x : Ct2) (W : WX) (F H : Hp) (Ω : Nm) (σ : L2.St) (K : Fl → Env → Prop) (De : Ends) : Prop where
  nx : ∀ ρ', K .nx ρ' → ∀ σ' F' H' Ω', PostS x F H Ω σ F' H' Ω' ρ' σ' → De.nx σ' H'
  bk : ∀ ρ', K .bk ρ' → ∀ σ' F' H' Ω', PostS x F H Ω σ F' H' Ω' ρ' σ' → De.bk σ' H'
  ct : ∀ ρ', K .ct ρ' → ∀ σ' F' H' Ω', PostS x F H Ω σ F' H' Ω' ρ' σ' → De.ct σ' H'
  rt : ∀ d ρ', K (.rt d) ρ' → ∀ σ' v F' H' Ω' Θ, PostS x F H Ω σ F' H' Ω' ρ' σ' → Air x.c F' H' Ω' d v Θ → New F H Ω Θ → De.rt v H'
  ex : ∀ C w ρ', K (.exc C w) ρ' → ∀ cd vw σ' F' H' Ω', PostS x F H Ω σ F' H' Ω' ρ' σ' → F' cd = some (.xd [("what", vw)]) → Fz x.c F' w vw → W (.ref (x.c.cls C)) (some cd) σ' H'
theorem tOfS_iff {T : DS} {De : Ends} {σ : L2.St} {H : Hp} : tOfS x W T De σ H ↔ ∃ F Ω ρ K, Rel x.c F H Ω ρ σ ∧ T ρ K ∧ Wants x W F H Ω σ K De :=
  ⟨fun ⟨F, Ω, ρ, K, r, t, a, b, c, d, e⟩ => ⟨F, Ω, ρ, K, r, t, ⟨a, b, c, d, e⟩⟩, fun ⟨F, Ω, ρ, K, r, t, ⟨a, b, c, d, e⟩⟩ => ⟨F, Ω, ρ, K, r, t, a, b, c, d, e⟩⟩
theorem Wants.later {F H F1 H1 : Hp} {Ω Ω1 : Nm} {σ σ1 : L2.St} {K : Fl → Env → Prop} {De : Ends} (w : Wants x W F H Ω σ K De) (s : Stp F H Ω F1 H1 Ω1) (io : Io x.io σ σ1) : Wants x W F1 H1 Ω1 σ1 K De where
  nx := fun ρ' q σ' F' H' Ω' p => w.nx ρ' q σ' F' H' Ω' ⟨s.trans p.1, p.2.1, io.trans p.2.2⟩
  bk := fun ρ' q σ' F' H' Ω' p => w.bk ρ' q σ' F' H' Ω' ⟨s.trans p.1, p.2.1, io.trans p.2.2⟩
  ct := fun ρ' q σ' F' H' Ω' p => w.ct ρ' q σ' F' H' Ω' ⟨s.trans p.1, p.2.1, io.trans p.2.2⟩
  rt := fun d ρ' q σ' v F' H' Ω' Θ p a n => w.rt d ρ' q σ' v F' H' Ω' Θ ⟨s.trans p.1, p.2.1, io.trans p.2.2⟩ a (n.step s)
  ex := fun C u ρ' q cd vw σ' F' H' Ω' p => w.ex C u ρ' q cd vw σ' F' H' Ω' ⟨s.trans p.1, p.2.1, io.trans p.2.2⟩
/-- the error's part, of an expression ahead of all -/
theorem Wants.exw {α : Type} {F H : Hp} {Ω : Nm} {σ : L2.St} {K : Fl → Env → Prop} {De : Ends} (w : Wants x W F H Ω σ K De) {f : α → Env → Prop} : ExW x.c W F H Ω σ (exK (onFl K f)) :=
  fun C u ρ' q cd vw F' H' Ω' s r e z => w.ex C u ρ' q cd vw σ F' H' Ω' ⟨s, r, Io.refl _ _⟩ e z

/-! ### blocks -/
def dSkip : DS := fun ρ K => K .nx ρ
def dSeq (A B : DS) : DS := fun ρ K => A ρ fun f ρ' => match f with | .nx => B ρ' K | g => K g ρ'
theorem SS_nil : PSs X [] (tOfS x W dSkip) := pss_nil.imp fun De σ H h => by
  obtain ⟨F, Ω, ρ, K, r, t, w⟩ := tOfS_iff.mp h
  exact w.nx ρ t σ F H Ω ⟨Stp.refl _ _ _, r, Io.refl _ _⟩
theorem SS_cons {st : Stmt} {rest : List Stmt} {A B : DS} (h : PS X st (tOfS x W A)) (g : PSs X rest (tOfS x W B)) : PSs X (st :: rest) (tOfS x W (dSeq A B)) := (pss_cons h g).imp fun De σ H h => by
  obtain ⟨F, Ω, ρ, K, r, t, w⟩ := tOfS_iff.mp h
  refine tOfS_iff.mpr ⟨F, Ω, ρ, _, r, t, ⟨fun ρ' q σ' F' H' Ω' p => ?_, fun ρ' q => w.bk ρ' q, fun ρ' q => w.ct ρ' q, fun d ρ' q => w.rt d ρ' q, fun C u ρ' q => w.ex C u ρ' q⟩⟩
  exact tOfS_iff.mpr ⟨F', Ω', ρ', K, p.2.1, q, w.later p.1 p.2.2⟩
theorem SS_one {st : Stmt} {A : DS} (h : PS X st (tOfS x W A)) : PSs X [st] (tOfS x W A) := pss_one h
theorem S_pass {pos : Pos} : PS X (.Pass pos) (tOfS x W dSkip) := ps_pass.imp fun De σ H h => by
  obtain ⟨F, Ω, ρ, K, r, t, w⟩ := tOfS_iff.mp h
  exact w.nx ρ t σ F H Ω ⟨Stp.refl _ _ _, r, Io.refl _ _⟩
def dBrk : DS := fun ρ K => K .bk ρ
def dCnt : DS := fun ρ K => K .ct ρ
theorem S_break {pos : Pos} : PS X (.Break pos) (tOfS x W dBrk) := ps_break.imp fun De σ H h => by
  obtain ⟨F, Ω, ρ, K, r, t, w⟩ := tOfS_iff.mp h
  exact w.bk ρ t σ F H Ω ⟨Stp.refl _ _ _, r, Io.refl _ _⟩
theorem S_continue {pos : Pos} : PS X (.Continue pos) (tOfS x W dCnt) := ps_continue.imp fun De σ H h => by
  obtain ⟨F, Ω, ρ, K, r, t, w⟩ := tOfS_iff.mp h
  exact w.ct ρ t σ F H Ω ⟨Stp.refl _ _ _, r, Io.refl _ _⟩
def dExp (T : DE) : DS := fun ρ K => T ρ (onFl K fun _ ρ' => K .nx ρ')
theorem S_expr {e : Expr} {pos : Pos} {T : DE} (h : PE X e (tOfE x.c W T)) (hs : swapsWith e none pos.line X.env = pure false := by rfl) : PS X (.Expr e pos) (tOfS x W (dExp T)) := (ps_expr h hs).imp fun De σ H h => by
  obtain ⟨F, Ω, ρ, K, r, t, w⟩ := tOfS_iff.mp h
  exact ⟨F, Ω, ρ, _, r, t, fun d ρ' q v F' H' Ω' s r' _ => w.nx ρ' q σ F' H' Ω' ⟨s, r', Io.refl _ _⟩, w.exw⟩

/-! ### values of one's own -/
def dFr (T : DE) : DE := fun ρ K => T ρ (onOk K fun d ρ' => K (.ok (fr d)) ρ')
/-- frozen -/
theorem N_of {e : Expr} {T : DE} {c : Ct} (h : PE X e (tOfE c W T)) : PE X e (tOfN c W (dFr T)) := h.imp fun σ H Q h => by
  obtain ⟨F, Ω, ρ, K, r, t, k, kx⟩ := h
  refine ⟨F, Ω, ρ, _, r, t, fun d ρ' q v F' H' Ω' s r' f => k _ ρ' q v F' H' Ω' _ s r' (Air.fz ((Fz_fr _ _ _ _).mpr f) (own_fr d)) New.none, kx.imp (Stp.refl _ _ _) fun _ _ _ q => q⟩
/-- a list that is one's own, of frozen things -/
def dOwnL (L : DL) : DE := fun ρ K => L ρ (onOk K fun ds ρ' => ds.length ≤ 16000000 ∧ K (.ok (.lst true (ds.map fr))) ρ')
theorem RvL.of_fz {c : Ct} {F H : Hp} {Θ : Nm} : ∀ {ds : List D} {vs : List V} {π : List Nat} {j : Nat}, FzL c F ds vs → RvL c F H Θ (ds.map fr) π j vs
  | [], vs, π, j, h => by simp only [FzL] at h; simp only [List.map_nil, RvL]; exact h
  | d :: ds, vs, π, j, h => by
    simp only [FzL] at h
    simp only [List.map_cons, RvL]
    obtain ⟨v, r, e, h1, h2⟩ := h
    exact ⟨v, r, e, (Rv_of_own (own_fr d)).mpr ((Fz_fr _ _ _ _).mpr h1), RvL.of_fz h2⟩
/-- a new object of one's own -/
theorem wf_new {F H : Hp} {Ω : Nm} (w : Wf F H Ω) {p : Addr} {o : HO} (hp : H p = none) : F p = none ∧ Ω p = none ∧ Sub H (upd H p o) ∧ Wf F (upd H p o) Ω := by
  have hF : F p = none := by
    cases q : F p with
    | none => rfl
    | some u => rw [w.sub p u q] at hp; cases hp
  have eH : Sub H (upd H p o) := fun b u e => by rw [upd_ne (ne_of_none e hp)]; exact e
  refine ⟨hF, ?_, eH, w.sub.trans eH, fun b π e => let ⟨h1, u, h2⟩ := w.own b π e; ⟨h1, u, eH b u h2⟩⟩
  cases q : Ω p with
  | none => rfl
  | some π => obtain ⟨_, u, z⟩ := w.own p π q; rw [z] at hp; cases hp
theorem rel_new {c : Ct} {F H : Hp} {Ω : Nm} {ρ : Env} {σ : L2.St} (r : Rel c F H Ω ρ σ) {p : Addr} {o : HO} (hp : H p = none) : Rel c F (upd H p o) Ω ρ σ ∧ Stp F H Ω F (upd H p o) Ω := by
  obtain ⟨h1, h2, h3, h4⟩ := wf_new (o := o) r.wf hp
  refine ⟨⟨h4, fun i d e1 e2 => ?_, r.len⟩, Sub.refl _, fun b u e1 e2 e3 => ⟨h3 b u e1, e2, e3⟩⟩
  obtain ⟨v, q1, q2⟩ := r.sl i d e1 e2
  refine ⟨v, q1, Rv.move (Sub.refl _) d _ _ v (fun b π z => ⟨z, ?_⟩) q2⟩
  obtain ⟨_, u, hu⟩ := r.wf.own b _ z
  rw [hu, h3 b u hu]
theorem N_lst {es : List Expr} {pos : Pos} {L : DL} {c : Ct} (h : PA X es (tOfL c W L)) : PE X (.List es pos) (tOfN c W (dOwnL L)) := by
  refine (pe_lst h).imp fun σ H Q h => ?_
  obtain ⟨F, Ω, ρ, K, r0, ht, k, kx⟩ := h
  refine ⟨F, Ω, ρ, _, r0, ht, fun ds ρ1 q1 vs F1 H1 Ω1 s1 r1 f1 => ⟨sz_ok (by rw [← f1.length]; exact q1.1), fun p hp => ?_⟩, kx.imp (Stp.refl _ _ _) fun _ _ _ q => q⟩
  obtain ⟨r2, s2⟩ := rel_new (o := .lst vs) r1 hp
  obtain ⟨hF, hΩ, hs, _⟩ := wf_new (o := .lst vs) r1.wf hp
  refine k _ ρ1 q1.2 (.ref p) F1 _ Ω1 (fun b => if b = p then some [] else none) (s1.trans s2) r2 ⟨?_, fun b π e => ?_⟩ fun b o e1 e2 e3 => ?_
  · simp only [Rv]
    exact ⟨p, vs, rfl, by simp, upd_same, RvL.of_fz f1⟩
  · have e' : (if b = p then some ([] : List Nat) else none) = some π := e
    split at e'
    · rename_i hb
      subst hb
      exact ⟨hF, hΩ, _, upd_same⟩
    · cases e'
  · have := (s1.ou b o e1 e2 e3).1
    exact if_neg (ne_of_none this hp)

/-! ### a name is stored -/
def putN (i : Nat) (Θ Ω : Nm) : Nm := fun b => match Θ b with
  | some π => some (i :: π)
  | none => Ω b
theorem set_slot {c : Ct} {F H : Hp} {Ω Θ : Nm} {ρ : Env} {σ : L2.St} {i : Nat} {d : D} {v : V} (r : Rel c F H Ω ρ σ) (hi : i < σ.length) (a : Air c F H Ω d v Θ) : Rel c F H (putN i Θ Ω) (ρ.set i d) (σ.set i (some v)) := by
  refine ⟨⟨r.wf.sub, fun b π e => ?_⟩, fun j x h1 h2 => ?_, by rw [List.length_set, List.length_set]; exact r.len⟩
  · unfold putN at e
    split at e
    · rename_i π' h
      obtain ⟨q1, _, q2⟩ := a.nm b π' h
      exact ⟨q1, q2⟩
    · exact r.wf.own b π e
  · by_cases hj : j = i
    · subst hj
      rw [List.getElem?_set_self (by rw [r.len]; exact hi)] at h1
      cases h1
      refine ⟨v, List.getElem?_set_self hi, Rv.move (Sub.refl _) d [] [j] v (fun b π z => ⟨?_, rfl⟩) a.rv⟩
      have z : Θ b = some π := by simpa using z
      show putN j Θ Ω b = some ([j] ++ π)
      unfold putN
      rw [z]
      rfl
    · rw [List.getElem?_set_ne (Ne.symm hj)] at h1
      obtain ⟨u, q1, q2⟩ := r.sl j x h1 h2
      refine ⟨u, by rw [List.getElem?_set_ne (Ne.symm hj)]; exact q1, Rv.move (Sub.refl _) x _ _ u (fun b π z => ⟨?_, rfl⟩) q2⟩
      unfold putN
      cases q : Θ b with
      | none => exact z
      | some π' => have y := (a.nm b π' q).2.1; rw [z] at y; cases y
theorem put_stp {F H F1 H1 : Hp} {Ω Ω1 Θ : Nm} {i : Nat} (s : Stp F H Ω F1 H1 Ω1) (n : New F H Ω Θ) : Stp F H Ω F1 H1 (putN i Θ Ω1) := ⟨s.ef, fun b o h1 h2 h3 => by
  obtain ⟨q1, q2, q3⟩ := s.ou b o h1 h2 h3
  refine ⟨q1, q2, ?_⟩
  unfold putN
  rw [n b o h1 h2 h3]
  exact q3⟩
theorem Io.set {io : List Nat} {σ : L2.St} {i : Nat} {v : Option V} (h : i ∉ io) : Io io σ (σ.set i v) := ⟨List.length_set, fun j hj => List.getElem?_set_ne fun e => h (by rw [e]; exact hj)⟩
def dSet (i : Nat) (T : DE) : DS := fun ρ K => T ρ (onFl K fun d ρ' => K .nx (ρ'.set i d))
theorem set_of {i : Nat} {T : DE} {De : Ends} {σ : L2.St} {H : Hp} (hi : i < σ.length) (hio : i ∉ x.io) (h : tOfS x W (dSet i T) De σ H) : tOfN x.c W T σ H fun v H1 => De.nx (σ.set i (some v)) H1 := by
  obtain ⟨F, Ω, ρ, K, r, t, w⟩ := tOfS_iff.mp h
  exact ⟨F, Ω, ρ, _, r, t, fun d ρ' q v F' H' Ω' Θ s r' a n => w.nx _ q _ F' H' _ ⟨put_stp s n, set_slot r' hi a, Io.set hio⟩, w.exw⟩
theorem S_set {i : Nat} {y : Str} {e : Expr} {T : DE} {pos' pos : Pos} (hN : X.N.Nodup) (hi : X.N[i]? = some y) (hx : Loc X.env.scope y) (hio : i ∉ x.io) (he : PE X e (tOfN x.c W T)) (hs : swapsWith e (some (.Name y pos')) pos.line X.env = pure false := by rfl) (hf : X.fn y = true ∨ X.env.scope.names.lookup y = some .local := by first | exact .inl rfl | exact .inr rfl | assumption) :
    PS X (.Assign [.Name y pos'] e pos) (tOfS x W (dSet i T)) := by
  refine ⟨fun pins s σ H De I h => (ps_set hN hi hx he hs hf).run pins s σ H De I ?_⟩
  exact set_of (by rw [I.len]; exact (List.getElem?_eq_some_iff.mp hi).1) hio h

/-! ### return, if, while, for -/
def dRet (T : DE) : DS := fun ρ K => T ρ (onFl K fun d ρ' => K (.rt d) ρ')
def dRetN : DS := fun ρ K => K (.rt .non) ρ
theorem S_ret {e : Expr} {pos : Pos} {T : DE} (he : PE X e (tOfN x.c W T)) : PS X (.Return (some e) pos) (tOfS x W (dRet T)) := (ps_ret he).imp fun De σ H h => by
  obtain ⟨F, Ω, ρ, K, r, t, w⟩ := tOfS_iff.mp h
  exact ⟨F, Ω, ρ, _, r, t, fun d ρ' q v F' H' Ω' Θ s r' a n => w.rt d ρ' q σ v F' H' Ω' Θ ⟨s, r', Io.refl _ _⟩ a n, w.exw⟩
theorem S_retN {pos : Pos} : PS X (.Return none pos) (tOfS x W dRetN) := ps_retN.imp fun De σ H h => by
  obtain ⟨F, Ω, ρ, K, r, t, w⟩ := tOfS_iff.mp h
  exact w.rt .non ρ t σ .non F H Ω _ ⟨Stp.refl _ _ _, r, Io.refl _ _⟩ (Air.fz (by simp only [Fz]) rfl) New.none
def dIfS (T : DT) (A B : DS) : DS := fun ρ K => T ρ (onFl K fun b ρ' => if b = true then A ρ' K else B ρ' K)
theorem S_if {t : Expr} {a b : List Stmt} {pos : Pos} {T : DT} {A B : DS} (ht : PT X t (tOfT x.c W T)) (ha : PSs X a (tOfS x W A)) (hb : PSs X b (tOfS x W B)) : PS X (.If t a b pos) (tOfS x W (dIfS T A B)) := (ps_if ht ha hb).imp fun De σ H h => by
  obtain ⟨F, Ω, ρ, K, r, t, w⟩ := tOfS_iff.mp h
  refine ⟨F, Ω, ρ, _, r, t, fun b ρ' q F' H' Ω' s r' => ?_, w.exw⟩
  cases b with
  | true =>
    rw [if_pos rfl]
    exact tOfS_iff.mpr ⟨F', Ω', ρ', K, r', by simpa using q, w.later s (Io.refl _ _)⟩
  | false =>
    rw [if_neg Bool.false_ne_true]
    exact tOfS_iff.mpr ⟨F', Ω', ρ', K, r', by simpa using q, w.later s (Io.refl _ _)⟩
/-- behind a turn -/
def turnK (K : Fl → Env → Prop) (again : Env → Prop) : Fl → Env → Prop := fun f ρ => match f with
  | .nx => again ρ
  | .ct => again ρ
  | .bk => K .nx ρ
  | g => K g ρ
def dWhile (T : DT) (B : DS) : DS := fun ρ K => ∃ (I : Env → Prop) (m : Env → Nat), I ρ ∧ ∀ ρ, I ρ → T ρ (onFl K fun b ρ1 => if b = true then B ρ1 (turnK K fun ρ2 => I ρ2 ∧ m ρ2 < m ρ) else K .nx ρ1)
theorem turn_wants {F H : Hp} {Ω : Nm} {σ : L2.St} {K : Fl → Env → Prop} {De : Ends} (w : Wants x W F H Ω σ K De) {again : Env → Prop} {N : L2.St → Hp → Prop} (k : ∀ ρ', again ρ' → ∀ σ' F' H' Ω', PostS x F H Ω σ F' H' Ω' ρ' σ' → N σ' H') :
    Wants x W F H Ω σ (turnK K again) { De with nx := N, ct := N, bk := De.nx } where
  nx := fun ρ' q => k ρ' q
  ct := fun ρ' q => k ρ' q
  bk := fun ρ' q => w.nx ρ' q
  rt := fun d ρ' q => w.rt d ρ' q
  ex := fun C u ρ' q => w.ex C u ρ' q
theorem S_while {t : Expr} {body : List Stmt} {pos : Pos} {T : DT} {B : DS} (hp : PassesOwn (model X.prog X.w) X.A X.env X.xe) (ht : PT X t (tOfT x.c W T)) (hb : PSs X body (tOfS x W B)) : PS X (.While t body [] pos) (tOfS x W (dWhile T B)) := (ps_while hp ht hb).imp fun De σ H h => by
  obtain ⟨F, Ω, ρ, K, r, ⟨Iv, m, i0, step⟩, w⟩ := tOfS_iff.mp h
  refine ⟨fun n σ1 H1 => ∃ F1 Ω1 ρ1, PostS x F H Ω σ F1 H1 Ω1 ρ1 σ1 ∧ Iv ρ1 ∧ n = m ρ1, ⟨_, F, Ω, ρ, ⟨Stp.refl _ _ _, r, Io.refl _ _⟩, i0, rfl⟩, ?_⟩
  rintro n σ1 H1 ⟨F1, Ω1, ρ1, p, i1, rfl⟩
  have w1 := w.later p.1 p.2.2
  refine ⟨F1, Ω1, ρ1, _, p.2.1, step ρ1 i1, fun b ρ2 q F2 H2 Ω2 s2 r2 => ?_, w1.exw⟩
  cases b with
  | true =>
    rw [if_pos rfl]
    refine ⟨fun σ' H' => ∃ F' Ω' ρ', PostS x F H Ω σ F' H' Ω' ρ' σ' ∧ Iv ρ' ∧ m ρ' < m ρ1, fun σ' H' ⟨F', Ω', ρ', p', i', l⟩ => ⟨_, l, F', Ω', ρ', p', i', rfl⟩, ?_⟩
    refine tOfS_iff.mpr ⟨F2, Ω2, ρ2, _, r2, by simpa using q, turn_wants (w1.later s2 (Io.refl _ _)) fun ρ' q' σ' F' H' Ω' p' => ?_⟩
    exact ⟨F', Ω', ρ', ⟨(p.1.trans s2).trans p'.1, p'.2.1, p.2.2.trans p'.2.2⟩, q'⟩
  | false =>
    rw [if_neg Bool.false_ne_true]
    exact w1.nx ρ2 (by simpa using q) σ1 F2 H2 Ω2 ⟨s2, r2, Io.refl _ _⟩
/-! ### an owned list changed -/
/-- xs.append(e) -/
def isLst : D → Bool
  | .lst _ _ => true
  | _ => false
def dApp (j : Nat) (T : DE) : DS := fun ρ K => isLst (gt ρ j) = true ∧ T ρ (onFl K fun d ρ1 => match gt ρ1 j with | .lst true xs => xs.length < 16000000 ∧ K .nx (ρ1.set j (.lst true (xs ++ [d]))) | _ => False)
def appN (j n : Nat) (Θ Ω : Nm) : Nm := fun b => match Θ b with
  | some π => some (j :: n :: π)
  | none => Ω b
theorem RvL.append {c : Ct} {F H : Hp} {Θ : Nm} {d : D} {v : V} : ∀ {ds : List D} {vs : List V} {π : List Nat} {j : Nat}, RvL c F H Θ ds π j vs → Rv c F H Θ d (π ++ [j + ds.length]) v → RvL c F H Θ (ds ++ [d]) π j (vs ++ [v])
  | [], vs, π, j, h, g => by
    simp only [RvL] at h
    subst h
    simp only [List.nil_append, RvL]
    exact ⟨v, [], rfl, by simpa using g, rfl⟩
  | e :: ds, vs, π, j, h, g => by
    simp only [RvL] at h
    obtain ⟨u, r, e1, h1, h2⟩ := h
    subst e1
    simp only [List.cons_append, RvL]
    refine ⟨u, r ++ [v], rfl, h1, RvL.append h2 ?_⟩
    rw [Nat.add_right_comm]
    exact g
/-- the object of slot j is another one now; the rest stays -/
theorem chg_slot {c : Ct} {F H : Hp} {Ω Ω' : Nm} {ρ : Env} {σ : L2.St} {j : Nat} {a : Addr} {o : HO} {d : D} (r : Rel c F H Ω ρ σ) (hj : j < ρ.length) (hσ : σ[j]? = some (some (.ref a))) (ha : Ω a = some [j]) (hd : Rv c F (upd H a o) Ω' d [j] (.ref a))
    (hΩ : ∀ b π, Ω b = some π → Ω' b = some π) (hw : ∀ b π, Ω' b = some π → F b = none ∧ ∃ o, H b = some o) : Rel c F (upd H a o) Ω' (ρ.set j d) σ := by
  have hF : F a = none := (r.wf.own a _ ha).1
  refine ⟨⟨fun b u e => ?_, fun b π e => ?_⟩, fun k x h1 h2 => ?_, by rw [List.length_set]; exact r.len⟩
  · have hb : b ≠ a := fun z => by rw [z, hF] at e; cases e
    rw [upd_ne hb]
    exact r.wf.sub b u e
  · obtain ⟨q1, u, q2⟩ := hw b π e
    refine ⟨q1, ?_⟩
    by_cases hb : b = a
    · exact ⟨o, by rw [hb, upd_same]⟩
    · exact ⟨u, by rw [upd_ne hb]; exact q2⟩
  · by_cases hk : k = j
    · subst hk
      rw [List.getElem?_set_self hj] at h1
      cases h1
      exact ⟨_, hσ, hd⟩
    · rw [List.getElem?_set_ne (Ne.symm hk)] at h1
      obtain ⟨v, q1, q2⟩ := r.sl k x h1 h2
      refine ⟨v, q1, Rv.move (Sub.refl _) x _ _ v (fun b π z => ⟨hΩ b _ z, upd_ne fun hb => ?_⟩) q2⟩
      rw [hb, ha] at z
      have z' := Option.some.inj z
      simp at z'
      exact hk z'.1.symm
theorem chg_stp {F H F1 H1 : Hp} {Ω Ω1 Ω' : Nm} {a : Addr} {o : HO} {π : List Nat} (s : Stp F H Ω F1 H1 Ω1) (ha : Ω1 a = some π) (hn : ∀ b o, H b = some o → F b = none → Ω b = none → Ω' b = none) : Stp F H Ω F1 (upd H1 a o) Ω' := ⟨s.ef, fun b u h1 h2 h3 => by
  obtain ⟨q1, q2, q3⟩ := s.ou b u h1 h2 h3
  refine ⟨?_, q2, hn b u h1 h2 h3⟩
  rw [upd_ne fun z => by rw [z, ha] at q3; cases q3]
  exact q1⟩
theorem S_app {j : Nat} {y : Str} {e : Expr} {T : DE} {p apos cpos pos : Pos} (hN : X.N[j]? = some y) (hv : Vis X.env.scope y) (he : PE X e (tOfN x.c W T)) (hd : (y == ("__debug__" : Str)) = false := by decide) (hcd : (y == ("__classdict__" : Str)) = false := by decide)
    (hbase : attributeBase (.Name y p) "append" X.env (eval (.Name y p) X.env) = eval (.Name y p) X.env := by rfl)
    (hfew : ((backTo cpos (starEach [e] X.env)).all (fun x => !x.1) && (backToKw cpos (keywordEach [] X.env)).all (fun x => x.1.isSome) && decide (([e]).length + ([] : List Keyword).length + (if ([] : List Keyword).isEmpty then 0 else 1) < 30)) = true := by rfl)
    (hline : (apos.endLine == cpos.line) = true := by rfl) (hst : starEach [e] X.env = (false, eval e X.env) :: starEach [] X.env := by rfl) (hsw : swapsWith (.Call (.Attribute (.Name y p) "append" apos) [e] [] cpos) none pos.line X.env = pure false := by rfl) :
    PS X (.Expr (.Call (.Attribute (.Name y p) "append" apos) [e] [] cpos) pos) (tOfS x W (dApp j T)) := by
  have base := ps_expr (pos := pos) (pe_bm PySem.F.plainAttrs_list PySem.F.slot_list_append PySem.F.type_list_append (mt_append (X := X)) (pe_var hN hv hd hcd) (pa_cons he pa_nil hst) hbase hfew hline hst rfl) hsw
  refine base.imp fun De σ H h => ?_
  obtain ⟨F, Ω, ρ, K, r, ⟨hn, t⟩, w⟩ := tOfS_iff.mp h
  have hn' : nz (gt ρ j) = true := by
    cases e : gt ρ j <;> rw [e] at hn <;> first | rfl | cases hn
  obtain ⟨v, q1, q2⟩ := r.sl j _ (gt_some hn') (nz_ne hn')
  refine ⟨v, q1, ?_, F, Ω, ρ, _, r, t, fun d ρ1 q u F1 H1 Ω1 Θ s1 r1 air new => ?_, w.exw⟩
  · cases e : gt ρ j with
    | lst o ds =>
      rw [e] at q2
      obtain ⟨a, vs, e1, h1, _⟩ := Vw.lst r.wf (.inr ⟨_, _, q2⟩)
      subst e1
      exact .inl ⟨rfl, vs, SqL.of h1⟩
    | _ => rw [e] at hn; cases hn
  · simp only [onFl_ok] at q
    have hg : gt ρ1 j = gt ρ1 j := rfl
    generalize hz : gt ρ1 j = z at q
    match z, q, hz with
    | .lst true xs, ⟨hl, hk⟩, hz =>
      have hn1 : nz (gt ρ1 j) = true := by rw [hz]; rfl
      have hs1 := gt_some hn1
      obtain ⟨v', z1, z2⟩ := r1.sl j _ hs1 (nz_ne hn1)
      rw [q1] at z1
      cases z1
      rw [hz] at z2
      simp only [Rv] at z2
      obtain ⟨a, vs, e1, ha, hH, hr⟩ := z2
      subst e1
      have lenv := hr.length
      have nea : ∀ b π, Θ b = some π → b ≠ a := fun b π e => fun y => by
        have := (air.nm b π e).2.1
        rw [y, ha] at this
        cases this
      have keep : ∀ b π, Ω1 b = some π → appN j xs.length Θ Ω1 b = some π := fun b π e => by
        unfold appN
        cases y : Θ b with
        | none => exact e
        | some π' => have := (air.nm b π' y).2.1; rw [e] at this; cases this
      have hsz : vs.length < sizeLine := by
        rw [← lenv]
        exact Nat.lt_of_lt_of_le hl (by decide)
      refine ⟨a, vs, u, rfl, rfl, hH, hsz, ?_⟩
      refine w.nx _ hk σ F1 _ (appN j xs.length Θ Ω1) ⟨chg_stp s1 ha fun b o e1 e2 e3 => ?_, chg_slot r1 (List.getElem?_eq_some_iff.mp hs1).1 q1 ha ?_ keep fun b π e => ?_, Io.refl _ _⟩
      · unfold appN
        rw [new b o e1 e2 e3]
        exact (s1.ou b o e1 e2 e3).2.2
      · simp only [Rv]
        refine ⟨a, vs ++ [u], rfl, keep _ _ ha, upd_same, RvL.append (RvL.move (Sub.refl _) xs [j] [j] 0 vs (fun b i π e => ⟨keep _ _ e, upd_ne fun y => ?_⟩) hr) (Rv.move (Sub.refl _) d [] _ u (fun b π e => ⟨?_, upd_ne (nea b π (by simpa using e))⟩) air.rv)⟩
        · rw [y, ha] at e
          simp at e
        · have e' : Θ b = some π := by simpa using e
          unfold appN
          rw [e']
          simp
      · unfold appN at e
        split at e
        · rename_i π' y
          obtain ⟨y1, _, y2⟩ := air.nm b π' y
          exact ⟨y1, y2⟩
        · exact r1.wf.own b π e
end
end Vi
/-! Vi5: defs by specifications over data; calls, methods, makers. -/
namespace Vi
open PySem L2 PyProof.Rows

/-- what a def promises over data: the arguments, the wish of the result and of the arguments behind the call (those that it may change) -/
abbrev FS := List D → (R D → List D → Prop) → Prop
structure IoP (c : Ct) (io : List Nat) (F H : Hp) (Ω : Nm) (posts : List D) (vs : List V) : Prop where
  wf : Wf F H Ω
  at' : ∀ k ∈ io, ∀ d, posts[k]? = some d → d ≠ .und → ∃ v, vs[k]? = some v ∧ Rv c F H Ω d [k] v
def spOf (c : Ct) (io : List Nat) (n : Nat) (S : FS) : Sp := fun vs H Q E => ∃ F Ω args K, args.length = n ∧ Rel c F H Ω args (vs.map some) ∧ S args K ∧
  (∀ d posts, K (.ok d) posts → ∀ v F' H' Ω' Θ, Stp F H Ω F' H' Ω' → IoP c io F' H' Ω' posts vs → Air c F' H' Ω' d v Θ → New F H Ω Θ → Q v H') ∧
  (∀ C w posts, K (.exc C w) posts → ∀ cd vw F' H' Ω', Stp F H Ω F' H' Ω' → IoP c io F' H' Ω' posts vs → F' cd = some (.xd [("what", vw)]) → Fz c F' w vw → E (.ref (c.cls C)) (some cd) H')
/-- a body's ends, as the call's -/
def endK (n : Nat) (K : R D → List D → Prop) : Fl → Env → Prop := fun f ρ => match f with
  | .rt d => K (.ok d) (ρ.take n)
  | .nx => K (.ok .non) (ρ.take n)
  | .exc C w => K (.exc C w) (ρ.take n)
  | _ => False
section
variable {P : Program} {w : World} {K : PySem.W.Frag} {mg : Str → Option Value} {base : Heap}
/-- THE RULE for a def -/
theorem fn_ok {x qual : Str} {st : Stmt} {f : Addr} {fd : FuncData} {N ps : List Str} {k : Nat} {c : Ct} {io : List Nat} {S : FS} {B : DS} (Fn : Fun K x qual st f fd) (Sc : FnScope N ps (defScope st))
    (hb : ∀ (cdv : Value) (A : Around) (outer : List PySem.Env) (s : Shared) (H : Hp) (E : XK), Room k (A.deeper (envOfC qual (defScope st) s.heap.objs.size f cdv)) →
      PSs (cxOf (L2.CX P w) P w K mg base N qual (defScope st) f cdv A outer s H E) (defBody st) (tOfS ⟨c, io⟩ (fun cls d _ H => E cls d H) B))
    (hio : ∀ k ∈ io, k < ps.length)
    (hd : ∀ args K', args.length = ps.length → S args K' → B (args ++ List.replicate (N.length - ps.length) .und) (endK ps.length K')) : FnOk P w K mg base (L2.CX P w) (k + 1) f fd ps (spOf c io ps.length S) := by
  refine Fn.okX Sc (fun vs H Q E ⟨F, Ω, args, K', hl, r, _⟩ => by rw [← hl, r.len, List.length_map]) (fun cdv A outer s H vs Q E hr h => ⟨_, hb cdv A outer s H E hr, ?_⟩)
  obtain ⟨F, Ω, args, K', hl, r, hS, kr, kx⟩ := h
  have lv : vs.length = ps.length := by rw [← hl, r.len, List.length_map]
  have r0 : Rel c F H Ω (args ++ List.replicate (N.length - ps.length) .und) (L2.start N vs) := by
    refine ⟨r.wf, fun i d h1 h2 => ?_, by unfold L2.start; rw [List.length_append, List.length_append, List.length_replicate, List.length_replicate, List.length_map, hl, lv]⟩
    by_cases hi : i < args.length
    · rw [List.getElem?_append_left hi] at h1
      obtain ⟨v, q1, q2⟩ := r.sl i d h1 h2
      refine ⟨v, ?_, q2⟩
      unfold L2.start
      rw [List.getElem?_append_left (by rw [List.length_map, lv, ← hl]; exact hi)]
      exact q1
    · rw [List.getElem?_append_right (by omega), List.getElem?_replicate] at h1
      split at h1
      · cases h1; exact absurd rfl h2
      · cases h1
  have io_of : ∀ {F' H' : Hp} {Ω' : Nm} {ρ' : Vi.Env} {σ' : L2.St}, PostS ⟨c, io⟩ F H Ω (L2.start N vs) F' H' Ω' ρ' σ' → IoP c io F' H' Ω' (ρ'.take ps.length) vs := fun {F' H' Ω' ρ' σ'} p => by
    refine ⟨p.2.1.wf, fun k hk d h1 h2 => ?_⟩
    have hk' := hio k hk
    rw [List.getElem?_take_of_lt hk'] at h1
    obtain ⟨v, q1, q2⟩ := p.2.1.sl k d h1 h2
    rw [p.2.2.2 k hk] at q1
    refine ⟨v, ?_, q2⟩
    unfold L2.start at q1
    rw [List.getElem?_append_left (by rw [List.length_map, lv]; exact hk'), List.getElem?_map] at q1
    cases e : vs[k]? with
    | none => rw [e] at q1; cases q1
    | some u => rw [e] at q1; cases q1; rfl
  refine tOfS_iff.mpr ⟨F, Ω, _, _, r0, hd args K' hl hS, ⟨fun ρ' q σ' F' H' Ω' p => ?_, fun ρ' q => q.elim, fun ρ' q => q.elim, fun d ρ' q σ' v F' H' Ω' Θ p a n => ?_, fun C u ρ' q cd vw σ' F' H' Ω' p e1 e2 => ?_⟩⟩
  · exact kr .non _ q .non F' H' Ω' _ p.1 (io_of p) (Air.fz (by simp only [Fz]) rfl) New.none
  · exact kr d _ q v F' H' Ω' Θ p.1 (io_of p) a n
  · exact kx C u _ q cd vw F' H' Ω' p.1 (io_of p) e1 e2
end

/-! ### calls -/
def sea (ρ : Env) : Opd → D
  | .vl d => fr d
  | .sl i => gt ρ i
/-- the place of slot i among the operands -/
def ixO : List Opd → Nat → Option Nat
  | [], _ => none
  | .sl j :: os, i => if j = i then some 0 else (ixO os i).map (· + 1)
  | .vl _ :: os, i => (ixO os i).map (· + 1)
/-- slots, each once -/
def atOk : List Opd → Bool
  | [] => true
  | .sl j :: os => (ixO os j).isNone && atOk os
  | .vl _ :: os => atOk os
def ioOk (io : List Nat) (os : List Opd) : Bool := (List.range os.length).all fun k => match os[k]? with
  | some (Opd.sl _) => io.contains k
  | _ => true
/-- the slots' values behind the call -/
def wb (ρ : Env) : List Opd → List D → Env
  | .sl i :: os, d :: ds => wb (ρ.set i d) os ds
  | .vl _ :: os, _ :: ds => wb ρ os ds
  | _, _ => ρ
theorem ixO_get : ∀ {os : List Opd} {i k : Nat}, ixO os i = some k → os[k]? = some (Opd.sl i)
  | .sl j :: os, i, k, h => by
    unfold ixO at h
    split at h
    · rename_i e
      cases h
      rw [e]
      rfl
    · cases q : ixO os i with
      | none => rw [q] at h; cases h
      | some m => rw [q] at h; cases h; simpa using ixO_get q
  | .vl _ :: os, i, k, h => by
    unfold ixO at h
    cases q : ixO os i with
    | none => rw [q] at h; cases h
    | some m => rw [q] at h; cases h; simpa using ixO_get q
theorem get_ixO : ∀ {os : List Opd} {i k : Nat}, atOk os = true → os[k]? = some (Opd.sl i) → ixO os i = some k
  | .sl j :: os, i, 0, _, h => by
    simp at h
    unfold ixO
    rw [if_pos h]
  | .vl _ :: os, i, 0, _, h => by simp at h
  | .sl j :: os, i, k + 1, ho, h => by
    unfold atOk at ho
    simp only [Bool.and_eq_true] at ho
    have ih := get_ixO (i := i) (k := k) ho.2 (by simpa using h)
    unfold ixO
    by_cases e : j = i
    · rw [e, ih] at ho
      simp at ho
    · rw [if_neg e, ih]
      rfl
  | .vl _ :: os, i, k + 1, ho, h => by
    unfold atOk at ho
    have ih := get_ixO (i := i) (k := k) ho (by simpa using h)
    unfold ixO
    rw [ih]
    rfl
theorem wb_length : ∀ (ρ : Env) (os : List Opd) (ds : List D), (wb ρ os ds).length = ρ.length
  | ρ, .sl i :: os, d :: ds => by unfold wb; rw [wb_length, List.length_set]
  | ρ, .vl _ :: os, _ :: ds => by unfold wb; rw [wb_length]
  | ρ, [], _ => by unfold wb; rfl
  | ρ, .sl _ :: _, [] => by unfold wb; rfl
  | ρ, .vl _ :: _, [] => by unfold wb; rfl
/-- what stands at slot j behind the call: a passed slot's new value, or the old one -/
theorem wb_get : ∀ (ρ : Env) (os : List Opd) (ds : List D) (j : Nat) (d : D), (wb ρ os ds)[j]? = some d → (∃ k : Nat, os[k]? = some (Opd.sl j) ∧ ds[k]? = some d) ∨ ρ[j]? = some d ∧ (ds.length = os.length → ∀ k : Nat, os[k]? ≠ some (Opd.sl j))
  | ρ, .sl i :: os, e :: ds, j, d, h => by
    unfold wb at h
    rcases wb_get _ os ds j d h with ⟨k, h1, h2⟩ | ⟨h1, h2⟩
    · exact .inl ⟨k + 1, by simpa using h1, by simpa using h2⟩
    · by_cases hj : j = i
      · subst hj
        have hl : j < ρ.length := by
          have := (List.getElem?_eq_some_iff.mp h1).1
          rwa [List.length_set] at this
        rw [List.getElem?_set_self hl] at h1
        exact .inl ⟨0, rfl, by simpa using h1⟩
      · rw [List.getElem?_set_ne (Ne.symm hj)] at h1
        refine .inr ⟨h1, fun hl k => ?_⟩
        cases k with
        | zero => simp; exact fun e => hj e.symm
        | succ k => simpa using h2 (by simpa using hl) k
  | ρ, .vl _ :: os, e :: ds, j, d, h => by
    unfold wb at h
    rcases wb_get _ os ds j d h with ⟨k, h1, h2⟩ | ⟨h1, h2⟩
    · exact .inl ⟨k + 1, by simpa using h1, by simpa using h2⟩
    · refine .inr ⟨h1, fun hl k => ?_⟩
      cases k with
      | zero => simp
      | succ k => simpa using h2 (by simpa using hl) k
  | ρ, [], ds, j, d, h => by
    unfold wb at h
    exact .inr ⟨h, fun _ k => by simp⟩
  | ρ, .sl _ :: _, [], j, d, h => by
    unfold wb at h
    exact .inr ⟨h, fun hl => by simp at hl⟩
  | ρ, .vl _ :: _, [], j, d, h => by
    unfold wb at h
    exact .inr ⟨h, fun hl => by simp at hl⟩
/-- the names inside the call; behind it -/
def inN (os : List Opd) (Ω : Nm) : Nm := fun b => match Ω b with
  | some (i :: π) => (ixO os i).map fun k => k :: π
  | _ => none
def outN (os : List Opd) (Ω Ω' : Nm) : Nm := fun b => match Ω' b with
  | some (k :: π) => (match os[k]? with | some (Opd.sl i) => some (i :: π) | _ => none)
  | _ => (match Ω b with | some (i :: π) => if (ixO os i).isSome = true then none else some (i :: π) | o => o)
theorem OpPs.get {c : Ct} {F : Hp} {σ : L2.St} : ∀ {os : List Opd} {vs : List V} {k : Nat} {o : Opd}, OpPs c F σ os vs → os[k]? = some o → ∃ v, vs[k]? = some v ∧ OpP c F σ o v
  | o' :: os, vs, k, o, ⟨v, r, e, h1, h2⟩, q => by
    subst e
    cases k with
    | zero => simp at q; subst q; exact ⟨v, rfl, h1⟩
    | succ k => simpa using OpPs.get h2 (by simpa using q)
theorem OpPs.length {c : Ct} {F : Hp} {σ : L2.St} : ∀ {os : List Opd} {vs : List V}, OpPs c F σ os vs → os.length = vs.length
  | [], vs, h => by
    have e : vs = [] := h
    rw [e]
    rfl
  | o :: os, vs, ⟨v, r, e, h1, h2⟩ => by rw [e, List.length_cons, List.length_cons, OpPs.length h2]
section
variable {c : Ct} {F H : Hp} {Ω : Nm} {ρ : Env} {σ : L2.St} {os : List Opd} {vs : List V} {io : List Nat}
theorem in_rel (r : Rel c F H Ω ρ σ) (ho : OpPs c F σ os vs) (ha : atOk os = true) : Rel c F H (inN os Ω) (os.map (sea ρ)) (vs.map some) := by
  refine ⟨⟨r.wf.sub, fun b π e => ?_⟩, fun k d h1 h2 => ?_, by rw [List.length_map, List.length_map, ho.length]⟩
  · cases q : Ω b with
    | none => unfold inN at e; rw [q] at e; cases e
    | some π' => exact r.wf.own b π' q
  · rw [List.getElem?_map] at h1
    cases q : os[k]? with
    | none => rw [q] at h1; cases h1
    | some o =>
      rw [q] at h1
      obtain ⟨v, hv, op⟩ := ho.get q
      refine ⟨v, by rw [List.getElem?_map, hv]; rfl, ?_⟩
      cases o with
      | vl e =>
        cases h1
        exact (Rv_of_own (own_fr e)).mpr ((Fz_fr _ _ _ _).mpr op)
      | sl i =>
        have e1 : gt ρ i = d := Option.some.inj h1
        subst e1
        have hn : nz (gt ρ i) = true := by
          cases e : gt ρ i <;> first | rfl | exact absurd e h2
        obtain ⟨u, q1, q2⟩ := r.sl i _ (gt_some hn) h2
        have op' : σ[i]? = some (some v) := op
        rw [op'] at q1
        cases q1
        refine Rv.move (Sub.refl _) _ [i] [k] v (fun b π z => ⟨?_, rfl⟩) q2
        have z' : Ω b = some (i :: π) := z
        unfold inN
        rw [z']
        show (ixO os i).map _ = _
        rw [get_ixO ha q]
        rfl
theorem inN_none {b : Addr} (h : Ω b = none) : inN os Ω b = none := by unfold inN; rw [h]
theorem out_all {F' H' : Hp} {Ω' : Nm} {posts : List D} (r : Rel c F H Ω ρ σ) (ho : OpPs c F σ os vs) (ha : atOk os = true) (hio : ioOk io os = true) (hpl : posts.length = os.length) (s : Stp F H (inN os Ω) F' H' Ω') (ip : IoP c io F' H' Ω' posts vs) :
    Stp F H Ω F' H' (outN os Ω Ω') ∧ Rel c F' H' (outN os Ω Ω') (wb ρ os posts) σ := by
  -- what is owned elsewhere
  have other : ∀ b i π, Ω b = some (i :: π) → ixO os i = none → H' b = H b ∧ F' b = none ∧ Ω' b = none ∧ ∃ o, H b = some o := fun b i π e1 e2 => by
    obtain ⟨q1, o, q2⟩ := r.wf.own b _ e1
    have q3 : inN os Ω b = none := by unfold inN; rw [e1]; show (ixO os i).map _ = none; rw [e2]; rfl
    obtain ⟨z1, z2, z3⟩ := s.ou b o q2 q1 q3
    exact ⟨z1.trans q2.symm, z2, z3, o, q2⟩
  refine ⟨⟨s.ef, fun b o h1 h2 h3 => ?_⟩, ⟨⟨ip.wf.sub, fun b π e => ?_⟩, fun j d h1 h2 => ?_, by rw [wb_length]; exact r.len⟩⟩
  · obtain ⟨z1, z2, z3⟩ := s.ou b o h1 h2 (inN_none h3)
    refine ⟨z1, z2, ?_⟩
    unfold outN
    rw [z3]
    show (match Ω b with | some (i :: π) => _ | o => o) = none
    rw [h3]
  · cases q : Ω' b with
    | some π' => exact ip.wf.own b π' q
    | none =>
      unfold outN at e
      rw [q] at e
      have e' : (match Ω b with | some (i :: π) => if (ixO os i).isSome = true then none else some (i :: π) | o => o) = some π := e
      split at e'
      · rename_i i π1 y
        split at e'
        · cases e'
        · rename_i hn
          have hn' : ixO os i = none := by simpa using hn
          obtain ⟨z1, z2, z3, o, z4⟩ := other b i π1 y hn'
          exact ⟨z2, o, by rw [z1]; exact z4⟩
      · rename_i y
        obtain ⟨q1, o, q2⟩ := r.wf.own b π e'
        cases π with
        | nil =>
          have q3 : inN os Ω b = none := by unfold inN; rw [e']
          obtain ⟨z1, z2, z3⟩ := s.ou b o q2 q1 q3
          exact ⟨z2, o, z1⟩
        | cons i π1 => exact absurd e' (y i π1)
  · rcases wb_get ρ os posts j d h1 with ⟨k, k1, k2⟩ | ⟨k1, k2⟩
    · have hk : k ∈ io := by
        have hlt := (List.getElem?_eq_some_iff.mp k1).1
        have := List.all_eq_true.mp hio k (List.mem_range.mpr hlt)
        rw [k1] at this
        simpa using this
      obtain ⟨v, q1, q2⟩ := ip.at' k hk d k2 h2
      obtain ⟨u, q3, q4⟩ := ho.get k1
      rw [q1] at q3
      cases q3
      refine ⟨v, q4, Rv.move (Sub.refl _) d [k] [j] v (fun b π z => ⟨?_, rfl⟩) q2⟩
      have z' : Ω' b = some (k :: π) := z
      unfold outN
      rw [z']
      show (match os[k]? with | some (Opd.sl i) => some (i :: π) | _ => none) = _
      rw [k1]
      rfl
    · obtain ⟨v, q1, q2⟩ := r.sl j d k1 h2
      refine ⟨v, q1, Rv.move s.ef d [j] [j] v (fun b π z => ?_) q2⟩
      have hn : ixO os j = none := by
        cases q : ixO os j with
        | none => rfl
        | some k => exact absurd (ixO_get q) (k2 hpl k)
      have z' : Ω b = some (j :: π) := z
      obtain ⟨z1, z2, z3, _⟩ := other b j π z' hn
      refine ⟨?_, z1⟩
      unfold outN
      rw [z3]
      show (match Ω b with | some (i :: π) => _ | o => o) = _
      rw [z']
      show (if (ixO os j).isSome = true then none else some (j :: π)) = _
      rw [hn]
      rfl
theorem out_air {F' H' : Hp} {Ω' Θ : Nm} {d : D} {v : V} (w : Wf F H Ω) (s : Stp F H (inN os Ω) F' H' Ω') (a : Air c F' H' Ω' d v Θ) (n : New F H (inN os Ω) Θ) : Air c F' H' (outN os Ω Ω') d v Θ ∧ New F H Ω Θ := by
  refine ⟨⟨a.rv, fun b π e => ?_⟩, fun b o h1 h2 h3 => n b o h1 h2 (inN_none h3)⟩
  obtain ⟨q1, q2, q3⟩ := a.nm b π e
  refine ⟨q1, ?_, q3⟩
  unfold outN
  rw [q2]
  show (match Ω b with | some (i :: π) => if (ixO os i).isSome = true then none else some (i :: π) | o => o) = none
  split
  · rename_i i π1 y
    split
    · rfl
    · rename_i hn
      have hn' : ixO os i = none := by simpa using hn
      obtain ⟨z1, o, z2⟩ := w.own b _ y
      have q : inN os Ω b = none := by unfold inN; rw [y]; show (ixO os i).map _ = none; rw [hn']; rfl
      rw [n b o z2 z1 q] at e
      cases e
  · rename_i y
    cases q : Ω b with
    | none => rfl
    | some π1 =>
      cases π1 with
      | nil =>
        obtain ⟨z1, o, z2⟩ := w.own b _ q
        have q' : inN os Ω b = none := by unfold inN; rw [q]
        rw [n b o z2 z1 q'] at e
        cases e
      | cons i π2 => exact absurd q (y i π2)
end
/-- the call's data: S at the operands' values, the passed slots written back -/
def callD (io : List Nat) (n : Nat) (S : FS) (os : List Opd) (ρ : Env) (K : R D → Env → Prop) : Prop :=
  atOk os = true ∧ ioOk io os = true ∧ os.length = n ∧ S (os.map (sea ρ)) fun r posts => posts.length = n ∧ K r (wb ρ os posts)
theorem call_core {c : Ct} {W : WX} {io : List Nat} {n : Nat} {S : FS} {F H : Hp} {Ω : Nm} {ρ : Env} {σ : L2.St} {os : List Opd} {vs : List V} {K : R D → Env → Prop} {Q : VK} (r : Rel c F H Ω ρ σ) (ho : OpPs c F σ os vs) (h : callD io n S os ρ K)
    (k : ∀ d ρ', K (.ok d) ρ' → ∀ v F' H' Ω' Θ, Stp F H Ω F' H' Ω' → Rel c F' H' Ω' ρ' σ → Air c F' H' Ω' d v Θ → New F H Ω Θ → Q v H') (kx : ExW c W F H Ω σ (exK K)) : spOf c io n S vs H Q (WE W σ) := by
  obtain ⟨h1, h2, h3, h4⟩ := h
  refine ⟨F, inN os Ω, _, _, by rw [List.length_map]; exact h3, in_rel r ho h1, h4, fun d posts q v F' H' Ω' Θ s ip a nw => ?_, fun C w posts q cd vw F' H' Ω' s ip e1 e2 => ?_⟩
  · obtain ⟨s', r'⟩ := out_all r ho h1 h2 (q.1.trans h3.symm) s ip
    obtain ⟨a', n'⟩ := out_air r.wf s a nw
    exact k d _ q.2 v F' H' _ Θ s' r' a' n'
  · obtain ⟨s', r'⟩ := out_all r ho h1 h2 (q.1.trans h3.symm) s ip
    exact kx C w _ q.2 cd vw F' H' _ s' r' e1 e2

/-! ### a value of one's own is frozen where it is used -/
theorem frz_air {c : Ct} {F H F1 H1 : Hp} {Ω Ω1 Θ : Nm} {ρ : Env} {σ : L2.St} {d : D} {v : V} (s : Stp F H Ω F1 H1 Ω1) (r : Rel c F1 H1 Ω1 ρ σ) (a : Air c F1 H1 Ω1 d v Θ) (n : New F H Ω Θ) :
    ∃ F2, Stp F H Ω F2 H1 Ω1 ∧ Rel c F2 H1 Ω1 ρ σ ∧ Fz c F2 d v := by
  refine ⟨fun b => if (Θ b).isSome = true then H1 b else F1 b, ?_⟩
  have e1 : Sub F1 (fun b => if (Θ b).isSome = true then H1 b else F1 b) := fun b o h => by
    show (if (Θ b).isSome = true then H1 b else F1 b) = some o
    cases q : Θ b with
    | none => exact h
    | some π => rw [(a.nm b π q).1] at h; cases h
  refine ⟨⟨s.ef.trans e1, fun b o h1 h2 h3 => ?_⟩, ⟨⟨fun b o h => ?_, fun b π h => ?_⟩, fun i x h1 h2 => ?_, r.len⟩, Rv.frz e1 d [] v (fun b π o z q => ?_) a.rv⟩
  · obtain ⟨q1, q2, q3⟩ := s.ou b o h1 h2 h3
    refine ⟨q1, ?_, q3⟩
    show (if (Θ b).isSome = true then H1 b else F1 b) = none
    rw [n b o h1 h2 h3]
    exact q2
  · have h' : (if (Θ b).isSome = true then H1 b else F1 b) = some o := h
    split at h'
    · exact h'
    · exact r.wf.sub b o h'
  · obtain ⟨q1, q2⟩ := r.wf.own b π h
    refine ⟨?_, q2⟩
    show (if (Θ b).isSome = true then H1 b else F1 b) = none
    cases q : Θ b with
    | none => exact q1
    | some π' => rw [(a.nm b π' q).2.1] at h; cases h
  · obtain ⟨u, q1, q2⟩ := r.sl i x h1 h2
    exact ⟨u, q1, Rv.move e1 x _ _ u (fun b π z => ⟨z, rfl⟩) q2⟩
  · show (if (Θ b).isSome = true then H1 b else F1 b) = some o
    have z' : Θ b = some π := by simpa using z
    rw [z']
    exact q
theorem E_of_N {X : Cx} {c : Ct} {W : WX} {e : Expr} {T : DE} (h : PE X e (tOfN c W T)) : PE X e (tOfE c W (dFr T)) := h.imp fun σ H Q h => by
  obtain ⟨F, Ω, ρ, K, r, t, k, kx⟩ := h
  refine ⟨F, Ω, ρ, _, r, t, fun d ρ' q v F' H' Ω' Θ s r' a n => ?_, kx.imp (Stp.refl _ _ _) fun _ _ _ q => q⟩
  obtain ⟨F2, s2, r2, f⟩ := frz_air s r' a n
  exact k _ ρ' q v F2 H' Ω' s2 r2 ((Fz_fr _ _ _ _).mpr f)

/-! ### f(..), o.m(..), C(..) -/
section
variable {X : Cx} {c : Ct} {W : WX} {k : Nat} {f : Addr} {fd : FuncData} {ps : List Str} {io : List Nat} {n : Nat} {S : FS} {dds : List D} {dvs : List V} {ds : List Value} {e : Expr} {es : List Expr} {A : DA}
def dCall (io : List Nat) (n : Nat) (S : FS) (dds : List D) (A : DA) : DE := fun ρ K => A ρ (onOk K fun os ρ' => callD io n S (os ++ dds.map Opd.vl) ρ' K)
theorem OpPs.append {F : Hp} {σ : L2.St} : ∀ {os os' : List Opd} {vs vs' : List V}, OpPs c F σ os vs → OpPs c F σ os' vs' → OpPs c F σ (os ++ os') (vs ++ vs')
  | [], os', vs, vs', h, g => by
    have e : vs = [] := h
    subst e
    exact g
  | o :: os, os', vs, vs', ⟨v, r, e, h1, h2⟩, g => by
    subst e
    exact ⟨v, r ++ vs', rfl, h1, OpPs.append h2 g⟩
/-- the defaults, constants -/
def Dft (c : Ct) (dds : List D) (dvs : List V) : Prop := ∀ F σ, OpPs c F σ (dds.map Opd.vl) dvs
theorem Dft.nil : Dft c [] [] := fun _ _ => rfl
theorem N_call {x : Str} {p pos : Pos} (Fk : FnOk X.prog X.w X.K X.mg X.base (L2.CX X.prog X.w) k f fd ps (spOf c io n S)) (hr : Room k X.A) (tk : Takes X W) (hg : Gl X x) (hm : X.mg x = some (.ref f)) (hk : PySem.W.keepIn X.K (.ref f) = true) (hb : Binds X.K fd ps ds) (hd : Vals dvs ds) (hdf : Dft c dds dvs)
    (ha : PA X (e :: es) (tOfA c W A)) (hdb : (x == ("__debug__" : Str)) = false := by decide) (he : starEach (e :: es) X.env = (false, eval e X.env) :: starEach es X.env := by rfl) (hpl : (backTo pos (starEach es X.env)).any (·.1) = false := by rfl) :
    PE X (.Call (.Name x p) (e :: es) [] pos) (tOfN c W (dCall io n S dds A)) :=
  (pe_callSD (E := WE W) Fk hr hg hm hk hb hd (passAt tk) ha hdb he hpl).imp fun σ H Q h => by
    obtain ⟨F, Ω, ρ, K, r0, ht, k', kx⟩ := h
    refine ⟨F, Ω, ρ, _, r0, ht, fun os ρ1 q1 vs F1 H1 Ω1 s1 r1 f1 => ?_, kx.imp (Stp.refl _ _ _) fun _ _ _ q => q⟩
    exact call_core r1 (f1.append (hdf F1 σ)) q1 (fun d ρ' q v F' H' Ω' Θ s r' a nw => k' d ρ' q v F' H' Ω' Θ (s1.trans s) r' a (nw.step s1)) (kx.imp s1 fun _ _ _ q => q)

/-! methods -/
def tMethSD (C : Addr) (m : Str) (sp : Sp) (dvs : List V) (E : L2.St → XK) (ta : TE) (t : TA) : TE := fun σ H Q => ta σ H fun x H1 => ∃ a dx fs, x = .ref a ∧ H1 a = some (.ins C dx fs) ∧ fs.lookup m = none ∧ t σ H1 fun vs H2 => sp (x :: (vs ++ dvs)) H2 Q (E σ)
theorem run_fnSD' {CX : CXT} {sp : Sp} {E : L2.St → XK} {pins : List (Addr × Obj)} {σ : L2.St} {H : Hp} {s : Shared} {Q : VK} {us : List Value} {vs : List V} (Fk : FnOk X.prog X.w X.K X.mg X.base CX k f fd ps sp) (hr : Room k X.A) (hb : Binds X.K fd ps ds) (hd : Vals dvs ds) (hx : PassesAt CX X σ (E σ))
    (I : Inv X pins σ H s) (r : Vals vs us) (h : sp (vs ++ dvs) H Q (E σ)) : wpAny (model X.prog X.w) X.A (call (.ref f) us) (EP X pins σ Q) X.xe s := run_fnSD Fk hr hb hd hx I r h
theorem pe_methSD {CX : CXT} {C : Addr} {m : Str} {o : Expr} {ta : TE} {t : TA} {sp : Sp} {E : L2.St → XK} {apos pos : Pos} {pl : Sem Bool} (he : PE X o ta) (cl : Cls X.K C) (hm : Meth X.K C m f) (Fk : FnOk X.prog X.w X.K X.mg X.base CX k f fd ps sp) (hr : Room k X.A) (hb : Binds X.K fd ps ds) (hd : Vals dvs ds) (hx : ∀ σ, PassesAt CX X σ (E σ)) (ha : PA X (e :: es) t)
    (hst : starEach (e :: es) X.env = (false, eval e X.env) :: starEach es X.env := by rfl) (hpl : (backTo pos (starEach es X.env)).any (·.1) = false := by rfl)
    (ht : eval (.Call (.Attribute o m apos) (e :: es) [] pos) X.env = (do
      let ov ← eval o X.env
      standAt apos.atName
      let (f, first) ← holding [ov] (getMethod ov m pl)
      callWith pos f first (backTo pos (starEach (e :: es) X.env)) (backToKw pos (keywordEach [] X.env))) := by rfl) :
    PE X (.Call (.Attribute o m apos) (e :: es) [] pos) (tMethSD C m sp dvs E ta t) := by
  refine ⟨fun pins s σ H Q I h => ?_⟩
  refine PySem.W.methodCall_KW (pl := pl) (thn (he.run pins s σ H _ I h) fun u s1 ⟨x, H1, I1, rx, a, dx, fs, ex, ea, l, q⟩ => ?_) ht
  subst ex
  obtain rfl : u = Value.ref a := rx
  refine getmeth_ok I1 ea cl hm l ?_
  refine PySem.W.callWith_K (first := [.ref a]) (h₀ := X.base) I.ok.mod.kin hm.kp (thn (ha.run pos pins s1 σ H1 _ I1 q) fun us s2 ⟨vs, H2, I2, r, q2⟩ => ⟨I2.kIn, ?_⟩) hst hpl
  exact run_fnSD (us := .ref a :: us) (vs := .ref a :: vs) Fk hr hb hd (hx σ) I2 (.cons rfl r) q2
theorem pe_methSD0 {CX : CXT} {C : Addr} {m : Str} {o : Expr} {ta : TE} {sp : Sp} {E : L2.St → XK} {apos pos : Pos} {pl : Sem Bool} (he : PE X o ta) (cl : Cls X.K C) (hm : Meth X.K C m f) (Fk : FnOk X.prog X.w X.K X.mg X.base CX k f fd ps sp) (hr : Room k X.A) (hb : Binds X.K fd ps ds) (hd : Vals dvs ds) (hx : ∀ σ, PassesAt CX X σ (E σ))
    (ht : eval (.Call (.Attribute o m apos) [] [] pos) X.env = (do
      let ov ← eval o X.env
      standAt apos.atName
      let (f, first) ← holding [ov] (getMethod ov m pl)
      callWith pos f first (backTo pos (starEach [] X.env)) (backToKw pos (keywordEach [] X.env))) := by rfl) :
    PE X (.Call (.Attribute o m apos) [] [] pos) (tMethSD C m sp dvs E ta tNil) := by
  refine ⟨fun pins s σ H Q I h => ?_⟩
  refine PySem.W.methodCall_KW (pl := pl) (thn (he.run pins s σ H _ I h) fun u s1 ⟨x, H1, I1, rx, a, dx, fs, ex, ea, l, q⟩ => ?_) ht
  subst ex
  obtain rfl : u = Value.ref a := rx
  refine getmeth_ok I1 ea cl hm l ?_
  exact PySem.W.callWith_K0 (first := [.ref a]) I1.kIn hm.kp (run_fnSD (us := [.ref a]) (vs := [.ref a]) Fk hr hb hd (hx σ) I1 (.cons rfl .nil) q)
def isIns (C : Nat) : D → Bool
  | .ins _ C' _ => C' == C
  | _ => false
/-- o.m(..), o an instance of the class C -/
def dMeth (C : Nat) (io : List Nat) (n : Nat) (S : FS) (dds : List D) (O : DO) (A : DA) : DE := fun ρ K => O ρ (onOk K fun o ρ1 => isIns C (see ρ1 o) = true ∧ A ρ1 (onOk K fun os ρ' => callD io n S (o :: (os ++ dds.map Opd.vl)) ρ' K))
theorem lookup_zip {m : Str} : ∀ {fs : List Str} {vs : List V}, m ∉ fs → (fs.zip vs).lookup m = none
  | [], vs, _ => by simp
  | f :: fs, [], _ => by simp
  | f :: fs, v :: vs, h => by
    simp only [List.zip_cons_cons, List.lookup_cons]
    have h1 : (m == f) = false := by
      simp only [List.mem_cons, not_or] at h
      simpa using h.1
    rw [h1]
    exact lookup_zip fun z => h (List.mem_cons_of_mem _ z)
theorem run_meth {C : Nat} {m : Str} {O : DO} {A : DA} {σ : L2.St} {H : Hp} {Q : VK} (hm : m ∉ c.flds C) (hdf : Dft c dds dvs) (h : tOfN c W (dMeth C io n S dds O A) σ H Q) :
    tMethSD (c.cls C) m (spOf c io n S) dvs (WE W) (tOfO c W O) (tOfA c W A) σ H Q := by
  obtain ⟨F, Ω, ρ, K, r0, ht, k', kx⟩ := h
  refine ⟨F, Ω, ρ, _, r0, ht, fun o ρ1 q1 x F1 H1 Ω1 s1 r1 f1 => ?_, kx.imp (Stp.refl _ _ _) fun _ _ _ q => q⟩
  obtain ⟨hi, q1⟩ := q1
  have hn : nz (see ρ1 o) = true := by
    cases e : see ρ1 o <;> rw [e] at hi <;> first | rfl | cases hi
  have vw := f1.vw r1 hn
  cases e : see ρ1 o with
  | ins b C' xs =>
    rw [e] at hi vw
    have eC : C' = C := by simpa [isIns] using hi
    subst eC
    obtain ⟨a, dx, vs, e1, h1, _, _⟩ := vw.ins r1.wf
    refine ⟨a, dx, _, e1, h1, lookup_zip hm, F1, Ω1, ρ1, _, r1, q1, fun os ρ2 q2 vs F2 H2 Ω2 s2 r2 f2 => ?_, kx.imp s1 fun _ _ _ q => q⟩
    exact call_core (os := o :: (os ++ dds.map Opd.vl)) (vs := x :: (vs ++ dvs)) r2 ⟨x, _, rfl, f1.mono s2.ef, f2.append (hdf F2 σ)⟩ q2 (fun d ρ' q v F' H' Ω' Θ s r' a nw => k' d ρ' q v F' H' Ω' Θ ((s1.trans s2).trans s) r' a (nw.step (s1.trans s2))) (kx.imp (s1.trans s2) fun _ _ _ q => q)
  | _ => rw [e] at hi; cases hi
theorem N_meth {C : Nat} {m : Str} {o : Expr} {O : DO} {apos pos : Pos} {pl : Sem Bool} (ho : PE X o (tOfO c W O)) (cl : Cls X.K (c.cls C)) (hm : Meth X.K (c.cls C) m f) (hmf : m ∉ c.flds C) (Fk : FnOk X.prog X.w X.K X.mg X.base (L2.CX X.prog X.w) k f fd ps (spOf c io n S)) (hr : Room k X.A) (tk : Takes X W) (hb : Binds X.K fd ps ds) (hd : Vals dvs ds) (hdf : Dft c dds dvs)
    (ha : PA X (e :: es) (tOfA c W A))
    (hst : starEach (e :: es) X.env = (false, eval e X.env) :: starEach es X.env := by rfl) (hpl : (backTo pos (starEach es X.env)).any (·.1) = false := by rfl)
    (ht : eval (.Call (.Attribute o m apos) (e :: es) [] pos) X.env = (do
      let ov ← eval o X.env
      standAt apos.atName
      let (f, first) ← holding [ov] (getMethod ov m pl)
      callWith pos f first (backTo pos (starEach (e :: es) X.env)) (backToKw pos (keywordEach [] X.env))) := by rfl) :
    PE X (.Call (.Attribute o m apos) (e :: es) [] pos) (tOfN c W (dMeth C io n S dds O A)) :=
  (pe_methSD (E := WE W) ho cl hm Fk hr hb hd (passAt tk) ha hst hpl ht).imp fun _ _ _ h => run_meth hmf hdf h
theorem N_meth0 {C : Nat} {m : Str} {o : Expr} {O : DO} {apos pos : Pos} {pl : Sem Bool} (ho : PE X o (tOfO c W O)) (cl : Cls X.K (c.cls C)) (hm : Meth X.K (c.cls C) m f) (hmf : m ∉ c.flds C) (Fk : FnOk X.prog X.w X.K X.mg X.base (L2.CX X.prog X.w) k f fd ps (spOf c io n S)) (hr : Room k X.A) (tk : Takes X W) (hb : Binds X.K fd ps ds) (hd : Vals dvs ds) (hdf : Dft c dds dvs)
    (ht : eval (.Call (.Attribute o m apos) [] [] pos) X.env = (do
      let ov ← eval o X.env
      standAt apos.atName
      let (f, first) ← holding [ov] (getMethod ov m pl)
      callWith pos f first (backTo pos (starEach [] X.env)) (backToKw pos (keywordEach [] X.env))) := by rfl) :
    PE X (.Call (.Attribute o m apos) [] [] pos) (tOfN c W (dMeth C io n S dds O dNil)) :=
  (pe_methSD0 (E := WE W) ho cl hm Fk hr hb hd (passAt tk) ht).imp fun σ H Q h => by
    have q := run_meth hmf hdf h
    obtain ⟨F, Ω, ρ, K, r0, ht, k', kx⟩ := q
    refine ⟨F, Ω, ρ, K, r0, ht, fun o ρ1 q1 x F1 H1 Ω1 s1 r1 f1 => ?_, kx⟩
    obtain ⟨a, dx, fs, e1, h1, l, F2, Ω2, ρ2, K2, r2, ht2, k2, kx2⟩ := k' o ρ1 q1 x F1 H1 Ω1 s1 r1 f1
    exact ⟨a, dx, fs, e1, h1, l, k2 [] ρ2 ht2 [] F2 H1 Ω2 (Stp.refl _ _ _) r2 rfl⟩

/-! makers -/
def tMakeSD (C : Addr) (sp : Sp) (dvs : List V) (E : L2.St → XK) (t : TA) : TE := fun σ H Q => t σ H fun vs H1 => ∀ x dx, H1 x = none → H1 dx = none → dx ≠ x →
  sp (.ref x :: (vs ++ dvs)) (upd (upd H1 dx (.own x)) x (.ins C dx [])) (fun v H2 => v = .non ∧ Q (.ref x) H2) (E σ)
theorem run_makeSD {CX : CXT} {C : Addr} {sp : Sp} {E : L2.St → XK} {pins : List (Addr × Obj)} {σ : L2.St} {H : Hp} {s : Shared} {Q : VK} {us : List Value} {vs : List V} (M : Mk X.K C f) (Fk : FnOk X.prog X.w X.K X.mg X.base CX k f fd ps sp) (hr : Room (k + 1) X.A) (hb : Binds X.K fd ps ds) (hd : Vals dvs ds)
    (hx : PassesAt CX X σ (E σ)) (I : Inv X pins σ H s) (r : Vals vs us)
    (h : ∀ x dx, H x = none → H dx = none → dx ≠ x → sp (.ref x :: (vs ++ dvs)) (upd (upd H dx (.own x)) x (.ins C dx [])) (fun v H2 => v = .non ∧ Q (.ref x) H2) (E σ)) :
    wpAny (model X.prog X.w) X.A (call (.ref C) us) (EP X pins σ Q) X.xe s := by
  have hq := h (s.heap.objs.size + 1) s.heap.objs.size (I.hok.fresh (Nat.le_succ _)) (I.hok.fresh (Nat.le_refl _)) (Nat.ne_of_lt (Nat.lt_succ_self _))
  have I2 := Inv.made (C := C) I
  have r2 : Vals (V.ref (s.heap.objs.size + 1) :: (vs ++ dvs)) (Value.ref (s.heap.objs.size + 1) :: (us ++ ds)) := .cons rfl (r.append hd)
  have hl : (Value.ref (s.heap.objs.size + 1) :: us ++ ds).length = ps.length := by
    have e := r2.length
    rw [Fk.len _ _ _ _ hq] at e
    exact e.symm
  refine wpAny_call (make_map (f := f) I.kIn M.makes M.init (beq_iff_eq.mp M.fn) (codeAny_mono (Fk.run _ X.stack _ _ ⟨Value.ref (s.heap.objs.size + 1) :: us, []⟩ (Value.ref (s.heap.objs.size + 1) :: (us ++ ds)) _ _ (E σ) (hr.make C us [])
    (I2.env0.make C us []) (hb _ (Value.ref (s.heap.objs.size + 1) :: us) I2.kIn hl) r2 hq) fun r s' hq' => ?_))
  cases r with
  | error e => exact hx pins _ _ e s' I2 hq'
  | ok fl =>
    cases fl with
    | ret u =>
      obtain ⟨v, H', I3, rv, ev, q3⟩ := I2.after hq'
      subst ev
      exact ⟨rv, ⟨V.ref (s.heap.objs.size + 1), H', I3, rfl, q3⟩⟩
    | next => exact False.elim hq'
    | brk => exact False.elim hq'
    | cont => exact False.elim hq'
theorem pe_makeSD {CX : CXT} {C : Addr} {x : Str} {p pos : Pos} {sp : Sp} {E : L2.St → XK} {t : TA} (M : Mk X.K C f) (Fk : FnOk X.prog X.w X.K X.mg X.base CX k f fd ps sp) (hr : Room (k + 1) X.A) (hg : Gl X x) (hm : X.mg x = some (.ref C)) (hb : Binds X.K fd ps ds) (hd : Vals dvs ds) (hx : ∀ σ, PassesAt CX X σ (E σ))
    (ha : PA X (e :: es) t) (hdb : (x == ("__debug__" : Str)) = false := by decide) (he : starEach (e :: es) X.env = (false, eval e X.env) :: starEach es X.env := by rfl) (hpl : (backTo pos (starEach es X.env)).any (·.1) = false := by rfl) :
    PE X (.Call (.Name x p) (e :: es) [] pos) (tMakeSD C sp dvs E t) := by
  refine ⟨fun pins s σ H Q I h => ?_⟩
  refine wpAny_Call_Name_kw (ld_glob I hg hm ?_ hdb)
  refine PySem.W.callWith_K (h₀ := X.base) I.ok.mod.kin M.kp (thn (ha.run pos pins s σ H _ I h) fun us s1 ⟨vs, H1, I1, r, q⟩ => ⟨I1.kIn, ?_⟩) he hpl
  exact run_makeSD M Fk hr hb hd (hx σ) I1 r q
/-- C(..): __init__ at a new instance (its first parameter), the other operands values -/
def dMake (C : Nat) (n : Nat) (S : FS) (dds : List D) (L : DL) : DE := fun ρ K => L ρ (onOk K fun ds ρ' => ds.length + dds.length + 1 = n ∧ S (.ins true C [] :: (ds ++ dds).map fr) fun r posts => match r with
  | .ok .non => ∃ d rest, posts = d :: rest ∧ nz d = true ∧ K (.ok d) ρ'
  | .ok _ => False
  | .exc C w => K (.exc C w) ρ')
theorem fzl_dft {F : Hp} : ∀ {dds : List D} {dvs : List V} {σ : L2.St}, OpPs c F σ (dds.map Opd.vl) dvs → FzL c F dds dvs
  | [], dvs, σ, h => by
    have e : dvs = [] := h
    subst e
    exact FzL.nil
  | d :: dds, dvs, σ, ⟨v, r, e, h1, h2⟩ => by
    subst e
    exact FzL.cons h1 (fzl_dft h2)
theorem N_make {C : Nat} {x : Str} {p pos : Pos} {L : DL} (M : Mk X.K (c.cls C) f) (Fk : FnOk X.prog X.w X.K X.mg X.base (L2.CX X.prog X.w) k f fd ps (spOf c [0] n S)) (hr : Room (k + 1) X.A) (tk : Takes X W) (hg : Gl X x) (hm : X.mg x = some (.ref (c.cls C))) (hb : Binds X.K fd ps ds) (hd : Vals dvs ds) (hdf : Dft c dds dvs)
    (ha : PA X (e :: es) (tOfL c W L)) (hdb : (x == ("__debug__" : Str)) = false := by decide) (he : starEach (e :: es) X.env = (false, eval e X.env) :: starEach es X.env := by rfl) (hpl : (backTo pos (starEach es X.env)).any (·.1) = false := by rfl) :
    PE X (.Call (.Name x p) (e :: es) [] pos) (tOfN c W (dMake C n S dds L)) :=
  (pe_makeSD (E := WE W) M Fk hr hg hm hb hd (passAt tk) ha hdb he hpl).imp fun σ H Q h => by
    obtain ⟨F, Ω, ρ, K, r0, ht, k', kx⟩ := h
    refine ⟨F, Ω, ρ, _, r0, ht, fun ds' ρ1 q1 vs F1 H1 Ω1 s1 r1 f1 => fun x dx hx hdx hne => ?_, kx.imp (Stp.refl _ _ _) fun _ _ _ q => q⟩
    obtain ⟨hl, q1⟩ := q1
    have fall : FzL c F1 (ds' ++ dds) (vs ++ dvs) := f1.append (fzl_dft (hdf F1 σ))
    obtain ⟨hF, hΩ, hs0, hw0⟩ := wf_new (o := .own x) r1.wf hdx
    have hx2 : (upd H1 dx (.own x)) x = none := by rw [upd_ne hne.symm]; exact hx
    obtain ⟨hFx, hΩx, hs1, hw1⟩ := wf_new (o := .ins (c.cls C) dx []) hw0 hx2
    have k1 : ∀ b o, H1 b = some o → (upd (upd H1 dx (.own x)) x (.ins (c.cls C) dx [])) b = some o := fun b o e => hs1 b o (hs0 b o e)
    have back : ∀ {F' H' : Hp} {Ω' : Nm}, Stp F1 (upd (upd H1 dx (.own x)) x (.ins (c.cls C) dx [])) (fun b => if b = x then some [0] else none) F' H' Ω' → Wf F' H' Ω' → Stp F1 H1 Ω1 F' H' Ω1 ∧ Rel c F' H' Ω1 ρ1 σ ∧ (∀ b π, Ω1 b = some π → Ω' b = none) := fun {F' H' Ω'} s w => by
      have out : ∀ b o, H1 b = some o → F1 b = none → H' b = some o ∧ F' b = none ∧ Ω' b = none := fun b o e1 e2 => s.ou b o (k1 b o e1) e2 (if_neg (ne_of_none e1 hx))
      refine ⟨⟨s.ef, fun b o e1 e2 e3 => let ⟨z1, z2, _⟩ := out b o e1 e2; ⟨z1, z2, e3⟩⟩, ⟨⟨w.sub, fun b π e => ?_⟩, fun i d e1 e2 => ?_, r1.len⟩, fun b π e => ?_⟩
      · obtain ⟨y1, o, y2⟩ := r1.wf.own b π e
        obtain ⟨z1, z2, _⟩ := out b o y2 y1
        exact ⟨z2, o, z1⟩
      · obtain ⟨v, y1, y2⟩ := r1.sl i d e1 e2
        refine ⟨v, y1, Rv.move s.ef d _ _ v (fun b π z => ⟨z, ?_⟩) y2⟩
        obtain ⟨y3, o, y4⟩ := r1.wf.own b _ z
        rw [y4, (out b o y4 y3).1]
      · obtain ⟨y3, o, y4⟩ := r1.wf.own b _ e
        exact (out b o y4 y3).2.2
    refine ⟨F1, fun b => if b = x then some [0] else none, _, _, ?_, ⟨⟨hw1.sub, fun b π e => ?_⟩, fun i d e1 e2 => ?_, ?_⟩, q1, fun d posts q v F' H' Ω' Θ s ip a nw => ?_, fun C' w posts q cd vw F' H' Ω' s ip e1 e2 => ?_⟩
    · rw [List.length_cons, List.length_map, List.length_append]
      exact hl
    · have e' : (if b = x then some ([0] : List Nat) else none) = some π := e
      split at e'
      · rename_i hb
        rw [hb]
        exact ⟨hFx, _, upd_same⟩
      · cases e'
    · cases i with
      | zero =>
        cases e1
        refine ⟨.ref x, rfl, ?_⟩
        simp only [Rv]
        exact ⟨x, dx, [], rfl, by simp, by rw [upd_same]; simp, Nat.zero_le _, by simp only [RvL]⟩
      | succ i =>
        have e1' : ((ds' ++ dds).map fr)[i]? = some d := by simpa using e1
        rw [List.getElem?_map] at e1'
        cases q : (ds' ++ dds)[i]? with
        | none => rw [q] at e1'; cases e1'
        | some d0 =>
          rw [q] at e1'
          cases e1'
          obtain ⟨v, y1, y2⟩ := fall.get q
          refine ⟨v, ?_, (Rv_of_own (own_fr d0)).mpr ((Fz_fr _ _ _ _).mpr y2)⟩
          show ((vs ++ dvs).map some)[i]? = _
          rw [List.getElem?_map, y1]
          rfl
    · rw [List.length_cons, List.length_map, fall.length, List.length_map]
      rfl
    · obtain ⟨s2, r2, hn⟩ := back s ip.wf
      match d, q with
      | .non, ⟨d, rest, ep, hz, hk⟩ =>
        subst ep
        have av := a.rv
        simp only [Rv] at av
        obtain ⟨u, y1, y2⟩ := ip.at' 0 (by simp) d rfl (nz_ne hz)
        cases y1
        refine ⟨av, k' d ρ1 hk (.ref x) F' H' Ω1 (fun b => match Ω' b with | some (0 :: π) => some π | _ => none) (s1.trans s2) r2 ⟨Rv.move (Sub.refl _) d [0] [] _ (fun b π z => ⟨?_, rfl⟩) y2, fun b π e => ?_⟩ fun b o e1 e2 e3 => ?_⟩
        · show (match Ω' b with | some (0 :: π) => some π | _ => none) = _
          rw [z]
          rfl
        · have e' : (match Ω' b with | some (0 :: π) => some π | _ => none) = some π := e
          split at e'
          · rename_i π' y
            obtain ⟨z1, z2⟩ := ip.wf.own b _ y
            refine ⟨z1, ?_, z2⟩
            cases q : Ω1 b with
            | none => rfl
            | some π2 => rw [hn b π2 q] at y; cases y
          · cases e'
        · obtain ⟨z1, z2, z3⟩ := s1.ou b o e1 e2 e3
          obtain ⟨_, _, z4⟩ := s.ou b o (k1 b o z1) z2 (if_neg (ne_of_none z1 hx))
          show (match Ω' b with | some (0 :: π) => some π | _ => none) = none
          rw [z4]
      | .und, q => exact q.elim
      | .bl _, q => exact q.elim
      | .int _, q => exact q.elim
      | .str _, q => exact q.elim
      | .tup _, q => exact q.elim
      | .lst _ _, q => exact q.elim
      | .klst _, q => exact q.elim
      | .dic _ _ _, q => exact q.elim
      | .ins _ _ _, q => exact q.elim
      | .exo _ _ _ _, q => exact q.elim
      | .fn _, q => exact q.elim
    · obtain ⟨s2, r2, hn⟩ := back s ip.wf
      exact kx C' w ρ1 q cd vw F' H' Ω1 (s1.trans s2) r2 e1 e2
end
end Vi
/-! Vi6: what is walked; targets; for; comprehensions. -/
namespace Vi
open PySem L2

/-- J walks the items ds; what an item needs is made on the way -/
def ItOk (c : Ct) (J : It) (F : Hp) (ds : List D) : Prop := ∀ F' H' Ω, Sub F F' → Wf F' H' Ω →
  (∀ i, i < ds.length → J.go i H' ∧ ∀ x H'', J.yld i H' x H'' → ∃ F'' d, Ext F' H' Ω F'' H'' ∧ ds[i]? = some d ∧ Fz c F'' d x) ∧ J.stop ds.length H'
def tOfI (c : Ct) (W : WX) (T : DL) : TI := fun σ H R => ∃ F Ω ρ K, Rel c F H Ω ρ σ ∧ T ρ K ∧
  (∀ ds ρ', K (.ok ds) ρ' → ∀ J F' H' Ω', Stp F H Ω F' H' Ω' → Rel c F' H' Ω' ρ' σ → ItOk c J F' ds → R J H') ∧ ExW c W F H Ω σ (exK K)
theorem _root_.L2.PI.imp {X : Cx} {tg e : Expr} {t t' : TI} (h : PI X tg e t) (k : ∀ σ H R, t' σ H R → t σ H R) : PI X tg e t' := ⟨fun pins s σ H R I q => h.run pins s σ H R I (k σ H R q)⟩
section
variable {X : Cx} {c : Ct} {W : WX} {tg iter : Expr}
/-- a list, a tuple, a text -/
def dItL (T : DE) : DL := fun ρ K => T ρ (onOk K fun d ρ' => match d with | .lst _ ds => K (.ok ds) ρ' | .klst ds => K (.ok ds) ρ' | _ => False)
def dItT (T : DE) : DL := fun ρ K => T ρ (onOk K fun d ρ' => match d with | .tup ds => K (.ok ds) ρ' | _ => False)
def dItS (T : DE) : DL := fun ρ K => T ρ (onOk K fun d ρ' => match d with | .str s => K (.ok (s.map fun c => .str [c])) ρ' | _ => False)
theorem itl_ok {F : Hp} {a : Addr} {ds : List D} {vs : List V} (hq : SqL c.K F a vs) (hf : FzL c F ds vs)
    (inj : ∀ H xs, SqL c.K H a vs → SqL c.K H a xs → xs = vs) : ItOk c (Itl c.K a) F ds := fun F' H' Ω sb w => by
  have q : SqL c.K H' a vs := sql_sub (sb.trans w.sub) hq
  refine ⟨fun i hi => ?_, ⟨vs, q, by rw [hf.length]; exact Nat.le_refl _⟩⟩
  have hi' : i < vs.length := by rw [← hf.length]; exact hi
  refine ⟨⟨vs, vs[i], q, by rw [List.getElem?_eq_getElem hi']⟩, fun x H'' y => ?_⟩
  obtain ⟨e, y⟩ := y
  subst e
  have ex := y vs q
  have ed : ds[i]? = some ds[i] := List.getElem?_eq_getElem hi
  obtain ⟨v, q1, q2⟩ := hf.get ed
  rw [ex] at q1
  cases q1
  exact ⟨F', ds[i], Ext.refl w, ed, Fz.mono sb _ _ q2⟩
theorem I_list {T : DE} (hK : c.K = X.K) (he : PE X iter (tOfE c W T)) : PI X tg iter (tOfI c W (dItL T)) := (pi_list he).imp fun σ H R h => by
  obtain ⟨F, Ω, ρ, K, r, t, k, kx⟩ := h
  refine ⟨F, Ω, ρ, _, r, t, fun d ρ' q v F' H' Ω' s' r' f => ?_, kx.imp (Stp.refl _ _ _) fun _ _ _ q => q⟩
  obtain ⟨ds, a, vs, e, hq, hf, hw⟩ : ∃ ds a vs, v = .ref a ∧ SqL c.K F' a vs ∧ FzL c F' ds vs ∧ K (.ok ds) ρ' := by
    cases d with
    | lst o ds =>
      simp only [Fz] at f
      obtain ⟨a, vs, e, hq, hf⟩ := f
      exact ⟨ds, a, vs, e, SqL.of hq, hf, q⟩
    | klst ds =>
      simp only [Fz] at f
      obtain ⟨a, vs, e, hq, hf⟩ := f
      exact ⟨ds, a, vs, e, hq, hf, q⟩
    | _ => exact q.elim
  refine ⟨a, e, ⟨vs, by rw [← hK]; exact sql_sub r'.wf.sub hq⟩, k ds ρ' hw _ F' H' Ω' s' r' ?_⟩
  rw [← hK]
  exact fun F2 H2 Ω2 sb w => by
    have q : SqL c.K H2 a vs := sql_sub (sb.trans w.sub) hq
    refine ⟨fun i hi => ?_, ⟨vs, q, by rw [hf.length]; exact Nat.le_refl _⟩⟩
    have hi' : i < vs.length := by rw [← hf.length]; exact hi
    refine ⟨⟨vs, vs[i], q, by rw [List.getElem?_eq_getElem hi']⟩, fun x H'' y => ?_⟩
    obtain ⟨e, y⟩ := y
    subst e
    have ex := y vs q
    have ed : ds[i]? = some ds[i] := List.getElem?_eq_getElem hi
    obtain ⟨v, q1, q2⟩ := hf.get ed
    rw [ex] at q1
    cases q1
    exact ⟨F2, ds[i], Ext.refl w, ed, Fz.mono sb _ _ q2⟩
theorem I_tup {T : DE} (hK : c.K = X.K) (he : PE X iter (tOfE c W T)) : PI X tg iter (tOfI c W (dItT T)) := (pi_tup he).imp fun σ H R h => by
  obtain ⟨F, Ω, ρ, K, r, t, k, kx⟩ := h
  refine ⟨F, Ω, ρ, _, r, t, fun d ρ' q v F' H' Ω' s' r' f => ?_, kx.imp (Stp.refl _ _ _) fun _ _ _ q => q⟩
  cases d with
  | tup ds =>
    simp only [Fz] at f
    obtain ⟨a, vs, e, hq, hf⟩ := f
    refine ⟨a, e, ⟨vs, SqT.of (r'.wf.sub _ _ hq)⟩, k ds ρ' q _ F' H' Ω' s' r' ?_⟩
    rw [← hK]
    exact fun F2 H2 Ω2 sb w => by
      have q : SqT c.K H2 a vs := SqT.of ((sb.trans w.sub) _ _ hq)
      refine ⟨fun i hi => ?_, ⟨vs, q, by rw [hf.length]; exact Nat.le_refl _⟩⟩
      have hi' : i < vs.length := by rw [← hf.length]; exact hi
      refine ⟨⟨vs, vs[i], q, by rw [List.getElem?_eq_getElem hi']⟩, fun x H'' y => ?_⟩
      obtain ⟨e, y⟩ := y
      subst e
      have ex := y vs q
      have ed : ds[i]? = some ds[i] := List.getElem?_eq_getElem hi
      obtain ⟨v, q1, q2⟩ := hf.get ed
      rw [ex] at q1
      cases q1
      exact ⟨F2, ds[i], Ext.refl w, ed, Fz.mono sb _ _ q2⟩
  | _ => exact q.elim
theorem I_str {T : DE} (he : PE X iter (tOfE c W T)) : PI X tg iter (tOfI c W (dItS T)) := (pi_str he).imp fun σ H R h => by
  obtain ⟨F, Ω, ρ, K, r, t, k, kx⟩ := h
  refine ⟨F, Ω, ρ, _, r, t, fun d ρ' q v F' H' Ω' s' r' f => ?_, kx.imp (Stp.refl _ _ _) fun _ _ _ q => q⟩
  cases d with
  | str z =>
    simp only [Fz] at f
    refine ⟨⟨z.toArray⟩, f, k _ ρ' q _ F' H' Ω' s' r' fun F2 H2 Ω2 sb w => ⟨fun i hi => ?_, by show z.toArray.size ≤ _; simp⟩⟩
    rw [List.length_map] at hi
    refine ⟨by show i < z.toArray.size; simpa using hi, fun x H'' y => ?_⟩
    obtain ⟨e, cc, hc, hv⟩ := y
    subst e hv
    have hc' : z[i]? = some cc := by simpa using hc
    exact ⟨F2, .str [cc], Ext.refl w, by rw [List.getElem?_map, hc']; rfl, by simp only [Fz]⟩
  | _ => exact q.elim
/-- range(lo, hi): the items lo, lo + 1, .. -/
def rngD (lo : Int) (n : Nat) : List D := (List.range n).map fun (k : Nat) => D.int (lo + (k : Int))
def inR (j : Int) : Prop := -(2 ^ 62) ≤ j ∧ j < 2 ^ 62
def int1 (ds : List D) (k : Int → Prop) : Prop := match ds with
  | [.int j] => k j
  | _ => False
def int2 (ds : List D) (k : Int → Int → Prop) : Prop := match ds with
  | [.int i, .int j] => k i j
  | _ => False
theorem int1_of {ds : List D} {k : Int → Prop} (h : int1 ds k) : ∃ j, ds = [.int j] ∧ k j := by
  unfold int1 at h
  split at h
  · exact ⟨_, rfl, h⟩
  · exact h.elim
theorem int2_of {ds : List D} {k : Int → Int → Prop} (h : int2 ds k) : ∃ i j, ds = [.int i, .int j] ∧ k i j := by
  unfold int2 at h
  split at h
  · exact ⟨_, _, rfl, h⟩
  · exact h.elim
theorem itr_ok {F : Hp} (lo : Int) (n : Nat) : ItOk c (Itr lo n) F (rngD lo n) := fun F' H' Ω sb w => by
  have l : (rngD lo n).length = n := by unfold rngD; simp
  refine ⟨fun i hi => ?_, by show n ≤ _; rw [l]; exact Nat.le_refl _⟩
  rw [l] at hi
  refine ⟨hi, fun x H'' y => ?_⟩
  obtain ⟨e, ex⟩ := y
  subst e ex
  refine ⟨F', .int (lo + i), Ext.refl w, ?_, by simp only [Fz]⟩
  unfold rngD
  rw [List.getElem?_map, List.getElem?_range hi]
  rfl
def dRng1 (L : DL) : DL := fun ρ K => L ρ (onOk K fun ds ρ' => int1 ds fun j => inR j ∧ K (.ok (rngD 0 j.toNat)) ρ')
def dRng2 (L : DL) : DL := fun ρ K => L ρ (onOk K fun ds ρ' => int2 ds fun l j => inR l ∧ inR j ∧ K (.ok (rngD l (j - l).toNat)) ρ')
theorem I_rng1 {a : Expr} {p pos : Pos} {L : DL} (hgl : Gl X "range") (hm : X.mg "range" = none) (ha : PA X [a] (tOfL c W L)) (hs : starEach [a] X.env = [(false, eval a X.env)] := by rfl) : PI X tg (.Call (.Name "range" p) [a] [] pos) (tOfI c W (dRng1 L)) :=
  (pi_range1 hgl hm ha hs).imp fun σ H R h => by
    obtain ⟨F, Ω, ρ, K, r, t, k, kx⟩ := h
    refine ⟨F, Ω, ρ, _, r, t, fun ds ρ' q vs F' H' Ω' s' r' f => ?_, kx.imp (Stp.refl _ _ _) fun _ _ _ q => q⟩
    obtain ⟨j, e, b, q2⟩ := int1_of q
    subst e
    simp only [FzL, Fz] at f
    obtain ⟨v, r0, e1, e2, e3⟩ := f
    subst e1 e2 e3
    exact ⟨j, rfl, b.1, b.2, k _ ρ' q2 _ F' H' Ω' s' r' (itr_ok _ _)⟩
theorem I_rng2 {a b : Expr} {p pos : Pos} {L : DL} (hgl : Gl X "range") (hm : X.mg "range" = none) (ha : PA X [a, b] (tOfL c W L)) (hs : starEach [a, b] X.env = [(false, eval a X.env), (false, eval b X.env)] := by rfl) (hs2 : starEach [b] X.env = [(false, eval b X.env)] := by rfl) : PI X tg (.Call (.Name "range" p) [a, b] [] pos) (tOfI c W (dRng2 L)) :=
  (pi_range2 hgl hm ha hs hs2).imp fun σ H R h => by
    obtain ⟨F, Ω, ρ, K, r, t, k, kx⟩ := h
    refine ⟨F, Ω, ρ, _, r, t, fun ds ρ' q vs F' H' Ω' s' r' f => ?_, kx.imp (Stp.refl _ _ _) fun _ _ _ q => q⟩
    obtain ⟨l, j, e, bl, bj, q2⟩ := int2_of q
    subst e
    simp only [FzL, Fz] at f
    obtain ⟨v, r0, e1, e2, v2, r2, e3, e4, e5⟩ := f
    subst e1 e2 e3 e4 e5
    exact ⟨l, j, rfl, ⟨bl.1, bl.2, bj.1, bj.2⟩, k _ ρ' q2 _ F' H' Ω' s' r' (itr_ok _ _)⟩
end

/-! ### targets -/
abbrev DG := D → Env → (Env → Prop) → Prop
def tOfG (x : Ct2) (G : DG) : TG := fun v σ H Q => ∃ F Ω ρ K d, Rel x.c F H Ω ρ σ ∧ Fz x.c F d v ∧ G d ρ K ∧ ∀ ρ', K ρ' → ∀ σ' Ω', PostS x F H Ω σ F H Ω' ρ' σ' → Q σ' H
theorem _root_.L2.PG.imp {X : Cx} {e : Expr} {t t' : TG} (h : PG X e t) (k : ∀ v σ H Q, t' v σ H Q → t v σ H Q) : PG X e t' := ⟨fun pins s σ H v u Q I r q => h.run pins s σ H v u Q I r (k v σ H Q q)⟩
theorem fz_set {x : Ct2} {F H : Hp} {Ω : Nm} {σ : L2.St} {ρ : Env} {i : Nat} {d : D} {v : V} (hi : i < σ.length) (hio : i ∉ x.io) (r : Rel x.c F H Ω ρ σ) (f : Fz x.c F d v) : PostS x F H Ω σ F H (putN i (fun _ => none) Ω) (ρ.set i (fr d)) (σ.set i (some v)) :=
  ⟨put_stp (Stp.refl _ _ _) New.none, set_slot r hi (Air.fz ((Fz_fr _ _ _ _).mpr f) (own_fr d)), Io.set hio⟩
section
variable {X : Cx} {x : Ct2}
def dgN (i : Nat) : DG := fun d ρ K => K (ρ.set i (fr d))
theorem G_name {i : Nat} {y : Str} {pos : Pos} (hN : X.N.Nodup) (hi : X.N[i]? = some y) (hx : Loc X.env.scope y) (hio : i ∉ x.io) (hf : X.fn y = true ∨ X.env.scope.names.lookup y = some .local := by first | exact .inl rfl | exact .inr rfl | assumption) : PG X (.Name y pos) (tOfG x (dgN i)) := by
  refine ⟨fun pins s σ H v u Q I r h => (pg_name hN hi hx hf).run pins s σ H v u Q I r ?_⟩
  obtain ⟨F, Ω, ρ, K, d, rl, f, g, k⟩ := h
  exact k _ g _ _ (fz_set (by rw [I.len]; exact (List.getElem?_eq_some_iff.mp hi).1) hio rl f)
abbrev DGs := List D → Env → (Env → Prop) → Prop
def tOfGs (x : Ct2) (G : DGs) : TGs := fun vs σ H Q => ∃ F Ω ρ K ds, Rel x.c F H Ω ρ σ ∧ FzL x.c F ds vs ∧ G ds ρ K ∧ ∀ ρ', K ρ' → ∀ σ' Ω', PostS x F H Ω σ F H Ω' ρ' σ' → Q σ' H
def dgNil : DGs := fun ds ρ K => ds = [] ∧ K ρ
def dgCons (G : DG) (Gs : DGs) : DGs := fun ds ρ K => match ds with
  | d :: r => G d ρ fun ρ' => Gs r ρ' K
  | [] => False
theorem _root_.L2.PGs.imp {X : Cx} {e : List Expr} {t t' : TGs} (h : PGs X e t) (k : ∀ v σ H Q, t' v σ H Q → t v σ H Q) : PGs X e t' := ⟨fun pins s σ H v u Q I r q => h.run pins s σ H v u Q I r (k v σ H Q q)⟩
theorem Gs_nil : PGs X [] (tOfGs x dgNil) := pgs_nil.imp fun vs σ H Q h => by
  obtain ⟨F, Ω, ρ, K, ds, rl, f, ⟨e, g⟩, k⟩ := h
  subst e
  simp only [FzL] at f
  exact ⟨f, k _ g _ _ ⟨Stp.refl _ _ _, rl, Io.refl _ _⟩⟩
theorem Gs_cons {e : Expr} {es : List Expr} {G : DG} {Gs : DGs} (h1 : PG X e (tOfG x G)) (h2 : PGs X es (tOfGs x Gs)) (hs : (assignEach (e :: es) X.env).map (·.2) = assign e X.env :: (assignEach es X.env).map (·.2) := by rfl) : PGs X (e :: es) (tOfGs x (dgCons G Gs)) :=
  (pgs_cons h1 h2 hs).imp fun vs σ H Q h => by
    obtain ⟨F, Ω, ρ, K, ds, rl, f, g, k⟩ := h
    cases ds with
    | nil => exact g.elim
    | cons d ds =>
      simp only [FzL] at f
      obtain ⟨v, r, e, f1, f2⟩ := f
      refine ⟨v, r, e, F, Ω, ρ, _, d, rl, f1, g, fun ρ' q σ' Ω' p => ?_⟩
      exact ⟨F, Ω', ρ', K, ds, p.2.1, f2, q, fun ρ2 q2 σ2 Ω2 p2 => k ρ2 q2 σ2 Ω2 (p.trans p2)⟩
def dgTup (n : Nat) (Gs : DGs) : DG := fun d ρ K => match d with
  | .tup ds => ds.length = n ∧ Gs ds ρ K
  | _ => False
theorem G_tup {es : List Expr} {k : Nat} {pos : Pos} {Gs : DGs} {n : Nat} (hc : X.calm = true) (hK : x.c.K = X.K) (h : PGs X es (tOfGs x Gs))
    (hn : (assignEach es X.env).length = n := by rfl) (hst : (assignEach es X.env).findIdx? (·.1) = none := by rfl) : PG X (.Tuple es k pos) (tOfG x (dgTup n Gs)) :=
  (pg_tup hc h hn hst).imp fun v σ H Q h => by
    obtain ⟨F, Ω, ρ, K, d, rl, f, g, k⟩ := h
    cases d with
    | tup ds =>
      simp only [Fz] at f
      obtain ⟨a, vs, e, h1, h2⟩ := f
      obtain ⟨gl, g⟩ := g
      exact ⟨a, vs, e, SqT.of (rl.wf.sub _ _ h1), by rw [← h2.length]; exact gl, F, Ω, ρ, K, ds, rl, h2, g, k⟩
    | _ => exact g.elim
/-- a, b = e -/
def dAsgG (T : DE) (G : DG) : DS := fun ρ K => T ρ (onFl K fun d ρ' => G d ρ' fun ρ2 => K .nx ρ2)
theorem S_asg {W : WX} {tg e : Expr} {pos : Pos} {T : DE} {G : DG} (he : PE X e (tOfE x.c W T)) (hg : PG X tg (tOfG x G)) (hs : swapsWithSole [tg] e pos.line X.env = pure false := by rfl) (hw : swappedStores [tg] e X.env = pure none := by rfl)
    (h1 : (assignEach [tg] X.env).map (·.2) = [assign tg X.env] := by rfl) : PS X (.Assign [tg] e pos) (tOfS x W (dAsgG T G)) := (ps_asg he hg hs hw h1).imp fun De σ H h => by
  obtain ⟨F, Ω, ρ, K, r, t, w⟩ := tOfS_iff.mp h
  refine ⟨F, Ω, ρ, _, r, t, fun d ρ' q v F' H' Ω' s r' f => ?_, w.exw⟩
  exact ⟨F', Ω', ρ', _, d, r', f, q, fun ρ2 q2 σ2 Ω2 p2 => w.nx ρ2 q2 σ2 F' H' Ω2 ⟨s.trans p2.1, p2.2.1, p2.2.2⟩⟩

/-! ### for -/
def forW (G : DG) (B : DS) : List D → DS
  | [], ρ, K => K .nx ρ
  | d :: ds, ρ, K => G d ρ fun ρ1 => B ρ1 (turnK K fun ρ' => forW G B ds ρ' K)
def dFor (T : DL) (G : DG) (B : DS) : DS := fun ρ K => T ρ (onFl K fun ds ρ' => forW G B ds ρ' K)
theorem S_for {W : WX} {tg iter : Expr} {body : List Stmt} {pos : Pos} {T : DL} {G : DG} {B : DS} (hp : PassesOwn (model X.prog X.w) X.A X.env X.xe) (hc : X.calm = true) (hi : PI X tg iter (tOfI x.c W T)) (hg : PG X tg (tOfG x G)) (hb : PSs X body (tOfS x W B))
    (hs : ∀ x, foldedSetIterable iter X.env x = pure x := by intro _; rfl) : PS X (.For tg iter body [] pos) (tOfS x W (dFor T G B)) := (ps_for hp hc hi hg hb hs).imp fun De σ H h => by
  obtain ⟨F, Ω, ρ, K, r, t, w⟩ := tOfS_iff.mp h
  refine ⟨F, Ω, ρ, _, r, t, fun ds ρ' q J F' H' Ω' s' r' it => ?_, w.exw⟩
  have w' := w.later s' (Io.refl _ _)
  refine ⟨fun k m σ1 H1 => m = ds.length - k ∧ k ≤ ds.length ∧ ∃ F1 Ω1 ρ1, PostS x F' H' Ω' σ F1 H1 Ω1 ρ1 σ1 ∧ forW G B (ds.drop k) ρ1 K, ⟨_, rfl, Nat.zero_le _, F', Ω', ρ', ⟨Stp.refl _ _ _, r', Io.refl _ _⟩, q⟩, ?_⟩
  rintro k m σ1 H1 ⟨rfl, hk, F1, Ω1, ρ1, p, f⟩
  obtain ⟨igo, istop⟩ := it F1 H1 Ω1 p.1.ef p.2.1.wf
  by_cases hlt : k < ds.length
  · rw [List.drop_eq_getElem_cons hlt] at f
    obtain ⟨g1, g2⟩ := igo k hlt
    refine .inr ⟨g1, fun σ2 H2 => k + 1 ≤ ds.length ∧ ∃ F2 Ω2 ρ2, PostS x F' H' Ω' σ F2 H2 Ω2 ρ2 σ2 ∧ forW G B (ds.drop (k + 1)) ρ2 K, fun σ2 H2 ⟨l, z⟩ => ⟨_, by omega, rfl, l, z⟩, fun v H2 y => ?_⟩
    obtain ⟨F2, d, e2, hd, fz⟩ := g2 v H2 y
    rw [List.getElem?_eq_getElem hlt] at hd
    cases hd
    have r2 := p.2.1.ext e2
    have w2 := (w'.later p.1 p.2.2).later e2.stp (Io.refl _ _)
    refine ⟨F2, Ω1, ρ1, _, _, r2, fz, f, fun ρ3 q3 σ3 Ω3 p3 => ?_⟩
    have w3 := w2.later p3.1 p3.2.2
    refine tOfS_iff.mpr ⟨F2, Ω3, ρ3, _, p3.2.1, q3, turn_wants w3 fun ρ4 q4 σ4 F4 H4 Ω4 p4 => ?_⟩
    exact ⟨hlt, F4, Ω4, ρ4, ⟨((p.1.trans e2.stp).trans p3.1).trans p4.1, p4.2.1, (p.2.2.trans p3.2.2).trans p4.2.2⟩, q4⟩
  · have e : k = ds.length := by omega
    subst e
    rw [List.drop_eq_nil_of_le (Nat.le_refl _)] at f
    exact .inl ⟨istop, (w'.later p.1 p.2.2).nx ρ1 f σ1 F1 H1 Ω1 ⟨Stp.refl _ _ _, p.2.1, Io.refl _ _⟩⟩
end

/-! ### comprehensions -/
/-- the names of the block, unbound -/
def unb (ρ : Env) : List Nat → Env
  | [] => ρ
  | v :: vs => (unb ρ vs).set v .und
/-- behind the block: what stood frozen in its names' slots stands again -/
def reb (ρ0 : Env) (ρ : Env) : List Nat → Env
  | [] => ρ
  | v :: vs => (reb ρ0 ρ vs).set v (if own (gt ρ0 v) = true then .und else gt ρ0 v)
def lcW (G : DG) (C : DT) (E : DE) (vs : List Nat) : List D → List D → Env → (List D → Env → Prop) → Prop
  | [], acc, ρ, K => K acc ρ
  | d :: ds, acc, ρ, K => G d ρ fun ρ1 => C ρ1 fun b ρ2 => match b with
    | .ok true => E ρ2 fun e ρ3 => (match e with | .ok e => lcW G C E vs ds (acc ++ [fr e]) (unb ρ3 vs) K | .exc _ _ => False)
    | .ok false => lcW G C E vs ds acc (unb ρ2 vs) K
    | .exc _ _ => False
def dLc (T : DL) (G : DG) (C : DT) (E : DE) (vs : List Nat) : DE := fun ρ K => T ρ (onOk K fun ds ρ1 => ds.length ≤ 16000000 ∧ lcW G C E vs ds [] (unb ρ1 vs) fun acc ρ2 => K (.ok (.lst false acc)) (reb ρ1 ρ2 vs))
abbrev WF : WX := fun _ _ _ _ => False
theorem unb_length (ρ : Env) : ∀ vs : List Nat, (unb ρ vs).length = ρ.length
  | [] => rfl
  | v :: vs => by unfold unb; rw [List.length_set, unb_length]
theorem reb_length (ρ0 ρ : Env) : ∀ vs : List Nat, (reb ρ0 ρ vs).length = ρ.length
  | [] => rfl
  | v :: vs => by unfold reb; rw [List.length_set, reb_length]
theorem unb_get {ρ : Env} {i : Nat} {d : D} : ∀ {vs : List Nat}, (unb ρ vs)[i]? = some d → d ≠ .und → ρ[i]? = some d ∧ i ∉ vs
  | [], h, _ => ⟨h, by simp⟩
  | v :: vs, h, hn => by
    unfold unb at h
    by_cases e : i = v
    · subst e
      rw [List.getElem?_set] at h
      simp at h
      exact absurd h.2.symm hn
    · rw [List.getElem?_set_ne (Ne.symm e)] at h
      obtain ⟨q1, q2⟩ := unb_get h hn
      exact ⟨q1, by simp [e, q2]⟩
theorem wipe_get {σ : L2.St} {i : Nat} : ∀ {vs : List Nat}, i ∉ vs → (wipe σ vs)[i]? = σ[i]?
  | [], _ => rfl
  | v :: vs, h => by
    simp only [List.mem_cons, not_or] at h
    unfold wipe
    rw [List.getElem?_set_ne (Ne.symm h.1)]
    exact wipe_get h.2
theorem rel_unb {c : Ct} {F H : Hp} {Ω : Nm} {ρ : Env} {σ σ' : L2.St} (r : Rel c F H Ω ρ σ) (vs : List Nat) (hl : σ'.length = σ.length) (hσ : ∀ i, i ∉ vs → σ'[i]? = σ[i]?) : Rel c F H Ω (unb ρ vs) σ' := by
  refine ⟨r.wf, fun i d h1 h2 => ?_, by rw [unb_length, r.len, hl]⟩
  obtain ⟨q1, q2⟩ := unb_get h1 h2
  obtain ⟨v, z1, z2⟩ := r.sl i d q1 h2
  exact ⟨v, by rw [hσ i q2]; exact z1, z2⟩
theorem reb_get {ρ0 ρ : Env} {i : Nat} {d : D} : ∀ {vs : List Nat}, (reb ρ0 ρ vs)[i]? = some d → (ρ[i]? = some d ∧ i ∉ vs) ∨ (i ∈ vs ∧ d = if own (gt ρ0 i) = true then .und else gt ρ0 i)
  | [], h => .inl ⟨h, by simp⟩
  | v :: vs, h => by
    unfold reb at h
    by_cases e : i = v
    · subst e
      rw [List.getElem?_set] at h
      simp at h
      exact .inr ⟨List.mem_cons_self, by simpa using h.2.symm⟩
    · rw [List.getElem?_set_ne (Ne.symm e)] at h
      rcases reb_get h with ⟨q1, q2⟩ | ⟨q1, q2⟩
      · exact .inl ⟨q1, by simp [e, q2]⟩
      · exact .inr ⟨List.mem_cons_of_mem _ q1, q2⟩
section
variable {X : Cx} {c : Ct} {W : WX}
theorem wipe_all {σ : L2.St} {i : Nat} : ∀ {vs : List Nat}, (wipe σ vs)[i]? = if i ∈ vs ∧ i < σ.length then some none else σ[i]?
  | [] => by simp [wipe]
  | v :: vs => by
    unfold wipe
    rw [List.getElem?_set, wipe_all (vs := vs), wipe_length]
    by_cases e : v = i
    · subst e
      by_cases hl : v < σ.length
      · simp [hl]
      · simp [hl]
    · rw [if_neg e]
      have : (i ∈ v :: vs) ↔ i ∈ vs := by simp [Ne.symm e]
      simp only [this]
theorem wipe_eq {a b : L2.St} {vs : List Nat} (hl : a.length = b.length) (h : ∀ i, i ∉ vs → a[i]? = b[i]?) : wipe a vs = wipe b vs := by
  apply List.ext_getElem?
  intro i
  rw [wipe_all, wipe_all, hl]
  by_cases hi : i ∈ vs
  · by_cases hb : i < b.length
    · simp [hi, hb]
    · have ha : ¬ i < a.length := by omega
      simp only [hb, and_false, if_false]
      rw [List.getElem?_eq_none (by omega), List.getElem?_eq_none (by omega)]
  · simp only [hi, false_and, if_false]
    exact h i hi
theorem wipe_wipe (σ : L2.St) (vs : List Nat) : wipe (wipe σ vs) vs = wipe σ vs := wipe_eq (wipe_length σ vs) fun i hi => wipe_get hi
/-- an object that is nobody's is another one now -/
theorem rel_out {F H : Hp} {Ω : Nm} {ρ : Env} {σ : L2.St} {D : Addr} {o : HO} (r : Rel c F H Ω ρ σ) (hF : F D = none) (hΩ : Ω D = none) : Rel c F (upd H D o) Ω ρ σ := by
  refine ⟨⟨fun b u e => ?_, fun b π e => ?_⟩, fun i d h1 h2 => ?_, r.len⟩
  · rw [upd_ne fun z => by rw [z, hF] at e; cases e]
    exact r.wf.sub b u e
  · obtain ⟨q1, u, q2⟩ := r.wf.own b π e
    exact ⟨q1, u, by rw [upd_ne fun z => by rw [z, hΩ] at e; cases e]; exact q2⟩
  · obtain ⟨v, q1, q2⟩ := r.sl i d h1 h2
    exact ⟨v, q1, Rv.move (Sub.refl _) d _ _ v (fun b π z => ⟨z, upd_ne fun y => by rw [y, hΩ] at z; cases z⟩) q2⟩
theorem rel_reb {F H F1 H1 : Hp} {Ω Ω1 : Nm} {ρ ρ1 : Env} {σ : L2.St} {vs : List Nat} (r : Rel c F H Ω ρ σ) (sb : Sub F F1) (r1 : Rel c F1 H1 Ω1 ρ1 (wipe σ vs)) : Rel c F1 H1 Ω1 (reb ρ ρ1 vs) σ := by
  refine ⟨r1.wf, fun i d h1 h2 => ?_, by rw [reb_length, r1.len, wipe_length]⟩
  rcases reb_get h1 with ⟨q1, q2⟩ | ⟨q1, q2⟩
  · obtain ⟨v, z1, z2⟩ := r1.sl i d q1 h2
    exact ⟨v, by rw [wipe_get q2] at z1; exact z1, z2⟩
  · by_cases ho : own (gt ρ i) = true
    · rw [if_pos ho] at q2
      exact absurd q2 h2
    · rw [if_neg ho] at q2
      have ho' : own d = false := by rw [q2]; simpa using ho
      have hg : ρ[i]? = some d := by
        rw [q2]
        refine gt_some ?_
        rw [← q2]
        cases d <;> first | rfl | exact absurd rfl h2
      obtain ⟨v, z1, z2⟩ := r.sl i d hg h2
      exact ⟨v, z1, (Rv_of_own ho').mpr (Fz.mono sb _ _ ((Rv_of_own ho').mp z2))⟩
theorem lc_go {io : List Nat} {G : DG} {C : DT} {E : DE} {vs : List Nat} {F H : Hp} {Ω : Nm} {ρ : Env} {σ : L2.St} {ds : List D} {J : It} {Qd : Addr → Hp → Prop} {K : List D → Env → Prop} (hio : ∀ i, i < σ.length → i ∉ vs → i ∈ io) (r : Rel c F H Ω ρ σ) (it : ItOk c J F ds) (hz : ds.length ≤ 16000000) (h : lcW G C E vs ds [] (unb ρ vs) K)
    (k : ∀ acc ρ', K acc ρ' → ∀ D accv F' H' Ω', Stp F H Ω F' H' Ω' → Rel c F' H' Ω' (reb ρ ρ' vs) σ → H' D = some (.lst accv) → F' D = none → Ω' D = none → FzL c F' acc accv → (∀ d ∈ acc, own d = false) → H D = none → Qd D H') :
    ∀ D, H D = none → ∃ Wv : Nat → Nat → Hp → Prop, (∃ m, Wv 0 m (upd H D (.lst []))) ∧ ∀ i m H', Wv i m H' →
      (J.stop i H' ∧ Qd D H') ∨ (J.go i H' ∧ ∃ Nx : Hp → Prop, (∀ H', Nx H' → ∃ m', m' < m ∧ Wv (i + 1) m' H') ∧ ∀ x H'', J.yld i H' x H'' → tOfG ⟨c, io⟩ G x (wipe σ vs) H'' fun σ2 H2 => wipe σ2 vs = wipe σ vs ∧ tOfT c WF C σ2 H2 fun b H3 =>
        if b = true then tOfE c WF E σ2 H3 fun y H4 => ∃ acc, H4 D = some (.lst acc) ∧ acc.length < sizeLine ∧ Nx (upd H4 D (.lst (acc ++ [y]))) else Nx H3) := by
  intro D hD
  refine ⟨fun i m H' => m = ds.length - i ∧ i ≤ ds.length ∧ ∃ F1 Ω1 ρ1 acc accv, Stp F H Ω F1 H' Ω1 ∧ Rel c F1 H' Ω1 ρ1 (wipe σ vs) ∧ lcW G C E vs (ds.drop i) acc ρ1 K ∧ H' D = some (.lst accv) ∧ F1 D = none ∧ Ω1 D = none ∧ FzL c F1 acc accv ∧ acc.length ≤ i ∧ ∀ d ∈ acc, own d = false, ?_, ?_⟩
  · obtain ⟨r2, s2⟩ := rel_new (o := .lst []) r hD
    obtain ⟨hF, hΩ, _, _⟩ := wf_new (o := .lst []) r.wf hD
    exact ⟨_, rfl, Nat.zero_le _, F, Ω, _, [], [], s2, rel_unb r2 vs (wipe_length _ _) fun i hi => wipe_get hi, h, upd_same, hF, hΩ, FzL.nil, Nat.le_refl _, fun d hd => nomatch hd⟩
  rintro i m H' ⟨rfl, hi, F1, Ω1, ρ1, acc, accv, s1, r1, hw, hDl, hDF, hDΩ, hf, hal, hown⟩
  obtain ⟨igo, istop⟩ := it F1 H' Ω1 s1.ef r1.wf
  by_cases hlt : i < ds.length
  · rw [List.drop_eq_getElem_cons hlt] at hw
    obtain ⟨g1, g2⟩ := igo i hlt
    refine .inr ⟨g1, fun H'' => i + 1 ≤ ds.length ∧ ∃ F1 Ω1 ρ1 acc accv, Stp F H Ω F1 H'' Ω1 ∧ Rel c F1 H'' Ω1 ρ1 (wipe σ vs) ∧ lcW G C E vs (ds.drop (i + 1)) acc ρ1 K ∧ H'' D = some (.lst accv) ∧ F1 D = none ∧ Ω1 D = none ∧ FzL c F1 acc accv ∧ acc.length ≤ i + 1 ∧ ∀ d ∈ acc, own d = false, fun H'' ⟨l, z⟩ => ⟨_, by omega, rfl, l, z⟩, fun v H2 y => ?_⟩
    obtain ⟨F2, d, e2, hd, fz⟩ := g2 v H2 y
    rw [List.getElem?_eq_getElem hlt] at hd
    cases hd
    have r2 := r1.ext e2
    have s2 := s1.trans e2.stp
    have sl : (wipe σ vs).length = σ.length := wipe_length _ _
    refine ⟨F2, Ω1, ρ1, _, _, r2, fz, hw, fun ρ3 q3 σ3 Ω3 p3 => ⟨?_, ?_⟩⟩
    · rw [← wipe_wipe σ vs]
      refine wipe_eq p3.2.2.1 fun j hj => ?_
      by_cases hjl : j < σ.length
      · exact p3.2.2.2 j (hio j hjl hj)
      · rw [List.getElem?_eq_none (by rw [p3.2.2.1, sl]; omega), List.getElem?_eq_none (by rw [sl]; omega)]
    have back : ∀ j, j ∉ vs → (wipe σ vs)[j]? = σ3[j]? := fun j hj => by
      by_cases hjl : j < σ.length
      · exact (p3.2.2.2 j (hio j hjl hj)).symm
      · rw [List.getElem?_eq_none (by rw [sl]; omega), List.getElem?_eq_none (by rw [p3.2.2.1, sl]; omega)]
    have o2 : H2 D = some (.lst accv) ∧ F2 D = none ∧ Ω1 D = none := e2.stp.ou D _ hDl hDF hDΩ
    refine ⟨F2, Ω3, ρ3, _, p3.2.1, q3, fun b ρ4 q4 F4 H4 Ω4 s4 r4 => ?_, fun C' w' ρ' q => q.elim⟩
    have s24 := p3.1.trans s4
    have o4 := s24.ou D _ o2.1 o2.2.1 o2.2.2
    cases b with
    | true =>
      refine iteT ?_
      refine ⟨F4, Ω4, ρ4, _, r4, q4, fun e ρ5 q5 v5 F5 H5 Ω5 s5 r5 f5 => ?_, fun C' w' ρ' q => q.elim⟩
      have o5 := s5.ou D _ o4.1 o4.2.1 o4.2.2
      have l5 := hf.length
      refine ⟨accv, o5.1, ?_, hlt, F5, Ω5, _, acc ++ [fr e], accv ++ [v5], ?_, rel_unb (rel_out r5 o5.2.1 o5.2.2) vs (by rw [sl, p3.2.2.1, sl]) back, q5, upd_same, o5.2.1, o5.2.2, ?_, ?_, ?_⟩
      · rw [← l5]
        refine Nat.lt_of_le_of_lt (Nat.le_trans hal hi) (Nat.lt_of_le_of_lt hz (by decide))
      · have st := (s2.trans s24).trans s5
        exact ⟨st.ef, fun b o e1 e2 e3 => by
          obtain ⟨z1, z2, z3⟩ := st.ou b o e1 e2 e3
          refine ⟨?_, z2, z3⟩
          rw [upd_ne (ne_of_none e1 hD)]
          exact z1⟩
      · exact FzL.append (FzL.mono (e2.ef.trans (s24.ef.trans s5.ef)) _ _ hf) (FzL.cons ((Fz_fr _ _ _ _).mpr f5) FzL.nil)
      · rw [List.length_append, List.length_singleton]
        omega
      · intro d hd
        rcases List.mem_append.mp hd with hd | hd
        · exact hown d hd
        · have : d = fr e := by simpa using hd
          rw [this]
          exact own_fr e
    | false =>
      refine iteF ?_
      exact ⟨hlt, F4, Ω4, _, acc, accv, (s2.trans s24), rel_unb r4 vs (by rw [sl, p3.2.2.1, sl]) back, q4, o4.1, o4.2.1, o4.2.2, FzL.mono (e2.ef.trans s24.ef) _ _ hf, by omega, hown⟩
  · have e : i = ds.length := by omega
    subst e
    rw [List.drop_eq_nil_of_le (Nat.le_refl _)] at hw
    exact .inl ⟨istop, k acc ρ1 hw D accv F1 H' Ω1 s1 (rel_reb r s1.ef r1) hDl hDF hDΩ hf hown hD⟩
/-- the blocks' judgements, wherever the block's cells lie -/
structure Blk (X : Cx) (c : Ct) (io : List Nat) (scope : Scope) (own' : List (Str × Nat)) (tg : Expr) (ifs : List Expr) (elt : Expr) (G : DG) (C : DT) (E : DE) : Prop where
  ok : BlkOk X.N X.env.scope scope own'
  g : ∀ (s : Shared) (H : Hp) (C' : Addr) (cl : List (Str × Addr)) (fp : List Addr), PG (X.blk s H scope (PySem.compEnvC scope cl C' X.env) fp) tg (tOfG ⟨c, io⟩ G)
  t : ∀ (s : Shared) (H : Hp) (C' : Addr) (cl : List (Str × Addr)) (fp : List Addr), PTs (X.blk s H scope (PySem.compEnvC scope cl C' X.env) fp) ifs (tOfT c WF C)
  e : ∀ (s : Shared) (H : Hp) (C' : Addr) (cl : List (Str × Addr)) (fp : List Addr), PE (X.blk s H scope (PySem.compEnvC scope cl C' X.env) fp) elt (tOfE c WF E)
theorem lc_E {wi : DL} {G : DG} {C : DT} {E : DE} {vs io : List Nat} {σ : L2.St} {H : Hp} {Q : VK} (hio : ∀ i, i < σ.length → i ∉ vs → i ∈ io) (h : tOfE c W (dLc wi G C E vs) σ H Q) :
    tLc (tOfI c W wi) (tOfG ⟨c, io⟩ G) (tOfT c WF C) (tOfE c WF E) vs σ H Q := by
  obtain ⟨F, Ω, ρ, K, r, t, k, kx⟩ := h
  refine ⟨F, Ω, ρ, _, r, t, fun ds ρ1 q J F1 H1 Ω1 s1 r1 it => ?_, kx.imp (Stp.refl _ _ _) fun _ _ _ q => q⟩
  refine lc_go hio r1 it q.1 q.2 fun acc ρ' q' D accv F' H' Ω' s' r' hD hF hΩ hf ho hn => ?_
  have sb : Sub F' (upd F' D (.lst accv)) := fun b o e => by rw [upd_ne (ne_of_none e hF)]; exact e
  refine k _ _ q' (.ref D) (upd F' D (.lst accv)) H' Ω' ⟨(s1.trans s').ef.trans sb, fun b o e1 e2 e3 => ?_⟩ ⟨⟨fun b o e => ?_, fun b π e => ?_⟩, fun i d h1 h2 => ?_, r'.len⟩ ?_
  · obtain ⟨z1, z2, z3⟩ := (s1.trans s').ou b o e1 e2 e3
    refine ⟨z1, ?_, z3⟩
    rw [upd_ne ?_]
    · exact z2
    · intro z
      obtain ⟨y1, _, _⟩ := s1.ou b o e1 e2 e3
      rw [z, hn] at y1
      cases y1
  · by_cases hb : b = D
    · rw [hb, upd_same] at e
      cases e
      rw [hb]
      exact hD
    · rw [upd_ne hb] at e
      exact r'.wf.sub b o e
  · obtain ⟨z1, z2⟩ := r'.wf.own b π e
    exact ⟨by rw [upd_ne fun z => by rw [z, hΩ] at e; cases e]; exact z1, z2⟩
  · obtain ⟨v, z1, z2⟩ := r'.sl i d h1 h2
    exact ⟨v, z1, Rv.move sb d _ _ v (fun b π z => ⟨z, rfl⟩) z2⟩
  · simp only [Fz]
    exact ⟨D, accv, rfl, upd_same, FzL.mono sb _ _ hf⟩
/-- [elt for target in iter if ..] -/
theorem E_lc {elt tg iter : Expr} {ifs : List Expr} {scope : Scope} {own' : List (Str × Nat)} {pos : Pos} {wi : DL} {G : DG} {C : DT} {E : DE} {io : List Nat} (hc : X.calm = true) (hN : X.N.Nodup) (hio : ∀ i, i < X.N.length → i ∉ own'.map (·.2) → i ∈ io) (hi : PI X tg iter (tOfI c W wi)) (b : Blk X c io scope own' tg ifs elt G C E)
    (hs : ∀ x, foldedSetIterable iter X.env x = pure x := by intro _; rfl) : PE X (.ListComp elt [⟨tg, iter, ifs, 0⟩] scope pos) (tOfE c W (dLc wi G C E (own'.map (·.2)))) := by
  refine ⟨fun pins s σ H Q I h => (pe_lc (pos := pos) hc hN hi b.ok b.g b.t b.e hs).run pins s σ H Q I ?_⟩
  exact lc_E (fun i hl hn => hio i (by rw [← I.len]; exact hl) hn) h
/-- y = [..] on one line -/
theorem S_setLc {x : Ct2} {i : Nat} {y : Str} {py : Pos} {elt tg iter : Expr} {ifs : List Expr} {scope : Scope} {own' : List (Str × Nat)} {pos spos : Pos} {wi : DL} {G : DG} {C : DT} {E : DE} {io : List Nat} (hc : X.calm = true) (hN : X.N.Nodup) (hy : X.N[i]? = some y) (hyl : X.env.scope.names.lookup y = some .local) (hix : i ∉ x.io)
    (hsw : swapsWith (.ListComp elt [⟨tg, iter, ifs, 0⟩] scope pos) (some (.Name y py)) spos.line X.env = pure true) (hio : ∀ i, i < X.N.length → i ∉ own'.map (·.2) → i ∈ io) (hi : PI X tg iter (tOfI x.c W wi)) (b : Blk X x.c io scope own' tg ifs elt G C E)
    (hs : ∀ x, foldedSetIterable iter X.env x = pure x := by intro _; rfl) : PS X (.Assign [.Name y py] (.ListComp elt [⟨tg, iter, ifs, 0⟩] scope pos) spos) (tOfS x W (dSet i (dFr (dLc wi G C E (own'.map (·.2)))))) := by
  refine ⟨fun pins s σ H De I h => (ps_setLc (spos := spos) hc hN hy hyl hsw hi b.ok b.g b.t b.e hs).run pins s σ H De I ?_⟩
  refine lc_E (fun i hl hn => hio i (by rw [← I.len]; exact hl) hn) ?_
  have q := set_of (x := x) (W := W) (by rw [I.len]; exact (List.getElem?_eq_some_iff.mp hy).1) hix h
  obtain ⟨F, Ω, ρ, K, r, t, k, kx⟩ := q
  exact ⟨F, Ω, ρ, _, r, t, fun d ρ' q v F' H' Ω' s' r' f => k _ ρ' q v F' H' Ω' _ s' r' (Air.fz ((Fz_fr _ _ _ _).mpr f) (own_fr d)) New.none, fun C' w ρ' q => kx C' w ρ' q⟩
def dYes : DT := fun ρ K => K (.ok true) ρ
theorem Ts_nil : PTs X [] (tOfT c W dYes) := ⟨fun pins s σ H Q I h => (pts_nil (X := X)).run pins s σ H Q I (by
  obtain ⟨F, Ω, ρ, K, r, t, k, kx⟩ := h
  exact k true ρ t F H Ω (Stp.refl _ _ _) r)⟩
theorem Ts_one {e : Expr} {T : DT} (h : PT X e (tOfT c W T)) : PTs X [e] (tOfT c W T) := pts_one h
end
end Vi
/-! Vi7: operations over data: ints, texts, subscripts, equality, built-ins. -/
namespace Vi
open PySem L2

/-! ### what a value is -/
section
variable {c : Ct} {F H : Hp} {v : V}
theorem vw_int {i : Int} (h : Vw c F H (.int i) v) : v = .int i := by simpa only [Fz] using h.fz rfl
theorem vw_bl {i : Bool} (h : Vw c F H (.bl i) v) : v = .bl i := by simpa only [Fz] using h.fz rfl
theorem vw_str {s : List Nat} (h : Vw c F H (.str s) v) : v = .str ⟨s.toArray⟩ := by simpa only [Fz] using h.fz rfl
theorem vw_non (h : Vw c F H .non v) : v = .non := by simpa only [Fz] using h.fz rfl
end
theorem fz_int {c : Ct} {F : Hp} {i : Int} : Fz c F (.int i) (.int i) := by simp only [Fz]
theorem fz_bl {c : Ct} {F : Hp} {i : Bool} : Fz c F (.bl i) (.bl i) := by simp only [Fz]
theorem fz_non {c : Ct} {F : Hp} : Fz c F .non .non := by simp only [Fz]
theorem fz_str {c : Ct} {F : Hp} {s : List Nat} {z : Str} (h : z.cps.toList = s) : Fz c F (.str s) (.str z) := by
  subst h
  simp only [Fz]

/-! ### two ints -/
def oInt (C : Int → Int → Prop) (g : Int → Int → D) : D → D → (D → Prop) → Prop
  | .int i, .int j, K => C i j ∧ K (g i j)
  | _, _, _ => False
theorem b2_int {c : Ct} {C : Int → Int → Prop} {g : Int → Int → D} {gv : Int → Int → V} (hg : ∀ i j F, Fz c F (g i j) (gv i j)) : B2 c (rI C gv) (oInt C g) := ⟨fun F H Ω w d e v u h1 h2 K q Q k => by
  cases d with
  | int i =>
    cases e with
    | int j => exact ⟨i, j, vw_int h1, vw_int h2, q.1, k _ q.2 _ F H (Ext.refl w) (hg i j F)⟩
    | _ => exact q.elim
  | _ => exact q.elim⟩
def oInt0 (g : Int → Int → D) : D → D → (D → Prop) → Prop
  | .int i, .int j, K => K (g i j)
  | _, _, _ => False
theorem b2_int0 {c : Ct} {g : Int → Int → D} {gv : Int → Int → V} (hg : ∀ i j F, Fz c F (g i j) (gv i j)) : B2 c (rI0 gv) (oInt0 g) := ⟨fun F H Ω w d e v u h1 h2 K q Q k => by
  cases d with
  | int i =>
    cases e with
    | int j => exact ⟨i, j, vw_int h1, vw_int h2, k _ q _ F H (Ext.refl w) (hg i j F)⟩
    | _ => exact q.elim
  | _ => exact q.elim⟩
abbrev oSub := oInt0 fun i j => .int (i - j)
abbrev oMul := oInt CMul fun i j => .int (i * j)
abbrev oDiv := oInt CDiv fun i j => .int (i / j)
abbrev oMod := oInt (fun _ j => 0 < j) fun i j => .int (i % j)
abbrev oPow := oInt CPow fun i j => .int (i ^ j.toNat)
/-! ### a + b -/
def oAdd : D → D → (D → Prop) → Prop
  | .int i, .int j, K => K (.int (i + j))
  | .str s, .str t, K => s.length + t.length ≤ 16000000 ∧ K (.str (s ++ t))
  | .lst _ xs, .lst _ ys, K => (xs.all (fun d => !own d) = true ∧ ys.all (fun d => !own d) = true) ∧ xs.length + ys.length ≤ 16000000 ∧ K (.lst false (xs ++ ys))
  | .tup xs, .tup ys, K => xs ≠ [] ∧ xs.length + ys.length ≤ 16000000 ∧ K (.tup (xs ++ ys))
  | _, _, _ => False
def rAddAll (K : PySem.W.Frag) : R2 := fun x y H Q => (rI0 fun i j => .int (i + j)) x y H Q ∨ (∃ i j, x = .str i ∧ y = .str j ∧ i.length + j.length ≤ sizeLine ∧ Q (.str (i ++ j)) H) ∨ rCat x y H Q ∨ rCatT K x y H Q
theorem or_add {X : Cx} : OpR X (binaryOp .Add) (rAddAll X.K) := OpR.or op_add (OpR.or op_add_str (OpR.or op_cat op_catT))
theorem b2_add {c : Ct} : B2 c (rAddAll c.K) oAdd := ⟨fun F H Ω w d e v u h1 h2 K q Q k => by
  cases d with
  | int i =>
    cases e with
    | int j => exact .inl ⟨i, j, vw_int h1, vw_int h2, k _ q _ F H (Ext.refl w) fz_int⟩
    | _ => exact q.elim
  | str s =>
    cases e with
    | str t =>
      refine .inr (.inl ⟨_, _, vw_str h1, vw_str h2, ?_, k _ q.2 _ F H (Ext.refl w) (fz_str ?_)⟩)
      · show s.toArray.size + t.toArray.size ≤ sizeLine
        simp only [List.size_toArray]
        exact sz_ok q.1
      · show (s.toArray ++ t.toArray).toList = s ++ t
        simp
    | _ => exact q.elim
  | lst o xs =>
    cases e with
    | lst o' ys =>
      obtain ⟨a, vs, e1, q1, f1⟩ := h1.lst w
      obtain ⟨b, ws, e2, q2, f2⟩ := h2.lst w
      obtain ⟨⟨n1, n2⟩, hl, hk⟩ := q
      have g1 := f1.fz n1
      have g2 := f2.fz n2
      refine .inr (.inr (.inl ⟨a, b, vs, ws, e1, e2, q1, q2, ?_, fun p hp => ?_⟩))
      · rw [← f1.1, ← f2.1]
        exact sz_ok hl
      · have ex := Ext.new (o := .lst (vs ++ ws)) w hp
        refine k _ hk _ _ _ ex ?_
        simp only [Fz]
        exact ⟨p, _, rfl, upd_same, FzL.append (FzL.mono ex.ef _ _ g1) (FzL.mono ex.ef _ _ g2)⟩
    | _ => exact q.elim
  | tup xs =>
    cases e with
    | tup ys =>
      obtain ⟨a, vs, e1, _, q1, f1⟩ := h1.tup w
      obtain ⟨b, ws, e2, _, q2, f2⟩ := h2.tup w
      obtain ⟨hn, hl, hk⟩ := q
      refine .inr (.inr (.inr ⟨a, b, vs, ws, e1, e2, q1, q2, ?_, ?_, fun ew => ?_, fun ew p hp => ?_⟩))
      · intro z
        have := f1.length
        rw [z] at this
        exact hn (by simpa using this)
      · rw [← f1.length, ← f2.length]
        exact sz_ok hl
      · subst ew
        have : ys = [] := by
          have := f2.length
          simpa using this
        subst this
        refine k _ hk _ F H (Ext.refl w) ?_
        rw [List.append_nil]
        have := h1.fz rfl
        rw [e1] at this
        exact this
      · have ex := Ext.new (o := .tup (vs ++ ws)) w hp
        refine k _ hk _ _ _ ex ?_
        simp only [Fz]
        exact ⟨p, _, rfl, upd_same, FzL.append (FzL.mono ex.ef _ _ f1) (FzL.mono ex.ef _ _ f2)⟩
    | _ => exact q.elim
  | _ => exact q.elim⟩

/-! ### order -/
def oOrd (g : Int → Int → Bool) (h : List Nat → List Nat → Bool) : D → D → (D → Prop) → Prop
  | .int i, .int j, K => K (.bl (g i j))
  | .str s, .str t, K => K (.bl (h s t))
  | _, _, _ => False
abbrev oLt := oOrd (fun i j => decide (i < j)) (fun s t => decide (s < t))
abbrev oLe := oOrd (fun i j => decide (i ≤ j)) (fun s t => !decide (t < s))
abbrev oGt := oOrd (fun i j => decide (j < i)) (fun s t => decide (t < s))
abbrev oGe := oOrd (fun i j => decide (j ≤ i)) (fun s t => !decide (s < t))
def rOrd (g : Int → Int → Bool) (h : List Nat → List Nat → Bool) : R2 := fun x y H Q => (rI0 fun i j => .bl (g i j)) x y H Q ∨ ∃ i j : Str, x = .str i ∧ y = .str j ∧ Q (.bl (h i.cps.toList j.cps.toList)) H
theorem b2_ord {c : Ct} {g : Int → Int → Bool} {h : List Nat → List Nat → Bool} : B2 c (rOrd g h) (oOrd g h) := ⟨fun F H Ω w d e v u h1 h2 K q Q k => by
  cases d with
  | int i =>
    cases e with
    | int j => exact .inl ⟨i, j, vw_int h1, vw_int h2, k _ q _ F H (Ext.refl w) fz_bl⟩
    | _ => exact q.elim
  | str s =>
    cases e with
    | str t => exact .inr ⟨_, _, vw_str h1, vw_str h2, k _ q _ F H (Ext.refl w) fz_bl⟩
    | _ => exact q.elim
  | _ => exact q.elim⟩
section
variable {X : Cx}
theorem or_lt : OpR X (compareOp .Lt) (rOrd (fun i j => decide (i < j)) fun s t => decide (s < t)) := OpR.or op_lt op_lt_str
theorem or_le : OpR X (compareOp .LtE) (rOrd (fun i j => decide (i ≤ j)) fun s t => !decide (t < s)) := OpR.or op_le op_le_str
theorem or_gt : OpR X (compareOp .Gt) (rOrd (fun i j => decide (j < i)) fun s t => decide (t < s)) := OpR.or op_gt op_gt_str
theorem or_ge : OpR X (compareOp .GtE) (rOrd (fun i j => decide (j ≤ i)) fun s t => !decide (s < t)) := OpR.or op_ge op_ge_str
end

/-! ### equality -/
mutual
/-- == of data -/
def eqD : D → D → Bool
  | .non, .non => true
  | .bl a, .bl b => a == b
  | .bl a, .int j => (if a then 1 else 0) == j
  | .int i, .bl b => i == (if b then 1 else 0)
  | .int i, .int j => i == j
  | .str x, .str y => x == y
  | .tup xs, .tup ys => eqDs xs ys
  | .lst _ xs, .lst _ ys => eqDs xs ys
  | _, _ => false
def eqDs : List D → List D → Bool
  | [], [] => true
  | x :: xs, y :: ys => eqD x y && eqDs xs ys
  | _, _ => false
end
mutual
/-- data that == may be asked of: texts of small signs, not too deep -/
def shp : Nat → D → Bool
  | _, .non => true
  | _, .bl _ => true
  | _, .int _ => true
  | _, .str s => s.all (· < 128)
  | n + 1, .tup xs => shps n xs
  | n + 1, .lst _ xs => shps n xs
  | _, _ => false
def shps : Nat → List D → Bool
  | _, [] => true
  | n, x :: xs => shp n x && shps n xs
end
mutual
def toP : D → PyData
  | .bl b => .bool b
  | .int i => .int i
  | .str s => .str ⟨s.toArray⟩
  | .tup xs => .tuple (toPs xs)
  | .lst _ xs => .list (toPs xs)
  | _ => .none
def toPs : List D → List PyData
  | [] => []
  | x :: xs => toP x :: toPs xs
end
mutual
theorem vw_dp {c : Ct} {F H : Hp} {Ω : Nm} (w : Wf F H Ω) : ∀ (n : Nat) (d : D) (v : V), shp n d = true → Vw c F H d v → Dp c.K H v (toP d)
  | n, .non, v, _, h => by rw [vw_non h]; simp only [toP]; exact .non
  | n, .bl b, v, _, h => by rw [vw_bl h]; simp only [toP]; exact .bl b
  | n, .int i, v, _, h => by rw [vw_int h]; simp only [toP]; exact .int i
  | n, .str s, v, _, h => by rw [vw_str h]; simp only [toP]; exact .str _
  | n + 1, .tup xs, v, hs, h => by
    obtain ⟨a, vs, e, _, q, f⟩ := h.tup w
    simp only [shp] at hs
    rw [e]
    simp only [toP]
    exact .tup q (vw_dps w n xs vs hs (FzL.vw f))
  | n + 1, .lst o xs, v, hs, h => by
    obtain ⟨a, vs, e, q, f⟩ := h.lst w
    simp only [shp] at hs
    rw [e]
    simp only [toP]
    exact .lst (SqL.of q) (vw_dps w n xs vs hs f)
  | 0, .tup xs, v, hs, h => by simp only [shp] at hs; cases hs
  | 0, .lst _ xs, v, hs, h => by simp only [shp] at hs; cases hs
  | n, .und, v, hs, h => by simp only [shp] at hs; cases hs
  | n, .klst _, v, hs, h => by simp only [shp] at hs; cases hs
  | n, .dic _ _ _, v, hs, h => by simp only [shp] at hs; cases hs
  | n, .ins _ _ _, v, hs, h => by simp only [shp] at hs; cases hs
  | n, .exo _ _ _ _, v, hs, h => by simp only [shp] at hs; cases hs
  | n, .fn _, v, hs, h => by simp only [shp] at hs; cases hs
theorem vw_dps {c : Ct} {F H : Hp} {Ω : Nm} (w : Wf F H Ω) : ∀ (n : Nat) (ds : List D) (vs : List V), shps n ds = true → VwL c F H ds vs → DpAll c.K H vs (toPs ds)
  | n, [], vs, _, h => by
    have e : vs = [] := by have := h.1; simpa using this.symm
    rw [e]
    simp only [toPs]
    exact .nil
  | n, d :: ds, [], _, h => by have := h.1; simp at this
  | n, d :: ds, v :: vs, hs, h => by
    simp only [shps, Bool.and_eq_true] at hs
    obtain ⟨u, q1, q2⟩ := h.2 0 d rfl
    have e : u = v := by simpa using q1.symm
    subst e
    simp only [toPs]
    exact .cons (vw_dp w n d u hs.1 q2) (vw_dps w n ds vs hs.2 ⟨by simpa using h.1, fun i x e => h.2 (i + 1) x (by simpa using e)⟩)
end
mutual
theorem eqv_toP : ∀ (n m : Nat) (d e : D), shp n d = true → shp m e = true → PyData.eqv (toP d) (toP e) = eqD d e
  | n, m, .non, e, h, g => by cases e <;> first | (simp only [shp] at g; cases g; done) | (simp only [toP, PyData.eqv, eqD])
  | n, m, .bl b, e, h, g => by cases e <;> first | (simp only [shp] at g; cases g; done) | (simp only [toP, PyData.eqv, eqD])
  | n, m, .int i, e, h, g => by cases e <;> first | (simp only [shp] at g; cases g; done) | (simp only [toP, PyData.eqv, eqD])
  | n, m, .str s, e, h, g => by
    cases e with
    | str t =>
      simp only [toP, PyData.eqv, eqD]
      rw [Bool.eq_iff_iff, beq_iff_eq, beq_iff_eq]
      exact ⟨fun z => by injection z with z; simpa using z, fun z => by rw [z]⟩
    | _ => first | (simp only [shp] at g; cases g; done) | (simp only [toP, PyData.eqv, eqD])
  | n + 1, m, .tup xs, e, h, g => by
    simp only [shp] at h
    cases e with
    | tup ys =>
      cases m with
      | zero => simp only [shp] at g; cases g
      | succ m =>
        simp only [shp] at g
        simp only [toP, PyData.eqv, eqD]
        exact eqv_toPs n m xs ys h g
    | _ => first | (simp only [shp] at g; cases g; done) | (simp only [toP, PyData.eqv, eqD])
  | n + 1, m, .lst o xs, e, h, g => by
    simp only [shp] at h
    cases e with
    | lst o' ys =>
      cases m with
      | zero => simp only [shp] at g; cases g
      | succ m =>
        simp only [shp] at g
        simp only [toP, PyData.eqv, eqD]
        exact eqv_toPs n m xs ys h g
    | _ => first | (simp only [shp] at g; cases g; done) | (simp only [toP, PyData.eqv, eqD])
  | 0, m, .tup xs, e, h, g => by simp only [shp] at h; cases h
  | 0, m, .lst _ xs, e, h, g => by simp only [shp] at h; cases h
  | n, m, .und, e, h, g => by simp only [shp] at h; cases h
  | n, m, .klst _, e, h, g => by simp only [shp] at h; cases h
  | n, m, .dic _ _ _, e, h, g => by simp only [shp] at h; cases h
  | n, m, .ins _ _ _, e, h, g => by simp only [shp] at h; cases h
  | n, m, .exo _ _ _ _, e, h, g => by simp only [shp] at h; cases h
  | n, m, .fn _, e, h, g => by simp only [shp] at h; cases h
theorem eqv_toPs : ∀ (n m : Nat) (d e : List D), shps n d = true → shps m e = true → PyData.eqvAll (toPs d) (toPs e) = eqDs d e
  | n, m, [], [], _, _ => by simp only [toPs, PyData.eqvAll, eqDs]
  | n, m, [], y :: ys, _, _ => by simp only [toPs, PyData.eqvAll, eqDs]
  | n, m, x :: xs, [], _, _ => by simp only [toPs, PyData.eqvAll, eqDs]
  | n, m, x :: xs, y :: ys, h, g => by
    simp only [shps, Bool.and_eq_true] at h g
    simp only [toPs, PyData.eqvAll, eqDs]
    rw [eqv_toP n m x y h.1 g.1, eqv_toPs n m xs ys h.2 g.2]
end
theorem strOk_of {s : List Nat} (h : s.all (· < 128) = true) : PyData.strOk ⟨s.toArray⟩ = true := by
  unfold PyData.strOk
  rw [List.all_eq_true] at h
  rw [Array.all_eq_true]
  intro i hi
  have hi' : i < s.length := by simpa using hi
  have := h (s[i]) (List.getElem_mem hi')
  simp only [decide_eq_true_eq] at this ⊢
  have e : (s.toArray)[i] = s[i] := by simp
  show s.toArray[i] < 0x110000
  rw [e]
  omega
def isN : D → Bool
  | .non => true
  | _ => false
mutual
theorem shaped_toP : ∀ (n : Nat) (d : D), shp n d = true → (toP d).canLay0 = true ∧ (toP d).depth ≤ n
  | n, .non, h => ⟨rfl, Nat.zero_le _⟩
  | n, .bl b, h => ⟨rfl, Nat.zero_le _⟩
  | n, .int i, h => ⟨rfl, Nat.zero_le _⟩
  | n, .str s, h => by
    simp only [shp] at h
    simp only [toP, PyData.canLay0, PyData.depth]
    exact ⟨strOk_of h, Nat.zero_le _⟩
  | n + 1, .tup xs, h => by
    simp only [shp] at h
    obtain ⟨h1, h2⟩ := shaped_toPs n xs h
    simp only [toP, PyData.canLay0, PyData.depth]
    exact ⟨h1, Nat.succ_le_succ h2⟩
  | n + 1, .lst o xs, h => by
    simp only [shp] at h
    obtain ⟨h1, h2⟩ := shaped_toPs n xs h
    simp only [toP, PyData.canLay0, PyData.depth]
    exact ⟨h1, Nat.succ_le_succ h2⟩
  | 0, .tup xs, h => by simp only [shp] at h; cases h
  | 0, .lst _ xs, h => by simp only [shp] at h; cases h
  | n, .und, h => by simp only [shp] at h; cases h
  | n, .klst _, h => by simp only [shp] at h; cases h
  | n, .dic _ _ _, h => by simp only [shp] at h; cases h
  | n, .ins _ _ _, h => by simp only [shp] at h; cases h
  | n, .exo _ _ _ _, h => by simp only [shp] at h; cases h
  | n, .fn _, h => by simp only [shp] at h; cases h
theorem shaped_toPs : ∀ (n : Nat) (ds : List D), shps n ds = true → PyData.canLayAll0 (toPs ds) = true ∧ PyData.depthAll (toPs ds) ≤ n
  | n, [], h => ⟨rfl, Nat.zero_le _⟩
  | n, d :: ds, h => by
    simp only [shps, Bool.and_eq_true] at h
    obtain ⟨h1, h2⟩ := shaped_toP n d h.1
    obtain ⟨h3, h4⟩ := shaped_toPs n ds h.2
    simp only [toPs, PyData.canLayAll0, PyData.depthAll, Bool.and_eq_true]
    exact ⟨⟨h1, h3⟩, Nat.max_le.mpr ⟨h2, h4⟩⟩
end
def oEq (g : Bool → Bool) : D → D → (D → Prop) → Prop := fun d e K => shp 60 d = true ∧ shp 60 e = true ∧ K (.bl (g (eqD d e)))
theorem b2_eqD {c : Ct} : B2 c (rEqD c.K) (oEq id) := ⟨fun F H Ω w d e v u h1 h2 K q Q k => by
  obtain ⟨s1, s2, hk⟩ := q
  obtain ⟨a1, a2⟩ := shaped_toP 60 d s1
  obtain ⟨b1, b2⟩ := shaped_toP 60 e s2
  refine ⟨toP d, toP e, vw_dp w 60 d v s1 h1, vw_dp w 60 e u s2 h2, ?_, ?_, ?_⟩
  · unfold SeqAt.shaped
    rw [a1, Bool.true_and]
    exact decide_eq_true (by omega)
  · unfold SeqAt.shaped
    rw [b1, Bool.true_and]
    exact decide_eq_true (by omega)
  · rw [eqv_toP 60 60 d e s1 s2]
    exact k _ hk _ F H (Ext.refl w) fz_bl⟩
theorem b2_neD {c : Ct} : B2 c (rNeD c.K) (oEq not) := ⟨fun F H Ω w d e v u h1 h2 K q Q k => by
  obtain ⟨s1, s2, hk⟩ := q
  obtain ⟨a1, a2⟩ := shaped_toP 60 d s1
  obtain ⟨b1, b2⟩ := shaped_toP 60 e s2
  refine ⟨toP d, toP e, vw_dp w 60 d v s1 h1, vw_dp w 60 e u s2 h2, ?_, ?_, ?_⟩
  · unfold SeqAt.shaped
    rw [a1, Bool.true_and]
    exact decide_eq_true (by omega)
  · unfold SeqAt.shaped
    rw [b1, Bool.true_and]
    exact decide_eq_true (by omega)
  · rw [eqv_toP 60 60 d e s1 s2]
    exact k _ hk _ F H (Ext.refl w) fz_bl⟩
/-! ### is None -/
def oIsN (g : Bool → Bool) : D → D → (D → Prop) → Prop
  | d, .non, K => K (.bl (g (isN d)))
  | _, _, _ => False
theorem vw_nn {c : Ct} {F H : Hp} {Ω : Nm} {d : D} {v : V} (w : Wf F H Ω) (h : Vw c F H d v) : decide (v = .non) = isN d := by
  cases d with
  | non => rw [vw_non h]; rfl
  | und => rcases h with h | ⟨_, _, h⟩ <;> (first | (simp only [Fz] at h; done) | (simp only [Rv] at h; done))
  | bl b => rw [vw_bl h]; rfl
  | int i => rw [vw_int h]; rfl
  | str s => rw [vw_str h]; rfl
  | tup xs => obtain ⟨a, vs, e, _⟩ := h.tup w; rw [e]; rfl
  | lst o xs => obtain ⟨a, vs, e, _⟩ := h.lst w; rw [e]; rfl
  | klst xs => obtain ⟨a, vs, e, _⟩ := h.klst w; rw [e]; rfl
  | dic o ks xs => obtain ⟨a, vs, e, _⟩ := h.dic w; rw [e]; rfl
  | ins o C xs => obtain ⟨a, dx, vs, e, _⟩ := h.ins w; rw [e]; rfl
  | exo a cd C x =>
    have h := h.fz rfl
    simp only [Fz] at h
    rw [h.1]
    rfl
  | fn k =>
    have h := h.fz rfl
    simp only [Fz] at h
    rw [h]
    rfl
theorem b2_isN {c : Ct} : B2 c (fun x y H Q => y = .non ∧ Q (.bl (decide (x = .non))) H) (oIsN id) := ⟨fun F H Ω w d e v u h1 h2 K q Q k => by
  cases e with
  | non => exact ⟨vw_non h2, by rw [vw_nn w h1]; exact k _ q _ F H (Ext.refl w) fz_bl⟩
  | _ => exact q.elim⟩
theorem b2_notN {c : Ct} : B2 c (fun x y H Q => y = .non ∧ Q (.bl (!decide (x = .non))) H) (oIsN not) := ⟨fun F H Ω w d e v u h1 h2 K q Q k => by
  cases e with
  | non => exact ⟨vw_non h2, by rw [vw_nn w h1]; exact k _ q _ F H (Ext.refl w) fz_bl⟩
  | _ => exact q.elim⟩

/-! ### in: one sign in a text -/
def oInS (g : Bool → Bool) : D → D → (D → Prop) → Prop
  | .str [a], .str t, K => K (.bl (g (decide (a ∈ t))))
  | _, _, _ => False
theorem b2_inS {c : Ct} {g : Bool → Bool} : B2 c (fun x y H Q => ∃ (a : Nat) (z : Str), x = .str ⟨#[a]⟩ ∧ y = .str z ∧ Q (.bl (g (decide (a ∈ z.cps.toList)))) H) (oInS g) := ⟨fun F H Ω w d e v u h1 h2 K q Q k => by
  cases d with
  | str s =>
    match s, h1, q with
    | [a], h1, q =>
      cases e with
      | str t => exact ⟨a, _, vw_str h1, vw_str h2, k _ q _ F H (Ext.refl w) fz_bl⟩
      | _ => exact q.elim
    | [], h1, q => exact q.elim
    | _ :: _ :: _, h1, q => exact q.elim
  | _ => exact q.elim⟩

/-! ### subscripts -/
def atD (xs : List D) (i : Int) (K : D → Prop) : Prop := match atI xs i with
  | some d => own d = false ∧ K d
  | none => False
def oIx : D → D → (D → Prop) → Prop
  | .lst _ xs, .int i, K => atD xs i K
  | .klst xs, .int i, K => atD xs i K
  | .tup xs, .int i, K => atD xs i K
  | .str s, .int i, K => s.length ≤ 16000000 ∧ (match atI s i with | some a => K (.str [a]) | none => False)
  | _, _, _ => False
def rIxAll (K : PySem.W.Frag) : R2 := fun x y H Q => rIxL K x y H Q ∨ rIxT K x y H Q ∨ rIxS x y H Q
theorem IxR.or' {X : Cx} {r r' : R2} (h : IxR X r) (g : IxR X r') : IxR X (fun x y H Q => r x y H Q ∨ r' x y H Q) := fun value slice pins s σ H x y v u Q I rx ry q hs =>
  q.elim (fun q => h value slice pins s σ H x y v u Q I rx ry q hs) fun q => g value slice pins s σ H x y v u Q I rx ry q hs
theorem ix_all {X : Cx} : IxR X (rIxAll X.K) := IxR.or' ix_list (IxR.or' ix_tup ix_str)
theorem atI_vw {c : Ct} {F H : Hp} {xs : List D} {vs : List V} {i : Int} {d : D} (f : VwL c F H xs vs) (h : atI xs i = some d) : ∃ v, atI vs i = some v ∧ Vw c F H d v := by
  unfold atI at h ⊢
  rw [← f.1]
  cases q : ixN xs.length i with
  | none => rw [q] at h; cases h
  | some j =>
    rw [q] at h
    exact f.2 j d h
theorem b2_ix {c : Ct} : B2 c (rIxAll c.K) oIx := ⟨fun F H Ω w d e v u h1 h2 K q Q k => by
  cases d with
  | lst o xs =>
    cases e with
    | int i =>
      have q' : atD xs i K := q
      unfold atD at q'
      obtain ⟨a, vs, e1, q1, f1⟩ := h1.lst w
      split at q'
      · rename_i z hz
        obtain ⟨y, y1, y2⟩ := atI_vw f1 hz
        exact .inl ⟨a, vs, i, y, e1, vw_int h2, SqL.of q1, y1, k _ q'.2 _ F H (Ext.refl w) (y2.fz q'.1)⟩
      · exact q'.elim
    | _ => exact q.elim
  | klst xs =>
    cases e with
    | int i =>
      have q' : atD xs i K := q
      unfold atD at q'
      obtain ⟨a, vs, e1, q1, f1⟩ := h1.klst w
      split at q'
      · rename_i z hz
        obtain ⟨y, y1, y2⟩ := atI_vw (FzL.vw f1) hz
        exact .inl ⟨a, vs, i, y, e1, vw_int h2, q1, y1, k _ q'.2 _ F H (Ext.refl w) (y2.fz (H := H) q'.1)⟩
      · exact q'.elim
    | _ => exact q.elim
  | tup xs =>
    cases e with
    | int i =>
      have q' : atD xs i K := q
      unfold atD at q'
      obtain ⟨a, vs, e1, _, q1, f1⟩ := h1.tup w
      split at q'
      · rename_i z hz
        obtain ⟨y, y1, y2⟩ := atI_vw (FzL.vw f1) hz
        exact .inr (.inl ⟨a, vs, i, y, e1, vw_int h2, q1, y1, k _ q'.2 _ F H (Ext.refl w) (y2.fz (H := H) q'.1)⟩)
      · exact q'.elim
    | _ => exact q.elim
  | str s =>
    cases e with
    | int i =>
      have q' : s.length ≤ 16000000 ∧ (match atI s i with | some a => K (.str [a]) | none => False) := q
      obtain ⟨hl, q'⟩ := q'
      split at q'
      · rename_i z hz
        refine .inr (.inr ⟨⟨s.toArray⟩, i, z, vw_str h1, vw_int h2, ?_, hz, k _ q' _ F H (Ext.refl w) (fz_str rfl)⟩)
        show s.toArray.size ≤ sizeLine
        rw [List.size_toArray]
        exact sz_ok hl
      · exact q'.elim
    | _ => exact q.elim
  | _ => exact q.elim⟩

/-! ### slices -/
def tOfP (c : Ct) (W : WX) (T : Env → (R (Option Int) → Env → Prop) → Prop) : TO := fun σ H Q => ∃ F Ω ρ K, Rel c F H Ω ρ σ ∧ T ρ K ∧
  (∀ o ρ', K (.ok o) ρ' → ∀ F' H' Ω', Stp F H Ω F' H' Ω' → Rel c F' H' Ω' ρ' σ → Q o H') ∧ ExW c W F H Ω σ (exK K)
abbrev DP := Env → (R (Option Int) → Env → Prop) → Prop
def dPn : DP := fun ρ K => K (.ok none) ρ
def dPs (T : DE) : DP := fun ρ K => T ρ (onOk K fun d ρ' => match d with | .int i => K (.ok (some i)) ρ' | _ => False)
theorem _root_.L2.PO.imp {X : Cx} {e : Option Expr} {t t' : TO} (h : PO X e t) (k : ∀ σ H Q, t' σ H Q → t σ H Q) : PO X e t' := ⟨fun pins s σ H Q I q => h.run pins s σ H Q I (k σ H Q q)⟩
theorem P_none {X : Cx} {c : Ct} {W : WX} : PO X none (tOfP c W dPn) := po_none.imp fun σ H Q h => by
  obtain ⟨F, Ω, ρ, K, r, t, k, kx⟩ := h
  exact k none ρ t F H Ω (Stp.refl _ _ _) r
theorem P_some {X : Cx} {c : Ct} {W : WX} {e : Expr} {T : DE} (h : PE X e (tOfE c W T)) : PO X (some e) (tOfP c W (dPs T)) := (po_some h).imp fun σ H Q h => by
  obtain ⟨F, Ω, ρ, K, r, t, k, kx⟩ := h
  refine ⟨F, Ω, ρ, _, r, t, fun d ρ' q v F' H' Ω' s r' f => ?_, kx.imp (Stp.refl _ _ _) fun _ _ _ q => q⟩
  cases d with
  | int i =>
    simp only [Fz] at f
    exact ⟨i, f, k _ ρ' q F' H' Ω' s r'⟩
  | _ => exact q.elim
/-- the part of a list from lo to hi -/
def cut {α : Type} (xs : List α) (lo hi : Option Int) : List α := (xs.drop (HT.sIx xs.length 0 lo)).take (HT.sIx xs.length xs.length hi - HT.sIx xs.length 0 lo)
def dSl (O : DO) (L Hh : DP) : DE := fun ρ K => O ρ (onOk K fun o ρ1 => L ρ1 (onOk K fun lo ρ2 => Hh ρ2 (onOk K fun hi ρ3 => match see ρ3 o with
  | .str s => s.length ≤ 16000000 ∧ K (.ok (.str (cut s lo hi))) ρ3
  | .lst _ xs => xs.all (fun d => !own d) = true ∧ K (.ok (.lst false (cut xs lo hi))) ρ3
  | _ => False)))
theorem FzL.take {c : Ct} {F : Hp} : ∀ {ds : List D} {vs : List V} (n : Nat), FzL c F ds vs → FzL c F (ds.take n) (vs.take n)
  | _, _, 0, _ => FzL.nil
  | [], vs, n + 1, h => by
    simp only [FzL] at h
    subst h
    exact FzL.nil
  | d :: ds, vs, n + 1, h => by
    simp only [FzL] at h
    obtain ⟨v, r, e, h1, h2⟩ := h
    subst e
    exact FzL.cons h1 (FzL.take n h2)
theorem FzL.drop {c : Ct} {F : Hp} : ∀ {ds : List D} {vs : List V} (n : Nat), FzL c F ds vs → FzL c F (ds.drop n) (vs.drop n)
  | _, _, 0, h => h
  | [], vs, n + 1, h => by
    simp only [FzL] at h
    subst h
    exact FzL.nil
  | d :: ds, vs, n + 1, h => by
    simp only [FzL] at h
    obtain ⟨v, r, e, h1, h2⟩ := h
    subst e
    exact FzL.drop n h2
theorem E_sl {X : Cx} {c : Ct} {W : WX} {e : Expr} {lo hi : Option Expr} {p2 pos : Pos} {O : DO} {L Hh : DP} (hK : c.K = X.K) (ho : PE X e (tOfO c W O)) (hl : PO X lo (tOfP c W L)) (hh : PO X hi (tOfP c W Hh)) : PE X (.Subscript e (.Slice lo hi none p2) pos) (tOfE c W (dSl O L Hh)) :=
  (pe_slice (SlR.or sl_str sl_list) ho hl hh).imp fun σ H Q h => by
    obtain ⟨F, Ω, ρ, K, r0, ht, k, kx⟩ := h
    refine ⟨F, Ω, ρ, _, r0, ht, fun o ρ1 q1 v F1 H1 Ω1 s1 r1 f1 => ?_, kx.imp (Stp.refl _ _ _) fun _ _ _ q => q⟩
    refine ⟨F1, Ω1, ρ1, _, r1, q1, fun l ρ2 q2 F2 H2 Ω2 s2 r2 => ?_, kx.imp s1 fun _ _ _ q => q⟩
    refine ⟨F2, Ω2, ρ2, _, r2, q2, fun u ρ3 q3 F3 H3 Ω3 s3 r3 => ?_, kx.imp (s1.trans s2) fun _ _ _ q => q⟩
    have q3' : (match see ρ3 o with
      | .str s => s.length ≤ 16000000 ∧ K (.ok (.str (cut s l u))) ρ3
      | .lst _ xs => xs.all (fun d => !own d) = true ∧ K (.ok (.lst false (cut xs l u))) ρ3
      | _ => False) := q3
    have hn : nz (see ρ3 o) = true := by
      cases e : see ρ3 o <;> rw [e] at q3' <;> first | rfl | exact q3'.elim
    have vw := ((f1.mono s2.ef).mono s3.ef).vw r3 hn
    have st := (s1.trans s2).trans s3
    cases e : see ρ3 o with
    | str s =>
      rw [e] at q3' vw
      refine .inl ⟨⟨s.toArray⟩, vw_str vw, ?_, k _ ρ3 q3'.2 _ F3 H3 Ω3 st r3 (fz_str ?_)⟩
      · show s.toArray.size ≤ sizeLine
        rw [List.size_toArray]
        exact sz_ok q3'.1
      · show ((s.drop _).take _).toArray.toList = _
        unfold cut
        simp [PySem.Str.length]
    | lst o' xs =>
      rw [e] at q3' vw
      obtain ⟨a, vs, e1, h1, h2⟩ := vw.lst r3.wf
      have hf := h2.fz q3'.1
      refine .inr ⟨a, vs, e1, by rw [← hK]; exact SqL.of h1, fun p hp => ?_⟩
      have ex := Ext.new (o := .lst (cutV vs l u)) r3.wf hp
      refine k _ ρ3 q3'.2 _ _ _ Ω3 (st.trans ex.stp) (r3.ext ex) ?_
      simp only [Fz]
      refine ⟨p, _, rfl, upd_same, FzL.mono ex.ef _ _ ?_⟩
      unfold cutV cut
      rw [← hf.length]
      exact FzL.take _ (FzL.drop _ hf)
    | _ => rw [e] at q3'; exact q3'.elim

/-! ### built-ins -/
def oLen : List D → (D → Prop) → Prop
  | [.lst _ xs], K => K (.int xs.length)
  | [.klst xs], K => K (.int xs.length)
  | [.tup xs], K => K (.int xs.length)
  | [.str s], K => s.length ≤ 16000000 ∧ K (.int s.length)
  | _, _ => False
theorem one_of {c : Ct} {F H : Hp} {d : D} {vs : List V} (hl : [d].length = vs.length) (hv : ∀ (i : Nat) d' v, [d][i]? = some d' → vs[i]? = some v → Vw c F H d' v) : ∃ v, vs = [v] ∧ Vw c F H d v := by
  match vs, hl with
  | [v], _ => exact ⟨v, rfl, hv 0 d v rfl rfl⟩
theorem CallR.or' {X : Cx} {f : Value} {r r' : List V → Hp → VK → Prop} (h : CallR X f r) (g : CallR X f r') : CallR X f (fun xs H Q => r xs H Q ∨ r' xs H Q) := fun pins s σ H xs us Q I rx q =>
  q.elim (fun q => h pins s σ H xs us Q I rx q) fun q => g pins s σ H xs us Q I rx q
def rLen (K : PySem.W.Frag) : List V → Hp → VK → Prop := fun xs H Q => (∃ p ys, xs = [.ref p] ∧ (SqL K H p ys ∨ SqT K H p ys) ∧ Q (.int ys.length) H) ∨ ∃ z, xs = [.str z] ∧ z.length ≤ sizeLine ∧ Q (.int z.length) H
theorem cr_len {X : Cx} : CallR X (.builtin "len") (rLen X.K) := CallR.or' call_len_seq call_len_str
theorem ba_len {c : Ct} : BA c (rLen c.K) oLen := ⟨fun F H Ω w ds vs hl hv K q Q k => by
  match ds, hl, hv, q with
  | [.lst o xs], hl, hv, q =>
    obtain ⟨v, e, h⟩ := one_of hl hv
    obtain ⟨a, ys, e1, h1, h2⟩ := h.lst w
    refine .inl ⟨a, ys, by rw [e, e1], .inl (SqL.of h1), ?_⟩
    rw [← h2.1]
    exact k _ q _ F H (Ext.refl w) fz_int
  | [.klst xs], hl, hv, q =>
    obtain ⟨v, e, h⟩ := one_of hl hv
    obtain ⟨a, ys, e1, h1, h2⟩ := h.klst w
    refine .inl ⟨a, ys, by rw [e, e1], .inl h1, ?_⟩
    rw [← h2.length]
    exact k _ q _ F H (Ext.refl w) fz_int
  | [.tup xs], hl, hv, q =>
    obtain ⟨v, e, h⟩ := one_of hl hv
    obtain ⟨a, ys, e1, _, h1, h2⟩ := h.tup w
    refine .inl ⟨a, ys, by rw [e, e1], .inr h1, ?_⟩
    rw [← h2.length]
    exact k _ q _ F H (Ext.refl w) fz_int
  | [.str s], hl, hv, q =>
    obtain ⟨v, e, h⟩ := one_of hl hv
    refine .inr ⟨⟨s.toArray⟩, by rw [e, vw_str h], ?_, ?_⟩
    · show s.toArray.size ≤ sizeLine
      rw [List.size_toArray]
      exact sz_ok q.1
    · show Q (.int (s.toArray.size : Nat)) H
      rw [List.size_toArray]
      exact k _ q.2 _ F H (Ext.refl w) fz_int⟩
def oAbs : List D → (D → Prop) → Prop
  | [.int i], K => K (.int (if i < 0 then -i else i))
  | _, _ => False
theorem ba_abs {c : Ct} : BA c (fun xs H Q => ∃ i, xs = [.int i] ∧ Q (.int (if i < 0 then -i else i)) H) oAbs := ⟨fun F H Ω w ds vs hl hv K q Q k => by
  match ds, hl, hv, q with
  | [.int i], hl, hv, q =>
    obtain ⟨v, e, h⟩ := one_of hl hv
    exact ⟨i, by rw [e, vw_int h], k _ q _ F H (Ext.refl w) fz_int⟩⟩
def oInt1 : List D → (D → Prop) → Prop
  | [.int i], K => K (.int i)
  | [.bl b], K => K (.int (if b then 1 else 0))
  | _, _ => False
theorem ba_int {c : Ct} : BA c (fun xs H Q => (∃ i, xs = [.int i] ∧ Q (.int i) H) ∨ ∃ k, xs = [.bl k] ∧ Q (.int (if k then 1 else 0)) H) oInt1 := ⟨fun F H Ω w ds vs hl hv K q Q k => by
  match ds, hl, hv, q with
  | [.int i], hl, hv, q =>
    obtain ⟨v, e, h⟩ := one_of hl hv
    exact .inl ⟨i, by rw [e, vw_int h], k _ q _ F H (Ext.refl w) fz_int⟩
  | [.bl i], hl, hv, q =>
    obtain ⟨v, e, h⟩ := one_of hl hv
    exact .inr ⟨i, by rw [e, vw_bl h], k _ q _ F H (Ext.refl w) fz_int⟩⟩
/-- the truth values of a list -/
def bls : List D → Option (List Bool)
  | [] => some []
  | .bl b :: ds => (bls ds).map (b :: ·)
  | _ :: _ => none
def oAll (g : List Bool → Bool) : List D → (D → Prop) → Prop
  | [.lst _ xs], K => (match bls xs with | some bs => K (.bl (g bs)) | none => False)
  | _, _ => False
theorem bls_vw {c : Ct} {F H : Hp} : ∀ {xs : List D} {vs : List V} {bs : List Bool}, bls xs = some bs → VwL c F H xs vs → vs = bs.map V.bl
  | [], vs, bs, h, f => by
    cases h
    have := f.1
    simpa using this.symm
  | .bl b :: ds, vs, bs, h, f => by
    simp only [bls] at h
    cases q : bls ds with
    | none => rw [q] at h; cases h
    | some bs' =>
      rw [q] at h
      cases h
      cases vs with
      | nil => have := f.1; simp at this
      | cons v vs =>
        obtain ⟨u, q1, q2⟩ := f.2 0 _ rfl
        have e : u = v := by simpa using q1.symm
        subst e
        rw [vw_bl q2, bls_vw (vs := vs) q ⟨by simpa using f.1, fun i x e => f.2 (i + 1) x (by simpa using e)⟩]
        rfl
theorem ba_all {c : Ct} {g : List Bool → Bool} : BA c (fun vs H Q => ∃ (a : Addr) (bs : List Bool), vs = [V.ref a] ∧ SqL c.K H a (bs.map V.bl) ∧ Q (.bl (g bs)) H) (oAll g) := ⟨fun F H Ω w ds vs hl hv K q Q k => by
  match ds, hl, hv, q with
  | [.lst o xs], hl, hv, q =>
    obtain ⟨v, e, h⟩ := one_of hl hv
    obtain ⟨a, ys, e1, h1, h2⟩ := h.lst w
    have q' : (match bls xs with | some bs => K (.bl (g bs)) | none => False) := q
    cases z : bls xs with
    | none => rw [z] at q'; exact q'.elim
    | some bs =>
      rw [z] at q'
      have e2 := bls_vw z h2
      exact ⟨a, bs, by rw [e, e1], SqL.of (by rw [h1, e2]), k _ q' _ F H (Ext.refl w) fz_bl⟩⟩
end Vi
/-! Vi8: the package's errors: a base class over ValueError whose __init__ says super().__init__(what); self.what = what; classes below it without a body. -/
namespace PySem
namespace AnyX
open PySem.W PySem.Calls PyProof.Rows PySem.HandSPX

/-! ### the text of __init__ -/
def aArgs (p1 p2 p3 : Pos) : Arguments :=
  { posonlyargs := [], args := [{ arg := "self", annotation := none, pos := p1 }, { arg := "what", annotation := none, pos := p2 }], vararg := none, kwonlyargs := [], kw_defaults := [], kwarg := none, defaults := [.Constant .none 0 p3] }
def aBody (q1 q2 q3 q4 q5 q6 r1 r2 r3 r4 : Pos) : List Stmt :=
  [.Expr (.Call (.Attribute (.Call (.Name "super" q1) [] [] q2) "__init__" q3) [.Name "what" q4] [] q5) q6,
   .Assign [.Attribute (.Name "self" r1) "what" r2] (.Name "what" r3) r4]
def aScope : Scope := { kind := .function, names := [(PySem.Str.ofString "self", .local), (PySem.Str.ofString "what", .local), (PySem.Str.ofString "__class__", .free), (PySem.Str.ofString "super", .globalImplicit)], isGenerator := false, isCoroutine := false, more := [] }
/-- the base class at D, its __init__ at fI -/
structure Base (prog : Program) (K : Frag) (D fI : Addr) : Prop where
  fn : ∃ (oc : Value) (od : Option Addr) (dT : Addr) (oT : Obj) (nT : Nat) (kV doc pm : Value) (an : Option Addr) (cda cc : Addr) (ct : Value) (osl : Array (Option Value)) (p1 p2 p3 q1 q2 q3 q4 q5 q6 r1 r2 r3 r4 : Pos) (cl : Value) (cld : Option Addr) (csl : Array (Option Value))
      (ccl : Value) (cdd : Option Addr) (vs : Array Value) (ccs : Array (Option Value)) (file : Str) (tf : Tok),
    K.lookup fI = some ⟨oc, od, .func (ksFn "__init__" "AnytextError.__init__" (aArgs p1 p2 p3) (aBody q1 q2 q3 q4 q5 q6 r1 r2 r3 r4) aScope (.ref dT) kV doc pm an (.ref cda) ct cc), osl⟩ ∧ K.lookup dT = some oT ∧ oT.data = .seq #[.none] nT ∧
    codeIn K (.ref cda) "AnytextError.__init__" = true ∧ K.lookup cc = some ⟨cl, cld, .cell (some (.ref D)), csl⟩ ∧
    K.lookup cda = some ⟨ccl, cdd, .fields vs, ccs⟩ ∧ vs[2]? = some (.str file tf) ∧ ((prog.main.file : Str) == file) = true ∧ (q3.endLine == q5.line) = true
  cls : ∃ cd, clsIn K D = some cd
  top : (prog.main.scope.names.lookup ("super" : Str)).isSome = false
  any : nsIn K cStatics "thirdparty.any" = some none
  tI : typeIn K (.ref fI) = some (.type "function")
/-- the arguments of a call, and what becomes of them -/
def Gives (us : List Value) (v : Value) : Prop := us = [v] ∨ (us = [] ∧ v = .none)
/-- a class of the family, at C -/
structure Kind (K : Frag) (D fI C : Addr) : Prop where
  cls : ∃ nm q N bs bm sn sub ab col dd k0 k1 k2 k3 k5, K.lookup C = some (excClassObj nm q C N bs bm true sn sub ab col dd k0 k1 k2 k3 k5 "ValueError.__new__") ∧ refsVE bm = true ∧
    alongIn K "__init__" (((Value.ref C :: bm).dropWhile (· != .ref D)).drop 1) = some (some (.builtin "ValueError.__init__"))
  sa : findIn K (.ref C) "__setattr__" = some (some (.builtin "object.__setattr__"))
  ga : findIn K (.ref C) "__getattribute__" = some (some (.builtin "BaseException.__getattribute__"))
  gg : findIn K (.ref C) "__getattr__" = some none
  noW : findIn K (.ref C) "what" = some none
  iC : findIn K (.ref C) "__init__" = some (some (.ref fI))
  kC : keepIn K (.ref C) = true
  exC : subIn K (.ref C) (.type "BaseException") = some true
  veC : subIn K (.ref C) (.type "ValueError") = some true
  tyC : typeIn K (.ref C) = some (.type "type")
  hdC : hasDictIn K C = true
  sD : mroIn K C (.ref D) = some true
structure InitEnd (h h' : Heap) (x C dx t1 : Addr) (v : Value) : Prop where
  keep : ∀ b o, b ≠ x → h.get? b = some o → h'.get? b = some o
  obj : h'.get? x = some { cls := .ref C, dict := some dx, data := .fields #[.ref t1, .none, .none, .none, .bool false, .none] }
  dbig : h.objs.size ≤ dx
  dne : dx ≠ x
  ns : h'.Ns1 dx (fun y => if y = "what" then some v else none)
section
variable {prog : Program} {w : World} {M : Model} {A : Around} {E : Value → Shared → Prop} {R : Result → Shared → Prop} {s : Shared} {K : Frag} {mg mb : Str → Option Value} {D fI C : Addr}
theorem ld {env : Env} {m : Str → Option Value} {x : Str} {pos : Pos} {v : Value} {Q : Value → Shared → Prop} (hn : s.heap.Ns env.locals m) (hv : m x = some v) (h : Q v s)
    (hk : env.scope.kind = .function := by rfl) (hl : env.kindOf x = some .local := by rfl) (hd : (x == ("__debug__" : Str)) = false := by decide) : wpAny M A (eval (.Name x pos) env) Q E s :=
  wpAny_Name (wpAny_loadName_local hk hl hn hv h) hd
/-- the built-in __init__, bound to x, called -/
theorem bound_init {u x t0 : Addr} {rest : List Value} {Q : Value → Shared → Prop} {nm q : Str} {N : Addr} {bs bm : List Value} {sn : List Str} {sub : List Value} {ab : Bool} {col : Option Bool} {dd : Option Addr} {k0 k1 k2 k3 k5 : Option Value}
    (hu : s.heap.get? u = some (kxs_mw "ValueError.__init__" x)) (hC : s.heap.get? C = some (excClassObj nm q C N bs bm true sn sub ab col dd k0 k1 k2 k3 k5 "ValueError.__new__")) (he : s.heap.get? x = some (excO C t0)) (hz : rest.length ≤ sizeLine)
    (hq : ∀ h' t1, (∀ b o, b ≠ x → s.heap.get? b = some o → h'.get? b = some o) → h'.get? x = some (excO C t1) → Q .none { s with heap := h' }) : wpAny (model prog w) A (call (.ref u) rest) Q E s := by
  obtain ⟨hh, g, d, tk, os⟩ := s
  refine wpAny_call (codeAny_of_tree ?_)
  show wpAny (model prog w) A.in1 (callAny (.ref u) ⟨rest, []⟩) _ _ ⟨hh, g, d, tk, os⟩
  unfold callAny
  refine wpAny_bind (wpAny_load hu ?_)
  simp only [kxs_mw, show (Value.type "method-wrapper" == Value.type "method" || Value.type "method-wrapper" == Value.type "builtin_function_or_method" || Value.type "method-wrapper" == Value.type "method-wrapper") = true by decide, if_true]
  refine KFB.if_so (by decide) (wpAny_bind (check_bound_init (F.excBase_ValueError).toExcCallFacts hC he rfl ?_))
  refine wpAny_bind (wpAny_pure (wpAny_pure ⟨plainId_quiet (F.excBase_ValueError).init.plain _, codeAny_builtin (F.excBase_ValueError).initEntry ?_⟩))
  exact exc_init_tree (cls := .ref C) (t0 := t0) (dv := none) (c2 := .none) (c3 := .none) (b4 := .bool false) he hz fun h' k e _ => hq h' _ k e
theorem any_init (B : Base prog K D fI) (T : Kind K D fI C) {x t0 : Addr} {v : Value} {us : List Value} (X : K.In s.heap) (G : s.heap.Ns mainGlobals mg) (Bt : s.heap.Ns builtinsNs mb) (hb : mb "super" = some (.type "super")) (hg : mg "super" = none) (hlim : s.heap.NoLimit)
    (hx : s.heap.get? x = some (excO C t0)) (hnx : K.lookup x = none) (hroom : A.depth < recursionLimit)
    (gv : Gives us v)
    (hq : ∀ h' tk dx t1, InitEnd s.heap h' x C dx t1 v → R (.ok (.ret .none)) { s with heap := h', toks := tk }) :
    codeAny (model prog w) A (.call (.ref fI) ⟨.ref x :: us, []⟩) R s := by
  obtain ⟨oc, od, dT, oT, nT, kV, doc, pm, an, cda, cc, ct, osl, p1, p2, p3, q1, q2, q3, q4, q5, q6, r1, r2, r3, r4, cl, cld, csl, ccl, cdd, vs, ccs, file, tf, lf, lT, dT', hcode, lcc, lcd, hvs, hfile, hline⟩ := B.fn
  obtain ⟨cdD, hD⟩ := B.cls
  obtain ⟨nm, q, N, bs, bm, sn, sub, ab, col, dd, k0, k1, k2, k3, k5, hC, hbm, hal⟩ := T.cls
  have hcl : clsIn K C = some { name := nm, bases := bs, mro := .ref C :: bm, ns := N, qualname := q, hasDict := true, slotNames := sn, subclasses := sub, abstract := ab, collection := col, hasDel := false } := by
    unfold clsIn
    rw [hC]
    all_goals rfl
  have hbnd : BindsTo s (ksFn "__init__" "AnytextError.__init__" (aArgs p1 p2 p3) (aBody q1 q2 q3 q4 q5 q6 r1 r2 r3 r4) aScope (.ref dT) kV doc pm an (.ref cda) ct cc) ⟨.ref x :: us, []⟩ [("self", .ref x), ("what", v)] := by
    rcases gv with rfl | ⟨rfl, rfl⟩
    · exact binds_K X rfl lT dT' (by first | rfl | with_unfolding_all rfl) (by first | rfl | with_unfolding_all rfl)
    · exact binds_K X rfl lT dT' (by first | rfl | with_unfolding_all rfl) (by first | rfl | with_unfolding_all rfl)
  have hcell : ∀ y ∈ aScope.names, y.2 ≠ .cell := by decide
  have hloc : ∀ y ∈ [(("self" : Str), Value.ref x), ("what", v)], aScope.names.lookup y.1 = some .local := by
    intro y hy
    rcases List.mem_cons.mp hy with rfl | hy
    · rfl
    · rcases List.mem_cons.mp hy with rfl | hy
      · rfl
      · cases hy
  refine ks_codeAny_call_defAt (fd := ksFn "__init__" "AnytextError.__init__" (aArgs p1 p2 p3) (aBody q1 q2 q3 q4 q5 q6 r1 r2 r3 r4) aScope (.ref dT) kV doc pm an (.ref cda) ct cc) (body := aBody q1 q2 q3 q4 q5 q6 r1 r2 r3 r4) (binds := [("self", .ref x), ("what", v)]) hroom (X _ _ lf) rfl hlim (codeRec_of X hcode) rfl hbnd hcell hloc (fun h1 hns k1 => ?_) rfl rfl rfl
  have X1 : K.In h1 := X.keeps k1
  have hx1 := k1 _ _ hx
  have hxL : s.heap.objs.size ≠ x := Nat.ne_of_gt (Heap.lt_size hx)
  have I : InstAt h1 x (excO C t0) C none := ⟨hx1, rfl, rfl, trivial⟩
  obtain ⟨oD, hD1, hD2⟩ : ∃ oD, h1.get? D = some oD ∧ oD.data = .cls cdD := by
    unfold clsIn at hD
    split at hD
    · rename_i c d cd' sl ho
      cases hD
      exact ⟨_, X1 _ _ ho, rfl⟩
    · cases hD
  have G1 := G.keeps k1
  have B1 := Bt.keeps k1
  obtain ⟨hh, g, dr, tk, os⟩ := s
  generalize hL : hh.objs.size = L at hns hxL
  refine ks_wpAt_execs_cons (ks_wpAt_Expr_any ?_)
  have hev : ∃ pl : Sem Bool, eval (.Call (.Attribute (.Call (.Name "super" q1) [] [] q2) "__init__" q3) [.Name "what" q4] [] q5) (ksEnv "AnytextError.__init__" aScope L fI (.ref cda) cc) = (do
      let ov ← attributeBase (.Call (.Name "super" q1) [] [] q2) "__init__" (ksEnv "AnytextError.__init__" aScope L fI (.ref cda) cc) (eval (.Call (.Name "super" q1) [] [] q2) (ksEnv "AnytextError.__init__" aScope L fI (.ref cda) cc))
      standAt q3.atName
      let (f, first) ← holding [ov] (getMethod ov "__init__" pl)
      callWith q5 f first (backTo q5 (starEach [.Name "what" q4] (ksEnv "AnytextError.__init__" aScope L fI (.ref cda) cc))) []) := by
    refine ⟨(do return (← importBound (.Call (.Name "super" q1) [] [] q2) (ksEnv "AnytextError.__init__" aScope L fI (.ref cda) cc)).getD true), ?_⟩
    show (do
      let ov ← attributeBase (.Call (.Name "super" q1) [] [] q2) "__init__" (ksEnv "AnytextError.__init__" aScope L fI (.ref cda) cc) (eval (.Call (.Name "super" q1) [] [] q2) (ksEnv "AnytextError.__init__" aScope L fI (.ref cda) cc))
      standAt q3.atName
      methodCall (.Call (.Name "super" q1) [] [] q2) "__init__" q3 q5 (ksEnv "AnytextError.__init__" aScope L fI (.ref cda) cc) ov 1 (backTo q5 (starEach [.Name "what" q4] (ksEnv "AnytextError.__init__" aScope L fI (.ref cda) cc))) []) = _
    unfold methodCall methodCallPos
    rw [hline, Bool.or_true]
    rfl
  obtain ⟨pl, hev⟩ := hev
  refine ks_wpAt_MethodCall (env := ksEnv "AnytextError.__init__" aScope L fI (.ref cda) cc) (pl := pl) ?_ hev
  refine ks_wpAt_super_base (env := ksEnv "AnytextError.__init__" aScope L fI (.ref cda) cc) rfl rfl rfl rfl (X1 _ _ lf) rfl rfl rfl (X1 _ _ lcd) rfl hvs hfile B.top ?_
  refine ks_loadName_global rfl rfl (loadGlobal_builtin (env := ksEnv "AnytextError.__init__" aScope L fI (.ref cda) cc) G1 hg B1 hb ⟨rfl, ?_⟩)
  refine wpAny_loadName_free rfl rfl rfl ⟨_, X1 _ _ lcc, rfl⟩ ?_
  refine wpAny_loadName_local (v := .ref x) rfl rfl hns (by rfl) ?_
  refine ks_wpAny_isType_cls hD1 hD2 ⟨rfl, ?_⟩
  refine ks_wpAny_call_super hD1 hD2 hx1 rfl (fun c e => ?_) (looks_mroIn X1 T.sD) (fun h2 e2 k2 => ?_)
  · cases e
  have X2 : K.In h2 := X1.keeps k2
  have hx2 := k2 _ _ hx1
  have hC2 := X2 _ _ hC
  have I2 : InstAt h2 x (excO C t0) C none := ⟨hx2, rfl, rfl, trivial⟩
  refine kxs_getMethod kxs_ValueError e2 (looks_opaque X2 B.any) (l₀ := .ref C :: bm) (fun A Q E s k q => wpAny_bind ((looks_clsIn X2 hcl) A _ E s k (wpAny_pure q))) rfl X2 hal (I2.type.andThen (looks_subIn X2 T.veC)) (fun z => ?_) (by decide) ?_
  · subst z
    rw [hnx] at hC
    cases hC
  have k3 : ∀ b o, h2.get? b = some o → (h2.push (kxs_mw "ValueError.__init__" x)).get? b = some o := fun b o e => Heap.get?_push_of_some _ e
  have hu : (h2.push (kxs_mw "ValueError.__init__" x)).get? h2.objs.size = some (kxs_mw "ValueError.__init__" x) := Heap.get?_push_at rfl rfl
  have hns3 := (hns.keeps k2).keeps k3
  have X3 : K.In (h2.push (kxs_mw "ValueError.__init__" x)) := X2.keeps k3
  refine kxs_callWith (i := "ValueError.__init__") (x := x) rfl (evalArgs_plain (spliced_cons (ld (v := v) hns3 (by rfl) (spliced_nil ⟨hu, ?_⟩))))
  refine bound_init (C := C) hu (X3 _ _ hC) (k3 _ _ hx2) (by rw [sizeLine_eq]; exact (by decide : 1 ≤ 16777216)) fun h4 t1 k4 hx4 => ?_
  -- self.what = what
  have k5 : ∀ b o, b ≠ x → h1.get? b = some o → h4.get? b = some o := fun b o hb e => k4 b o hb (k3 b o (k2 b o e))
  have X4 : K.In h4 := fun a o e => k4 a o (fun z => by subst z; rw [show K.lookup a = none from hnx] at e; cases e) (X3 a o e)
  have hns4 : h4.Ns L (fun y => List.lookup y [(("self" : Str), Value.ref x), ("what", v)].reverse) := by
    obtain ⟨oL, es, ep, q1, r⟩ := hns3
    exact ⟨oL, es, ep, k4 _ _ hxL q1, r⟩
  refine ks_wpAt_execs_cons (wpAt_of_wpAny (plainObj_wpAny_Assign_Attribute ?_))
  refine ld (v := v) hns4 (by rfl) (ld (v := .ref x) hns4 (by rfl) ?_)
  refine set_plain X4 (ox := excO C t1) (od := none) ⟨hx4, rfl, rfl, trivial⟩ T.sa ?_
  refine exc_osa X4 hx4 hcl (show refsVE (.ref C :: bm) = true from hbm) rfl T.noW (fun h5 tk5 dx k6 dn dne hx5 hn5 => ?_)
  have z : hh.objs.size ≤ dx := by
    rw [hL]
    exact Nat.le_of_lt (Nat.lt_of_lt_of_le hns4.lt dn)
  exact wpAt_of_wpAny (wpAny_execs_nil (hq h5 _ dx t1 ⟨fun b o hb e => k6 b o hb (k5 b o hb (k1 b o e)), hx5, z, dne, hn5⟩))
/-- what a call of a class of the family makes -/
structure Made (h h' : Heap) (e C d : Addr) (v : Value) : Prop where
  old : ∀ b o, h.get? b = some o → h'.get? b = some o
  new : h.objs.size ≤ e
  obj : ∃ oe vs, h'.get? e = some oe ∧ oe.cls = .ref C ∧ oe.dict = some d ∧ oe.data = .fields vs ∧ vs[1]? = some .none
  dbig : h.objs.size ≤ d
  dne : d ≠ e
  ns : h'.Ns1 d (fun y => if y = "what" then some v else none)
theorem any_made (B : Base prog K D fI) (T : Kind K D fI C) {v : Value} {rest : List Value} (X : K.In s.heap) (G : s.heap.Ns mainGlobals mg) (Bt : s.heap.Ns builtinsNs mb) (hb : mb "super" = some (.type "super")) (hg : mg "super" = none)
    (hlim : s.heap.NoLimit) (hroom : A.depth + 1 < recursionLimit)
    (gv : Gives rest v)
    (hq : ∀ h' tk e d, Made s.heap h' e C d v → R (.ok (.ret (.ref e))) { s with heap := h', toks := tk }) :
    codeAny (model prog w) A (.call (.ref C) ⟨rest, []⟩) R s := by
  obtain ⟨nm, q, N, bs, bm, sn, sub, ab, col, dd, k0, k1, k2, k3, k5, hC, hbm, hal⟩ := T.cls
  obtain ⟨hp, g, dr, tk, os⟩ := s
  have k : ∀ b o, hp.get? b = some o → ((hp.push (kdv_tup rest)).push (excO C hp.objs.size)).get? b = some o := fun b o e => Heap.get?_push_of_some _ (Heap.get?_push_of_some _ e)
  have hget : ((hp.push (kdv_tup rest)).push (excO C hp.objs.size)).get? (hp.objs.size + 1) = some (excO C hp.objs.size) := by heap_get
  have hnx : K.lookup (hp.objs.size + 1) = none := by
    cases e : K.lookup (hp.objs.size + 1) with
    | none => rfl
    | some o =>
      have z : hp.get? (hp.objs.size + 1) = some o := X _ _ e
      exact absurd (Nat.lt_of_succ_lt (Heap.lt_size z)) (Nat.lt_irrefl _)
  have hrest1 : rest.length ≤ 1 := by
    rcases gv with rfl | ⟨rfl, _⟩
    · exact Nat.le_refl 1
    · exact Nat.zero_le 1
  have hsz : rest.length ≤ sizeLine := Nat.le_trans hrest1 (by rw [sizeLine_eq]; exact (by decide : 1 ≤ 16777216))
  refine call_own F.excBase_ValueError (fun X => refsVE_contains X bm hbm) (X _ _ hC) (looks_findIn X T.iC) (fun self => bind_fn X self B.tI) hsz ?_
  refine any_init (s := ⟨(hp.push (kdv_tup rest)).push (excO C hp.objs.size), g, dr, tk, os⟩) B T (X.keeps k) (G.keeps k) (Bt.keeps k) hb hg (hlim.keeps k) hget hnx ?_ gv fun h' tk' dx t1 M => ?_
  · show A.depth + 1 < recursionLimit
    exact hroom
  · have old : ∀ b o, hp.get? b = some o → h'.get? b = some o := fun b o e => M.keep b o (Nat.ne_of_lt (Nat.lt_succ_of_lt (Heap.lt_size e))) (k b o e)
    have z : hp.objs.size + 1 + 1 ≤ dx := by
      have q := M.dbig
      rw [Heap.size_push, Heap.size_push] at q
      exact q
    exact ⟨rfl, hq h' tk' (hp.objs.size + 1) dx ⟨old, Nat.le_succ _, ⟨_, _, M.obj, rfl, rfl, rfl, rfl⟩, Nat.le_trans (Nat.le_trans (Nat.le_succ _) (Nat.le_succ _)) z, M.dne, M.ns⟩⟩
end
end AnyX
end PySem
/-! Vi9: raise of an own error, try with one clause that names it, what the clause's suite asks of it. -/
namespace Vi
open PySem L2 PySem.Spec PyProof.Rows PySem.AnyX

theorem relO_what {v : V} {v' : Value} (r : RelV v v') (f : Str) : RelO (List.lookup f [(("what" : Str), v)]) (if f = "what" then some v' else none) := by
  by_cases hw : f = "what"
  · subst hw
    rw [if_pos rfl]
    have q : List.lookup ("what" : Str) [(("what" : Str), v)] = some v := by simp [List.lookup]
    rw [q]
    exact r
  · rw [if_neg hw]
    have qw : (f == ("what" : Str)) = false := by simpa using hw
    have q2 : List.lookup f [(("what" : Str), v)] = none := by simp [List.lookup, qw]
    rw [q2]
    trivial

section
variable {X : Cx} {D fI C : Addr}
/-- the family's class at C called with us in a calm state -/
theorem mk_any {v : V} {v' : Value} {us : List Value} {k : Nat} {pins : List (Addr × Obj)} {s1 : Shared} {σ : L2.St} {H1 : Hp} {Q : XK} (B : Base X.prog X.K D fI) (T : Kind X.K D fI C) (hg : X.mg "super" = none) (hr : Room (k + 1) X.A) (I1 : Inv X pins σ H1 s1) (rv : RelV v v')
    (gv : Gives us v')
    (q1 : ∀ d, H1 d = none → Q (.ref C) (some d) (upd H1 d (.xd [(("what" : Str), v)]))) :
    wpAny (model X.prog X.w) X.A (call (.ref C) us) (MkP X pins σ Q) X.xe s1 := by
  have hlim := I1.nolimit
  obtain ⟨mb, hB, hmb⟩ := I1.mod.blt
  obtain ⟨hp, g, dr, tk, os⟩ := s1
  refine wpAny_call (any_made B T I1.kIn (I1.mod.glob.keeps I1.bk) (hB.keeps I1.bk) ((hmb "super" (by decide)).trans (by decide +kernel)) hg hlim (by have := hr.dp; show X.A.depth + 1 < _; omega) gv fun h' tk' e d M => ?_)
  show MkP X pins σ Q (.ref e) ⟨h', g, dr, tk', os⟩
  obtain ⟨oe, fv, hoe, hc, hd, hdat, h1⟩ := M.obj
  have hns := M.ns
  obtain ⟨G', g1, g2⟩ := restrict h' fun b => decide (b ≠ e)
  have gk : ∀ b, b ≠ e → G'.get? b = h'.get? b := fun b hb => g1 b (decide_eq_true hb)
  have ge : G'.get? e = none := g2 e (by simp)
  have old : ∀ b o, hp.get? b = some o → G'.get? b = some o := fun b o q => (gk b (Nat.ne_of_lt (Nat.lt_of_lt_of_le (Heap.lt_size q) M.new))).trans (M.old b o q)
  have ob : ObjOk X.prog X.w (upd H1 d (.xd [(("what" : Str), v)])) G' d (.xd [(("what" : Str), v)]) :=
    ⟨_, hns.at (fun o q => (gk d M.dne).trans q), fun f => relO_what rv f⟩
  have J : Inv X pins σ (upd H1 d (.xd [(("what" : Str), v)])) ⟨G', g, dr, tk', os⟩ := I1.laid (t' := tk') old M.dbig ob
  refine ⟨e, oe, fv, ⟨G', g, dr, tk', os⟩, _, .ref C, some d, rfl, J, fun b o q => ?_, ge, hoe, ⟨hc, hd⟩, hdat, h1, ?_, rfl, I1.bare, raises_own T.exC T.tyC, q1 d (I1.hok.fresh M.dbig)⟩
  · by_cases hb : b = e
    · have q' : G'.get? b = some o := q
      rw [hb, ge] at q'; cases q'
    · exact (gk b hb).symm.trans q
  · rw [upd_ne (Ne.symm M.dne)]
    exact I1.hok.fresh M.new
theorem pmk_any {a : Expr} {ta : TA} {nm : Str} {p pos : Pos} {k : Nat} (B : Base X.prog X.K D fI) (T : Kind X.K D fI C) (hs : X.mg "super" = none) (hr : Room (k + 1) X.A) (hC : X.mg nm = some (.ref C)) (ha : PA X [a] ta) (hg : Gl X nm) (hnd : (nm == ("__debug__" : Str)) = false := by decide)
    (he : starEach (a :: []) X.env = (false, eval a X.env) :: starEach [] X.env := by rfl) (hpl : (backTo pos (starEach [] X.env)).any (·.1) = false := by rfl) :
    PMk X (.Call (.Name nm p) [a] [] pos) (fun σ H Q => ta σ H fun vs H1 => ∃ v, vs = [v] ∧ ∀ d, H1 d = none → Q (.ref C) (some d) (upd H1 d (.xd [(("what" : Str), v)]))) := by
  intro pins s σ H Q I h
  refine wpAny_Call_Name_kw (ld_glob I hg hC ?_ hnd)
  refine PySem.W.callWith_K (h₀ := X.base) I.ok.mod.kin T.kC (thn (ha.run pos pins s σ H _ I h) fun us s1 hh => ?_) he hpl
  obtain ⟨vs, H1, I1, r1, v, ev, q1⟩ := hh
  subst ev
  refine ⟨I1.kIn, ?_⟩
  cases r1 with
  | cons rv rn =>
    cases rn
    exact mk_any B T hs hr I1 rv (.inl rfl) q1
theorem pmk_any0 {nm : Str} {p pos : Pos} {k : Nat} (B : Base X.prog X.K D fI) (T : Kind X.K D fI C) (hs : X.mg "super" = none) (hr : Room (k + 1) X.A) (hC : X.mg nm = some (.ref C)) (hg : Gl X nm) (hnd : (nm == ("__debug__" : Str)) = false := by decide) :
    PMk X (.Call (.Name nm p) [] [] pos) (fun σ H Q => ∀ d, H d = none → Q (.ref C) (some d) (upd H d (.xd [(("what" : Str), .non)]))) := by
  intro pins s σ H Q I h
  refine wpAny_Call_Name_kw (ld_glob I hg hC ?_ hnd)
  refine PySem.W.callWith_K0 I.kIn T.kC ?_
  exact mk_any (v := .non) (v' := .none) B T hs hr I rfl (.inr ⟨rfl, rfl⟩) h
end

section
variable {X : Cx} {x : Ct2} {W : WX} {D fI : Addr}
/-- raise C(e) -/
def dRaise (C : Nat) (T : DE) : DS := fun ρ K => T ρ (onFl K fun d ρ' => K (.exc C d) ρ')
theorem S_raise {e : Expr} {T : DE} {nm : Str} {p pos pos2 : Pos} {k C : Nat} (hc : X.calm = true) (tk : Takes X W) (B : Base X.prog X.K D fI) (Kd : Kind X.K D fI (x.c.cls C)) (hs : X.mg "super" = none) (hr : Room (k + 1) X.A) (hC : X.mg nm = some (.ref (x.c.cls C))) (he : PE X e (tOfE x.c W T)) (hg : Gl X nm)
    (hnd : (nm == ("__debug__" : Str)) = false := by decide) (hst : starEach [e] X.env = (false, eval e X.env) :: starEach [] X.env := by rfl) (hpl : (backTo pos (starEach [] X.env)).any (·.1) = false := by rfl) :
    PS X (.Raise (some (.Call (.Name nm p) [e] [] pos)) none pos2) (tOfS x W (dRaise C T)) := (ps_raise hc tk (pmk_any B Kd hs hr hC (pa_cons he pa_nil hst) hg hnd hst hpl)).imp fun De σ H h => by
  obtain ⟨F, Ω, ρ, K, r, t, w⟩ := tOfS_iff.mp h
  refine ⟨F, Ω, ρ, _, r, t, fun d ρ' q v F' H' Ω' s r' f => ⟨v, rfl, fun a ha => ?_⟩, w.exw⟩
  have e' := Ext.new (o := .xd [(("what" : Str), v)]) r'.wf ha
  exact w.ex C d ρ' q a v σ _ _ Ω' ⟨s.trans e'.stp, r'.ext e', Io.refl _ _⟩ upd_same (Fz.mono e'.ef _ _ f)
def dRaise0 (C : Nat) : DS := fun ρ K => K (.exc C .non) ρ
theorem S_raise0 {nm : Str} {p pos pos2 : Pos} {k C : Nat} (hc : X.calm = true) (tk : Takes X W) (B : Base X.prog X.K D fI) (Kd : Kind X.K D fI (x.c.cls C)) (hs : X.mg "super" = none) (hr : Room (k + 1) X.A) (hC : X.mg nm = some (.ref (x.c.cls C))) (hg : Gl X nm)
    (hnd : (nm == ("__debug__" : Str)) = false := by decide) :
    PS X (.Raise (some (.Call (.Name nm p) [] [] pos)) none pos2) (tOfS x W (dRaise0 C)) := (ps_raise hc tk (pmk_any0 B Kd hs hr hC hg hnd)).imp fun De σ H h => by
  obtain ⟨F, Ω, ρ, K, r, t, w⟩ := tOfS_iff.mp h
  intro a ha
  have e' := Ext.new (o := .xd [(("what" : Str), .non)]) r.wf ha
  exact w.ex C .non ρ t a .non σ _ _ Ω ⟨e'.stp, r.ext e', Io.refl _ _⟩ upd_same (by simp only [Fz])

/-! ### try -/
theorem clr_slot {c : Ct} {F H : Hp} {Ω : Nm} {ρ : Env} {σ : L2.St} {i : Nat} (r : Rel c F H Ω ρ σ) : Rel c F H Ω (ρ.set i .und) (σ.set i none) := by
  refine ⟨r.wf, fun j d h1 h2 => ?_, by rw [List.length_set, List.length_set]; exact r.len⟩
  by_cases hj : j = i
  · subst hj
    have hl := (List.getElem?_eq_some_iff.mp h1).1
    rw [List.length_set] at hl
    rw [List.getElem?_set_self hl] at h1
    cases h1
    exact absurd rfl h2
  · rw [List.getElem?_set_ne (Ne.symm hj)] at h1 ⊢
    exact r.sl j d h1 h2
theorem Io.setN {io : List Nat} {σ : L2.St} {i : Nat} (h : i ∉ io) : Io io σ (σ.set i none) := Io.set h
/-- where the suite ends, the name is gone -/
def endT (i : Nat) (K : Fl → Env → Prop) : Fl → Env → Prop
  | .nx, ρ => K .nx (ρ.set i .und)
  | .bk, ρ => K .bk (ρ.set i .und)
  | .ct, ρ => K .ct (ρ.set i .und)
  | .rt d, ρ => K (.rt d) ρ
  | .exc _ _, _ => False
/-- try: .. except X as n: .. ; h: which classes the clause takes -/
def dTry (h : Nat → Option Bool) (i : Nat) (cl : Nat → Addr) (B : DS) (S : Addr → Value → Option Addr → DS) : DS := fun ρ K => B ρ fun fl ρ' =>
  match fl with
  | .exc C w => match h C with
    | some true => ∀ a cd, S a (.ref (cl C)) (some cd) (ρ'.set i (.exo a cd C w)) (endT i K)
    | some false => K (.exc C w) ρ'
    | none => False
  | g => K g ρ'
theorem S_try {nm y : Str} {cv : Value} {i : Nat} {body suite : List Stmt} {b₀ : Stmt} {np pos pos' : Pos} {h : Nat → Option Bool} {B : DS} {S : Addr → Value → Option Addr → DS} (hstk : X.stack = X.env :: X.outer) (hf : X.env.frame = some X.env.locals) (hN : X.N.Nodup) (hi : X.N[i]? = some y) (hln : X.env.kindOf y = some .local)
    (hc : Names X nm cv) (tk : Takes X W) (hh : ∀ C b, h C = some b → PySem.W.exmOne X.K (.ref (x.c.cls C)) cv = some b) (hio : i ∉ x.io)
    (hb : ∀ (W : WX) (pn : List (Addr × Obj)) (xe : Value → Shared → Prop), Takes (X.tr pn xe) W → PassesOwn (model X.prog X.w) X.A X.env xe → PSs (X.tr pn xe) body (tOfS x W B))
    (hsu : ∀ (a : Addr) (oe : Obj) (cls : Value) (d : Option Addr) (pn : List (Addr × Obj)), Zc cls d oe → (∃ vs, oe.data = .fields vs) → PSs (X.suite a ((a, oe) :: pn)) (b₀ :: suite) (tOfS x (fun _ _ _ _ => False) (S a cls d))) :
    PS X (.Try body [.ExceptHandler (some (.Name nm np)) (some y) (b₀ :: suite) pos'] [] [] pos) (tOfS x W (dTry h i x.c.cls B S)) := by
  refine ⟨fun pins s σ H De I hh' => (ps_try_as (Wout := W) (tb := fun W => tOfS x W B) (ts := fun a cls d => tOfS x (fun _ _ _ _ => False) (S a cls d)) hstk hf hN hi hln hc tk hb hsu).run pins s σ H De I ?_⟩
  have hil : i < σ.length := by rw [I.len]; exact (List.getElem?_eq_some_iff.mp hi).1
  obtain ⟨F, Ω, ρ, K, r, t, w⟩ := tOfS_iff.mp hh'
  refine tOfS_iff.mpr ⟨F, Ω, ρ, _, r, t, ⟨fun ρ' q => w.nx ρ' q, fun ρ' q => w.bk ρ' q, fun ρ' q => w.ct ρ' q, fun d ρ' q => w.rt d ρ' q, fun C u ρ' q cd vw σ' F' H' Ω' p e1 e2 => ?_⟩⟩
  dsimp only at q
  cases hb' : h C with
  | none => rw [hb'] at q; exact q.elim
  | some b =>
    rw [hb'] at q
    refine ⟨b, hh C b hb', fun hy a na => ?_, fun hy => ?_⟩
    · subst hy
      have w' := w.later p.1 p.2.2
      have hl' : i < σ'.length := by rw [p.2.2.1]; exact hil
      have Fa : Fz x.c F' (.exo a cd C u) (.ref a) := by
        simp only [Fz]
        exact ⟨trivial, vw, e1, e2⟩
      have r2 := set_slot (i := i) p.2.1 hl' (Air.fz (Ω := Ω') (H := H') Fa rfl)
      refine tOfS_iff.mpr ⟨F', _, _, _, r2, q a cd, ?_⟩
      have back : ∀ {F2 H2 : Hp} {Ω2 : Nm} {ρ2 : Env} {σ2 : L2.St}, PostS x F' H' (putN i (fun _ => none) Ω') (σ'.set i (some (.ref a))) F2 H2 Ω2 ρ2 σ2 → PostS x F' H' Ω' σ' F2 H2 Ω2 ρ2 σ2 := fun p2 =>
        ⟨⟨p2.1.ef, fun b o h1 h2 h3 => p2.1.ou b o h1 h2 (by show putN i (fun _ => none) Ω' b = none; unfold putN; exact h3)⟩, p2.2.1, (Io.set hio).trans p2.2.2⟩
      have back2 : ∀ {F2 H2 : Hp} {Ω2 : Nm} {ρ2 : Env} {σ2 : L2.St}, PostS x F' H' (putN i (fun _ => none) Ω') (σ'.set i (some (.ref a))) F2 H2 Ω2 ρ2 σ2 → PostS x F' H' Ω' σ' F2 H2 Ω2 (ρ2.set i .und) (σ2.set i none) := fun p2 =>
        let p3 := back p2
        ⟨p3.1, clr_slot p3.2.1, p3.2.2.trans (Io.setN hio)⟩
      exact ⟨fun ρ2 q2 σ2 F2 H2 Ω2 p2 => w'.nx _ q2 _ _ _ _ (back2 p2), fun ρ2 q2 σ2 F2 H2 Ω2 p2 => w'.bk _ q2 _ _ _ _ (back2 p2), fun ρ2 q2 σ2 F2 H2 Ω2 p2 => w'.ct _ q2 _ _ _ _ (back2 p2),
        fun d ρ2 q2 σ2 v F2 H2 Ω2 Θ p2 ar nw => w'.rt d ρ2 q2 σ2 v F2 H2 Ω2 Θ (back p2) ar (fun b o h1 h2 h3 => nw b o h1 h2 (by show putN i (fun _ => none) Ω' b = none; unfold putN; exact h3)), fun C u ρ2 q2 => q2.elim⟩
    · subst hy
      exact w.ex C u ρ' q cd vw σ' F' H' Ω' p e1 e2

/-! ### what a suite asks of its error -/
/-- slot i holds the error at a, whose class is cls, whose dict is at d -/
def Holds (cl : Nat → Addr) (i : Nat) (a : Addr) (cls : Value) (d : Option Addr) (ρ : Env) (C : Nat) (w : Vi.D) : Prop := ∃ cd, gt ρ i = .exo a cd C w ∧ d = some cd ∧ cls = .ref (cl C)
section
variable {a : Addr} {oe : Obj} {cls : Value} {d : Option Addr} {pn : List (Addr × Obj)} {c : Ct} {i : Nat}
theorem exo_slot {F H : Hp} {Ω : Nm} {ρ : Env} {σ : L2.St} {cd : Addr} {C : Nat} {w : Vi.D} (r : Rel c F H Ω ρ σ) (h : gt ρ i = .exo a cd C w) : σ[i]? = some (some (.ref a)) ∧ ∃ vw, F cd = some (.xd [(("what" : Str), vw)]) ∧ Fz c F w vw := by
  have hn : nz (gt ρ i) = true := by rw [h]; rfl
  obtain ⟨v, q1, q2⟩ := r.sl i _ (gt_some hn) (nz_ne hn)
  rw [h] at q2
  have q3 := (Rv_of_own rfl).mp q2
  simp only [Fz] at q3
  obtain ⟨e, q⟩ := q3
  subst e
  exact ⟨q1, q⟩
theorem inst_pin {pins : List (Addr × Obj)} {s : Shared} {σ : L2.St} {H : Hp} {C dx : Addr} {od : Obj} (I : Inv (X.suite a ((a, oe) :: pn)) pins σ H s) (hz : Zc (.ref C) (some dx) oe) (hf : ∃ vs, oe.data = .fields vs) (ho : s.heap.get? dx = some od) : PySem.W.InstAt s.heap a oe C (some od) := by
  obtain ⟨ha, _⟩ := I.pin (a, oe) (List.mem_append_left _ List.mem_cons_self)
  obtain ⟨vs, hd⟩ := hf
  exact ⟨ha, hz.1, by unfold PySem.W.notCls; rw [hd] <;> rfl, by rw [hz.2]; exact ho⟩
/-- e.what -/
def dWhat (cl : Nat → Addr) (i : Nat) (a : Addr) (cls : Value) (d : Option Addr) (fam : Nat → Bool) : DE := fun ρ K => ∃ C w, Holds cl i a cls d ρ C w ∧ fam C = true ∧ K (.ok w) ρ
theorem E_what {y : Str} {p pos : Pos} {fam : Nat → Bool} (hz : Zc cls d oe) (hf : ∃ vs, oe.data = .fields vs) (T : ∀ C, fam C = true → Kind X.K D fI (c.cls C)) (hN : X.N[i]? = some y := by rfl) (hv : Vis X.env.scope y := by first | exact Or.inl rfl | exact Or.inr (Or.inl rfl) | exact Or.inr (Or.inr rfl)) (hd : (y == ("__debug__" : Str)) = false := by decide)
    (hcd : (y == ("__classdict__" : Str)) = false := by decide) (hb : attributeBase (.Name y p) "what" X.env (eval (.Name y p) X.env) = eval (.Name y p) X.env := by rfl) :
    PE (X.suite a ((a, oe) :: pn)) (.Attribute (.Name y p) "what" pos) (tOfE c W (dWhat c.cls i a cls d fam)) := by
  refine ⟨fun pins s σ H Q I h => ?_⟩
  obtain ⟨F, Ω, ρ, K, r, ⟨C, w, ⟨cd, e1, e2, e3⟩, hfm, hk⟩, k, _⟩ := h
  obtain ⟨q1, vw, q2, q3⟩ := exo_slot r e1
  subst e2
  subst e3
  have TC := T C hfm
  refine attr_of hb (thn ((pe_var (X := X.suite a ((a, oe) :: pn)) hN hv hd hcd).run pins s σ H (fun v H1 => v = .ref a ∧ H1 = H) I ⟨_, q1, rfl, rfl⟩) fun u s1 hh => ?_)
  obtain ⟨x, H1, I1, rx, ex, eh⟩ := hh
  subst ex
  subst eh
  obtain rfl : u = Value.ref a := rx
  have ea : H1 cd = some (.xd [(("what" : Str), vw)]) := r.wf.sub _ _ q2
  have hx : ObjOk X.prog X.w H1 s1.heap cd (.xd [(("what" : Str), vw)]) := I1.hok cd _ ea
  obtain ⟨mA, hns, hr⟩ := hx
  obtain ⟨od, ho, hl⟩ := lookIn_ns hns
  have l : List.lookup ("what" : Str) [(("what" : Str), vw)] = some vw := by simp [List.lookup]
  obtain ⟨u, hu, ru⟩ := RelO.some_of (v := vw) (o := mA "what") (by rw [← l]; exact hr "what")
  have J := inst_pin I1 hz hf ho
  exact HandSPX.exc_get I1.kIn J TC.ga TC.gg TC.exC (PySem.W.findObj_own TC.hdC TC.noW rfl (by rw [hl, hu])) (handed_of ru) ⟨vw, H1, I1.tok _, ru, k w ρ hk vw F H1 Ω (Stp.refl _ _ _) r q3⟩
/-- isinstance(e, ..) -/
def dIs (cl : Nat → Addr) (i : Nat) (a : Addr) (cls : Value) (d : Option Addr) (f : Nat → Option Bool) : DE := fun ρ K => ∃ C w b, Holds cl i a cls d ρ C w ∧ f C = some b ∧ K (.ok (.bl b)) ρ
theorem kit_of {K : PySem.W.Frag} {y C : Addr} {ox : Obj} {od : Option Obj} (E : ExcC K C) : PySem.W.KitX K (.ref y) (.ref C) (fun h => PySem.W.InstAt h y ox C od) :=
  PySem.W.kitx_exc (by obtain ⟨cd, hc, _⟩ := PySem.W.any_some E.hd; rw [hc]; rfl) E.hg E.hk E.hs E.ha E.hn E.ht E.hm
theorem E_is {y nm : Str} {p p1 p2 pos : Pos} {v : V} {cv : Value} {f : Nat → Option Bool} (hz : Zc cls d oe) (hf : ∃ vs, oe.data = .fields vs) (hfa : ∀ C b, f C = some b → ExcC X.K (c.cls C) ∧ PySem.W.kitOne X.K (.ref (c.cls C)) cv = some b) (hcl : PE (X.suite a ((a, oe) :: pn)) (.Name nm p2) (tC v)) (hcv : ∀ u, RelV v u → u = cv)
    (hg : Gl X "isinstance") (hm : X.mg "isinstance" = none) (hN : X.N[i]? = some y := by rfl) (hv : Vis X.env.scope y := by first | exact Or.inl rfl | exact Or.inr (Or.inl rfl) | exact Or.inr (Or.inr rfl)) (hd : (y == ("__debug__" : Str)) = false := by decide) (hcd : (y == ("__classdict__" : Str)) = false := by decide)  :
    PE (X.suite a ((a, oe) :: pn)) (.Call (.Name "isinstance" p) [.Name y p1, .Name nm p2] [] pos) (tOfE c W (dIs c.cls i a cls d f)) := by
  refine ⟨fun pins s σ H Q I h => ?_⟩
  obtain ⟨F, Ω, ρ, K, r, ⟨C, w, b, ⟨cd, e1, e2, e3⟩, hfb, hk⟩, k, _⟩ := h
  obtain ⟨q1, vw, q2, q3⟩ := exo_slot r e1
  subst e2
  subst e3
  obtain ⟨EC, hb⟩ := hfa C b hfb
  refine (pe_callB (id := "isinstance") (X := X.suite a ((a, oe) :: pn)) (r := fun xs H1 Q1 => xs = [.ref a, v] ∧ H1 = H ∧ Q1 (.bl b) H1) (fun pins' s1 σ1 H1 xs us Q1 I1 r1 hx => ?_) hg hm (by decide +kernel) (pa_cons (pe_var (X := X.suite a ((a, oe) :: pn)) hN hv hd hcd) (pa_cons hcl pa_nil))).run pins s σ H Q I
    ⟨_, q1, rfl, rfl, k _ ρ hk _ F H Ω (Stp.refl _ _ _) r (by simp only [Fz])⟩
  obtain ⟨rfl, eh, q⟩ := hx
  subst eh
  cases r1 with
  | cons ra rr =>
    cases rr with
    | cons rb rn =>
      cases rn
      obtain rfl : _ = Value.ref a := ra
      obtain rfl := hcv _ rb
      have ea : H1 cd = some (.xd [(("what" : Str), vw)]) := r.wf.sub _ _ q2
      have hx : ObjOk X.prog X.w H1 s1.heap cd (.xd [(("what" : Str), vw)]) := I1.hok cd _ ea
      obtain ⟨mA, hns, hr⟩ := hx
      obtain ⟨od, ho, hl⟩ := lookIn_ns hns
      exact PySem.W.kia_one (kit_of EC) I1.kIn (inst_pin I1 hz hf ho) hb (fun z => nomatch z) fun tk => ⟨.bl b, H1, I1.kept (t' := tk) fun _ _ z => z, rfl, q⟩
/-- the classes of a tuple, as they are named -/
structure Cls1 (X : Cx) (e : Expr) (cv : Value) (v : V) : Prop where
  pe : PE X e (tC v)
  un : ∀ u, RelV v u → u = cv
inductive ClsL (X : Cx) : List Expr → List Value → List V → Prop where
  | nil : ClsL X [] [] []
  | cons {e : Expr} {es : List Expr} {cv : Value} {cvs : List Value} {v : V} {vs : List V} : Cls1 X e cv v → ClsL X es cvs vs → starEach (e :: es) X.env = (false, eval e X.env) :: starEach es X.env → ClsL X (e :: es) (cv :: cvs) (v :: vs)
theorem ClsL.pa {X : Cx} {es : List Expr} {cvs : List Value} {vs : List V} (h : ClsL X es cvs vs) : PA X es (fun _ H Q => Q vs H) := by
  induction h with
  | nil => exact pa_nil
  | cons h1 h2 h3 ih => exact pa_cons h1.pe ih h3
theorem ClsL.un {X : Cx} {es : List Expr} {cvs : List Value} {vs : List V} (h : ClsL X es cvs vs) : ∀ {us : List Value}, Vals vs us → us = cvs := by
  induction h with
  | nil => intro us r; cases r; rfl
  | cons h1 h2 h3 ih =>
    intro us r
    cases r with
    | cons ra rr => rw [h1.un _ ra, ih rr]
theorem E_isT {y : Str} {es : List Expr} {p p1 p2 pos : Pos} {x1} {vs : List V} {cvs : List Value} {f : Nat → Option Bool} (hz : Zc cls d oe) (hf : ∃ vs, oe.data = .fields vs) (hfa : ∀ C b, f C = some b → ExcC X.K (c.cls C) ∧ PySem.W.kitAny X.K (.ref (c.cls C)) cvs = some b) (hcl : ClsL (X.suite a ((a, oe) :: pn)) es cvs vs) (hlen : vs.length ≤ 1000)
    (hg : Gl X "isinstance") (hm : X.mg "isinstance" = none) (hN : X.N[i]? = some y := by rfl) (hv : Vis X.env.scope y := by first | exact Or.inl rfl | exact Or.inr (Or.inl rfl) | exact Or.inr (Or.inr rfl)) (hd : (y == ("__debug__" : Str)) = false := by decide) (hcd : (y == ("__classdict__" : Str)) = false := by decide) :
    PE (X.suite a ((a, oe) :: pn)) (.Call (.Name "isinstance" p) [.Name y p1, .Tuple es x1 p2] [] pos) (tOfE c W (dIs c.cls i a cls d f)) := by
  refine ⟨fun pins s σ H Q I h => ?_⟩
  obtain ⟨F, Ω, ρ, K, r, ⟨C, w, b, ⟨cd, e1, e2, e3⟩, hfb, hk⟩, k, _⟩ := h
  obtain ⟨q1, vw, q2, q3⟩ := exo_slot r e1
  subst e2
  subst e3
  obtain ⟨EC, hb⟩ := hfa C b hfb
  refine (pe_callB (id := "isinstance") (X := X.suite a ((a, oe) :: pn)) (r := fun xs H1 Q1 => ∃ tp, xs = [.ref a, .ref tp] ∧ H1 = upd H tp (.tup vs) ∧ H tp = none ∧ Q1 (.bl b) H1) (fun pins' s1 σ1 H1 xs us Q1 I1 r1 hx => ?_) hg hm (by decide +kernel) (pa_cons (pe_var (X := X.suite a ((a, oe) :: pn)) hN hv hd hcd) (pa_cons (pe_tup hcl.pa) pa_nil))).run pins s σ H Q I
    ⟨_, q1, sz_ok (Nat.le_trans hlen (by decide)), fun tp ht => ⟨tp, rfl, rfl, ht, ?_⟩⟩
  · obtain ⟨tp, rfl, eh, ht, q⟩ := hx
    subst eh
    cases r1 with
    | cons ra rr =>
      cases rr with
      | cons rb rn =>
        cases rn
        obtain rfl : _ = Value.ref a := ra
        obtain rfl : _ = Value.ref tp := rb
        have ea : upd H tp (.tup vs) cd = some (.xd [(("what" : Str), vw)]) := by
          have e4 := r.wf.sub _ _ q2
          rw [upd_ne (ne_of_none e4 ht)]
          exact e4
        have hx : ObjOk X.prog X.w (upd H tp (.tup vs)) s1.heap cd (.xd [(("what" : Str), vw)]) := I1.hok cd _ ea
        obtain ⟨mA, hns, hr⟩ := hx
        obtain ⟨od, ho, hl⟩ := lookIn_ns hns
        have ht2 : ObjOk X.prog X.w (upd H tp (.tup vs)) s1.heap tp (.tup vs) := I1.hok tp _ upd_same
        obtain ⟨_, its, rv, o, g1, g2, n, g3⟩ := ht2
        obtain rfl := hcl.un rv
        obtain ⟨oc, od', oda, osl⟩ := o
        dsimp only at g2 g3
        subst g2 g3
        exact PySem.W.kia_tup (kit_of EC) I1.kIn (inst_pin I1 hz hf ho) g1 hb (fun z => nomatch z) fun tk => ⟨.bl b, _, I1.kept (t' := tk) fun _ _ z => z, rfl, q⟩
  · have e' := Ext.new (o := .tup vs) r.wf ht
    exact k _ ρ hk _ _ _ Ω e'.stp (r.ext e') (by simp only [Fz])
end
end
end Vi
/-! Vi10: len(set(text)); repr of a truth value. -/
namespace ViS
open PySem PySem.Spec PyProof.Rows

/-- the signs met so far, each once -/
def addS (σ : List Str) (v : Str) : List Str := if σ.any (· == v) then σ else σ ++ [v]
def metS (f : Nat → Str) : Nat → List Str
  | 0 => []
  | i + 1 => addS (metS f i) (f i)
theorem metS_le (f : Nat → Str) : ∀ i, (metS f i).length ≤ i
  | 0 => Nat.le_refl _
  | i + 1 => by
    have ih := metS_le f i
    unfold metS addS
    split
    · omega
    · rw [List.length_append, List.length_singleton]; omega
theorem addS_any (σ : List Str) (v k : Str) : (addS σ v).any (· == k) = (σ.any (· == k) || decide (k = v)) := by
  unfold addS
  by_cases h : σ.any (· == v) = true
  · rw [if_pos h]
    by_cases e : k = v
    · subst e; rw [h]; simp
    · simp [e]
  · rw [if_neg h, List.any_append]
    by_cases e : k = v
    · subst e; simp
    · have hb : (v == k) = false := by simpa [beq_iff_eq] using (fun h' : v = k => e h'.symm)
      simp [hb, e]
theorem addS_length (σ : List Str) (v : Str) : (addS σ v).length = if σ.any (· == v) then σ.length else σ.length + 1 := by
  unfold addS; split <;> simp
def sgn (x : Str) (i : Nat) : Str := ⟨#[x.cps.getD i 0]⟩
section
variable {prog : Program} {w : World} {A : Around} {R : Result → Shared → Prop} {I : Addr} {fp wr : List Addr} {G : Array GenState → Array GenState → Prop} {n : Nat} {P : Nat → Value → Prop} {St : Nat → Shared → Prop}
theorem loopT (W : WalksS prog w A.in1 I fp wr G n P St) (S : Addr) (hS0 : S ∉ fp) (f : Nat → Str) (hv : ∀ i v, P i v → ∃ t, v = .str (f i) t) (hb : n + 1 < scanBound) :
    ∀ (k i : Nat) (s : Shared), n - i = k → i ≤ n → St i s → s.heap.SetOf (PySem.strKind prog w) S (fun q => (metS f i).any (· == q)) (metS f i).length →
      (∀ s', Moved (S :: wr) G s s' → s'.heap.SetOf (PySem.strKind prog w) S (fun q => (metS f n).any (· == q)) (metS f n).length → R (.ok (.ret .none)) s') →
      codeAny (model prog w) A (.builtin "set.update.loop" ⟨[.ref S, .ref I], []⟩) R s := by
  have nw : S ∉ wr := fun h => hS0 (W.sub _ h)
  have more : ∀ b ∈ wr, b ∈ S :: wr := fun b hb => List.mem_cons_of_mem _ hb
  have carry : ∀ {s s' : Shared} {j : Nat}, Moved wr G s s' → s.heap.SetOf (PySem.strKind prog w) S (fun q => (metS f j).any (· == q)) (metS f j).length → s'.heap.SetOf (PySem.strKind prog w) S (fun q => (metS f j).any (· == q)) (metS f j).length := by
    rintro s s' j m ⟨o, es, ep, tb, ho, rest⟩
    exact ⟨o, es, ep, tb, m.heap S _ nw ho, rest⟩
  intro k
  induction k with
  | zero =>
    intro i s hk hi st hs hR
    obtain rfl : i = n := by omega
    refine codeAny_builtin PyProof.Rows.F.entry_set_update_loop ?_
    rw [Around.under_plainId PyProof.Rows.F.plain_set_update_loop _]
    refine wpAny_bind (W.done s _ _ st fun s' m => ?_)
    exact wpAny_pure (hR s' (m.mono more) (carry m hs))
  | succ k ih =>
    intro i s hk hi st hs hR
    have lt : i < n := by omega
    refine codeAny_builtin PyProof.Rows.F.entry_set_update_loop ?_
    rw [Around.under_plainId PyProof.Rows.F.plain_set_update_loop _]
    refine wpAny_bind (W.item i s _ _ lt st fun v s' hP st' m => ?_)
    obtain ⟨t, rfl⟩ := hv i v hP
    have hs' := carry m hs
    show wpAny _ A.in1 (holding [Value.str (f i) t] (setAdd S (.str (f i) t)) >>= _) _ _ s'
    refine wpAny_bind (wpAny_holding ?_)
    unfold setAdd
    refine wpAny_holding (wpAny_bind ((PySem.strKind prog w).pyHash (k := f i) (strKind_is _ _ _ _) ?_))
    refine wpAny_setAddHashed_of (knd := PySem.strKind prog w) (s := { s' with toks := s'.toks + 1 }) (strKind_is _ _ _ _) rfl hs' (by have := metS_le f i; omega) fun h' sb hs2 => ?_
    have hs3 : h'.SetOf (PySem.strKind prog w) S (fun q => (metS f (i + 1)).any (· == q)) (metS f (i + 1)).length := SetOf_congr hs2 (fun q => (addS_any _ _ q).symm) (addS_length _ _).symm
    refine wpAny_pure ⟨plainId_quiet PyProof.Rows.F.plain_set_update_loop _, ih (i + 1) _ (by omega) lt (W.frame _ s' _ _ st' (Nat.le_succ _) fun b hb o e => ?_) hs3 fun s'' m2 hs4 => ?_⟩
    · rw [sb.2 b (fun z => hS0 (by rw [← z]; exact hb))]; exact e
    · refine hR s'' (Moved.trans W.gtrans ((m.mono more).then_heap (Nat.le_succ _) fun b o hb e => ?_) m2) hs4
      rw [sb.2 b (fun z => hb (by rw [z]; exact List.mem_cons_self))]; exact e
end

section
variable {prog : Program} {w : World} {A : Around} {E : Value → Shared → Prop} {s : Shared}
theorem call_setT {x : Str} {t : Tok} {Q : Value → Shared → Prop} (hh : A.handled = none) (hb : x.cps.size + 1 < scanBound)
    (h : ∀ (h' : Heap) (tk : Nat), h'.SetOf (PySem.strKind prog w) s.heap.objs.size (fun q => (metS (sgn x) x.cps.size).any (· == q)) (metS (sgn x) x.cps.size).length →
      (∀ b o, b < s.heap.objs.size → s.heap.get? b = some o → h'.get? b = some o) → Q (.ref s.heap.objs.size) { s with heap := h', toks := tk }) :
    wpAny (model prog w) A (call (.type "set") [.str x t]) Q E s := by
  obtain ⟨c, tl, hmro⟩ := PySem.F.called_set.mro
  have hmade := PySem.F.called_set.made
  have hsub := PySem.F.called_set.sub
  refine wpAny_call (codeAny_of_tree ?_)
  show wpAny _ _ (callAny (.type "set") _) _ _ _
  refine wpAny_pure ⟨Code.quiet_builtin _ (by decide +kernel), codeAny_builtin PySem.F.entry_type_call ?_⟩
  rw [Around.under_plain (weight_type_call_type "set" [.str x t] []) rfl]
  have h1 := PySem.F.called_set.notType
  have h2 := PySem.F.called_set.canCreate
  have hct := PySem.F.typeCall_set_1 (.str x t)
  repeat (any_goals (first | assumption | wp_step))
  refine codeAny_mono (code_set_new_1 (.str x t) (E := E) (Q₁ := fun obj s₁ => ∃ led : Bool, obj = .ref s.heap.objs.size ∧ s₁ = { s with heap := s.heap.push { cls := .type "set", dict := none, data := .set #[] 0 (.fresh 0 0 led) } }) fun led => ⟨led, rfl, rfl⟩) fun r s₁ hr => ?_
  match r, hr with
  | .error e, hr => exact hr
  | .ok (.ret obj), hr =>
    obtain ⟨led, rfl, rfl⟩ := hr
    have hS : (s.heap.push { cls := .type "set", dict := none, data := .set #[] 0 (.fresh 0 0 led) }).get? s.heap.objs.size = some { cls := .type "set", dict := none, data := .set #[] 0 (.fresh 0 0 led) } := Heap.get?_push_size _ rfl
    have hT : Shared.TypeIs { s with heap := s.heap.push { cls := .type "set", dict := none, data := .set #[] 0 (.fresh 0 0 led) } } (.ref s.heap.objs.size) "set" := ⟨_, hS, rfl⟩
    have hli := PySem.F.called_set.init.lookup
    have hbi := PySem.F.called_set.init.bind (.ref s.heap.objs.size)
    repeat (any_goals (first | assumption | wp_step))
    refine codeAny_mono (codeAny_call_builtin (R := wants (fun r s₂ => r = .none ∧ ∃ h' tk, s₂ = { s with heap := h', toks := tk } ∧
        h'.SetOf (PySem.strKind prog w) s.heap.objs.size (fun q => (metS (sgn x) x.cps.size).any (· == q)) (metS (sgn x) x.cps.size).length ∧
        (∀ b o, b < s.heap.objs.size → s.heap.get? b = some o → h'.get? b = some o)) E) PySem.F.called_set.init.plain PySem.F.entry_set_init (check_set_init_1 hT ?_)) fun r₂ s₂ hr₂ => ?_
    · have hsls := PySem.F.sub_str_set
      have hslf := PySem.F.sub_str_frozenset
      unfold Builtin.«set.__init__» noKeywords Builtin.Frozenset.updateFrom
      generalize hPI : pyIter = PI
      wp_walk
      subst hPI
      refine wpAny_pyIter_str fun o St W st => ?_
      refine wpAny_bind (wpAny_runValue ?_)
      have hh3 : A.in1.in1.in1.handled = none := by simp [hh]
      have nS : s.heap.objs.size ∉ [(s.heap.push { cls := .type "set", dict := none, data := .set #[] 0 (.fresh 0 0 led) }).objs.size] := by
        rw [Heap.size_push, List.mem_singleton]
        exact Nat.ne_of_lt (Nat.lt_succ_self _)
      refine loopT ((W _ hh3).toS) s.heap.objs.size nS (sgn x) (fun i v hv => ?hval) hb (x.cps.size - 0) 0 _ (by omega) (Nat.zero_le _) st ?hS0 ?hR
      case hval =>
        obtain ⟨c', u, e, rfl⟩ := hv
        have hd : x.cps.getD i 0 = c' := by
          rw [Array.getD_eq_getD_getElem?, e]
          rfl
        refine ⟨u, ?_⟩
        unfold sgn
        rw [hd]
      case hS0 =>
        exact SetOf_congr ((setObjOf_fresh (knd := PySem.strKind prog w) led).setOf (Heap.get?_push_of_some _ hS) (by unfold scanBound; omega)) (fun _ => rfl) rfl
      case hR =>
        intro s' hm hS'
        obtain ⟨h', g', d', tk', os'⟩ := s'
        obtain rfl : g' = s.gens := hm.gens
        obtain rfl : d' = s.drawn := hm.drawn
        obtain rfl : os' = s.os := hm.os
        refine wpAny_pure ?_
        refine wpAny_pure ⟨rfl, h', tk', rfl, hS', fun b o hb e => ?_⟩
        refine hm.heap b o ?_ (Heap.get?_push_of_some _ (Heap.get?_push_of_some _ e))
        rw [Heap.size_push]
        simp only [List.mem_cons, List.not_mem_nil, or_false, not_or]
        exact ⟨Nat.ne_of_lt hb, Nat.ne_of_lt (Nat.lt_succ_of_lt hb)⟩
    · match r₂, hr₂ with
      | .error e, hr₂ => exact hr₂
      | .ok (.ret r), hr₂ =>
        obtain ⟨rfl, h', tk, rfl, hS', hk'⟩ := hr₂
        repeat (any_goals (first | assumption | wp_step))
        exact h _ _ hS' hk'
end
end ViS
/-! Vi11: len(set(text)), repr of a truth value as rules. -/
namespace Vi
open PySem L2 PySem.Spec PyProof.Rows ViS

/-- each number once, in the order met -/
def onceN (s : List Nat) : List Nat := s.foldl (fun acc c => if acc.any (· == c) then acc else acc ++ [c]) []
theorem met_once (s : List Nat) : ∀ i, i ≤ s.length → metS (sgn ⟨s.toArray⟩) i = (onceN (s.take i)).map (fun c => (⟨#[c]⟩ : Str))
  | 0, _ => rfl
  | i + 1, h => by
    have ih := met_once s i (by omega)
    have e1 : s.take (i + 1) = s.take i ++ [s[i]'(by omega)] := by rw [List.take_succ_eq_append_getElem (by omega)]
    have e2 : sgn ⟨s.toArray⟩ i = ⟨#[s[i]'(by omega)]⟩ := by
      unfold sgn
      simp [Array.getD, show i < s.length by omega]
    unfold metS
    rw [ih, e2, e1]
    unfold onceN
    rw [List.foldl_append]
    show addS _ _ = List.map _ (if _ then _ else _)
    unfold addS
    have e3 : (List.map (fun c => (⟨#[c]⟩ : Str)) (onceN (s.take i))).any (· == (⟨#[s[i]'(by omega)]⟩ : Str)) = (onceN (s.take i)).any (· == s[i]'(by omega)) := by
      rw [List.any_map]
      congr 1
      funext c
      show ((⟨#[c]⟩ : Str) == (⟨#[s[i]'(by omega)]⟩ : Str)) = (c == s[i]'(by omega))
      by_cases hc : c = s[i]'(by omega)
      · rw [hc]; simp
      · have h1 : ((⟨#[c]⟩ : Str) == (⟨#[s[i]'(by omega)]⟩ : Str)) = false := by
          rw [beq_eq_false_iff_ne]
          intro z
          apply hc
          have z2 := congrArg (fun q : Str => q.cps.toList) z
          simpa using z2
        rw [h1]
        simp [hc]
    rw [show List.foldl (fun acc c => if acc.any (· == c) = true then acc else acc ++ [c]) [] (List.take i s) = onceN (s.take i) from rfl, e3]
    split
    · rfl
    · rw [List.map_append]; rfl
theorem met_len (s : List Nat) : (metS (sgn ⟨s.toArray⟩) s.length).length = (onceN s).length := by
  rw [met_once s s.length (Nat.le_refl _), List.take_length, List.length_map]

section
variable {X : Cx} {c : Ct} {W : WX}
/-- the set of a text at p -/
def TxtSet (P : Program) (w : World) (p n : Nat) : HO := .ext fun h => ∃ S, h.SetOf (PySem.strKind P w) p S n
theorem call_setTx (hc : X.calm = true) : CallR X (.type "set") (fun xs H Q => ∃ x : List Nat, xs = [.str ⟨x.toArray⟩] ∧ x.length + 1 < scanBound ∧ ∀ p, H p = none → Q (.ref p) (upd H p (TxtSet X.prog X.w p (onceN x).length))) := by
  intro pins s σ H xs us Q I r h
  obtain ⟨x, rfl, hz, q⟩ := h
  obtain ⟨u, rfl, t, rfl⟩ := vals1 r
  refine call_setT (I.ok.hd hc) (by simpa using hz) fun h' tk hS k => ?_
  have hn : H s.heap.objs.size = none := I.hok.fresh (Nat.le_refl _)
  have hS' : ∃ S, h'.SetOf (PySem.strKind X.prog X.w) s.heap.objs.size S (onceN x).length := by
    rw [show (⟨x.toArray⟩ : Str).cps.size = x.length by simp, met_len] at hS
    exact ⟨_, hS⟩
  refine ⟨.ref _, upd H s.heap.objs.size (TxtSet X.prog X.w s.heap.objs.size (onceN x).length), I.laid (t' := tk) (fun b u e => k b u (Heap.lt_size e) e) (Nat.le_refl _) ⟨hS', ?_, ?_⟩, rfl, q _ hn⟩
  · obtain ⟨S, o, _, _, _, ho, _⟩ := hS'
    exact ⟨o, ho⟩
  · rintro h1 h2 ⟨S, o, es, ep, t, ho, rest⟩ k2
    exact ⟨S, o, es, ep, t, k2 o ho, rest⟩
theorem call_lenTx : CallR X (.builtin "len") (fun xs H Q => ∃ p n, xs = [.ref p] ∧ H p = some (TxtSet X.prog X.w p n) ∧ Q (.int n) H) := by
  intro pins s σ H xs us Q I r h
  obtain ⟨p, n, rfl, hp, q⟩ := h
  cases r with
  | cons ra rn =>
    cases rn
    obtain rfl : _ = Value.ref p := ra
    obtain ⟨S, o, es, ep, t, ho, hex, hd, _, _, hb, hf, hn⟩ := (I.hok p _ hp).1
    have hb2 : (es.size : Int) < 2 ^ 63 := by
      have := hb
      unfold scanBound at this
      omega
    exact call_len_set ho hex hd hf hb2 ⟨.int n, H, I.tok _, ⟨_, by rw [hn]⟩, q⟩
/-- len(set(e)), e a text -/
def dLenSet (T : DE) : DE := fun ρ K => T ρ (onOk K fun d ρ' => match d with | .str x => x.length + 1 < 4096 ∧ K (.ok (.int (onceN x).length)) ρ' | _ => False)
theorem E_lenSet {e : Expr} {T : DE} {p1 p2 p3 p4 : Pos} (hc : X.calm = true) (he : PE X e (tOfE c W T)) (hg1 : Gl X "len") (hm1 : X.mg "len" = none) (hg2 : Gl X "set") (hm2 : X.mg "set" = none)
    (hs1 : starEach [e] X.env = (false, eval e X.env) :: starEach [] X.env := by rfl) (hs2 : starEach [.Call (.Name "set" p1) [e] [] p2] X.env = (false, eval (.Call (.Name "set" p1) [e] [] p2) X.env) :: starEach [] X.env := by rfl) (hpl1 : (backTo p2 (starEach [] X.env)).any (·.1) = false := by rfl) (hpl2 : (backTo p4 (starEach [] X.env)).any (·.1) = false := by rfl) :
    PE X (.Call (.Name "len" p3) [.Call (.Name "set" p1) [e] [] p2] [] p4) (tOfE c W (dLenSet T)) := by
  refine (pe_callB (id := "len") call_lenTx hg1 hm1 (by decide +kernel) (pa_cons (pe_callTy (T := "set") (call_setTx hc) hg2 hm2 (by decide +kernel) (pa_cons he pa_nil hs1) (by decide) (by decide) hs1 hpl1) pa_nil hs2) (by decide) (by decide) hs2 hpl2).imp fun σ H Q h => ?_
  obtain ⟨F, Ω, ρ, K, r, t, k, kx⟩ := h
  refine ⟨F, Ω, ρ, _, r, t, fun d ρ' q v F' H' Ω' s r' f => ?_, kx.imp (Stp.refl _ _ _) fun _ _ _ q => q⟩
  simp only [onOk_ok] at q
  obtain ⟨x, rfl, hz, q⟩ : ∃ x, d = .str x ∧ x.length + 1 < 4096 ∧ K (.ok (.int (onceN x).length)) ρ' := by
    cases d with
    | str x => exact ⟨x, rfl, q⟩
    | _ => exact q.elim
  have ev : v = .str ⟨x.toArray⟩ := by simpa only [Fz] using f
  subst ev
  refine ⟨x, rfl, hz, fun p hp => ⟨p, _, rfl, upd_same, ?_⟩⟩
  have e' := Ext.new (o := TxtSet X.prog X.w p (onceN x).length) r'.wf hp
  exact k _ ρ' q _ _ _ Ω' (s.trans e'.stp) (r'.ext e') (by simp only [Fz])
/-- repr of a truth value -/
theorem call_repr_bool : CallR X (.builtin "repr") (fun xs H Q => ∃ b, xs = [.bl b] ∧ Q (.str (if b then "True" else "False")) H) := by
  intro pins s σ H xs us Q I r h
  obtain ⟨b, rfl, q⟩ := h
  cases r with
  | cons ra rn =>
    cases rn
    obtain rfl : _ = Value.bool b := ra
    exact PySem.P.repr_of_bool ⟨.str _, H, I.tok _, ⟨_, rfl⟩, q⟩
def oReprB : List D → (D → Prop) → Prop
  | [.bl b], K => K (.str (if b then [84, 114, 117, 101] else [70, 97, 108, 115, 101]))
  | _, _ => False
theorem ba_reprB : BA c (fun xs H Q => ∃ b, xs = [.bl b] ∧ Q (.str (if b then "True" else "False")) H) oReprB := ⟨fun F H Ω w ds vs hl hv K q Q k => by
  match ds, hl, hv, q with
  | [.bl b], hl, hv, q =>
    obtain ⟨v, e, h⟩ := one_of hl hv
    have h := h.fz rfl
    simp only [Fz] at h
    subst h
    refine ⟨b, e, k _ q _ F H (Ext.refl w) ?_⟩
    simp only [Fz]
    cases b <;> rfl⟩
end
end Vi
/-! Vi12: chained comparisons; a store into an own list. -/
namespace Vi
open PySem L2 PySem.Spec PyProof.Rows

section
variable {X : Cx} {c : Ct} {W : WX}
def dChn (o o' : D → D → (D → Prop) → Prop) (A B C : DO) : DE := fun ρ K => A ρ (onOk K fun x ρ1 => B ρ1 (onOk K fun y ρ2 => nz (see ρ2 x) = true ∧ nz (see ρ2 y) = true ∧ o (see ρ2 x) (see ρ2 y) fun z => match z with
  | .bl b => if b = true then C ρ2 (onOk K fun w ρ3 => nz (see ρ3 y) = true ∧ nz (see ρ3 w) = true ∧ o' (see ρ3 y) (see ρ3 w) fun z' => K (.ok z') ρ3) else K (.ok (.bl false)) ρ2
  | _ => False))
theorem runChn {r r' : R2} {o o' : D → D → (D → Prop) → Prop} {A B C : DO} (b : B2 c r o) (b' : B2 c r' o') {σ : L2.St} {H : Hp} {Q : VK} (h : tOfE c W (dChn o o' A B C) σ H Q) : tChain r r' (tOfO c W A) (tOfO c W B) (tOfO c W C) σ H Q := by
  obtain ⟨F, Ω, ρ, K, r0, ht, k, kx⟩ := h
  refine ⟨F, Ω, ρ, _, r0, ht, fun x ρ1 q1 v F1 H1 Ω1 s1 r1 f1 => ?_, kx.imp (Stp.refl _ _ _) fun _ _ _ q => q⟩
  refine ⟨F1, Ω1, ρ1, _, r1, q1, fun y ρ2 q2 w F2 H2 Ω2 s2 r2 f2 => ?_, kx.imp s1 fun _ _ _ q => q⟩
  obtain ⟨n1, n2, q3⟩ := q2
  refine b.run F2 H2 Ω2 r2.wf _ _ v w ((f1.mono s2.ef).vw r2 n1) (f2.vw r2 n2) _ q3 _ fun z kz u F3 H3 e3 f3 => ?_
  match z, kz with
  | .bl true, kz =>
    have kz := (if_pos rfl : (if true = true then _ else _) = _).mp kz
    obtain rfl : u = .bl true := by simpa only [Fz] using f3
    refine ⟨true, rfl, ?_⟩
    rw [if_pos rfl]
    refine ⟨F3, Ω2, ρ2, _, r2.ext e3, kz, fun w' ρ4 q4 v4 F4 H4 Ω4 s4 r4 f4 => ?_, kx.imp ((s1.trans s2).trans e3.stp) fun _ _ _ q => q⟩
    obtain ⟨m1, m2, q5⟩ := q4
    refine b'.run F4 H4 Ω4 r4.wf _ _ w v4 (((f2.mono e3.ef).mono s4.ef).vw r4 m1) (f4.vw r4 m2) _ q5 Q fun z5 kz5 u5 F5 H5 e5 f5 => ?_
    exact k z5 ρ4 kz5 u5 F5 H5 Ω4 ((((s1.trans s2).trans e3.stp).trans s4).trans e5.stp) (r4.ext e5) f5
  | .bl false, kz =>
    have kz := (if_neg Bool.false_ne_true : (if false = true then _ else _) = _).mp kz
    obtain rfl : u = .bl false := by simpa only [Fz] using f3
    refine ⟨false, rfl, ?_⟩
    rw [if_neg Bool.false_ne_true]
    exact k _ ρ2 kz _ F3 H3 Ω2 ((s1.trans s2).trans e3.stp) (r2.ext e3) f3
theorem E_chn {a b d : Expr} {op op' : CmpOp} {pos : Pos} {r r' : R2} {o o' : D → D → (D → Prop) → Prop} {A B C : DO} (ho : OpR X (compareOp op) r) (hb : B2 c r o) (ho' : OpR X (compareOp op') r') (hb' : B2 c r' o') (h1 : PE X a (tOfO c W A)) (h2 : PE X b (tOfO c W B)) (h3 : PE X d (tOfO c W C))
    (hm : lastMarks [op, op'] [b, d] = false := by with_unfolding_all rfl) : PE X (.Compare a [op, op'] [b, d] pos) (tOfE c W (dChn o o' A B C)) :=
  (pe_chain ho ho' h1 h2 h3 hm).imp fun _ _ _ h => runChn hb hb' h
theorem T_chn {a b d : Expr} {op op' : CmpOp} {pos : Pos} {r r' : R2} {o o' : D → D → (D → Prop) → Prop} {A B C : DO} (ho : OpR X (compareOp op) r) (hb : B2 c r o) (ho' : OpR X (compareOp op') r') (hb' : B2 c r' o') (h1 : PE X a (tOfO c W A)) (h2 : PE X b (tOfO c W B)) (h3 : PE X d (tOfO c W C))
    (hm : lastMarks [op, op'] [b, d] = false := by with_unfolding_all rfl) : PT X (.Compare a [op, op'] [b, d] pos) (tOfT c W (dB (dChn o o' A B C))) :=
  (pt_chain ho ho' h1 h2 h3 hm).imp fun σ H Q h => by
    obtain ⟨F, Ω, ρ, K, r0, ht, k, kx⟩ := tB_of h
    exact runChn hb hb' ⟨F, Ω, ρ, K, r0, ht, k, kx⟩
end
theorem RvL.put {c : Ct} {F H : Hp} {Θ : Nm} {d : D} {v : V} : ∀ {ds : List D} {vs : List V} {π : List Nat} {j i : Nat}, RvL c F H Θ ds π j vs → Rv c F H Θ d (π ++ [j + i]) v → RvL c F H Θ (ds.set i d) π j (vs.set i v)
  | [], vs, π, j, i, h, g => by
    simp only [RvL] at h
    subst h
    simp only [List.set_nil, RvL]
  | e :: ds, vs, π, j, 0, h, g => by
    simp only [RvL] at h
    obtain ⟨u, r, e1, h1, h2⟩ := h
    subst e1
    simp only [List.set_cons_zero, RvL]
    exact ⟨v, r, rfl, by simpa using g, h2⟩
  | e :: ds, vs, π, j, i + 1, h, g => by
    simp only [RvL] at h
    obtain ⟨u, r, e1, h1, h2⟩ := h
    subst e1
    simp only [List.set_cons_succ, RvL]
    refine ⟨u, r.set i v, rfl, h1, RvL.put h2 ?_⟩
    rw [show j + 1 + i = j + (i + 1) by omega]
    exact g
section
variable {X : Cx} {x : Ct2} {W : WX}
/-- xs[i] = v, xs an own list in slot j -/
def dPut (j : Nat) (Ti Tv : DE) : DS := fun ρ K => Tv ρ (onFl K fun d ρ1 => nz (gt ρ1 j) = true ∧ Ti ρ1 fun r ρ2 => match r with
  | .ok i => (match gt ρ2 j, i with
    | .lst true xs, .int k => ∃ q, ixN xs.length k = some q ∧ K .nx (ρ2.set j (.lst true (xs.set q (fr d))))
    | _, _ => False)
  | .exc _ _ => False)
theorem S_put {j : Nat} {y : Str} {ei ev : Expr} {Ti Tv : DE} {p tpos pos : Pos} (hN : X.N[j]? = some y) (hv : Vis X.env.scope y) (hi : PE X ei (tOfE x.c W Ti)) (he : PE X ev (tOfE x.c W Tv)) (hd : (y == ("__debug__" : Str)) = false := by decide) (hcd : (y == ("__classdict__" : Str)) = false := by decide)
    (ha : ∀ v, assign (.Subscript (.Name y p) ei tpos) X.env v = (do
      let ov ← holding [v] (eval (.Name y p) X.env)
      let iv ← holding [v, ov] (eval ei X.env)
      standAt tpos
      holding [v, ov, iv] (setItem ov iv v)
      release [v, ov, iv] []) := by intro _; rfl)
    (hs : swapsWithSole [.Subscript (.Name y p) ei tpos] ev pos.line X.env = pure false := by rfl) (hw : swappedStores [.Subscript (.Name y p) ei tpos] ev X.env = pure none := by rfl)
    (h1 : (assignEach [.Subscript (.Name y p) ei tpos] X.env).map (·.2) = [assign (.Subscript (.Name y p) ei tpos) X.env] := by rfl) :
    PS X (.Assign [.Subscript (.Name y p) ei tpos] ev pos) (tOfS x W (dPut j Ti Tv)) := by
  refine (ps_asg he (pg_sub (pe_var hN hv hd hcd) hi set_list ha) hs hw h1).imp fun De σ H h => ?_
  obtain ⟨F, Ω, ρ, K, r, t, w⟩ := tOfS_iff.mp h
  refine ⟨F, Ω, ρ, _, r, t, fun d ρ1 q v F1 H1 Ω1 s1 r1 f1 => ?_, w.exw⟩
  obtain ⟨hn, q⟩ := q
  obtain ⟨u, q1, q2⟩ := r1.sl j _ (gt_some hn) (nz_ne hn)
  refine ⟨u, q1, F1, Ω1, ρ1, _, r1, q, fun i ρ2 q3 vi F2 H2 Ω2 s2 r2 f2 => ?_, fun C w ρ' q => q.elim⟩
  dsimp only at q3
  generalize hz : gt ρ2 j = z at q3
  match z, i, q3, hz with
  | .lst true xs, .int k, q3, hz =>
    obtain ⟨n, hx, hk⟩ := q3
    have hn1 : nz (gt ρ2 j) = true := by rw [hz]; rfl
    have hs1 := gt_some hn1
    obtain ⟨v', z1, z2⟩ := r2.sl j _ hs1 (nz_ne hn1)
    rw [q1] at z1
    cases z1
    rw [hz] at z2
    simp only [Rv] at z2
    obtain ⟨a, vs, e1, hA, hH, hr⟩ := z2
    subst e1
    have ei : vi = .int k := by simpa only [Fz] using f2
    have lenv := hr.length
    refine ⟨a, vs, k, n, rfl, ei, hH, by rw [← lenv]; exact hx, ?_⟩
    refine w.nx _ hk σ F2 _ Ω2 ⟨(s1.trans (chg_stp s2 hA fun b o e1 e2 e3 => (s2.ou b o e1 e2 e3).2.2)), chg_slot r2 (List.getElem?_eq_some_iff.mp hs1).1 q1 hA ?_ (fun _ _ e => e) fun b π e => r2.wf.own b π e, Io.refl _ _⟩
    simp only [Rv]
    refine ⟨a, vs.set n v, rfl, hA, upd_same, RvL.put (RvL.move (Sub.refl _) xs [j] [j] 0 vs (fun b i π e => ⟨e, upd_ne fun y => ?_⟩) hr) ((Rv_of_own (own_fr d)).mpr ((Fz_fr _ _ _ _).mpr (Fz.mono s2.ef _ _ f1)))⟩
    rw [y, hA] at e
    simp at e
end
end Vi
/-! Vi13: what the printed derivations name; specs; loops by an invariant. -/
namespace Vi
open PySem L2 PySem.Spec PyProof.Rows

abbrev gSub : Int → Int → D := fun i j => .int (i - j)
abbrev gMul : Int → Int → D := fun i j => .int (i * j)
abbrev gDiv : Int → Int → D := fun i j => .int (i / j)
abbrev gMod : Int → Int → D := fun i j => .int (i % j)
abbrev gPow : Int → Int → D := fun i j => .int (i ^ j.toNat)
abbrev cMod : Int → Int → Prop := fun _ j => 0 < j
abbrev allG : List Bool → Bool := fun bs => bs.all id
abbrev anyG : List Bool → Bool := fun bs => bs.any id
/-- a module's constant -/
def GS (mg : Str → Option Value) (x : Str) (l : List Nat) : Prop := ∃ (s : Str) (t : Tok), mg x = some (.str s t) ∧ s.cps.toList = l
def GI (mg : Str → Option Value) (x : Str) (i : Int) : Prop := ∃ t : Tok, mg x = some (.int i t)
theorem un64 {k : Nat} {A : Around} (hr : Room k A) : A.units + 64 < cLine := by have := hr.un; omega
section
variable {X : Cx} {c : Ct} {W : WX}
theorem E_gS {x : Str} {l : List Nat} {pos : Pos} (hg : Gl X x) (h : GS X.mg x l) (hd : (x == ("__debug__" : Str)) = false := by decide) : PE X (.Name x pos) (tOfE c W (dC (.str l))) := by
  obtain ⟨s, t, h1, h2⟩ := h
  exact E_glob (v := .str s) hg h1 ⟨t, rfl⟩ (fun F => fz_str h2) hd
theorem E_gI {x : Str} {i : Int} {pos : Pos} (hg : Gl X x) (h : GI X.mg x i) (hd : (x == ("__debug__" : Str)) = false := by decide) : PE X (.Name x pos) (tOfE c W (dC (.int i))) := by
  obtain ⟨t, h1⟩ := h
  exact E_glob (v := .int i) hg h1 ⟨t, rfl⟩ (fun F => fz_int) hd
end
/-- a promise: of what is passed, what may come back, what becomes of the arguments -/
def Spec (n : Nat) (pre : List D → Prop) (post : List D → R D → List D → Prop) : FS := fun args K => pre args ∧ ∀ r posts, posts.length = n → post args r posts → K r posts
end Vi
/-! Vi14: what the top has written of the errors, by one look each. -/
namespace Vi
open PySem L2 PySem.Spec PyProof.Rows PySem.AnyX

/-- all that Kind and ExcC ask of the class at C, but its object -/
def kindB (K : PySem.W.Frag) (D fI C : Addr) (bm : List Value) : Bool :=
  PySem.HandSPX.refsVE bm && (PySem.W.alongIn K "__init__" (((Value.ref C :: bm).dropWhile (· != .ref D)).drop 1) == some (some (.builtin "ValueError.__init__")))
  && (PySem.W.findIn K (.ref C) "__setattr__" == some (some (.builtin "object.__setattr__"))) && (PySem.W.findIn K (.ref C) "__getattribute__" == some (some (.builtin "BaseException.__getattribute__")))
  && (PySem.W.findIn K (.ref C) "__getattr__" == some none) && (PySem.W.findIn K (.ref C) "what" == some none) && (PySem.W.findIn K (.ref C) "__init__" == some (some (.ref fI))) && PySem.W.keepIn K (.ref C)
  && (PySem.W.subIn K (.ref C) (.type "BaseException") == some true) && (PySem.W.subIn K (.ref C) (.type "ValueError") == some true) && (PySem.W.typeIn K (.ref C) == some (.type "type")) && PySem.W.hasDictIn K C
  && (PySem.W.mroIn K C (.ref D) == some true) && (PySem.W.findIn K (.ref C) "__class__" == some (some (.builtin "object.__class__"))) && (PySem.W.mroIn K C (.type "object") == some true)
  && (PySem.W.specialIn K (.builtin "object.__class__") "__get__" == some (some (.builtin "getset_descriptor.__get__"))) && (PySem.W.takesIn K (.builtin "object.__class__") == some true)
theorem kind_of {K : PySem.W.Frag} {D fI C : Addr} {bm bs : List Value} {nm q : Str} {N : Addr} {sn : List Str} {sub : List Value} {ab : Bool} {col : Option Bool} {dd : Option Addr} {k0 k1 k2 k3 k5 : Option Value}
    (h : K.lookup C = some (excClassObj nm q C N bs bm true sn sub ab col dd k0 k1 k2 k3 k5 "ValueError.__new__")) (b : kindB K D fI C bm = true) : Kind K D fI C ∧ ExcC K C := by
  unfold kindB at b
  simp only [Bool.and_eq_true, beq_iff_eq] at b
  obtain ⟨⟨⟨⟨⟨⟨⟨⟨⟨⟨⟨⟨⟨⟨⟨⟨b1, b2⟩, b3⟩, b4⟩, b5⟩, b6⟩, b7⟩, b8⟩, b9⟩, b10⟩, b11⟩, b12⟩, b13⟩, b14⟩, b15⟩, b16⟩, b17⟩ := b
  exact ⟨⟨⟨nm, q, N, bs, bm, sn, sub, ab, col, dd, k0, k1, k2, k3, k5, h, b1, b2⟩, b3, b4, b5, b6, b7, b8, b9, b10, b11, b12, b13⟩, ⟨b4, b5, b9, b12, b14, b16, b17, b15⟩⟩
/-- the tables of classes: t[j][C] tells whether the class C is one of the class j -/
def tabB (K : PySem.W.Frag) (cls : Nat → Addr) (n : Nat) (t : Nat → Nat → Option Bool) : Bool := (List.range n).all fun C => (PySem.W.kitOne K (.ref (cls C)) (.type "ValueError") == some true) && (List.range n).all fun j => (t j C).isSome && (PySem.W.exmOne K (.ref (cls C)) (.ref (cls j)) == t j C) && (PySem.W.kitOne K (.ref (cls C)) (.ref (cls j)) == t j C)
theorem tab_of {K : PySem.W.Frag} {cls : Nat → Addr} {n : Nat} {t : Nat → Nat → Option Bool} (h : tabB K cls n t = true) (C : Nat) (hC : C < n) : PySem.W.kitOne K (.ref (cls C)) (.type "ValueError") = some true ∧ ∀ j, j < n → (t j C).isSome = true ∧ PySem.W.exmOne K (.ref (cls C)) (.ref (cls j)) = t j C ∧ PySem.W.kitOne K (.ref (cls C)) (.ref (cls j)) = t j C := by
  unfold tabB at h
  have h1 := List.all_eq_true.mp h C (List.mem_range.mpr hC)
  simp only [Bool.and_eq_true, beq_iff_eq] at h1
  refine ⟨h1.1, fun j hj => ?_⟩
  have h2 := List.all_eq_true.mp h1.2 j (List.mem_range.mpr hj)
  simp only [Bool.and_eq_true, beq_iff_eq] at h2
  exact ⟨h2.1.1, h2.1.2, h2.2⟩
theorem kitAny_of {K : PySem.W.Frag} {t : Value} {cls : Nat → Addr} {g : Nat → Bool} : ∀ {js : List Nat}, (∀ j ∈ js, PySem.W.kitOne K t (.ref (cls j)) = some (g j)) → PySem.W.kitAny K t (js.map fun j => .ref (cls j)) = some (js.any g)
  | [], _ => rfl
  | j :: js, h => by
    have h1 := h j List.mem_cons_self
    have ih := kitAny_of (js := js) fun i hi => h i (List.mem_cons_of_mem _ hi)
    show (match PySem.W.kitOne K t (.ref (cls j)) with | some true => some true | some false => PySem.W.kitAny K t (js.map fun j => .ref (cls j)) | none => none) = _
    rw [h1, List.any_cons]
    cases g j with
    | true => rfl
    | false => exact ih
end Vi
/-! Vi15: the law's own promise, at the heap behind the top. -/
namespace Vi
open PySem L2 PySem.Spec PyProof.Rows

def spLaw (K : PySem.W.Frag) : Sp := fun vs H Q _ => ∃ (a : Addr) (ns : List Int), vs = [.ref a] ∧ SqL K H a (ns.map V.int) ∧ ns.length ≤ 63 ∧ ∀ H', Q (.bl true) H'
/-- the law's data: at every script of at most 63 numbers True comes back -/
def S_LAW : FS := fun args K => ∃ ns : List Int, args = [.klst (ns.map .int)] ∧ ns.length ≤ 63 ∧ ∀ posts, posts.length = 1 → K (.ok (.bl true)) posts
theorem fzl_ints {c : Ct} {F : Hp} : ∀ ns : List Int, FzL c F (ns.map D.int) (ns.map V.int)
  | [] => FzL.nil
  | n :: ns => FzL.cons fz_int (fzl_ints ns)
theorem law_sp {K : PySem.W.Frag} {cls fnA : Nat → Addr} {fl : Nat → List Str} {vs : List V} {H : Hp} {Q : VK} {E : XK} (h : spLaw K vs H Q E) : spOf (⟨K, cls, fl, fnA⟩ : Ct) [] 1 S_LAW vs H Q E := by
  obtain ⟨a, ns, rfl, hs, hl, k⟩ := h
  refine ⟨H, fun _ => none, [.klst (ns.map .int)], fun r posts => r = .ok (.bl true), rfl, ⟨⟨Sub.refl _, fun _ _ e => nomatch e⟩, fun i d h1 h2 => ?_, rfl⟩, ⟨ns, rfl, hl, fun _ _ => rfl⟩, fun d posts q v F' H' Ω' Θ s ip air nw => ?_, fun C w posts q => nomatch q⟩
  · match i, h1 with
    | 0, h1 =>
      cases h1
      refine ⟨.ref a, rfl, (Rv_of_own rfl).mpr ?_⟩
      simp only [Fz]
      exact ⟨a, ns.map V.int, rfl, hs, fzl_ints ns⟩
    | i + 1, h1 => simp at h1
  · cases q
    have e := (Rv_of_own rfl).mp air.rv
    simp only [Fz] at e
    subst e
    exact k H'
theorem walk {l : PySem.W.OpenLaw} {n : Nat} {q : Program} {loose : List Str} {XP : (Str → Option Value) → Heap → Prop} {YP : World → Heap → Prop} {d : DefRec} {K : Params → PySem.W.Frag} (hn : l.most = some 63) (hdf : d.params.defaults = []) (hr : Room n callerA)
    (hY : ∀ (w : World) (h : Heap), YP w h → (K w.params).In h)
    (F : ∀ (w : World) (mg : Str → Option Value) (fa : Addr) (h : Heap), (K w.params).In h → h.Ns mainGlobals mg → mg d.name = some (.ref fa) →
      ∃ fd : FuncData, (∀ (s : Shared) (u : Value), BindsTo s fd ⟨[u], []⟩ [("_law_script", u)]) ∧ ∀ base : Heap, (K w.params).In base → base.Ns mainGlobals mg → FnOk l.prog w (K w.params) mg base (L2.CX l.prog w) n fa fd ["_law_script"] (spLaw (K w.params))) :
    PySem.W.WalkO q loose XP YP l.row.toRowW d [] (fun f vs => PySem.call f vs) :=
  L2.walk_of (n := 63) (k := n) (x := "_law_script") (CX := fun w => L2.CX l.prog w) (sp := fun w => spLaw (K w.params)) hn (by decide) hdf hr hY F (fun _ _ a ns hl _ hS => ⟨a, ns, rfl, hS, hl, fun _ => rfl⟩) fun w H s e s' z => by
    obtain ⟨_, _, _, _, _, _, _, _, _, _, _, _, q⟩ := z
    exact q
end Vi
/-! Vi16: running a data program. -/
namespace Vi
open PySem L2

theorem gt0 (d : D) (ρ : Env) : gt (d :: ρ) 0 = d := rfl
theorem gtS (d : D) (ρ : Env) (i : Nat) : gt (d :: ρ) (i + 1) = gt ρ i := rfl
theorem endK_rt (n : Nat) (K : R D → List D → Prop) (d : D) (ρ : Env) : endK n K (.rt d) ρ = K (.ok d) (ρ.take n) := rfl
theorem endK_nx (n : Nat) (K : R D → List D → Prop) (ρ : Env) : endK n K .nx ρ = K (.ok .non) (ρ.take n) := rfl
theorem endK_exc (n : Nat) (K : R D → List D → Prop) (C : Nat) (w : D) (ρ : Env) : endK n K (.exc C w) ρ = K (.exc C w) (ρ.take n) := rfl
theorem turnK_nx (K : Fl → Env → Prop) (N : Env → Prop) (ρ : Env) : turnK K N .nx ρ = N ρ := rfl
theorem turnK_ct (K : Fl → Env → Prop) (N : Env → Prop) (ρ : Env) : turnK K N .ct ρ = N ρ := rfl
theorem turnK_bk (K : Fl → Env → Prop) (N : Env → Prop) (ρ : Env) : turnK K N .bk ρ = K .nx ρ := rfl
theorem turnK_rt (K : Fl → Env → Prop) (N : Env → Prop) (d : D) (ρ : Env) : turnK K N (.rt d) ρ = K (.rt d) ρ := rfl
theorem turnK_exc (K : Fl → Env → Prop) (N : Env → Prop) (C : Nat) (w : D) (ρ : Env) : turnK K N (.exc C w) ρ = K (.exc C w) ρ := rfl
theorem fr_non  : fr (D.non) = (D.non) := rfl
theorem own_non  : own (D.non) = false := rfl
theorem nz_non  : nz (D.non) = true := rfl
theorem fr_bl (b : Bool) : fr (D.bl b) = (D.bl b) := rfl
theorem own_bl (b : Bool) : own (D.bl b) = false := rfl
theorem nz_bl (b : Bool) : nz (D.bl b) = true := rfl
theorem fr_int (i : Int) : fr (D.int i) = (D.int i) := rfl
theorem own_int (i : Int) : own (D.int i) = false := rfl
theorem nz_int (i : Int) : nz (D.int i) = true := rfl
theorem fr_str (s : List Nat) : fr (D.str s) = (D.str s) := rfl
theorem own_str (s : List Nat) : own (D.str s) = false := rfl
theorem nz_str (s : List Nat) : nz (D.str s) = true := rfl
theorem fr_tup (xs : List D) : fr (D.tup xs) = (D.tup xs) := rfl
theorem own_tup (xs : List D) : own (D.tup xs) = false := rfl
theorem nz_tup (xs : List D) : nz (D.tup xs) = true := rfl
theorem fr_lst (o : Bool) (xs : List D) : fr (D.lst o xs) = (D.lst false xs) := rfl
theorem own_lst (o : Bool) (xs : List D) : own (D.lst o xs) = o := rfl
theorem nz_lst (o : Bool) (xs : List D) : nz (D.lst o xs) = true := rfl
theorem fr_klst (xs : List D) : fr (D.klst xs) = (D.klst xs) := rfl
theorem own_klst (xs : List D) : own (D.klst xs) = false := rfl
theorem nz_klst (xs : List D) : nz (D.klst xs) = true := rfl
theorem fr_dic (o : Bool) (ks : DKs) (xs : List D) : fr (D.dic o ks xs) = (D.dic false ks xs) := rfl
theorem own_dic (o : Bool) (ks : DKs) (xs : List D) : own (D.dic o ks xs) = o := rfl
theorem nz_dic (o : Bool) (ks : DKs) (xs : List D) : nz (D.dic o ks xs) = true := rfl
theorem fr_ins (o : Bool) (C : Nat) (xs : List D) : fr (D.ins o C xs) = (D.ins false C xs) := rfl
theorem own_ins (o : Bool) (C : Nat) (xs : List D) : own (D.ins o C xs) = o := rfl
theorem nz_ins (o : Bool) (C : Nat) (xs : List D) : nz (D.ins o C xs) = true := rfl
theorem fr_exo (a cd : Addr) (C : Nat) (w : D) : fr (D.exo a cd C w) = (D.exo a cd C w) := rfl
theorem own_exo (a cd : Addr) (C : Nat) (w : D) : own (D.exo a cd C w) = false := rfl
theorem nz_exo (a cd : Addr) (C : Nat) (w : D) : nz (D.exo a cd C w) = true := rfl
theorem fr_fn (k : Nat) : fr (D.fn k) = (D.fn k) := rfl
theorem own_fn (k : Nat) : own (D.fn k) = false := rfl
theorem nz_fn (k : Nat) : nz (D.fn k) = true := rfl
/-- a for by an invariant -/
theorem for_inv {G : DG} {B : DS} {K : Fl → Env → Prop} (Iv : Nat → Env → Prop) : ∀ (ds : List D) (j : Nat) (ρ : Env), Iv j ρ →
    (∀ i d ρ (N : Env → Prop), ds[i]? = some d → Iv (j + i) ρ → (∀ ρ', Iv (j + i + 1) ρ' → N ρ') → G d ρ fun ρ1 => B ρ1 (turnK K N)) → (∀ ρ, Iv (j + ds.length) ρ → K .nx ρ) → forW G B ds ρ K
  | [], j, ρ, h0, _, he => he ρ h0
  | d :: ds, j, ρ, h0, st, he => by
    refine st 0 d ρ _ rfl h0 fun ρ' h1 => ?_
    refine for_inv Iv ds (j + 1) ρ' h1 (fun i d ρ N e h k => ?_) fun ρ h => he ρ ?_
    · have e1 : j + 1 + i = j + (i + 1) := by omega
      rw [e1] at h k
      exact st (i + 1) d ρ N (by simpa using e) h k
    · rw [List.length_cons, show j + (ds.length + 1) = j + 1 + ds.length by omega]
      exact h
theorem for_dn {G : DG} {B : DS} {K : Fl → Env → Prop} {ds : List D} {ρ : Env} (Iv : Nat → Env → Prop) (h0 : Iv 0 ρ)
    (st : ∀ i d ρ (N : Env → Prop), ds[i]? = some d → Iv i ρ → (∀ ρ', Iv (i + 1) ρ' → N ρ') → G d ρ fun ρ1 => B ρ1 (turnK K N)) (he : ∀ ρ, Iv ds.length ρ → K .nx ρ) : forW G B ds ρ K :=
  for_inv Iv ds 0 ρ h0 (fun i d ρ N e h k => st i d ρ N e (by simpa using h) fun ρ' q => k ρ' (by simpa using q)) fun ρ h => he ρ (by simpa using h)
theorem rngD_len (lo : Int) (n : Nat) : (rngD lo n).length = n := by unfold rngD; simp
theorem rngD_get {lo : Int} {n i : Nat} {d : D} (h : (rngD lo n)[i]? = some d) : i < n ∧ d = .int (lo + (i : Int)) := by
  unfold rngD at h
  rw [List.getElem?_map] at h
  cases e : (List.range n)[i]? with
  | none => rw [e] at h; cases h
  | some k =>
    rw [e] at h
    have hl := (List.getElem?_eq_some_iff.mp e).1
    rw [List.length_range] at hl
    rw [List.getElem?_range hl] at e
    cases e
    cases h
    exact ⟨hl, rfl⟩
/-- a comprehension by an invariant of what it has so far -/
theorem lc_inv {G : DG} {C : DT} {E : DE} {vs : List Nat} {ρ : Env} {K : List D → Env → Prop} (Iv : Nat → List D → Prop) : ∀ (ds : List D) (j : Nat) (acc : List D), Iv j acc →
    (∀ i d acc (N : List D → Env → Prop), ds[i]? = some d → Iv (j + i) acc → (∀ acc', Iv (j + i + 1) acc' → N acc' ρ) → G d ρ fun ρ1 => C ρ1 fun b ρ2 => match b with
      | .ok true => E ρ2 fun e ρ3 => (match e with | .ok e => N (acc ++ [fr e]) (unb ρ3 vs) | .exc _ _ => False)
      | .ok false => N acc (unb ρ2 vs)
      | .exc _ _ => False) → (∀ acc, Iv (j + ds.length) acc → K acc ρ) → lcW G C E vs ds acc ρ K
  | [], j, acc, h0, _, he => he acc h0
  | d :: ds, j, acc, h0, st, he => by
    refine st 0 d acc (fun acc' ρ' => lcW G C E vs ds acc' ρ' K) rfl h0 fun acc' h1 => ?_
    refine lc_inv Iv ds (j + 1) acc' h1 (fun i d acc N e h k => ?_) fun acc h => he acc ?_
    · have e1 : j + 1 + i = j + (i + 1) := by omega
      rw [e1] at h k
      exact st (i + 1) d acc N (by simpa using e) h k
    · rw [List.length_cons, show j + (ds.length + 1) = j + 1 + ds.length by omega]
      exact h
theorem lc_dn {G : DG} {C : DT} {E : DE} {vs : List Nat} {ρ : Env} {ds : List D} {K : List D → Env → Prop} (Iv : Nat → List D → Prop) (h0 : Iv 0 [])
    (st : ∀ i d acc (N : List D → Env → Prop), ds[i]? = some d → Iv i acc → (∀ acc', Iv (i + 1) acc' → N acc' ρ) → G d ρ fun ρ1 => C ρ1 fun b ρ2 => match b with
      | .ok true => E ρ2 fun e ρ3 => (match e with | .ok e => N (acc ++ [fr e]) (unb ρ3 vs) | .exc _ _ => False)
      | .ok false => N acc (unb ρ2 vs)
      | .exc _ _ => False) (he : ∀ acc, Iv ds.length acc → K acc ρ) : lcW G C E vs ds [] ρ K :=
  lc_inv Iv ds 0 [] h0 (fun i d acc N e h k => st i d acc N e (by simpa using h) fun acc' q => k acc' (by simpa using q)) fun acc h => he acc (by simpa using h)
theorem wb_n (ρ : Env) (ds : List D) : wb ρ [] ds = ρ := by cases ds <;> rfl
theorem wb_sl (ρ : Env) (i : Nat) (os : List Opd) (d : D) (ds : List D) : wb ρ (.sl i :: os) (d :: ds) = wb (ρ.set i d) os ds := rfl
theorem wb_vc (ρ : Env) (a : D) (os : List Opd) (d : D) (ds : List D) : wb ρ (.vl a :: os) (d :: ds) = wb ρ os ds := rfl
theorem wb_vn (ρ : Env) (a : D) (os : List Opd) : wb ρ (.vl a :: os) [] = ρ := rfl
theorem wb_v1 (ρ : Env) (a : D) (ds : List D) : wb ρ [.vl a] ds = ρ := by
  cases ds with
  | nil => rfl
  | cons d ds => exact wb_n ρ ds
theorem wb_v2 (ρ : Env) (a b : D) (ds : List D) : wb ρ [.vl a, .vl b] ds = ρ := by
  cases ds with
  | nil => rfl
  | cons d ds => exact wb_v1 ρ b ds
theorem wb_v3 (ρ : Env) (a b e : D) (ds : List D) : wb ρ [.vl a, .vl b, .vl e] ds = ρ := by
  cases ds with
  | nil => rfl
  | cons d ds => exact wb_v2 ρ b e ds
theorem call_step {io : List Nat} {n : Nat} {S : FS} {os : List Opd} {ρ : Env} {K : R D → Env → Prop} (h1 : atOk os = true) (h2 : ioOk io os = true) (h3 : os.length = n) (h : S (os.map (sea ρ)) fun r posts => posts.length = n ∧ K r (wb ρ os posts)) : callD io n S os ρ K := ⟨h1, h2, h3, h⟩
theorem callD_cg {io : List Nat} {n : Nat} {S : FS} {os os' : List Opd} {ρ ρ' : Env} {K : R D → Env → Prop} (h : os = os') (g : ρ = ρ') : callD io n S os ρ K = callD io n S os' ρ' K := by rw [h, g]
theorem forW_cg {G : DG} {B : DS} {ds ds' : List D} {ρ ρ' : Env} {K : Fl → Env → Prop} (h : ds = ds') (g : ρ = ρ') : forW G B ds ρ K = forW G B ds' ρ' K := by rw [h, g]
theorem lcW_cg {G : DG} {C : DT} {E : DE} {vs : List Nat} {ds ds' acc : List D} {ρ ρ' : Env} {K : List D → Env → Prop} (h : ds = ds') (g : ρ = ρ') : lcW G C E vs ds acc ρ K = lcW G C E vs ds' acc ρ' K := by rw [h, g]
theorem oInt_cg {C : Int → Int → Prop} {g : Int → Int → D} {d d' e e' : D} {K : D → Prop} (p : d = d') (q : e = e') : oInt C g d e K = oInt C g d' e' K := by rw [p, q]
theorem oInt0_cg {g : Int → Int → D} {d d' e e' : D} {K : D → Prop} (p : d = d') (q : e = e') : oInt0 g d e K = oInt0 g d' e' K := by rw [p, q]
theorem oAdd_cg {d d' e e' : D} {K : D → Prop} (p : d = d') (q : e = e') : oAdd  d e K = oAdd  d' e' K := by rw [p, q]
theorem oOrd_cg {g : Int → Int → Bool} {h : List Nat → List Nat → Bool} {d d' e e' : D} {K : D → Prop} (p : d = d') (q : e = e') : oOrd g h d e K = oOrd g h d' e' K := by rw [p, q]
theorem oEq_cg {g : Bool → Bool} {d d' e e' : D} {K : D → Prop} (p : d = d') (q : e = e') : oEq g d e K = oEq g d' e' K := by rw [p, q]
theorem oIsN_cg {g : Bool → Bool} {d d' e e' : D} {K : D → Prop} (p : d = d') (q : e = e') : oIsN g d e K = oIsN g d' e' K := by rw [p, q]
theorem oInS_cg {g : Bool → Bool} {d d' e e' : D} {K : D → Prop} (p : d = d') (q : e = e') : oInS g d e K = oInS g d' e' K := by rw [p, q]
theorem oIx_cg {d d' e e' : D} {K : D → Prop} (p : d = d') (q : e = e') : oIx  d e K = oIx  d' e' K := by rw [p, q]
theorem oLen_cg {d d' : List D} {K : D → Prop} (p : d = d') : oLen  d K = oLen  d' K := by rw [p]
theorem oAbs_cg {d d' : List D} {K : D → Prop} (p : d = d') : oAbs  d K = oAbs  d' K := by rw [p]
theorem oInt1_cg {d d' : List D} {K : D → Prop} (p : d = d') : oInt1  d K = oInt1  d' K := by rw [p]
theorem oAll_cg {g : List Bool → Bool} {d d' : List D} {K : D → Prop} (p : d = d') : oAll g d K = oAll g d' K := by rw [p]
theorem oReprB_cg {d d' : List D} {K : D → Prop} (p : d = d') : oReprB  d K = oReprB  d' K := by rw [p]
theorem atD_cg {d d' : List D} {i i' : Int} {K : D → Prop} (p : d = d') (q : i = i') : atD d i K = atD d' i' K := by rw [p, q]
theorem int1_cg {d d' : List D} {K : Int → Prop} (p : d = d') : int1 d K = int1 d' K := by rw [p]
theorem int2_cg {d d' : List D} {K : Int → Int → Prop} (p : d = d') : int2 d K = int2 d' K := by rw [p]
theorem eqD_ii (i j : Int) : eqD (.int i) (.int j) = (i == j) := by simp only [eqD]
theorem eqD_ss (i j : List Nat) : eqD (.str i) (.str j) = (i == j) := by simp only [eqD]
theorem eqD_bb (i j : Bool) : eqD (.bl i) (.bl j) = (i == j) := by simp only [eqD]
theorem eqD_nn : eqD .non .non = true := by simp only [eqD]
theorem eqD_sn (s : List Nat) : eqD (.str s) .non = false := by simp only [eqD]
theorem eqD_ns (s : List Nat) : eqD .non (.str s) = false := by simp only [eqD]
theorem eqD_ll (o p : Bool) (xs ys : List D) : eqD (.lst o xs) (.lst p ys) = eqDs xs ys := by simp only [eqD]
theorem eqD_tt (xs ys : List D) : eqD (.tup xs) (.tup ys) = eqDs xs ys := by simp only [eqD]
theorem eqDs_nn : eqDs [] [] = true := by simp only [eqDs]
theorem eqDs_cn (x : D) (xs : List D) : eqDs (x :: xs) [] = false := by simp only [eqDs]
theorem eqDs_nc (x : D) (xs : List D) : eqDs [] (x :: xs) = false := by simp only [eqDs]
theorem eqDs_cc (x y : D) (xs ys : List D) : eqDs (x :: xs) (y :: ys) = (eqD x y && eqDs xs ys) := by simp only [eqDs]
theorem shp_i (n : Nat) (i : Int) : shp n (.int i) = true := by simp only [shp]
theorem shp_b (n : Nat) (i : Bool) : shp n (.bl i) = true := by simp only [shp]
theorem shp_n (n : Nat) : shp n .non = true := by simp only [shp]
theorem shp_s (n : Nat) (s : List Nat) : shp n (.str s) = s.all (· < 128) := by simp only [shp]
theorem shp_l (n : Nat) (o : Bool) (xs : List D) : shp (n + 1) (.lst o xs) = shps n xs := by simp only [shp]
theorem shp_t (n : Nat) (xs : List D) : shp (n + 1) (.tup xs) = shps n xs := by simp only [shp]
theorem shps_n (n : Nat) : shps n [] = true := by simp only [shps]
theorem shps_c (n : Nat) (x : D) (xs : List D) : shps n (x :: xs) = (shp n x && shps n xs) := by simp only [shps]
theorem endT_rt (i : Nat) (K : Fl → Env → Prop) (d : D) (ρ : Env) : endT i K (.rt d) ρ = K (.rt d) ρ := rfl
theorem endT_nx (i : Nat) (K : Fl → Env → Prop) (ρ : Env) : endT i K .nx ρ = K .nx (ρ.set i .und) := rfl
theorem dIs_eq {cl : Nat → Addr} {i : Nat} {a cd : Addr} {C : Nat} {f : Nat → Option Bool} {ρ : Env} {K : R D → Env → Prop} : dIs cl i a (.ref (cl C)) (some cd) f ρ K = (match gt ρ i with
    | .exo a' cd' C' _ => a' = a ∧ cd' = cd ∧ cl C = cl C' ∧ (match f C' with | some b => K (.ok (.bl b)) ρ | none => False)
    | _ => False) := by
  apply propext
  constructor
  · rintro ⟨C', w, b, ⟨cd', e1, e2, e3⟩, e4, q⟩
    cases e2
    rw [e1]
    refine ⟨rfl, rfl, by injection e3, ?_⟩
    rw [e4]
    exact q
  · intro h
    unfold dIs
    cases e : gt ρ i with
    | exo a' cd' C' w =>
      rw [e] at h
      obtain ⟨rfl, rfl, h3, h4⟩ := h
      cases e5 : f C' with
      | none => rw [e5] at h4; exact h4.elim
      | some b =>
        rw [e5] at h4
        exact ⟨C', w, b, ⟨cd', e, rfl, by rw [h3]⟩, e5, h4⟩
    | _ => rw [e] at h; exact h.elim
theorem dWhat_eq {cl : Nat → Addr} {i : Nat} {a cd : Addr} {C : Nat} {fam : Nat → Bool} {ρ : Env} {K : R D → Env → Prop} : dWhat cl i a (.ref (cl C)) (some cd) fam ρ K = (match gt ρ i with
    | .exo a' cd' C' w => a' = a ∧ cd' = cd ∧ cl C = cl C' ∧ fam C' = true ∧ K (.ok w) ρ
    | _ => False) := by
  apply propext
  constructor
  · rintro ⟨C', w, ⟨cd', e1, e2, e3⟩, e4, q⟩
    cases e2
    rw [e1]
    exact ⟨rfl, rfl, by injection e3, e4, q⟩
  · intro h
    cases e : gt ρ i with
    | exo a' cd' C' w =>
      rw [e] at h
      obtain ⟨rfl, rfl, h3, h4, h5⟩ := h
      exact ⟨C', w, ⟨cd', e, rfl, by rw [h3]⟩, h4, h5⟩
    | _ => rw [e] at h; exact h.elim
/-! ### head first: a value or an environment is worked out before what follows is looked at -/
def dAt (d : D) (k : D → Prop) : Prop := k d
def eAt (ρ : Env) (k : Env → Prop) : Prop := k ρ
theorem dAt_cg {d d' : D} {k : D → Prop} (h : d = d') : dAt d k = dAt d' k := by rw [h]
theorem eAt_cg {d d' : Env} {k : Env → Prop} (h : d = d') : eAt d k = eAt d' k := by rw [h]
theorem eAt_c (d : D) (ρ : Env) (k : Env → Prop) : eAt (d :: ρ) k = k (d :: ρ) := rfl
theorem dAt_non  (k : D → Prop) : dAt (D.non) k = k (D.non) := rfl
theorem dAt_bl (b : Bool) (k : D → Prop) : dAt (D.bl b) k = k (D.bl b) := rfl
theorem dAt_int (i : Int) (k : D → Prop) : dAt (D.int i) k = k (D.int i) := rfl
theorem dAt_str (s : List Nat) (k : D → Prop) : dAt (D.str s) k = k (D.str s) := rfl
theorem dAt_tup (xs : List D) (k : D → Prop) : dAt (D.tup xs) k = k (D.tup xs) := rfl
theorem dAt_lst (o : Bool) (xs : List D) (k : D → Prop) : dAt (D.lst o xs) k = k (D.lst o xs) := rfl
theorem dAt_klst (xs : List D) (k : D → Prop) : dAt (D.klst xs) k = k (D.klst xs) := rfl
theorem dAt_dic (o : Bool) (ks : DKs) (xs : List D) (k : D → Prop) : dAt (D.dic o ks xs) k = k (D.dic o ks xs) := rfl
theorem dAt_ins (o : Bool) (C : Nat) (xs : List D) (k : D → Prop) : dAt (D.ins o C xs) k = k (D.ins o C xs) := rfl
theorem dAt_exo (a cd : Addr) (C : Nat) (w : D) (k : D → Prop) : dAt (D.exo a cd C w) k = k (D.exo a cd C w) := rfl
theorem dAt_fn (j : Nat) (k : D → Prop) : dAt (D.fn j) k = k (D.fn j) := rfl
theorem dAt_und  (k : D → Prop) : dAt (D.und) k = k (D.und) := rfl
theorem dVar_r {i : Nat} {ρ : Env} {K : R D → Env → Prop} : dVar i ρ K = dAt (gt ρ i) fun d => nz d = true ∧ dAt (fr d) fun d' => eAt (Vi.frs ρ i) fun ρ' => K (.ok d') ρ' := rfl
theorem dFr_r {T : DE} {ρ : Env} {K : R D → Env → Prop} : dFr T ρ K = T ρ (onOk K fun d ρ' => dAt (fr d) fun d' => K (.ok d') ρ') := rfl
theorem dSet_r {i : Nat} {T : DE} {ρ : Env} {K : Fl → Env → Prop} : dSet i T ρ K = T ρ (onFl K fun d ρ' => eAt (ρ'.set i d) fun ρ2 => K .nx ρ2) := rfl
theorem dgN_r {i : Nat} {d : D} {ρ : Env} {K : Env → Prop} : dgN i d ρ K = dAt (fr d) fun d' => eAt (ρ.set i d') K := rfl
def putK (d i v : D) (ρ : Env) (j : Nat) (k : Env → Prop) : Prop := match d, i with
  | .lst true xs, .int n => ∃ q, ixN xs.length n = some q ∧ k (ρ.set j (.lst true (xs.set q (fr v))))
  | _, _ => False
theorem putK_cg {d d' i i' v v' : D} {ρ ρ' : Env} {j : Nat} {k : Env → Prop} (h1 : d = d') (h2 : i = i') (h3 : v = v') (h4 : ρ = ρ') : putK d i v ρ j k = putK d' i' v' ρ' j k := by rw [h1, h2, h3, h4]
theorem putK_li {xs : List D} {n : Int} {v : D} {ρ : Env} {j : Nat} {k : Env → Prop} : putK (.lst true xs) (.int n) v ρ j k = ∃ q, ixN xs.length n = some q ∧ k (ρ.set j (.lst true (xs.set q (fr v)))) := rfl
def exF (r : R D) (k : D → Prop) : Prop := match r with
  | .ok d => k d
  | .exc _ _ => False
theorem exF_ok (d : D) (k : D → Prop) : exF (.ok d) k = k d := rfl
theorem dPut_r {j : Nat} {Ti Tv : DE} {ρ : Env} {K : Fl → Env → Prop} : dPut j Ti Tv ρ K = Tv ρ (onFl K fun d ρ1 => nz (gt ρ1 j) = true ∧ Ti ρ1 fun r ρ2 => exF r fun i => putK (gt ρ2 j) i d ρ2 j fun ρ3 => K .nx ρ3) := by
  unfold dPut
  congr
def appK (d v : D) (ρ : Env) (j : Nat) (k : Env → Prop) : Prop := match d with
  | .lst true xs => xs.length < 16000000 ∧ k (ρ.set j (.lst true (xs ++ [v])))
  | _ => False
theorem appK_cg {d d' v v' : D} {ρ ρ' : Env} {j : Nat} {k : Env → Prop} (h1 : d = d') (h3 : v = v') (h4 : ρ = ρ') : appK d v ρ j k = appK d' v' ρ' j k := by rw [h1, h3, h4]
theorem appK_l {xs : List D} {v : D} {ρ : Env} {j : Nat} {k : Env → Prop} : appK (.lst true xs) v ρ j k = (xs.length < 16000000 ∧ eAt (ρ.set j (.lst true (xs ++ [v]))) k) := rfl
theorem dApp_r {j : Nat} {T : DE} {ρ : Env} {K : Fl → Env → Prop} : dApp j T ρ K = (isLst (gt ρ j) = true ∧ T ρ (onFl K fun d ρ1 => appK (gt ρ1 j) d ρ1 j fun ρ2 => K .nx ρ2)) := rfl
def blK (d : D) (k : Bool → Prop) : Prop := match d with
  | .bl b => k b
  | _ => False
theorem blK_cg {d d' : D} {k : Bool → Prop} (h1 : d = d') : blK d k = blK d' k := by rw [h1]
theorem blK_b (b : Bool) (k : Bool → Prop) : blK (.bl b) k = k b := rfl
theorem dB_r {T : DE} {ρ : Env} {K : R Bool → Env → Prop} : dB T ρ K = T ρ (onOk K fun d ρ' => blK d fun b => K (.ok b) ρ') := rfl
theorem dAndV_r {A B : DE} {ρ : Env} {K : R D → Env → Prop} : dAndV A B ρ K = A ρ (onOk K fun d ρ' => blK d fun b => if b = true then B ρ' K else K (.ok (.bl false)) ρ') := rfl
theorem dOrV_r {A B : DE} {ρ : Env} {K : R D → Env → Prop} : dOrV A B ρ K = A ρ (onOk K fun d ρ' => blK d fun b => if b = true then K (.ok (.bl true)) ρ' else B ρ' K) := rfl
theorem dNotV_r {A : DE} {ρ : Env} {K : R D → Env → Prop} : dNotV A ρ K = A ρ (onOk K fun d ρ' => blK d fun b => K (.ok (.bl (!b))) ρ') := rfl
theorem dChn_r {o o' : D → D → (D → Prop) → Prop} {A B C : DO} {ρ : Env} {K : R D → Env → Prop} : dChn o o' A B C ρ K = A ρ (onOk K fun x ρ1 => B ρ1 (onOk K fun y ρ2 => nz (see ρ2 x) = true ∧ nz (see ρ2 y) = true ∧ o (see ρ2 x) (see ρ2 y) fun z => blK z fun b => if b = true then C ρ2 (onOk K fun w ρ3 => nz (see ρ3 y) = true ∧ nz (see ρ3 w) = true ∧ o' (see ρ3 y) (see ρ3 w) fun z' => K (.ok z') ρ3) else K (.ok (.bl false)) ρ2)) := rfl
def slK (d : D) (lo hi : Option Int) (k : D → Prop) : Prop := match d with
  | .str s => s.length ≤ 16000000 ∧ k (.str (cut s lo hi))
  | .lst _ xs => xs.all (fun d => !own d) = true ∧ k (.lst false (cut xs lo hi))
  | _ => False
theorem slK_cg {d d' : D} {lo lo' hi hi' : Option Int} {k : D → Prop} (h1 : d = d') (h2 : lo = lo') (h3 : hi = hi') : slK d lo hi k = slK d' lo' hi' k := by rw [h1, h2, h3]
theorem slK_s (s : List Nat) (lo hi : Option Int) (k : D → Prop) : slK (.str s) lo hi k = (s.length ≤ 16000000 ∧ k (.str (cut s lo hi))) := rfl
theorem slK_l (o : Bool) (xs : List D) (lo hi : Option Int) (k : D → Prop) : slK (.lst o xs) lo hi k = (xs.all (fun d => !own d) = true ∧ k (.lst false (cut xs lo hi))) := rfl
theorem dSl_r {O : DO} {L H : DP} {ρ : Env} {K : R D → Env → Prop} : dSl O L H ρ K = O ρ (onOk K fun o ρ1 => L ρ1 (onOk K fun lo ρ2 => H ρ2 (onOk K fun hi ρ3 => slK (see ρ3 o) lo hi fun d => K (.ok d) ρ3))) := by
  unfold dSl slK
  congr
def atS (s : List Nat) (i : Int) (k : D → Prop) : Prop := match atI s i with
  | some a => k (.str [a])
  | none => False
theorem atS_cg {s s' : List Nat} {i i' : Int} {k : D → Prop} (h1 : s = s') (h2 : i = i') : atS s i k = atS s' i' k := by rw [h1, h2]
theorem oIx_l (o : Bool) (xs : List D) (i : Int) (k : D → Prop) : oIx (.lst o xs) (.int i) k = atD xs i k := rfl
theorem oIx_k (xs : List D) (i : Int) (k : D → Prop) : oIx (.klst xs) (.int i) k = atD xs i k := rfl
theorem oIx_t (xs : List D) (i : Int) (k : D → Prop) : oIx (.tup xs) (.int i) k = atD xs i k := rfl
theorem oIx_s (s : List Nat) (i : Int) (k : D → Prop) : oIx (.str s) (.int i) k = (s.length ≤ 16000000 ∧ atS s i k) := rfl
theorem atD_of {xs : List D} {i : Int} {d : D} {k : D → Prop} (h : atI xs i = some d) (h2 : own d = false) (h3 : k d) : atD xs i k := by
  unfold atD
  rw [h]
  exact ⟨h2, h3⟩
theorem atS_of {xs : List Nat} {i : Int} {c : Nat} {k : D → Prop} (h : atI xs i = some c) (h3 : k (.str [c])) : atS xs i k := by
  unfold atS
  rw [h]
  exact h3
theorem bls_map : ∀ (l : List Bool), bls (l.map D.bl) = some l
  | [] => rfl
  | b :: l => by
    show (bls (l.map D.bl)).map (b :: ·) = _
    rw [bls_map l]
    rfl
theorem oAll_m {g : List Bool → Bool} (o : Bool) (l : List Bool) (k : D → Prop) : oAll g [.lst o (l.map D.bl)] k = k (.bl (g l)) := by
  show (match bls (l.map D.bl) with | some bs => k (.bl (g bs)) | none => False) = _
  rw [bls_map]
def stK (d : D) (k : List Nat → Prop) : Prop := match d with
  | .str b => k b
  | _ => False
theorem stK_cg {d d' : D} {k : List Nat → Prop} (h1 : d = d') : stK d k = stK d' k := by rw [h1]
theorem stK_b (b : List Nat) (k : List Nat → Prop) : stK (.str b) k = k b := rfl
theorem dLenSet_r {T : DE} {ρ : Env} {K : R D → Env → Prop} : dLenSet T ρ K = T ρ (onOk K fun d ρ' => stK d fun x => x.length + 1 < 4096 ∧ K (.ok (.int (onceN x).length)) ρ') := rfl
theorem dItS_r {T : DE} {ρ : Env} {K : R (List D) → Env → Prop} : dItS T ρ K = T ρ (onOk K fun d ρ' => stK d fun s => K (.ok (s.map fun c => .str [c])) ρ') := rfl
def seqK (d : D) (k : List D → Prop) : Prop := match d with
  | .lst _ b => k b
  | .klst b => k b
  | _ => False
theorem seqK_cg {d d' : D} {k : List D → Prop} (h1 : d = d') : seqK d k = seqK d' k := by rw [h1]
theorem seqK_l (o : Bool) (b : List D) (k : List D → Prop) : seqK (.lst o b) k = k b := rfl
theorem seqK_k (b : List D) (k : List D → Prop) : seqK (.klst b) k = k b := rfl
theorem dItL_r {T : DE} {ρ : Env} {K : R (List D) → Env → Prop} : dItL T ρ K = T ρ (onOk K fun d ρ' => seqK d fun s => K (.ok s) ρ') := by
  unfold dItL
  congr
def tupK (d : D) (k : List D → Prop) : Prop := match d with
  | .tup b => k b
  | _ => False
theorem tupK_cg {d d' : D} {k : List D → Prop} (h1 : d = d') : tupK d k = tupK d' k := by rw [h1]
theorem tupK_t (b : List D) (k : List D → Prop) : tupK (.tup b) k = k b := rfl
theorem dItT_r {T : DE} {ρ : Env} {K : R (List D) → Env → Prop} : dItT T ρ K = T ρ (onOk K fun d ρ' => tupK d fun s => K (.ok s) ρ') := rfl
def inK (d : D) (k : Int → Prop) : Prop := match d with
  | .int b => k b
  | _ => False
theorem inK_cg {d d' : D} {k : Int → Prop} (h1 : d = d') : inK d k = inK d' k := by rw [h1]
theorem inK_b (b : Int) (k : Int → Prop) : inK (.int b) k = k b := rfl
theorem dPs_r {T : DE} {ρ : Env} {K : R (Option Int) → Env → Prop} : dPs T ρ K = T ρ (onOk K fun d ρ' => inK d fun i => K (.ok (some i)) ρ') := rfl

theorem oAdd_ii (i j : Int) (k : D → Prop) : oAdd (.int i) (.int j) k = k (.int (i + j)) := rfl
theorem oAdd_ss (i j : List Nat) (k : D → Prop) : oAdd (.str i) (.str j) k = (i.length + j.length ≤ 16000000 ∧ k (.str (i ++ j))) := rfl
theorem oAdd_ll (o p : Bool) (xs ys : List D) (k : D → Prop) : oAdd (.lst o xs) (.lst p ys) k = ((xs.all (fun d => !own d) = true ∧ ys.all (fun d => !own d) = true) ∧ xs.length + ys.length ≤ 16000000 ∧ k (.lst false (xs ++ ys))) := rfl
theorem oAdd_tt (xs ys : List D) (k : D → Prop) : oAdd (.tup xs) (.tup ys) k = (xs ≠ [] ∧ xs.length + ys.length ≤ 16000000 ∧ k (.tup (xs ++ ys))) := rfl
theorem oOrd_ii {g : Int → Int → Bool} {h : List Nat → List Nat → Bool} (i j : Int) (k : D → Prop) : oOrd g h (.int i) (.int j) k = k (.bl (g i j)) := rfl
theorem oOrd_ss {g : Int → Int → Bool} {h : List Nat → List Nat → Bool} (i j : List Nat) (k : D → Prop) : oOrd g h (.str i) (.str j) k = k (.bl (h i j)) := rfl
theorem oInS_r {g : Bool → Bool} (a : Nat) (t : List Nat) (k : D → Prop) : oInS g (.str [a]) (.str t) k = k (.bl (g (decide (a ∈ t)))) := rfl
theorem oInt_r {C : Int → Int → Prop} {g : Int → Int → D} (i j : Int) (k : D → Prop) : oInt C g (.int i) (.int j) k = (C i j ∧ k (g i j)) := rfl
theorem oInt0_r {g : Int → Int → D} (i j : Int) (k : D → Prop) : oInt0 g (.int i) (.int j) k = k (g i j) := rfl
theorem oLen_l (o : Bool) (xs : List D) (k : D → Prop) : oLen [.lst o xs] k = k (.int xs.length) := rfl
theorem oLen_k (xs : List D) (k : D → Prop) : oLen [.klst xs] k = k (.int xs.length) := rfl
theorem oLen_t (xs : List D) (k : D → Prop) : oLen [.tup xs] k = k (.int xs.length) := rfl
theorem oLen_s (s : List Nat) (k : D → Prop) : oLen [.str s] k = (s.length ≤ 16000000 ∧ k (.int s.length)) := rfl
theorem oAbs_r (i : Int) (k : D → Prop) : oAbs [.int i] k = k (.int (if i < 0 then -i else i)) := rfl
theorem oInt1_i (i : Int) (k : D → Prop) : oInt1 [.int i] k = k (.int i) := rfl
theorem oInt1_b (b : Bool) (k : D → Prop) : oInt1 [.bl b] k = k (.int (if b then 1 else 0)) := rfl
theorem oReprB_r (b : Bool) (k : D → Prop) : oReprB [.bl b] k = k (.str (if b then [84, 114, 117, 101] else [70, 97, 108, 115, 101])) := rfl
theorem int1_r (i : Int) (k : Int → Prop) : int1 [.int i] k = k i := rfl
theorem int2_r (i j : Int) (k : Int → Int → Prop) : int2 [.int i, .int j] k = k i j := rfl
theorem isLst_l (o : Bool) (xs : List D) : isLst (.lst o xs) = true := rfl
theorem see_v (ρ : Env) (d : D) : see ρ (.vl d) = d := rfl
theorem see_s (ρ : Env) (i : Nat) : see ρ (.sl i) = gt ρ i := rfl
theorem sea_v (ρ : Env) (d : D) : sea ρ (.vl d) = fr d := rfl
theorem sea_s (ρ : Env) (i : Nat) : sea ρ (.sl i) = gt ρ i := rfl

end Vi
/-! Vi17: attributes; tuple(..), list(..); index and join of texts. -/
namespace Vi
open PySem L2 PySem.Spec PyProof.Rows

/-! ### the first place of a sign -/
theorem occ_stays (s sub : Str) (hi : Nat) : ∀ (l : List Nat) (a : Nat) (f : Nat), (forIn l ((#[a] : Array Nat), f) (PySem.StrLaws.occBody s sub hi 1)).run.fst = #[a]
  | [], a, f => rfl
  | b :: l, a, f => by
    rw [List.forIn_cons]
    unfold PySem.StrLaws.occBody
    rw [if_neg (by simp)]
    exact occ_stays s sub hi l a f
theorem occ_first (x : Str) (c : Nat) : ∀ (l : List Nat) (f : Nat), (∀ i ∈ l, f ≤ i) → (forIn l ((#[] : Array Nat), f) (PySem.StrLaws.occBody x ⟨#[c]⟩ x.length 1)).run.fst.toList.head? = l.find? fun i => x.cps.toList[i]? == some c
  | [], f, _ => rfl
  | a :: l, f, h => by
    rw [List.forIn_cons, List.find?_cons]
    have key := PySem.StrLaws.subAt_one x c a
    unfold PySem.StrLaws.occBody
    by_cases hc : x.cps.toList[a]? = some c
    · obtain ⟨k1, k2⟩ := key.mpr hc
      rw [if_pos ⟨⟨⟨by simp, h a List.mem_cons_self⟩, k1⟩, k2⟩, hc]
      simp only [beq_self_eq_true]
      show (forIn l ((#[] : Array Nat).push a, a + _) (PySem.StrLaws.occBody x ⟨#[c]⟩ x.length 1)).run.fst.toList.head? = some a
      rw [show ((#[] : Array Nat).push a) = #[a] from rfl, occ_stays]
      rfl
    · rw [if_neg fun q => hc (key.mp ⟨q.1.2, q.2⟩), show (x.cps.toList[a]? == some c) = false by rw [beq_eq_false_iff_ne]; exact hc]
      exact occ_first x c l f fun i hi => h i (List.mem_cons_of_mem _ hi)
/-- the place of the first c in s -/
def idx (s : List Nat) (c : Nat) : Option Nat := (List.range' 0 (s.length + 1)).find? fun i => s[i]? == some c
theorem index_one (s : List Nat) (c : Nat) : Txt.index0 ⟨s.toArray⟩ ⟨#[c]⟩ = idx s c := by
  unfold Txt.index0 idx
  rw [PySem.StrLaws.occ_eq]
  have h := occ_first ⟨s.toArray⟩ c (List.range' 0 ((⟨s.toArray⟩ : Str).length + 1 - 0)) 0 fun _ _ => Nat.zero_le _
  rw [h]
  have e1 : (⟨s.toArray⟩ : Str).length + 1 - 0 = s.length + 1 := by show s.toArray.size + 1 - 0 = _; simp
  rw [e1]
theorem idx_spec {s : List Nat} {c k : Nat} (h : s[k]? = some c) (hf : ∀ i, i < k → s[i]? ≠ some c) : idx s c = some k := by
  have hk := (List.getElem?_eq_some_iff.mp h).1
  unfold idx
  rw [List.find?_eq_some_iff_append]
  refine ⟨by simp [h], List.range' 0 k, List.range' (k + 1) (s.length - k), ?_, fun i hi => ?_⟩
  · have e : s.length + 1 = k + (1 + (s.length - k)) := by omega
    rw [e, ← List.range'_append_1, ← List.range'_append_1]
    simp [List.range'_one]
  · have hi2 : i < k := by simpa [List.mem_range'] using hi
    have := hf i hi2
    simp [this]
theorem idx_mem {s : List Nat} {c : Nat} (h : c ∈ s) : ∃ k, idx s c = some k ∧ s[k]? = some c := by
  obtain ⟨k, hk, e⟩ := List.getElem_of_mem h
  cases q : idx s c with
  | none =>
    unfold idx at q
    have z := List.find?_eq_none.mp q k (by simp [List.mem_range']; omega)
    rw [List.getElem?_eq_getElem hk, e] at z
    simp at z
  | some j =>
    refine ⟨j, rfl, ?_⟩
    unfold idx at q
    have z := List.find?_some q
    simpa using z

section
variable {X : Cx} {c : Ct} {W : WX}
/-- s.index(e), e one sign that stands in s -/
def idxK (d e : D) (k : D → Prop) : Prop := match d, e with
  | .str s, .str [a] => (match idx s a with | some i => k (.int i) | none => False)
  | _, _ => False
def dIdx (O : DO) (T : DE) : DE := fun ρ K => O ρ (onOk K fun o ρ1 => isStr (see ρ1 o) = true ∧ T ρ1 (onOk K fun e ρ2 => idxK (see ρ2 o) e fun z => K (.ok z) ρ2))
where isStr : D → Bool
  | .str _ => true
  | _ => false
theorem E_idx {o e : Expr} {O : DO} {T : DE} {apos cpos : Pos} (hc : X.calm = true) (tk : Takes X W) (ho : PE X o (tOfO c W O)) (he : PE X e (tOfE c W T))
    (hbase : attributeBase o "index" X.env (eval o X.env) = eval o X.env := by rfl)
    (hfew : ((backTo cpos (starEach [e] X.env)).all (fun x => !x.1) && (backToKw cpos (keywordEach [] X.env)).all (fun x => x.1.isSome) && decide (([e]).length + ([] : List Keyword).length + (if ([] : List Keyword).isEmpty then 0 else 1) < 30)) = true := by rfl)
    (hline : (apos.endLine == cpos.line) = true := by rfl) (hst : starEach [e] X.env = (false, eval e X.env) :: starEach [] X.env := by rfl) (hpl : (backTo cpos (starEach [] X.env)).any (·.1) = false := by rfl) :
    PE X (.Call (.Attribute o "index" apos) [e] [] cpos) (tOfE c W (dIdx O T)) := by
  refine (pe_bmS PySem.F.plainAttrs_str PySem.F.slot_str_index PySem.F.type_str_index (mt_indexX hc tk) ho (pa_cons he pa_nil hst) hbase hfew hline hst hpl).imp fun σ H Q h => ?_
  obtain ⟨F, Ω, ρ, K, r0, ht, k, kx⟩ := h
  refine ⟨F, Ω, ρ, _, r0, ht, fun x ρ1 q1 v F1 H1 Ω1 s1 r1 f1 => ?_, kx.imp (Stp.refl _ _ _) fun _ _ _ q => q⟩
  obtain ⟨hs, q1⟩ := q1
  cases e1 : see ρ1 x with
  | str s0 =>
    have w1 := f1.vw r1 (by rw [e1]; rfl)
    rw [e1] at w1
    have ev := vw_str w1
    subst ev
    refine ⟨rfl, F1, Ω1, ρ1, _, r1, q1, fun d ρ2 q2 u F2 H2 Ω2 s2 r2 f2 => ?_, kx.imp s1 fun _ _ _ q => q⟩
    simp only [onOk_ok] at q2
    cases e2 : see ρ2 x with
    | str s =>
      rw [e2] at q2
      have w2 := (f1.mono s2.ef).vw r2 (by rw [e2]; rfl)
      rw [e2] at w2
      have ev2 := vw_str w2
      match d, q2, f2 with
      | .str [a], q2, f2 =>
        have eu : u = .str ⟨#[a]⟩ := by simpa only [Fz] using f2
        subst eu
        have q3 : (match idx s a with | some i => K (.ok (.int i)) ρ2 | none => False) := q2
        cases e3 : idx s a with
        | none => rw [e3] at q3; exact q3.elim
        | some i =>
          rw [e3] at q3
          have es : (⟨s0.toArray⟩ : Str) = ⟨s.toArray⟩ := by injection ev2
          refine ⟨⟨s0.toArray⟩, ⟨#[a]⟩, rfl, rfl, fun j hj => ?_, fun hn => ?_⟩
          · rw [es, index_one, e3] at hj
            cases hj
            exact k _ ρ2 q3 _ F2 H2 Ω2 (s1.trans s2) r2 fz_int
          · rw [es, index_one, e3] at hn
            cases hn
    | _ => rw [e2] at q2; exact q2.elim
  | _ => rw [e1] at hs; cases hs
end
end Vi
/-! Vi18: attributes of instances, read and written; tuple(..), list(..), join. -/
namespace Vi
open PySem L2 PySem.Spec PyProof.Rows

theorem lookup_zip_get {f : Str} : ∀ {fs : List Str} {vs : List V} {j : Nat} {v : V}, fs.Nodup → fs[j]? = some f → vs[j]? = some v → (fs.zip vs).lookup f = some v
  | [], vs, j, v, _, h, _ => by simp at h
  | g :: fs, [], j, v, _, _, h => by simp at h
  | g :: fs, w :: vs, 0, v, _, h1, h2 => by
    simp at h1 h2
    subst h1 h2
    simp [List.lookup]
  | g :: fs, w :: vs, j + 1, v, nd, h1, h2 => by
    have h1' : fs[j]? = some f := by simpa using h1
    have h2' : vs[j]? = some v := by simpa using h2
    have ne : (f == g) = false := by
      rw [beq_eq_false_iff_ne]
      rintro rfl
      exact (List.nodup_cons.mp nd).1 (List.mem_of_getElem? h1')
    rw [List.zip_cons_cons]
    show (match f == g with | true => some w | false => List.lookup f (fs.zip vs)) = some v
    rw [ne]
    exact lookup_zip_get (List.nodup_cons.mp nd).2 h1' h2'
theorem putF_zip {f : Str} {y : V} : ∀ {fs : List Str} {vs : List V}, fs.Nodup → fs[vs.length]? = some f → putF f y (fs.zip vs) = fs.zip (vs ++ [y])
  | [], vs, _, h => by simp at h
  | g :: fs, [], _, h => by
    simp at h
    subst h
    simp [putF]
  | g :: fs, w :: vs, nd, h => by
    have h' : fs[vs.length]? = some f := by simpa using h
    have ne : g ≠ f := by
      rintro rfl
      exact (List.nodup_cons.mp nd).1 (List.mem_of_getElem? h')
    rw [List.zip_cons_cons, List.cons_append, List.zip_cons_cons]
    show (if g = f then (g, y) :: fs.zip vs else (g, w) :: putF f y (fs.zip vs)) = _
    rw [if_neg ne, putF_zip (List.nodup_cons.mp nd).2 h']
section
variable {X : Cx} {c : Ct} {W : WX}
/-- the attribute at place j of an instance of C -/
def fldK (C j : Nat) (d : D) (k : D → Prop) : Prop := match d with
  | .ins _ C' ds => C' = C ∧ (match ds[j]? with | some e => own e = false ∧ k e | none => False)
  | _ => False
theorem fldK_of {C j : Nat} {o : Bool} {ds : List D} {e : D} {k : D → Prop} (h : ds[j]? = some e) (h2 : own e = false) (h3 : k e) : fldK C j (.ins o C ds) k := by
  show C = C ∧ (match ds[j]? with | some e => own e = false ∧ k e | none => False)
  rw [h]
  exact ⟨rfl, h2, h3⟩
def dFld (C j : Nat) (O : DO) : DE := fun ρ K => O ρ (onOk K fun o ρ1 => fldK C j (see ρ1 o) fun z => K (.ok z) ρ1)
theorem E_fld {C j : Nat} {f : Str} {e : Expr} {O : DO} {pos : Pos} (cl : Cls X.K (c.cls C)) (na : NoAttr X.K (c.cls C) f) (hj : (c.flds C)[j]? = some f) (nd : (c.flds C).Nodup) (he : PE X e (tOfO c W O)) (hb : attributeBase e f X.env (eval e X.env) = eval e X.env := by rfl) :
    PE X (.Attribute e f pos) (tOfE c W (dFld C j O)) := by
  refine (pe_fld he hb).imp fun σ H Q h => ?_
  obtain ⟨F, Ω, ρ, K, r0, ht, k, kx⟩ := h
  refine ⟨F, Ω, ρ, _, r0, ht, fun x ρ1 q1 v F1 H1 Ω1 s1 r1 f1 => ?_, kx.imp (Stp.refl _ _ _) fun _ _ _ q => q⟩
  simp only [onOk_ok] at q1
  cases e1 : see ρ1 x with
  | ins o C' ds =>
    rw [e1] at q1
    obtain ⟨eC, q2⟩ := q1
    subst eC
    have w1 := f1.vw r1 (by rw [e1]; rfl)
    rw [e1] at w1
    obtain ⟨a, dx, vs, ev, hH, hl, hv⟩ := w1.ins r1.wf
    cases e2 : ds[j]? with
    | none => rw [e2] at q2; exact q2.elim
    | some d =>
      rw [e2] at q2
      obtain ⟨u, hu, vw⟩ := hv.2 j d e2
      exact ⟨a, c.cls C', dx, _, u, ev, hH, cl, na, lookup_zip_get nd hj hu, k d ρ1 q2.2 u F1 H1 Ω1 s1 r1 (vw.fz q2.1)⟩
  | _ => rw [e1] at q1; exact q1.elim
end
section
variable {X : Cx} {x : Ct2} {W : WX}
/-- self.f = e, self the instance that is being made, in slot i; f its next attribute -/
def fsetK (C j : Nat) (d v : D) (ρ : Env) (i : Nat) (k : Env → Prop) : Prop := match d with
  | .ins true C' ds => C' = C ∧ ds.length = j ∧ k (ρ.set i (.ins true C (ds ++ [fr v])))
  | _ => False
theorem fsetK_i {C j : Nat} {ds : List D} {v : D} {ρ : Env} {i : Nat} {k : Env → Prop} : fsetK C j (.ins true C ds) v ρ i k = (C = C ∧ ds.length = j ∧ k (ρ.set i (.ins true C (ds ++ [fr v])))) := rfl
def dFset (C i j : Nat) (T : DE) : DS := fun ρ K => T ρ (onFl K fun d ρ1 => fsetK C j (gt ρ1 i) d ρ1 i fun ρ2 => K .nx ρ2)
theorem S_fld {C i j : Nat} {y f : Str} {e : Expr} {T : DE} {p pos' pos : Pos} (cl : Cls X.K (x.c.cls C)) (na : NoAttr X.K (x.c.cls C) f) (hj : (x.c.flds C)[j]? = some f) (hjn : j < 1000) (nd : (x.c.flds C).Nodup) (hN : X.N[i]? = some y) (hv : Vis X.env.scope y) (he : PE X e (tOfE x.c W T))
    (hd : (y == ("__debug__" : Str)) = false := by decide) (hcd : (y == ("__classdict__" : Str)) = false := by decide) (hs : swapsWith e (some (.Attribute (.Name y p) f pos')) pos.line X.env = pure false := by rfl) :
    PS X (.Assign [.Attribute (.Name y p) f pos'] e pos) (tOfS x W (dFset C i j T)) := by
  refine (ps_fld (pe_var hN hv hd hcd) he hs).imp fun De σ H h => ?_
  obtain ⟨F, Ω, ρ, K, r, t, w⟩ := tOfS_iff.mp h
  refine ⟨F, Ω, ρ, _, r, t, fun d ρ1 q v F1 H1 Ω1 s1 r1 f1 => ?_, w.exw⟩
  simp only [onFl_ok] at q
  generalize hz : gt ρ1 i = z at q
  match z, q, hz with
  | .ins true C' ds, ⟨eC, hl, hk⟩, hz =>
    subst eC
    have hn1 : nz (gt ρ1 i) = true := by rw [hz]; rfl
    have hs1 := gt_some hn1
    obtain ⟨v', z1, z2⟩ := r1.sl i _ hs1 (nz_ne hn1)
    rw [hz] at z2
    simp only [Rv] at z2
    obtain ⟨a, dx, vs, e1, hA, hH, hle, hr⟩ := z2
    subst e1
    have lenv := hr.length
    have hvl : vs.length = j := by rw [← lenv]; exact hl
    refine ⟨.ref a, z1, a, x.c.cls C', dx, _, rfl, hH, cl, na, ?_, ?_⟩
    · rw [List.length_zip]
      exact Nat.lt_of_le_of_lt (Nat.min_le_right _ _) (by rw [hvl]; exact hjn)
    · have hp : putF f v ((x.c.flds C').zip vs) = (x.c.flds C').zip (vs ++ [v]) := putF_zip nd (by rw [hvl]; exact hj)
      rw [hp]
      refine w.nx _ hk σ F1 _ Ω1 ⟨chg_stp s1 hA fun b o e1 e2 e3 => (s1.ou b o e1 e2 e3).2.2, chg_slot r1 (List.getElem?_eq_some_iff.mp hs1).1 z1 hA ?_ (fun _ _ e => e) fun b π e => r1.wf.own b π e, Io.refl _ _⟩
      simp only [Rv]
      refine ⟨a, dx, vs ++ [v], rfl, hA, upd_same, ?_, RvL.append (RvL.move (Sub.refl _) ds [i] [i] 0 vs (fun b m π e => ⟨e, upd_ne fun y => ?_⟩) hr) ((Rv_of_own (own_fr d)).mpr ((Fz_fr _ _ _ _).mpr f1))⟩
      · have := (List.getElem?_eq_some_iff.mp hj).1
        rw [List.length_append, List.length_singleton]
        omega
      · rw [y, hA] at e
        simp at e
end
end Vi
/-! Vi19: tuple(..), list(..), join. -/
namespace Vi
open PySem L2 PySem.Spec PyProof.Rows

section
variable {X : Cx} {c : Ct} {W : WX}
theorem call_tup : CallR X (.type "tuple") (fun xs H Q => ∃ x, xs = [x] ∧ kTup X.K x H Q) := by
  intro pins s σ H xs us Q I r h
  obtain ⟨x, rfl, q⟩ := h
  cases r with
  | cons ra rn =>
    cases rn
    exact rl_tuple pins s σ H x _ Q I ra q
def oTup : List D → (D → Prop) → Prop
  | [.lst _ xs], K => xs.all (fun d => !own d) = true ∧ K (.tup xs)
  | [.klst xs], K => K (.tup xs)
  | [.tup xs], K => K (.tup xs)
  | _, _ => False
theorem oTup_l (o : Bool) (xs : List D) (k : D → Prop) : oTup [.lst o xs] k = (xs.all (fun d => !own d) = true ∧ k (.tup xs)) := rfl
theorem oTup_k (xs : List D) (k : D → Prop) : oTup [.klst xs] k = k (.tup xs) := rfl
theorem oTup_t (xs : List D) (k : D → Prop) : oTup [.tup xs] k = k (.tup xs) := rfl
theorem ba_tup {c : Ct} : BA c (fun xs H Q => ∃ x, xs = [x] ∧ kTup c.K x H Q) oTup := ⟨fun F H Ω w ds vs hl hv K q Q k => by
  match ds, hl, hv, q with
  | [.lst o xs], hl, hv, q =>
    obtain ⟨v, e, h⟩ := one_of hl hv
    obtain ⟨a, ys, e1, h1, h2⟩ := h.lst w
    refine ⟨v, e, .inl ⟨a, ys, e1, SqL.of h1, fun p hp => ?_⟩⟩
    have ex := Ext.new (o := .tup ys) w hp
    refine k _ q.2 _ _ _ ex ?_
    simp only [Fz]
    exact ⟨p, ys, rfl, upd_same, FzL.mono ex.ef _ _ (h2.fz q.1)⟩
  | [.klst xs], hl, hv, q =>
    obtain ⟨v, e, h⟩ := one_of hl hv
    obtain ⟨a, ys, e1, h1, h2⟩ := h.klst w
    refine ⟨v, e, .inl ⟨a, ys, e1, h1, fun p hp => ?_⟩⟩
    have ex := Ext.new (o := .tup ys) w hp
    refine k _ q _ _ _ ex ?_
    simp only [Fz]
    exact ⟨p, ys, rfl, upd_same, FzL.mono ex.ef _ _ h2⟩
  | [.tup xs], hl, hv, q =>
    obtain ⟨v, e, h⟩ := one_of hl hv
    obtain ⟨a, ys, e1, h0, h1, h2⟩ := h.tup w
    refine ⟨v, e, .inr ⟨a, ys, e1, h1, ?_⟩⟩
    refine k _ q _ F H (Ext.refl w) ?_
    simp only [Fz]
    exact ⟨a, ys, rfl, h0, h2⟩⟩
/-- a list made of a row: one's own -/
def rowK (d : D) (k : List D → Prop) : Prop := match d with
  | .lst _ xs => xs.all (fun d => !own d) = true ∧ k xs
  | .klst xs => k xs
  | .tup xs => k xs
  | _ => False
theorem rowK_l (o : Bool) (xs : List D) (k : List D → Prop) : rowK (.lst o xs) k = (xs.all (fun d => !own d) = true ∧ k xs) := rfl
theorem rowK_k (xs : List D) (k : List D → Prop) : rowK (.klst xs) k = k xs := rfl
theorem rowK_t (xs : List D) (k : List D → Prop) : rowK (.tup xs) k = k xs := rfl
def dListOf (O : DO) : DE := fun ρ K => O ρ (onOk K fun o ρ' => nz (see ρ' o) = true ∧ rowK (see ρ' o) fun xs => K (.ok (.lst true (xs.map fr))) ρ')
theorem N_listOf {e : Expr} {O : DO} {p pos : Pos} (he : PE X e (tOfO c W O)) (hK : c.K = X.K) (hg : Gl X "list") (hm : X.mg "list" = none) (hs : starEach [e] X.env = (false, eval e X.env) :: starEach [] X.env := by rfl) (hpl : (backTo pos (starEach [] X.env)).any (·.1) = false := by rfl) :
    PE X (.Call (.Name "list" p) [e] [] pos) (tOfN c W (dListOf O)) := by
  refine (pe_callTy (T := "list") call_list_of hg hm (by decide +kernel) (pa_cons he pa_nil hs) (by decide) (by decide) hs hpl).imp fun σ H Q h => ?_
  obtain ⟨F, Ω, ρ, K, r0, ht, k, kx⟩ := h
  refine ⟨F, Ω, ρ, _, r0, ht, fun o ρ1 q1 v F1 H1 Ω1 s1 r1 f1 => ?_, kx.imp (Stp.refl _ _ _) fun _ _ _ q => q⟩
  simp only [onOk_ok] at q1
  obtain ⟨hn, q2⟩ := q1
  have vw := f1.vw r1 hn
  obtain ⟨a, xs, ys, e1, hs2, hf, q3⟩ : ∃ a xs ys, v = .ref a ∧ (SqL X.K H1 a ys ∨ SqT X.K H1 a ys) ∧ FzL c F1 xs ys ∧ K (.ok (.lst true (xs.map fr))) ρ1 := by
    cases e : see ρ1 o with
    | lst b xs =>
      rw [e] at q2 vw
      obtain ⟨a, ys, e1, h1, h2⟩ := vw.lst r1.wf
      exact ⟨a, xs, ys, e1, .inl (SqL.of h1), h2.fz q2.1, q2.2⟩
    | klst xs =>
      rw [e] at q2 vw
      obtain ⟨a, ys, e1, h1, h2⟩ := vw.klst r1.wf
      exact ⟨a, xs, ys, e1, .inl (by rw [← hK]; exact h1), h2, q2⟩
    | tup xs =>
      rw [e] at q2 vw
      obtain ⟨a, ys, e1, h0, h1, h2⟩ := vw.tup r1.wf
      exact ⟨a, xs, ys, e1, .inr (by rw [← hK]; exact h1), h2, q2⟩
    | _ => rw [e] at q2; exact q2.elim
  subst e1
  refine ⟨a, ys, rfl, hs2, fun p hp => ?_⟩
  obtain ⟨r2, s2⟩ := rel_new (o := .lst ys) r1 hp
  obtain ⟨hF, hΩ, hs3, _⟩ := wf_new (o := .lst ys) r1.wf hp
  refine k _ ρ1 q3 (.ref p) F1 _ Ω1 (fun b => if b = p then some [] else none) (s1.trans s2) r2 ⟨?_, fun b π e => ?_⟩ fun b o e1 e2 e3 => ?_
  · simp only [Rv]
    exact ⟨p, ys, rfl, by simp, upd_same, RvL.of_fz hf⟩
  · have e' : (if b = p then some ([] : List Nat) else none) = some π := e
    split at e'
    · rename_i hb
      subst hb
      exact ⟨hF, hΩ, _, upd_same⟩
    · cases e'
  · show (if b = p then some ([] : List Nat) else none) = none
    rw [if_neg]
    rintro rfl
    obtain ⟨q1, _, _⟩ := s1.ou b o e1 e2 e3
    rw [hp] at q1
    cases q1
/-- the texts of a row -/
def strsD : List D → Option (List (List Nat))
  | [] => some []
  | .str s :: ds => (strsD ds).map (s :: ·)
  | _ :: _ => none
theorem strsD_map : ∀ l : List (List Nat), strsD (l.map D.str) = some l
  | [] => rfl
  | s :: l => by
    show (strsD (l.map D.str)).map (s :: ·) = _
    rw [strsD_map l]
    rfl
theorem strsD_vw {c : Ct} {F H : Hp} : ∀ {xs : List D} {vs : List V} {ys : List (List Nat)}, strsD xs = some ys → VwL c F H xs vs → vs = (ys.map fun s => (⟨s.toArray⟩ : Str)).map V.str
  | [], vs, ys, h, f => by
    cases h
    match vs, f.1 with
    | [], _ => rfl
  | .str s :: xs, vs, ys, h, f => by
    cases e : strsD xs with
    | none =>
      have h' : (strsD xs).map (s :: ·) = some ys := h
      rw [e] at h'
      cases h'
    | some l =>
      have h' : (strsD xs).map (s :: ·) = some ys := h
      rw [e] at h'
      cases h'
      match vs, f.1 with
      | v :: vs, hl =>
        obtain ⟨v', q1, q2⟩ := f.2 0 _ rfl
        cases q1
        have ev := vw_str q2
        have ih := strsD_vw (xs := xs) (vs := vs) e ⟨by simpa using f.1, fun i d hd => f.2 (i + 1) d (by simpa using hd)⟩
        rw [ev, ih]
        rfl
def joinK (d : D) (k : List (List Nat) → Prop) : Prop := match d with
  | .lst _ xs => (match strsD xs with | some ys => k ys | none => False)
  | .tup xs => (match strsD xs with | some ys => k ys | none => False)
  | _ => False
theorem joinK_l {o : Bool} {xs : List D} {ys : List (List Nat)} {k : List (List Nat) → Prop} (h : strsD xs = some ys) (q : k ys) : joinK (.lst o xs) k := by
  show (match strsD xs with | some ys => k ys | none => False)
  rw [h]
  exact q
/-- s.join(e) -/
def dJoin (T : DE) (O : DO) : DE := fun ρ K => T ρ (onOk K fun d ρ0 => stK d fun s => O ρ0 (onOk K fun o ρ1 => nz (see ρ1 o) = true ∧ joinK (see ρ1 o) fun ys => (ys.map (·.length)).sum + ys.length * s.length ≤ 16777216 ∧ K (.ok (.str (TL.joinL s ys))) ρ1))
theorem join_txt (s : List Nat) (ys : List (List Nat)) : Txt.join ⟨s.toArray⟩ (ys.map fun y => (⟨y.toArray⟩ : Str)) = ⟨(TL.joinL s ys).toArray⟩ := by
  rw [TL.join_eq]
  have h := TL.tl_join ⟨s.toArray⟩ (ys.map fun y => (⟨y.toArray⟩ : Str))
  have e1 : TL.tl ⟨s.toArray⟩ = s := by simp [TL.tl]
  have e2 : (ys.map fun y => (⟨y.toArray⟩ : Str)).map TL.tl = ys := by
    rw [List.map_map]
    conv => rhs; rw [← List.map_id ys]
    exact List.map_congr_left fun y _ => by simp [TL.tl]
  rw [e1, e2] at h
  have e3 := TL.mk_tl (Str.join ⟨s.toArray⟩ (ys.map fun y => (⟨y.toArray⟩ : Str)))
  rw [h] at e3
  exact e3.symm
theorem E_join {s e : Expr} {T : DE} {O : DO} {apos pos : Pos} (hK : c.K = X.K) (ho : PE X s (tOfE c W T)) (he : PE X e (tOfO c W O)) (hs : starEach [e] X.env = [(false, eval e X.env)] := by rfl) (hbase : attributeBase s "join" X.env (eval s X.env) = eval s X.env := by rfl) (hline : (apos.endLine == pos.line) = true := by rfl) :
    PE X (.Call (.Attribute s "join" apos) [e] [] pos) (tOfE c W (dJoin T O)) := by
  refine (pe_join ho he hs hbase hline).imp fun σ H Q h => ?_
  obtain ⟨F, Ω, ρ, K, r0, ht, k, kx⟩ := h
  refine ⟨F, Ω, ρ, _, r0, ht, fun d ρ0 q0 v F1 H1 Ω1 s1 r1 f1 => ?_, kx.imp (Stp.refl _ _ _) fun _ _ _ q => q⟩
  simp only [onOk_ok] at q0
  match d, q0, f1 with
  | .str a, q0, f1 =>
    have ev : v = .str ⟨a.toArray⟩ := by simpa only [Fz] using f1
    subst ev
    refine ⟨⟨_, rfl⟩, F1, Ω1, ρ0, _, r1, q0, fun o ρ1 q1 u F2 H2 Ω2 s2 r2 f2 => ?_, kx.imp s1 fun _ _ _ q => q⟩
    simp only [onOk_ok] at q1
    obtain ⟨hn, q2⟩ := q1
    have vw := f2.vw r2 hn
    obtain ⟨p, ys, e1, hq, hsz, hk⟩ : ∃ p ys, u = .ref p ∧ (SqL X.K H2 p ((ys.map fun y => (⟨y.toArray⟩ : Str)).map V.str) ∨ SqT X.K H2 p ((ys.map fun y => (⟨y.toArray⟩ : Str)).map V.str)) ∧ (ys.map (·.length)).sum + ys.length * a.length ≤ 16777216 ∧ K (.ok (.str (TL.joinL a ys))) ρ1 := by
      cases e : see ρ1 o with
      | lst b xs =>
        rw [e] at q2 vw
        obtain ⟨p, vs, e1, h1, h2⟩ := vw.lst r2.wf
        have q3 : (match strsD xs with | some ys => (ys.map (·.length)).sum + ys.length * a.length ≤ 16777216 ∧ K (.ok (.str (TL.joinL a ys))) ρ1 | none => False) := q2
        cases e3 : strsD xs with
        | none => rw [e3] at q3; exact q3.elim
        | some ys =>
          rw [e3] at q3
          have ev := strsD_vw e3 h2
          subst ev
          exact ⟨p, ys, e1, .inl (SqL.of h1), q3.1, q3.2⟩
      | tup xs =>
        rw [e] at q2 vw
        obtain ⟨p, vs, e1, h0, h1, h2⟩ := vw.tup r2.wf
        have q3 : (match strsD xs with | some ys => (ys.map (·.length)).sum + ys.length * a.length ≤ 16777216 ∧ K (.ok (.str (TL.joinL a ys))) ρ1 | none => False) := q2
        cases e3 : strsD xs with
        | none => rw [e3] at q3; exact q3.elim
        | some ys =>
          rw [e3] at q3
          have ev := strsD_vw (H := H2) e3 h2.vw
          subst ev
          exact ⟨p, ys, e1, .inr (by rw [← hK]; exact h1), q3.1, q3.2⟩
      | _ => rw [e] at q2; exact q2.elim
    refine ⟨_, p, ys.map fun y => (⟨y.toArray⟩ : Str), rfl, by rw [e1], hq, ?_, ?_⟩
    · rw [List.map_map, List.length_map]
      have e4 : (fun (x : Str) => x.length) ∘ (fun (y : List Nat) => (⟨y.toArray⟩ : Str)) = fun y => y.length := by funext y; show y.toArray.size = _; simp
      have e5 : (⟨a.toArray⟩ : Str).length = a.length := by show a.toArray.size = _; simp
      rw [e4, e5]
      exact hsz
    · rw [join_txt]
      exact k _ ρ1 hk _ F2 H2 Ω2 (s1.trans s2) r2 (fz_str (by simp))
end
end Vi
/-! Vi20: a comprehension whose list, and whose elements, are one's own. -/
namespace Vi
open PySem L2 PySem.Spec PyProof.Rows

def lcN (G : DG) (C : DT) (E : DE) (vs : List Nat) : List D → List D → Env → (List D → Env → Prop) → Prop
  | [], acc, ρ, K => K acc ρ
  | d :: ds, acc, ρ, K => G d ρ fun ρ1 => C ρ1 fun b ρ2 => match b with
    | .ok true => E ρ2 fun e ρ3 => (match e with | .ok e => lcN G C E vs ds (acc ++ [e]) (unb ρ3 vs) K | .exc _ _ => False)
    | .ok false => lcN G C E vs ds acc (unb ρ2 vs) K
    | .exc _ _ => False
def dLcN (T : DL) (G : DG) (C : DT) (E : DE) (vs : List Nat) : DE := fun ρ K => T ρ (onOk K fun ds ρ1 => ds.length ≤ 16000000 ∧ lcN G C E vs ds [] (unb ρ1 vs) fun acc ρ2 => K (.ok (.lst true acc)) (reb ρ1 ρ2 vs))

section
variable {c : Ct} {F H F' H' : Hp} {Ω Ω' Θ : Nm} {d : D} {v : V}
theorem Air.stp (a : Air c F H Ω d v Θ) (s : Stp F H Ω F' H' Ω') : Air c F' H' Ω' d v Θ := by
  have key : ∀ b π, Θ b = some π → ∃ o, H b = some o ∧ H' b = some o ∧ F' b = none ∧ Ω' b = none := fun b π e => by
    obtain ⟨h1, h2, o, h3⟩ := a.nm b π e
    obtain ⟨z1, z2, z3⟩ := s.ou b o h3 h1 h2
    exact ⟨o, h3, z1, z2, z3⟩
  refine ⟨Rv.move s.ef d [] [] v (fun b π z => ⟨z, ?_⟩) a.rv, fun b π e => ?_⟩
  · obtain ⟨o, h1, h2, _⟩ := key b _ z
    rw [h1, h2]
  · obtain ⟨o, _, h2, h3, h4⟩ := key b π e
    exact ⟨h3, h4, o, h2⟩
def accN (n : Nat) (Θd Θ : Nm) : Nm := fun b => match Θd b with
  | some π => some (n :: π)
  | none => Θ b
theorem Air.app {D : Addr} {acc : List Vi.D} {Θd : Nm} (a : Air c F H Ω (.lst true acc) (.ref D) Θ) (ad : Air c F H Ω d v Θd) (dis : ∀ b π, Θ b = some π → Θd b = none) :
    ∃ accv, H D = some (.lst accv) ∧ acc.length = accv.length ∧ Air c F (upd H D (.lst (accv ++ [v]))) Ω (.lst true (acc ++ [d])) (.ref D) (accN acc.length Θd Θ) := by
  have h := a.rv
  simp only [Rv] at h
  obtain ⟨a', accv, e1, hA, hH, hr⟩ := h
  cases e1
  have hdD : Θd D = none := dis D _ hA
  have keep : ∀ b π, Θ b = some π → accN acc.length Θd Θ b = some π := fun b π e => by
    unfold accN
    rw [dis b π e]
    exact e
  refine ⟨accv, hH, hr.length, ?_, fun b π e => ?_⟩
  · simp only [Rv]
    refine ⟨D, accv ++ [v], rfl, keep D _ hA, upd_same, RvL.append (RvL.move (Sub.refl _) acc [] [] 0 accv (fun b i π e => ⟨keep _ _ e, upd_ne fun y => ?_⟩) hr) (Rv.move (Sub.refl _) d [] _ v (fun b π e => ⟨?_, upd_ne fun y => ?_⟩) ad.rv)⟩
    · rw [y, hA] at e
      cases e
    · have e' : Θd b = some π := by simpa using e
      unfold accN
      rw [e']
      simp
    · have e' : Θd b = some π := by simpa using e
      rw [y, hdD] at e'
      cases e'
  · have nd : ∀ {b : Addr}, (∃ o, H b = some o) → ∃ o, upd H D (.lst (accv ++ [v])) b = some o := fun {b} ⟨o, ho⟩ => by
      by_cases hb : b = D
      · exact ⟨_, by rw [hb]; exact upd_same⟩
      · exact ⟨o, by rw [upd_ne hb]; exact ho⟩
    unfold accN at e
    split at e
    · rename_i π' h
      obtain ⟨y1, y2, y3⟩ := ad.nm b π' h
      exact ⟨y1, y2, nd y3⟩
    · obtain ⟨y1, y2, y3⟩ := a.nm b π e
      exact ⟨y1, y2, nd y3⟩
end
section
variable {X : Cx} {c : Ct} {W : WX}
theorem lcN_go {io : List Nat} {G : DG} {C : DT} {E : DE} {vs : List Nat} {F H : Hp} {Ω : Nm} {ρ : Env} {σ : L2.St} {ds : List D} {J : It} {Qd : Addr → Hp → Prop} {K : List D → Env → Prop} (hio : ∀ i, i < σ.length → i ∉ vs → i ∈ io) (r : Rel c F H Ω ρ σ) (it : ItOk c J F ds) (hz : ds.length ≤ 16000000) (h : lcN G C E vs ds [] (unb ρ vs) K)
    (k : ∀ acc ρ', K acc ρ' → ∀ D F' H' Ω' Θ, Stp F H Ω F' H' Ω' → Rel c F' H' Ω' (reb ρ ρ' vs) σ → Air c F' H' Ω' (.lst true acc) (.ref D) Θ → New F H Ω Θ → Qd D H') :
    ∀ D, H D = none → ∃ Wv : Nat → Nat → Hp → Prop, (∃ m, Wv 0 m (upd H D (.lst []))) ∧ ∀ i m H', Wv i m H' →
      (J.stop i H' ∧ Qd D H') ∨ (J.go i H' ∧ ∃ Nx : Hp → Prop, (∀ H', Nx H' → ∃ m', m' < m ∧ Wv (i + 1) m' H') ∧ ∀ x H'', J.yld i H' x H'' → tOfG ⟨c, io⟩ G x (wipe σ vs) H'' fun σ2 H2 => wipe σ2 vs = wipe σ vs ∧ tOfT c WF C σ2 H2 fun b H3 =>
        if b = true then tOfN c WF E σ2 H3 fun y H4 => ∃ acc, H4 D = some (.lst acc) ∧ acc.length < sizeLine ∧ Nx (upd H4 D (.lst (acc ++ [y]))) else Nx H3) := by
  intro D hD
  refine ⟨fun i m H' => m = ds.length - i ∧ i ≤ ds.length ∧ ∃ F1 Ω1 ρ1 acc Θ, Stp F H Ω F1 H' Ω1 ∧ Rel c F1 H' Ω1 ρ1 (wipe σ vs) ∧ lcN G C E vs (ds.drop i) acc ρ1 K ∧ Air c F1 H' Ω1 (.lst true acc) (.ref D) Θ ∧ Θ D = some [] ∧ New F H Ω Θ ∧ acc.length ≤ i, ?_, ?_⟩
  · obtain ⟨r2, s2⟩ := rel_new (o := .lst []) r hD
    obtain ⟨hF, hΩ, _, _⟩ := wf_new (o := .lst []) r.wf hD
    refine ⟨_, rfl, Nat.zero_le _, F, Ω, _, [], fun b => if b = D then some [] else none, s2, rel_unb r2 vs (wipe_length _ _) fun i hi => wipe_get hi, h, ⟨?_, fun b π e => ?_⟩, by simp, fun b o e1 e2 e3 => ?_, Nat.le_refl _⟩
    · simp only [Rv]
      exact ⟨D, [], rfl, by simp, upd_same, by simp only [RvL]⟩
    · have e' : (if b = D then some ([] : List Nat) else none) = some π := e
      split at e'
      · rename_i hb
        subst hb
        exact ⟨hF, hΩ, _, upd_same⟩
      · cases e'
    · show (if b = D then some ([] : List Nat) else none) = none
      rw [if_neg (ne_of_none e1 hD)]
  rintro i m H' ⟨rfl, hi, F1, Ω1, ρ1, acc, Θ, s1, r1, hw, ar, hΘD, hnew, hal⟩
  obtain ⟨igo, istop⟩ := it F1 H' Ω1 s1.ef r1.wf
  by_cases hlt : i < ds.length
  · rw [List.drop_eq_getElem_cons hlt] at hw
    obtain ⟨g1, g2⟩ := igo i hlt
    refine .inr ⟨g1, fun H'' => i + 1 ≤ ds.length ∧ ∃ F1 Ω1 ρ1 acc Θ, Stp F H Ω F1 H'' Ω1 ∧ Rel c F1 H'' Ω1 ρ1 (wipe σ vs) ∧ lcN G C E vs (ds.drop (i + 1)) acc ρ1 K ∧ Air c F1 H'' Ω1 (.lst true acc) (.ref D) Θ ∧ Θ D = some [] ∧ New F H Ω Θ ∧ acc.length ≤ i + 1, fun H'' ⟨l, z⟩ => ⟨_, by omega, rfl, l, z⟩, fun v H2 y => ?_⟩
    obtain ⟨F2, d, e2, hd, fz⟩ := g2 v H2 y
    rw [List.getElem?_eq_getElem hlt] at hd
    cases hd
    have r2 := r1.ext e2
    have s2 := s1.trans e2.stp
    have sl : (wipe σ vs).length = σ.length := wipe_length _ _
    refine ⟨F2, Ω1, ρ1, _, _, r2, fz, hw, fun ρ3 q3 σ3 Ω3 p3 => ⟨?_, ?_⟩⟩
    · rw [← wipe_wipe σ vs]
      refine wipe_eq p3.2.2.1 fun j hj => ?_
      by_cases hjl : j < σ.length
      · exact p3.2.2.2 j (hio j hjl hj)
      · rw [List.getElem?_eq_none (by rw [p3.2.2.1, sl]; omega), List.getElem?_eq_none (by rw [sl]; omega)]
    have back : ∀ j, j ∉ vs → (wipe σ vs)[j]? = σ3[j]? := fun j hj => by
      by_cases hjl : j < σ.length
      · exact (p3.2.2.2 j (hio j hjl hj)).symm
      · rw [List.getElem?_eq_none (by rw [sl]; omega), List.getElem?_eq_none (by rw [p3.2.2.1, sl]; omega)]
    have a2 := ar.stp e2.stp
    refine ⟨F2, Ω3, ρ3, _, p3.2.1, q3, fun b ρ4 q4 F4 H4 Ω4 s4 r4 => ?_, fun C' w' ρ' q => q.elim⟩
    have s24 := p3.1.trans s4
    have a4 := a2.stp s24
    cases b with
    | true =>
      refine iteT ?_
      refine ⟨F4, Ω4, ρ4, _, r4, q4, fun e ρ5 q5 v5 F5 H5 Ω5 Θd s5 r5 ad nw => ?_, fun C' w' ρ' q => q.elim⟩
      have a5 := a4.stp s5
      have dis : ∀ b π, Θ b = some π → Θd b = none := fun b π e => by
        obtain ⟨y1, y2, o, y3⟩ := a4.nm b π e
        exact nw b o y3 y1 y2
      obtain ⟨accv, hH5, hlen, a6⟩ := a5.app ad dis
      obtain ⟨o1, o2, _⟩ := a5.nm D _ hΘD
      refine ⟨accv, hH5, ?_, hlt, F5, Ω5, _, acc ++ [e], _, ?_, rel_unb (rel_out r5 o1 o2) vs (by rw [sl, p3.2.2.1, sl]) back, q5, a6, ?_, fun b o e1 e2' e3 => ?_, ?_⟩
      · rw [← hlen]
        refine Nat.lt_of_le_of_lt (Nat.le_trans hal hi) (Nat.lt_of_le_of_lt hz (by decide))
      · have st := (s2.trans s24).trans s5
        exact ⟨st.ef, fun b o e1 e2 e3 => by
          obtain ⟨z1, z2, z3⟩ := st.ou b o e1 e2 e3
          refine ⟨?_, z2, z3⟩
          rw [upd_ne (ne_of_none e1 hD)]
          exact z1⟩
      · unfold accN
        rw [dis D _ hΘD]
        exact hΘD
      · obtain ⟨z1, z2, z3⟩ := (s2.trans s24).ou b o e1 e2' e3
        unfold accN
        rw [nw b o z1 z2 z3]
        exact hnew b o e1 e2' e3
      · rw [List.length_append, List.length_singleton]
        omega
    | false =>
      refine iteF ?_
      exact ⟨hlt, F4, Ω4, _, acc, Θ, s2.trans s24, rel_unb r4 vs (by rw [sl, p3.2.2.1, sl]) back, q4, a4, hΘD, hnew, by omega⟩
  · have e : i = ds.length := by omega
    subst e
    rw [List.drop_eq_nil_of_le (Nat.le_refl _)] at hw
    exact .inl ⟨istop, k acc ρ1 hw D F1 H' Ω1 Θ s1 (rel_reb r s1.ef r1) ar hnew⟩
structure BlkN (X : Cx) (c : Ct) (io : List Nat) (scope : Scope) (own' : List (Str × Nat)) (tg : Expr) (ifs : List Expr) (elt : Expr) (G : DG) (C : DT) (E : DE) : Prop where
  ok : BlkOk X.N X.env.scope scope own'
  g : ∀ (s : Shared) (H : Hp) (C' : Addr) (cl : List (Str × Addr)) (fp : List Addr), PG (X.blk s H scope (PySem.compEnvC scope cl C' X.env) fp) tg (tOfG ⟨c, io⟩ G)
  t : ∀ (s : Shared) (H : Hp) (C' : Addr) (cl : List (Str × Addr)) (fp : List Addr), PTs (X.blk s H scope (PySem.compEnvC scope cl C' X.env) fp) ifs (tOfT c WF C)
  e : ∀ (s : Shared) (H : Hp) (C' : Addr) (cl : List (Str × Addr)) (fp : List Addr), PE (X.blk s H scope (PySem.compEnvC scope cl C' X.env) fp) elt (tOfN c WF E)
theorem lcN_E {wi : DL} {G : DG} {C : DT} {E : DE} {vs io : List Nat} {σ : L2.St} {H : Hp} {Q : VK} (hio : ∀ i, i < σ.length → i ∉ vs → i ∈ io) (h : tOfN c W (dLcN wi G C E vs) σ H Q) :
    tLc (tOfI c W wi) (tOfG ⟨c, io⟩ G) (tOfT c WF C) (tOfN c WF E) vs σ H Q := by
  obtain ⟨F, Ω, ρ, K, r, t, k, kx⟩ := h
  refine ⟨F, Ω, ρ, _, r, t, fun ds ρ1 q J F1 H1 Ω1 s1 r1 it => ?_, kx.imp (Stp.refl _ _ _) fun _ _ _ q => q⟩
  exact lcN_go hio r1 it q.1 q.2 fun acc ρ' q' D F' H' Ω' Θ s' r' ar nw => k _ _ q' (.ref D) F' H' Ω' Θ (s1.trans s') r' ar (nw.step s1)
/-- [elt for target in iter if ..], one's own -/
theorem N_lc {elt tg iter : Expr} {ifs : List Expr} {scope : Scope} {own' : List (Str × Nat)} {pos : Pos} {wi : DL} {G : DG} {C : DT} {E : DE} {io : List Nat} (hc : X.calm = true) (hN : X.N.Nodup) (hio : ∀ i, i < X.N.length → i ∉ own'.map (·.2) → i ∈ io) (hi : PI X tg iter (tOfI c W wi)) (b : BlkN X c io scope own' tg ifs elt G C E)
    (hs : ∀ x, foldedSetIterable iter X.env x = pure x := by intro _; rfl) : PE X (.ListComp elt [⟨tg, iter, ifs, 0⟩] scope pos) (tOfN c W (dLcN wi G C E (own'.map (·.2)))) := by
  refine ⟨fun pins s σ H Q I h => (pe_lc hc hN hi b.ok b.g b.t b.e hs).run pins s σ H Q I ?_⟩
  exact lcN_E (by rw [I.len]; exact hio) h
/-- y = [elt for target in iter if ..], one's own -/
theorem S_setLcN {x : Ct2} {i : Nat} {y : Str} {py : Pos} {elt tg iter : Expr} {ifs : List Expr} {scope : Scope} {own' : List (Str × Nat)} {pos spos : Pos} {wi : DL} {G : DG} {C : DT} {E : DE} {io : List Nat} (hc : X.calm = true) (hN : X.N.Nodup) (hy : X.N[i]? = some y) (hyl : X.env.scope.names.lookup y = some .local) (hix : i ∉ x.io)
    (hsw : swapsWith (.ListComp elt [⟨tg, iter, ifs, 0⟩] scope pos) (some (.Name y py)) spos.line X.env = pure true) (hio : ∀ i, i < X.N.length → i ∉ own'.map (·.2) → i ∈ io) (hi : PI X tg iter (tOfI x.c W wi)) (b : BlkN X x.c io scope own' tg ifs elt G C E)
    (hs : ∀ x, foldedSetIterable iter X.env x = pure x := by intro _; rfl) : PS X (.Assign [.Name y py] (.ListComp elt [⟨tg, iter, ifs, 0⟩] scope pos) spos) (tOfS x W (dSet i (dLcN wi G C E (own'.map (·.2))))) := by
  refine ⟨fun pins s σ H De I h => (ps_setLc hc hN hy hyl hsw hi b.ok b.g b.t b.e hs).run pins s σ H De I ?_⟩
  exact lcN_E (by rw [I.len]; exact hio) (set_of (by rw [I.len]; exact (List.getElem?_eq_some_iff.mp hy).1) hix h)
end
end Vi
/-! Vi21: a comprehension with two fors; unpacking a list. -/
namespace Vi
open PySem L2 PySem.Spec PyProof.Rows

def lc2W (G : DG) (C : DT) (T1 : DL) (G1 : DG) (C1 : DT) (E : DE) (vs vs1 : List Nat) : List D → List D → Env → (List D → Env → Prop) → Prop
  | [], acc, ρ, K => K acc ρ
  | d :: ds, acc, ρ, K => G d ρ fun ρ1 => C ρ1 fun b ρ2 => match b with
    | .ok true => T1 ρ2 fun r ρ3 => (match r with
      | .ok ds1 => acc.length + ds1.length ≤ 16000000 ∧ lcW G1 C1 E vs1 ds1 acc (unb ρ3 vs1) fun acc' ρ4 => lc2W G C T1 G1 C1 E vs vs1 ds acc' (unb ρ4 vs) K
      | .exc _ _ => False)
    | .ok false => lc2W G C T1 G1 C1 E vs vs1 ds acc (unb ρ2 vs) K
    | .exc _ _ => False
def dLc2 (T : DL) (G : DG) (C : DT) (T1 : DL) (G1 : DG) (C1 : DT) (E : DE) (vs vs1 : List Nat) : DE := fun ρ K => T ρ (onOk K fun ds ρ1 => lc2W G C T1 G1 C1 E vs vs1 ds [] (unb ρ1 vs) fun acc ρ2 => K (.ok (.lst false acc)) (reb ρ1 ρ2 vs))
section
variable {X : Cx} {c : Ct} {W : WX}
theorem lc2_go {io io1 : List Nat} {G G1 : DG} {C C1 : DT} {T1 : DL} {E : DE} {vs vs1 : List Nat} {F H : Hp} {Ω : Nm} {ρ : Env} {σ : L2.St} {ds : List D} {J : It} {Qd : Addr → Hp → Prop} {K : List D → Env → Prop} (hio : ∀ i, i < σ.length → i ∉ vs → i ∈ io) (hio1 : ∀ i, i < σ.length → i ∉ vs1 → i ∈ io1) (hv : ∀ i ∈ vs1, i ∈ vs) (r : Rel c F H Ω ρ σ) (it : ItOk c J F ds) (h : lc2W G C T1 G1 C1 E vs vs1 ds [] (unb ρ vs) K)
    (k : ∀ acc ρ', K acc ρ' → ∀ D accv F' H' Ω', Stp F H Ω F' H' Ω' → Rel c F' H' Ω' (reb ρ ρ' vs) σ → H' D = some (.lst accv) → F' D = none → Ω' D = none → FzL c F' acc accv → H D = none → Qd D H') :
    ∀ D, H D = none → ∃ Wv : Nat → Nat → Hp → Prop, (∃ m, Wv 0 m (upd H D (.lst []))) ∧ ∀ i m H', Wv i m H' →
      (J.stop i H' ∧ Qd D H') ∨ (J.go i H' ∧ ∃ Nx : Hp → Prop, (∀ H', Nx H' → ∃ m', m' < m ∧ Wv (i + 1) m' H') ∧ ∀ x H'', J.yld i H' x H'' → tOfG ⟨c, io⟩ G x (wipe σ vs) H'' fun σ2 H2 => wipe σ2 vs = wipe σ vs ∧ tOfT c WF C σ2 H2 fun b H3 =>
        if b = true then tOfI c WF T1 σ2 H3 fun J1 H4 => ∃ W1 : Nat → Nat → Hp → Prop, (∃ m, W1 0 m H4) ∧ ∀ j k H', W1 j k H' →
          (J1.stop j H' ∧ Nx H') ∨ (J1.go j H' ∧ ∃ Nx1 : Hp → Prop, (∀ H', Nx1 H' → ∃ k', k' < k ∧ W1 (j + 1) k' H') ∧ ∀ x H'', J1.yld j H' x H'' → tOfG ⟨c, io1⟩ G1 x (wipe σ2 vs1) H'' fun σ3 H5 => wipe σ3 vs1 = wipe σ2 vs1 ∧ tOfT c WF C1 σ3 H5 fun b H6 =>
            if b = true then tOfE c WF E σ3 H6 fun y H7 => ∃ acc, H7 D = some (.lst acc) ∧ acc.length < sizeLine ∧ Nx1 (upd H7 D (.lst (acc ++ [y]))) else Nx1 H6)
        else Nx H3) := by
  intro D hD
  refine ⟨fun i m H' => m = ds.length - i ∧ i ≤ ds.length ∧ ∃ F1 Ω1 ρ1 acc accv, Stp F H Ω F1 H' Ω1 ∧ Rel c F1 H' Ω1 ρ1 (wipe σ vs) ∧ lc2W G C T1 G1 C1 E vs vs1 (ds.drop i) acc ρ1 K ∧ H' D = some (.lst accv) ∧ F1 D = none ∧ Ω1 D = none ∧ FzL c F1 acc accv, ?_, ?_⟩
  · obtain ⟨r2, s2⟩ := rel_new (o := .lst []) r hD
    obtain ⟨hF, hΩ, _, _⟩ := wf_new (o := .lst []) r.wf hD
    exact ⟨_, rfl, Nat.zero_le _, F, Ω, _, [], [], s2, rel_unb r2 vs (wipe_length _ _) fun i hi => wipe_get hi, h, upd_same, hF, hΩ, FzL.nil⟩
  rintro i m H' ⟨rfl, hi, F1, Ω1, ρ1, acc, accv, s1, r1, hw, hDl, hDF, hDΩ, hf⟩
  obtain ⟨igo, istop⟩ := it F1 H' Ω1 s1.ef r1.wf
  by_cases hlt : i < ds.length
  · rw [List.drop_eq_getElem_cons hlt] at hw
    obtain ⟨g1, g2⟩ := igo i hlt
    refine .inr ⟨g1, fun H'' => i + 1 ≤ ds.length ∧ ∃ F1 Ω1 ρ1 acc accv, Stp F H Ω F1 H'' Ω1 ∧ Rel c F1 H'' Ω1 ρ1 (wipe σ vs) ∧ lc2W G C T1 G1 C1 E vs vs1 (ds.drop (i + 1)) acc ρ1 K ∧ H'' D = some (.lst accv) ∧ F1 D = none ∧ Ω1 D = none ∧ FzL c F1 acc accv, fun H'' ⟨l, z⟩ => ⟨_, by omega, rfl, l, z⟩, fun v H2 y => ?_⟩
    obtain ⟨F2, d, e2, hd, fz⟩ := g2 v H2 y
    rw [List.getElem?_eq_getElem hlt] at hd
    cases hd
    have r2 := r1.ext e2
    have s2 := s1.trans e2.stp
    have sl : (wipe σ vs).length = σ.length := wipe_length _ _
    refine ⟨F2, Ω1, ρ1, _, _, r2, fz, hw, fun ρ3 q3 σ3 Ω3 p3 => ⟨?_, ?_⟩⟩
    · rw [← wipe_wipe σ vs]
      refine wipe_eq p3.2.2.1 fun j hj => ?_
      by_cases hjl : j < σ.length
      · exact p3.2.2.2 j (hio j hjl hj)
      · rw [List.getElem?_eq_none (by rw [p3.2.2.1, sl]; omega), List.getElem?_eq_none (by rw [sl]; omega)]
    have back : ∀ j, j ∉ vs → (wipe σ vs)[j]? = σ3[j]? := fun j hj => by
      by_cases hjl : j < σ.length
      · exact (p3.2.2.2 j (hio j hjl hj)).symm
      · rw [List.getElem?_eq_none (by rw [sl]; omega), List.getElem?_eq_none (by rw [p3.2.2.1, sl]; omega)]
    have sl3 : σ3.length = σ.length := by rw [p3.2.2.1, sl]
    have o2 : H2 D = some (.lst accv) ∧ F2 D = none ∧ Ω1 D = none := e2.stp.ou D _ hDl hDF hDΩ
    refine ⟨F2, Ω3, ρ3, _, p3.2.1, q3, fun b ρ4 q4 F4 H4 Ω4 s4 r4 => ?_, fun C' w' ρ' q => q.elim⟩
    have s24 := p3.1.trans s4
    have o4 := s24.ou D _ o2.1 o2.2.1 o2.2.2
    have f4 := FzL.mono (e2.ef.trans s24.ef) _ _ hf
    have st4 := s2.trans s24
    cases b with
    | true =>
      refine iteT ?_
      refine ⟨F4, Ω4, ρ4, _, r4, q4, fun ds1 ρ5 q5 J1 F5 H5 Ω5 s5 r5 it5 => ?_, fun C' w' ρ' q => q.elim⟩
      obtain ⟨hz, q6⟩ := q5
      have o5 := s5.ou D _ o4.1 o4.2.1 o4.2.2
      have sl1 : (wipe σ3 vs1).length = σ3.length := wipe_length _ _
      refine ⟨fun j k H' => k = ds1.length - j ∧ j ≤ ds1.length ∧ ∃ F6 Ω6 ρ6 acc accv, Sub F5 F6 ∧ Stp F H Ω F6 H' Ω6 ∧ Rel c F6 H' Ω6 ρ6 (wipe σ3 vs1) ∧ lcW G1 C1 E vs1 (ds1.drop j) acc ρ6 (fun acc' ρ4 => lc2W G C T1 G1 C1 E vs vs1 (ds.drop (i + 1)) acc' (unb ρ4 vs) K) ∧ H' D = some (.lst accv) ∧ F6 D = none ∧ Ω6 D = none ∧ FzL c F6 acc accv ∧ acc.length + (ds1.length - j) ≤ 16000000, ?_, ?_⟩
      · exact ⟨_, rfl, Nat.zero_le _, F5, Ω5, _, acc, accv, Sub.refl _, st4.trans s5, rel_unb r5 vs1 (wipe_length _ _) fun i hi => wipe_get hi, q6, o5.1, o5.2.1, o5.2.2, FzL.mono s5.ef _ _ f4, hz⟩
      rintro j kk H6 ⟨rfl, hj, F6, Ω6, ρ6, acc6, accv6, s6, st6, r6, hw6, hD6, hF6, hΩ6, hf6, hz6⟩
      obtain ⟨jgo, jstop⟩ := it5 F6 H6 Ω6 s6 r6.wf
      by_cases hjt : j < ds1.length
      · rw [List.drop_eq_getElem_cons hjt] at hw6
        obtain ⟨g3, g4⟩ := jgo j hjt
        refine .inr ⟨g3, fun H'' => j + 1 ≤ ds1.length ∧ ∃ F6 Ω6 ρ6 acc accv, Sub F5 F6 ∧ Stp F H Ω F6 H'' Ω6 ∧ Rel c F6 H'' Ω6 ρ6 (wipe σ3 vs1) ∧ lcW G1 C1 E vs1 (ds1.drop (j + 1)) acc ρ6 (fun acc' ρ4 => lc2W G C T1 G1 C1 E vs vs1 (ds.drop (i + 1)) acc' (unb ρ4 vs) K) ∧ H'' D = some (.lst accv) ∧ F6 D = none ∧ Ω6 D = none ∧ FzL c F6 acc accv ∧ acc.length + (ds1.length - (j + 1)) ≤ 16000000, fun H'' ⟨l, z⟩ => ⟨_, by omega, rfl, l, z⟩, fun v7 H7 y7 => ?_⟩
        obtain ⟨F7, d7, e7, hd7, fz7⟩ := g4 v7 H7 y7
        rw [List.getElem?_eq_getElem hjt] at hd7
        cases hd7
        have r7 := r6.ext e7
        have o7 : H7 D = some (.lst accv6) ∧ F7 D = none ∧ Ω6 D = none := e7.stp.ou D _ hD6 hF6 hΩ6
        refine ⟨F7, Ω6, ρ6, _, _, r7, fz7, hw6, fun ρ8 q8 σ8 Ω8 p8 => ⟨?_, ?_⟩⟩
        · rw [← wipe_wipe σ3 vs1]
          refine wipe_eq p8.2.2.1 fun j hj => ?_
          by_cases hjl : j < σ.length
          · exact p8.2.2.2 j (hio1 j hjl hj)
          · rw [List.getElem?_eq_none (by rw [p8.2.2.1, sl1, sl3]; omega), List.getElem?_eq_none (by rw [sl1, sl3]; omega)]
        have back1 : ∀ j, j ∉ vs1 → (wipe σ3 vs1)[j]? = σ8[j]? := fun j hj => by
          by_cases hjl : j < σ.length
          · exact (p8.2.2.2 j (hio1 j hjl hj)).symm
          · rw [List.getElem?_eq_none (by rw [sl1, sl3]; omega), List.getElem?_eq_none (by rw [p8.2.2.1, sl1, sl3]; omega)]
        have sl8 : (wipe σ3 vs1).length = σ8.length := p8.2.2.1.symm
        refine ⟨F7, Ω8, ρ8, _, p8.2.1, q8, fun b9 ρ9 q9 F9 H9 Ω9 s9 r9 => ?_, fun C' w' ρ' q => q.elim⟩
        have s79 := p8.1.trans s9
        have o9 := s79.ou D _ o7.1 o7.2.1 o7.2.2
        cases b9 with
        | true =>
          refine iteT ?_
          refine ⟨F9, Ω9, ρ9, _, r9, q9, fun e ρ0 q0 v0 F0 H0 Ω0 s0 r0 f0 => ?_, fun C' w' ρ' q => q.elim⟩
          have o0 := s0.ou D _ o9.1 o9.2.1 o9.2.2
          have l6 := hf6.length
          have ext : ∀ {Fa Ha : Hp} {Ωa : Nm}, (∀ b o, Ha b = some o → b ≠ D) → Stp Fa Ha Ωa F0 H0 Ω0 → Stp Fa Ha Ωa F0 (upd H0 D (.lst (accv6 ++ [v0]))) Ω0 := fun nb st => ⟨st.ef, fun b o e1 e2 e3 => by
            obtain ⟨z1, z2, z3⟩ := st.ou b o e1 e2 e3
            refine ⟨?_, z2, z3⟩
            rw [upd_ne (nb b o e1)]
            exact z1⟩
          refine ⟨accv6, o0.1, ?_, hjt, F0, Ω0, _, acc6 ++ [fr e], accv6 ++ [v0], ?_, ext (fun b o e1 => ne_of_none e1 hD) (((st6.trans e7.stp).trans s79).trans s0), rel_unb (rel_out r0 o0.2.1 o0.2.2) vs1 sl8 back1, q0, upd_same, o0.2.1, o0.2.2, ?_, ?_⟩
          · rw [← l6]
            refine Nat.lt_of_lt_of_le (show acc6.length < 16000001 by omega) (by decide)
          · exact s6.trans (e7.ef.trans (s79.ef.trans s0.ef))
          · exact FzL.append (FzL.mono (e7.ef.trans (s79.ef.trans s0.ef)) _ _ hf6) (FzL.cons ((Fz_fr _ _ _ _).mpr f0) FzL.nil)
          · rw [List.length_append, List.length_singleton]
            omega
        | false =>
          refine iteF ?_
          exact ⟨hjt, F9, Ω9, _, acc6, accv6, s6.trans (e7.ef.trans s79.ef), (st6.trans e7.stp).trans s79, rel_unb r9 vs1 sl8 back1, q9, o9.1, o9.2.1, o9.2.2, FzL.mono (e7.ef.trans s79.ef) _ _ hf6, by omega⟩
      · have e : j = ds1.length := by omega
        subst e
        rw [List.drop_eq_nil_of_le (Nat.le_refl _)] at hw6
        refine .inl ⟨jstop, hlt, F6, Ω6, _, acc6, accv6, st6, rel_unb r6 vs (by rw [sl, sl1, sl3]) (fun j hj => ?_), hw6, hD6, hF6, hΩ6, hf6⟩
        rw [wipe_get (σ := σ3) (fun z => hj (hv j z))]
        exact back j hj
    | false =>
      refine iteF ?_
      exact ⟨hlt, F4, Ω4, _, acc, accv, st4, rel_unb r4 vs (by rw [sl, sl3]) back, q4, o4.1, o4.2.1, o4.2.2, f4⟩
  · have e : i = ds.length := by omega
    subst e
    rw [List.drop_eq_nil_of_le (Nat.le_refl _)] at hw
    exact .inl ⟨istop, k acc ρ1 hw D accv F1 H' Ω1 s1 (rel_reb r s1.ef r1) hDl hDF hDΩ hf hD⟩
structure Blk2 (X : Cx) (c : Ct) (io io1 : List Nat) (scope : Scope) (own' : List (Str × Nat)) (tg : Expr) (ifs : List Expr) (tg1 iter1 : Expr) (ifs1 : List Expr) (elt : Expr) (G : DG) (C : DT) (T1 : DL) (G1 : DG) (C1 : DT) (E : DE) : Prop where
  ok : BlkOk X.N X.env.scope scope own'
  g : ∀ (s : Shared) (H : Hp) (C' : Addr) (cl : List (Str × Addr)) (fp : List Addr), PG (X.blk s H scope (PySem.compEnvC scope cl C' X.env) fp) tg (tOfG ⟨c, io⟩ G)
  t : ∀ (s : Shared) (H : Hp) (C' : Addr) (cl : List (Str × Addr)) (fp : List Addr), PTs (X.blk s H scope (PySem.compEnvC scope cl C' X.env) fp) ifs (tOfT c WF C)
  i1 : ∀ (s : Shared) (H : Hp) (C' : Addr) (cl : List (Str × Addr)) (fp : List Addr), PI (X.blk s H scope (PySem.compEnvC scope cl C' X.env) fp) tg1 iter1 (tOfI c WF T1)
  g1 : ∀ (s : Shared) (H : Hp) (C' : Addr) (cl : List (Str × Addr)) (fp : List Addr), PG (X.blk s H scope (PySem.compEnvC scope cl C' X.env) fp) tg1 (tOfG ⟨c, io1⟩ G1)
  t1 : ∀ (s : Shared) (H : Hp) (C' : Addr) (cl : List (Str × Addr)) (fp : List Addr), PTs (X.blk s H scope (PySem.compEnvC scope cl C' X.env) fp) ifs1 (tOfT c WF C1)
  e : ∀ (s : Shared) (H : Hp) (C' : Addr) (cl : List (Str × Addr)) (fp : List Addr), PE (X.blk s H scope (PySem.compEnvC scope cl C' X.env) fp) elt (tOfE c WF E)
theorem frz_lst {F H F1 H1 F' H' : Hp} {Ω Ω1 Ω' : Nm} {ρ' : Env} {σ : L2.St} {D : Addr} {accv : List V} {acc : List Vi.D} (s1 : Stp F H Ω F1 H1 Ω1) (s' : Stp F1 H1 Ω1 F' H' Ω') (r' : Rel c F' H' Ω' ρ' σ) (hD : H' D = some (.lst accv)) (hF : F' D = none) (hΩ : Ω' D = none) (hf : FzL c F' acc accv) (hn : H1 D = none) :
    Stp F H Ω (upd F' D (.lst accv)) H' Ω' ∧ Rel c (upd F' D (.lst accv)) H' Ω' ρ' σ ∧ Fz c (upd F' D (.lst accv)) (.lst false acc) (.ref D) := by
  have sb : Sub F' (upd F' D (.lst accv)) := fun b o e => by rw [upd_ne (ne_of_none e hF)]; exact e
  refine ⟨⟨(s1.trans s').ef.trans sb, fun b o e1 e2 e3 => ?_⟩, ⟨⟨fun b o e => ?_, fun b π e => ?_⟩, fun i d h1 h2 => ?_, r'.len⟩, ?_⟩
  · obtain ⟨z1, z2, z3⟩ := (s1.trans s').ou b o e1 e2 e3
    refine ⟨z1, ?_, z3⟩
    rw [upd_ne ?_]
    · exact z2
    · intro z
      obtain ⟨y1, _, _⟩ := s1.ou b o e1 e2 e3
      rw [z, hn] at y1
      cases y1
  · by_cases hb : b = D
    · rw [hb, upd_same] at e
      cases e
      rw [hb]
      exact hD
    · rw [upd_ne hb] at e
      exact r'.wf.sub b o e
  · obtain ⟨z1, z2⟩ := r'.wf.own b π e
    exact ⟨by rw [upd_ne fun z => by rw [z, hΩ] at e; cases e]; exact z1, z2⟩
  · obtain ⟨v, z1, z2⟩ := r'.sl i d h1 h2
    exact ⟨v, z1, Rv.move sb d _ _ v (fun b π z => ⟨z, rfl⟩) z2⟩
  · simp only [Fz]
    exact ⟨D, accv, rfl, upd_same, FzL.mono sb _ _ hf⟩
/-- [elt for target in iter if .. for target1 in iter1 if ..] -/
theorem E_lc2 {elt tg iter tg1 iter1 : Expr} {ifs ifs1 : List Expr} {scope : Scope} {own' : List (Str × Nat)} {vs1 : List Nat} {pos : Pos} {wi T1 : DL} {G G1 : DG} {C C1 : DT} {E : DE} {io io1 : List Nat} (hc : X.calm = true) (hN : X.N.Nodup) (hio : ∀ i, i < X.N.length → i ∉ own'.map (·.2) → i ∈ io) (hio1 : ∀ i, i < X.N.length → i ∉ vs1 → i ∈ io1) (hv : ∀ i ∈ vs1, i ∈ own'.map (·.2))
    (hi : PI X tg iter (tOfI c W wi)) (b : Blk2 X c io io1 scope own' tg ifs tg1 iter1 ifs1 elt G C T1 G1 C1 E)
    (hs : ∀ x, foldedSetIterable iter X.env x = pure x := by intro _; rfl) (hs1 : ∀ env x, foldedSetIterable iter1 env x = pure x := by intro _ _; rfl) :
    PE X (.ListComp elt [⟨tg, iter, ifs, 0⟩, ⟨tg1, iter1, ifs1, 0⟩] scope pos) (tOfE c W (dLc2 wi G C T1 G1 C1 E (own'.map (·.2)) vs1)) := by
  refine ⟨fun pins s σ H Q I h => (pe_lc2 hc hN hi b.ok hv b.g b.t b.i1 b.g1 b.t1 b.e hs hs1).run pins s σ H Q I ?_⟩
  obtain ⟨F, Ω, ρ, K, r, t, k, kx⟩ := h
  refine ⟨F, Ω, ρ, _, r, t, fun ds ρ1 q J F1 H1 Ω1 s1 r1 it => ?_, kx.imp (Stp.refl _ _ _) fun _ _ _ q => q⟩
  refine lc2_go (by rw [I.len]; exact hio) (by rw [I.len]; exact hio1) hv r1 it q fun acc ρ' q' D accv F' H' Ω' s' r' hD hF hΩ hf hn => ?_
  obtain ⟨a1, a2, a3⟩ := frz_lst s1 s' r' hD hF hΩ hf hn
  exact k _ _ q' (.ref D) _ H' Ω' a1 a2 a3
/-! ### unpacking -/
def dgSeq (n : Nat) (Gs : DGs) : DG := fun d ρ K => match d with
  | .lst _ ds => ds.length = n ∧ Gs ds ρ K
  | .klst ds => ds.length = n ∧ Gs ds ρ K
  | _ => False
theorem G_lst {x : Ct2} {es : List Expr} {k : Nat} {pos : Pos} {Gs : DGs} {n : Nat} (hc : X.calm = true) (hK : x.c.K = X.K) (h : PGs X es (tOfGs x Gs))
    (hn : (assignEach es X.env).length = n := by rfl) (hst : (assignEach es X.env).findIdx? (·.1) = none := by rfl) : PG X (.Tuple es k pos) (tOfG x (dgSeq n Gs)) :=
  (pg_lst hc h hn hst).imp fun v σ H Q h => by
    obtain ⟨F, Ω, ρ, K, d, rl, f, g, k⟩ := h
    cases d with
    | lst o ds =>
      simp only [Fz] at f
      obtain ⟨a, vs, e, h1, h2⟩ := f
      obtain ⟨gl, g⟩ := g
      exact ⟨a, vs, e, SqL.of (rl.wf.sub _ _ h1), by rw [← h2.length]; exact gl, F, Ω, ρ, K, ds, rl, h2, g, k⟩
    | klst ds =>
      simp only [Fz] at f
      obtain ⟨a, vs, e, h1, h2⟩ := f
      obtain ⟨gl, g⟩ := g
      exact ⟨a, vs, e, by rw [← hK]; exact sql_sub rl.wf.sub h1, by rw [← h2.length]; exact gl, F, Ω, ρ, K, ds, rl, h2, g, k⟩
    | _ => exact g.elim
end
end Vi
/-! Vi22: running the forms of Vi17 to Vi21. -/
namespace Vi
open PySem L2

def idK (s : List Nat) (a : Nat) (k : D → Prop) : Prop := match idx s a with
  | some i => k (.int i)
  | none => False
theorem idxK_ss (s : List Nat) (a : Nat) (k : D → Prop) : idxK (.str s) (.str [a]) k = idK s a k := rfl
theorem idK_of {s : List Nat} {a i : Nat} {k : D → Prop} (h : idx s a = some i) (q : k (.int i)) : idK s a k := by
  unfold idK
  rw [h]
  exact q
theorem isStr_s (s : List Nat) : dIdx.isStr (.str s) = true := rfl
theorem fldK_0 (C : Nat) (o : Bool) (d : D) (ds : List D) (k : D → Prop) : fldK C 0 (.ins o C (d :: ds)) k = (own d = false ∧ k d) := by
  apply propext
  exact ⟨fun h => h.2, fun h => ⟨rfl, h⟩⟩
theorem fldK_S (C j : Nat) (o : Bool) (d : D) (ds : List D) (k : D → Prop) : fldK C (j + 1) (.ins o C (d :: ds)) k = fldK C j (.ins o C ds) k := rfl
theorem fsetK_r (C j : Nat) (ds : List D) (v : D) (ρ : Env) (i : Nat) (k : Env → Prop) : fsetK C j (.ins true C ds) v ρ i k = (ds.length = j ∧ eAt (ρ.set i (.ins true C (ds ++ [fr v]))) k) := by
  apply propext
  exact ⟨fun h => h.2, fun h => ⟨rfl, h⟩⟩
theorem isIns_i (C : Nat) (o : Bool) (ds : List D) : isIns C (.ins o C ds) = true := by
  show (C == C) = true
  exact beq_self_eq_true C
/-- a construction -/
structure makeD (C n : Nat) (S : FS) (dds ds : List D) (ρ : Env) (K : R D → Env → Prop) : Prop where
  h1 : ds.length + dds.length + 1 = n
  h2 : S (.ins true C [] :: (ds ++ dds).map fr) fun r posts => match r with
    | .ok .non => ∃ d rest, posts = d :: rest ∧ nz d = true ∧ K (.ok d) ρ
    | .ok _ => False
    | .exc C w => K (.exc C w) ρ
theorem dMake_r {C n : Nat} {S : FS} {dds : List D} {L : DL} {ρ : Env} {K : R D → Env → Prop} : dMake C n S dds L ρ K = L ρ (onOk K fun ds ρ' => makeD C n S dds ds ρ' K) := by
  unfold dMake
  congr 2
  funext ds ρ'
  exact propext ⟨fun h => ⟨h.1, h.2⟩, fun h => ⟨h.1, h.2⟩⟩
theorem make_step {C n : Nat} {S : FS} {dds ds : List D} {ρ : Env} {K : R D → Env → Prop} (h1 : ds.length + dds.length + 1 = n) (h : S (.ins true C [] :: (ds ++ dds).map fr) fun r posts => match r with
    | .ok .non => ∃ d rest, posts = d :: rest ∧ nz d = true ∧ K (.ok d) ρ
    | .ok _ => False
    | .exc C w => K (.exc C w) ρ) : makeD C n S dds ds ρ K := ⟨h1, h⟩
theorem dgTup_t (n : Nat) (Gs : DGs) (ds : List D) (ρ : Env) (K : Env → Prop) : dgTup n Gs (.tup ds) ρ K = (ds.length = n ∧ Gs ds ρ K) := rfl
theorem dgSeq_l (n : Nat) (Gs : DGs) (o : Bool) (ds : List D) (ρ : Env) (K : Env → Prop) : dgSeq n Gs (.lst o ds) ρ K = (ds.length = n ∧ Gs ds ρ K) := rfl
theorem dgSeq_k (n : Nat) (Gs : DGs) (ds : List D) (ρ : Env) (K : Env → Prop) : dgSeq n Gs (.klst ds) ρ K = (ds.length = n ∧ Gs ds ρ K) := rfl
theorem dgCons_c (G : DG) (Gs : DGs) (d : D) (ds : List D) (ρ : Env) (K : Env → Prop) : dgCons G Gs (d :: ds) ρ K = G d ρ fun ρ' => Gs ds ρ' K := rfl
theorem dgNil_n (ρ : Env) (K : Env → Prop) : dgNil [] ρ K = K ρ := by
  apply propext
  exact ⟨fun h => h.2, fun h => ⟨rfl, h⟩⟩
/-- a comprehension of one's own by an invariant -/
theorem lcN_inv {G : DG} {C : DT} {E : DE} {vs : List Nat} {ρ : Env} {K : List D → Env → Prop} (Iv : Nat → List D → Env → Prop) : ∀ (ds : List D) (j : Nat) (acc : List D) (ρ : Env), Iv j acc ρ →
    (∀ i d acc ρ (N : List D → Env → Prop), ds[i]? = some d → Iv (j + i) acc ρ → (∀ acc' ρ', Iv (j + i + 1) acc' ρ' → N acc' ρ') → G d ρ fun ρ1 => C ρ1 fun b ρ2 => match b with
      | .ok true => E ρ2 fun e ρ3 => (match e with | .ok e => N (acc ++ [e]) (unb ρ3 vs) | .exc _ _ => False)
      | .ok false => N acc (unb ρ2 vs)
      | .exc _ _ => False) → (∀ acc ρ, Iv (j + ds.length) acc ρ → K acc ρ) → lcN G C E vs ds acc ρ K
  | [], j, acc, ρ, h0, _, he => he acc ρ h0
  | d :: ds, j, acc, ρ, h0, st, he => by
    refine st 0 d acc ρ (fun acc' ρ' => lcN G C E vs ds acc' ρ' K) rfl h0 fun acc' ρ' h1 => ?_
    refine lcN_inv (ρ := ρ) Iv ds (j + 1) acc' ρ' h1 (fun i d acc ρ N e h k => ?_) fun acc ρ h => he acc ρ ?_
    · have e1 : j + 1 + i = j + (i + 1) := by omega
      rw [e1] at h k
      exact st (i + 1) d acc ρ N (by simpa using e) h k
    · rw [List.length_cons, show j + (ds.length + 1) = j + 1 + ds.length by omega]
      exact h
/-- a comprehension (frozen) by an invariant of its list and the environment -/
theorem lcE_inv {G : DG} {C : DT} {E : DE} {vs : List Nat} {ρ : Env} {K : List D → Env → Prop} (Iv : Nat → List D → Env → Prop) : ∀ (ds : List D) (j : Nat) (acc : List D) (ρ : Env), Iv j acc ρ →
    (∀ i d acc ρ (N : List D → Env → Prop), ds[i]? = some d → Iv (j + i) acc ρ → (∀ acc' ρ', Iv (j + i + 1) acc' ρ' → N acc' ρ') → G d ρ fun ρ1 => C ρ1 fun b ρ2 => match b with
      | .ok true => E ρ2 fun e ρ3 => (match e with | .ok e => N (acc ++ [fr e]) (unb ρ3 vs) | .exc _ _ => False)
      | .ok false => N acc (unb ρ2 vs)
      | .exc _ _ => False) → (∀ acc ρ, Iv (j + ds.length) acc ρ → K acc ρ) → lcW G C E vs ds acc ρ K
  | [], j, acc, ρ, h0, _, he => he acc ρ h0
  | d :: ds, j, acc, ρ, h0, st, he => by
    refine st 0 d acc ρ (fun acc' ρ' => lcW G C E vs ds acc' ρ' K) rfl h0 fun acc' ρ' h1 => ?_
    refine lcE_inv (ρ := ρ) Iv ds (j + 1) acc' ρ' h1 (fun i d acc ρ N e h k => ?_) fun acc ρ h => he acc ρ ?_
    · have e1 : j + 1 + i = j + (i + 1) := by omega
      rw [e1] at h k
      exact st (i + 1) d acc ρ N (by simpa using e) h k
    · rw [List.length_cons, show j + (ds.length + 1) = j + 1 + ds.length by omega]
      exact h
/-- a two-for comprehension by an invariant: the inner loop stands as lcW -/
theorem lc2_inv {G : DG} {C : DT} {T1 : DL} {G1 : DG} {C1 : DT} {E : DE} {vs vs1 : List Nat} {ρ : Env} {K : List D → Env → Prop} (Iv : Nat → List D → Env → Prop) : ∀ (ds : List D) (j : Nat) (acc : List D) (ρ : Env), Iv j acc ρ →
    (∀ i d acc ρ (N : List D → Env → Prop), ds[i]? = some d → Iv (j + i) acc ρ → (∀ acc' ρ', Iv (j + i + 1) acc' ρ' → N acc' ρ') → G d ρ fun ρ1 => C ρ1 fun b ρ2 => match b with
      | .ok true => T1 ρ2 fun r ρ3 => (match r with
        | .ok ds1 => acc.length + ds1.length ≤ 16000000 ∧ lcW G1 C1 E vs1 ds1 acc (unb ρ3 vs1) fun acc' ρ4 => N acc' (unb ρ4 vs)
        | .exc _ _ => False)
      | .ok false => N acc (unb ρ2 vs)
      | .exc _ _ => False) → (∀ acc ρ, Iv (j + ds.length) acc ρ → K acc ρ) → lc2W G C T1 G1 C1 E vs vs1 ds acc ρ K
  | [], j, acc, ρ, h0, _, he => he acc ρ h0
  | d :: ds, j, acc, ρ, h0, st, he => by
    refine st 0 d acc ρ (fun acc' ρ' => lc2W G C T1 G1 C1 E vs vs1 ds acc' ρ' K) rfl h0 fun acc' ρ' h1 => ?_
    refine lc2_inv (ρ := ρ) Iv ds (j + 1) acc' ρ' h1 (fun i d acc ρ N e h k => ?_) fun acc ρ h => he acc ρ ?_
    · have e1 : j + 1 + i = j + (i + 1) := by omega
      rw [e1] at h k
      exact st (i + 1) d acc ρ N (by simpa using e) h k
    · rw [List.length_cons, show j + (ds.length + 1) = j + 1 + ds.length by omega]
      exact h
end Vi
/-! Vi23: dicts. A display of one pair whose key is a tuple. -/
namespace Vi
open PySem L2 PySem.Spec PyProof.Rows

section
variable {X : Cx}
theorem pe_disp1T {k v : Expr} {tk tv : TE} {pos : Pos} (hu : X.A.units + 1 < cLine) (hk : PE X k tk) (hv : PE X v tv) : PE X (.Dict [some k] [v] pos) (fun σ H Q => ∀ p, H p = none → tk σ (upd H p (.dT [])) fun x H1 => tv σ H1 fun y H2 => H2 p = some (.dT []) ∧
    ∃ (b : Addr) (key : List Key), x = .ref b ∧ H2 b = some (.tup (key.map kV)) ∧ Q (.ref p) (upd H2 p (.dT [(key, y)]))) := by
  refine ⟨fun pins s σ H Q I q => ?_⟩
  have hn := I.hok.fresh (Nat.le_refl s.heap.objs.size)
  have I1 := I.laid (a := s.heap.objs.size) (o := .dT []) (h' := s.heap.push { cls := .type "dict", data := .dict #[] }) (t' := s.toks) (fun _ _ q => Heap.get?_push_of_some _ q) (Nat.le_refl _) (dt_empty s.heap I.big)
  have q1 := q _ hn
  rw [arm_eval_Dict, zip_pairTrees [some k] [v] X.env pos rfl rfl, dictDisplay_pairs _ (by intro z; cases z) (by show 1 < 17; decide)]
  refine wpAny_bind (wpAny_standAt (wpAny_bind (wpAny_subDictH (knd := tupleKind (mixKind X.prog X.w)) (show X.A.units < cLine by omega) (by show 1 ≤ 15; decide) ?_)))
  refine pairTrees_cons_walk (thn (hk.run pins _ σ _ _ I1 q1) fun u s1 ⟨x, H1, I1', rx, q2⟩ => thn (hv.run pins s1 σ H1 _ I1' q2) fun w2 s2 ⟨y, H2, I2, ry, q3⟩ => pairTrees_nil_walk ?_)
  obtain ⟨e, b, key, ex, eb, q4⟩ := q3
  subst ex
  obtain rfl : u = Value.ref b := rx
  obtain ⟨z, hd, xs, rel, dd⟩ := dt_of I2.hok e
  cases rel
  refine ⟨[(key, b, w2)], ⟨rfl, rfl, key_of I2.hok eb, True.intro⟩, dd, fun h' tk' dd' hs => ?_⟩
  obtain ⟨q, es, ep, hq, h2, h3, h4, _, h5⟩ := dd'
  refine wpAny_pure ⟨.ref s.heap.objs.size, upd H2 s.heap.objs.size (.dT [(key, y)]), d_write I2 (by rw [e]; exact True.intro) hs ⟨q, hq⟩ ⟨by show 1 ≤ sizeLine; decide, hd, _, .cons ⟨rfl, ?_, ry⟩ .nil, q, es, ep, hq, h2, h3, h4, h5⟩, rfl, q4⟩
  rw [upd_ne (ne_of eb e (fun z => nomatch z))]
  exact eb
end
def keyOf : D → Option Key
  | .int i => some (.inl i)
  | .str s => some (.inr ⟨s.toArray⟩)
  | _ => none
def keysOf : List D → Option (List Key)
  | [] => some []
  | d :: ds => (keyOf d).bind fun k => (keysOf ds).map (k :: ·)
theorem keyOf_fz {c : Ct} {F : Hp} {d : D} {v : V} {k : Key} (h : keyOf d = some k) (f : Fz c F d v) : v = kV k := by
  cases d with
  | int i =>
    cases h
    have e : v = .int i := by simpa only [Fz] using f
    exact e
  | str s =>
    cases h
    have e : v = .str ⟨s.toArray⟩ := by simpa only [Fz] using f
    exact e
  | _ => cases h
theorem keysOf_fz {c : Ct} {F : Hp} : ∀ {ds : List D} {vs : List V} {ks : List Key}, keysOf ds = some ks → FzL c F ds vs → vs = ks.map kV
  | [], vs, ks, h, f => by
    cases h
    simp only [FzL] at f
    rw [f]
    rfl
  | d :: ds, vs, ks, h, f => by
    simp only [FzL] at f
    obtain ⟨v, r, e, h1, h2⟩ := f
    have h' : (keyOf d).bind (fun k => (keysOf ds).map (k :: ·)) = some ks := h
    obtain ⟨k, hk, h3⟩ := Option.bind_eq_some_iff.mp h'
    obtain ⟨ks', hks, h4⟩ := Option.map_eq_some_iff.mp h3
    subst h4
    rw [e, keyOf_fz hk h1, keysOf_fz hks h2]
    rfl
/-- the key that a tuple is -/
def tkK (d : D) (k : List Key → Prop) : Prop := match d with
  | .tup ds => (match keysOf ds with | some ks => k ks | none => False)
  | _ => False
theorem tkK_of {ds : List D} {ks : List Key} {k : List Key → Prop} (h : keysOf ds = some ks) (q : k ks) : tkK (.tup ds) k := by
  show (match keysOf ds with | some ks => k ks | none => False)
  rw [h]
  exact q
theorem tkK_get {d : D} {k : List Key → Prop} (h : tkK d k) : ∃ ds ks, d = .tup ds ∧ keysOf ds = some ks ∧ k ks := by
  cases d with
  | tup ds =>
    have h' : (match keysOf ds with | some ks => k ks | none => False) := h
    cases e : keysOf ds with
    | none => rw [e] at h'; exact h'.elim
    | some ks => rw [e] at h'; exact ⟨ds, ks, rfl, e, h'⟩
  | _ => exact h.elim
section
variable {X : Cx} {c : Ct} {W : WX}
/-- {k: v}, k a tuple: one's own -/
def dDisp1 (Tk Tv : DE) : DE := fun ρ K => Tk ρ (onOk K fun dk ρ1 => Tv ρ1 (onOk K fun dv ρ2 => tkK dk fun key => K (.ok (.dic true (.tup [key]) [fr dv])) ρ2))
theorem N_disp1 {k v : Expr} {Tk Tv : DE} {pos : Pos} (hu : X.A.units + 1 < cLine) (hk : PE X k (tOfE c W Tk)) (hv : PE X v (tOfE c W Tv)) : PE X (.Dict [some k] [v] pos) (tOfN c W (dDisp1 Tk Tv)) := by
  refine (pe_disp1T hu hk hv).imp fun σ H Q h => ?_
  obtain ⟨F, Ω, ρ, K, r0, ht, k, kx⟩ := h
  intro p hp
  obtain ⟨r1, s1⟩ := rel_new (o := .dT []) r0 hp
  obtain ⟨hF, hΩ, _, _⟩ := wf_new (o := .dT []) r0.wf hp
  refine ⟨F, Ω, ρ, _, r1, ht, fun dk ρ1 q1 x F1 H1 Ω1 st1 r2 f1 => ?_, kx.imp s1 fun _ _ _ q => q⟩
  have o1 := st1.ou p _ upd_same hF hΩ
  refine ⟨F1, Ω1, ρ1, _, r2, q1, fun dv ρ2 q2 y F2 H2 Ω2 st2 r3 f2 => ?_, kx.imp (s1.trans st1) fun _ _ _ q => q⟩
  have o2 := st2.ou p _ o1.1 o1.2.1 o1.2.2
  simp only [onOk_ok] at q2
  obtain ⟨ds, ks, rfl, hks, q3⟩ := tkK_get q2
  have f1' := Fz.mono st2.ef _ _ f1
  simp only [Fz] at f1'
  obtain ⟨b, vs, ex, hb, hfl⟩ := f1'
  have ev := keysOf_fz hks hfl
  subst ev
  refine ⟨o2.1, b, ks, ex, r3.wf.sub _ _ hb, ?_⟩
  refine k _ ρ2 q3 (.ref p) F2 _ Ω2 (fun b => if b = p then some [] else none) ⟨((s1.trans st1).trans st2).ef, fun b o e1 e2 e3 => ?_⟩ (rel_out r3 o2.2.1 o2.2.2) ⟨?_, fun b π e => ?_⟩ fun b o e1 e2 e3 => ?_
  · obtain ⟨z1, z2, z3⟩ := ((s1.trans st1).trans st2).ou b o e1 e2 e3
    refine ⟨?_, z2, z3⟩
    rw [upd_ne (ne_of_none e1 hp)]
    exact z1
  · simp only [Rv]
    refine ⟨p, [y], rfl, by simp, upd_same, rfl, ?_⟩
    simp only [RvL]
    exact ⟨y, [], rfl, (Rv_of_own (own_fr dv)).mpr ((Fz_fr _ _ _ _).mpr f2), rfl⟩
  · have e' : (if b = p then some ([] : List Nat) else none) = some π := e
    split at e'
    · rename_i hb
      subst hb
      exact ⟨o2.2.1, o2.2.2, _, upd_same⟩
    · cases e'
  · show (if b = p then some ([] : List Nat) else none) = none
    rw [if_neg (ne_of_none e1 hp)]
end
end Vi
/-! Vi24: what a dict holds: d[k], k in d, k not in d. -/
namespace Vi
open PySem L2 PySem.Spec PyProof.Rows

def vD {κ : Type} [DecidableEq κ] (ks : List κ) (ds : List D) (k : κ) : Option D := ((ks.zip ds).find? fun kv => decide (kv.1 = k)).map (·.2)
theorem vD_vw {κ : Type} [DecidableEq κ] {c : Ct} {F H : Hp} {k : κ} : ∀ {ks : List κ} {ds : List D} {vs : List V}, ks.length = ds.length → VwL c F H ds vs →
    match vD ks ds k with
    | none => valV (ks.zip vs) k = none
    | some d => ∃ v, valV (ks.zip vs) k = some v ∧ Vw c F H d v
  | [], _, _, _, _ => rfl
  | a :: ks, [], _, h, _ => by cases h
  | a :: ks, d :: ds, vs, hl, f => by
    match vs, f.1 with
    | v :: vs, hl2 =>
      have f' : VwL c F H ds vs := ⟨by simpa using f.1, fun i x e => f.2 (i + 1) x (by simpa using e)⟩
      have ih := vD_vw (k := k) (ks := ks) (by simpa using hl) f'
      by_cases hk : a = k
      · have e1 : vD (a :: ks) (d :: ds) k = some d := by unfold vD; simp [List.find?_cons, hk]
        have e2 : valV ((a :: ks).zip (v :: vs)) k = some v := by unfold valV; simp [List.find?_cons, hk]
        rw [e1, e2]
        obtain ⟨v', q1, q2⟩ := f.2 0 d rfl
        cases q1
        exact ⟨v, rfl, q2⟩
      · have e1 : vD (a :: ks) (d :: ds) k = vD ks ds k := by unfold vD; simp [List.find?_cons, hk]
        have e2 : valV ((a :: ks).zip (v :: vs)) k = valV (ks.zip vs) k := by unfold valV; simp [List.find?_cons, hk]
        rw [e1, e2]
        exact ih
/-- what the dict d holds at y -/
def dkK (d y : D) (k : Option D → Prop) : Prop := match d with
  | .dic _ (.one ks) ds => (match keyOf y with | some q => k (vD ks ds q) | none => False)
  | .dic _ (.tup ks) ds => tkK y fun q => k (vD ks ds q)
  | _ => False
theorem dkK_t {o : Bool} {ks : List (List Key)} {ds ys : List D} {q : List Key} {k : Option D → Prop} (h : keysOf ys = some q) (z : k (vD ks ds q)) : dkK (.dic o (.tup ks) ds) (.tup ys) k := tkK_of h z
theorem dkK_o {o : Bool} {ks : List Key} {ds : List D} {y : D} {q : Key} {k : Option D → Prop} (h : keyOf y = some q) (z : k (vD ks ds q)) : dkK (.dic o (.one ks) ds) y k := by
  show (match keyOf y with | some q => k (vD ks ds q) | none => False)
  rw [h]
  exact z
theorem dkK_get {c : Ct} {F H : Hp} {Ω : Nm} {d y : D} {v u : V} {k : Option D → Prop} (w : Wf F H Ω) (hd : Vw c F H d v) (hy : Fz c F y u) (h : dkK d y k) :
    ∃ a r rv, v = .ref a ∧ DGet H a u rv ∧ k r ∧ (match r with | none => rv = none | some e => ∃ z, rv = some z ∧ Vw c F H e z) := by
  cases d with
  | dic o ks ds =>
    cases ks with
    | one ks =>
      obtain ⟨a, vs, e, h1, h2, h3⟩ := hd.dic w
      have h' : (match keyOf y with | some q => k (vD ks ds q) | none => False) := h
      cases e1 : keyOf y with
      | none => rw [e1] at h'; exact h'.elim
      | some q =>
        rw [e1] at h'
        exact ⟨a, _, _, e, .inl ⟨ks.zip vs, q, h1, keyOf_fz e1 hy, rfl⟩, h', vD_vw h2 h3⟩
    | tup ks =>
      obtain ⟨a, vs, e, h1, h2, h3⟩ := hd.dic w
      obtain ⟨ys, q, ey, hq, hk⟩ := tkK_get (show tkK y fun q => k (vD ks ds q) from h)
      subst ey
      simp only [Fz] at hy
      obtain ⟨b, us, eu, hb, hf⟩ := hy
      have ev := keysOf_fz hq hf
      subst ev
      exact ⟨a, _, _, e, .inr ⟨ks.zip vs, q, b, h1, eu, w.sub _ _ hb, rfl⟩, hk, vD_vw h2 h3⟩
  | _ => exact h.elim
def haveK (r : Option D) (k : D → Prop) : Prop := match r with
  | some d => own d = false ∧ k d
  | none => False
theorem haveK_s (d : D) (k : D → Prop) : haveK (some d) k = (own d = false ∧ k d) := rfl
section
variable {X : Cx} {c : Ct} {W : WX}
def dDget (O : DO) (T : DE) : DE := fun ρ K => O ρ (onOk K fun o ρ1 => T ρ1 (onOk K fun y ρ2 => nz (see ρ2 o) = true ∧ dkK (see ρ2 o) y fun r => haveK r fun d => K (.ok d) ρ2))
theorem E_dget {o i : Expr} {O : DO} {T : DE} {pos : Pos} (hu : X.A.units + 1 < cLine) (ho : PE X o (tOfO c W O)) (hi : PE X i (tOfE c W T)) (hs : NoSl i) : PE X (.Subscript o i pos) (tOfE c W (dDget O T)) := by
  refine (pe_dget hu ho hi hs).imp fun σ H Q h => ?_
  obtain ⟨F, Ω, ρ, K, r0, ht, k, kx⟩ := h
  refine ⟨F, Ω, ρ, _, r0, ht, fun x ρ1 q1 v F1 H1 Ω1 s1 r1 f1 => ?_, kx.imp (Stp.refl _ _ _) fun _ _ _ q => q⟩
  refine ⟨F1, Ω1, ρ1, _, r1, q1, fun y ρ2 q2 u F2 H2 Ω2 s2 r2 f2 => ?_, kx.imp s1 fun _ _ _ q => q⟩
  simp only [onOk_ok] at q2
  obtain ⟨hn, q3⟩ := q2
  obtain ⟨a, r, rv, ev, g, hk, hr⟩ := dkK_get r2.wf ((f1.mono s2.ef).vw r2 hn) f2 q3
  cases r with
  | none => exact hk.elim
  | some d =>
    obtain ⟨z, ez, vz⟩ := hr
    subst ez
    exact ⟨a, z, ev, g, k d ρ2 hk.2 z F2 H2 Ω2 (s1.trans s2) r2 (vz.fz hk.1)⟩
def dDin (g : Bool → Bool) (T : DE) (O : DO) : DE := fun ρ K => T ρ (onOk K fun y ρ1 => O ρ1 (onOk K fun o ρ2 => nz (see ρ2 o) = true ∧ dkK (see ρ2 o) y fun r => K (.ok (.bl (g r.isSome))) ρ2))
theorem run_din {T : DE} {O : DO} {g : Bool → Bool} {σ : L2.St} {H : Hp} {Q : VK} (h : tOfE c W (dDin g T O) σ H Q) : tOfE c W T σ H fun y H1 => tOfO c W O σ H1 fun x H2 => ∃ a o, x = .ref a ∧ DGet H2 a y o ∧ Q (.bl (g o.isSome)) H2 := by
  obtain ⟨F, Ω, ρ, K, r0, ht, k, kx⟩ := h
  refine ⟨F, Ω, ρ, _, r0, ht, fun y ρ1 q1 u F1 H1 Ω1 s1 r1 f1 => ?_, kx.imp (Stp.refl _ _ _) fun _ _ _ q => q⟩
  refine ⟨F1, Ω1, ρ1, _, r1, q1, fun o ρ2 q2 v F2 H2 Ω2 s2 r2 f2 => ?_, kx.imp s1 fun _ _ _ q => q⟩
  simp only [onOk_ok] at q2
  obtain ⟨hn, q3⟩ := q2
  obtain ⟨a, r, rv, ev, gg, hk, hr⟩ := dkK_get r2.wf (f2.vw r2 hn) (Fz.mono s2.ef _ _ f1) q3
  have e : rv.isSome = r.isSome := by
    cases r with
    | none =>
      have hr' : rv = none := hr
      rw [hr']
      rfl
    | some d =>
      obtain ⟨z, ez, _⟩ := hr
      rw [ez]
      rfl
  refine ⟨a, rv, ev, gg, ?_⟩
  rw [e]
  exact k _ ρ2 hk _ F2 H2 Ω2 (s1.trans s2) r2 fz_bl
theorem E_din {i o : Expr} {T : DE} {O : DO} {pos : Pos} (hu : X.A.units + 1 < cLine) (hi : PE X i (tOfE c W T)) (ho : PE X o (tOfO c W O)) (hm : behindInMarks .In o = false) : PE X (.Compare i [.In] [o] pos) (tOfE c W (dDin id T O)) :=
  (pe_cmp (pc_din hu hi ho) hm).imp fun _ _ _ h => run_din h
theorem E_dnotin {i o : Expr} {T : DE} {O : DO} {pos : Pos} (hu : X.A.units + 1 < cLine) (hi : PE X i (tOfE c W T)) (ho : PE X o (tOfO c W O)) (hm : behindInMarks .NotIn o = false) : PE X (.Compare i [.NotIn] [o] pos) (tOfE c W (dDin not T O)) :=
  (pe_cmp (pc_dnotin hu hi ho) hm).imp fun _ _ _ h => run_din h
theorem T_din {i o : Expr} {T : DE} {O : DO} {pos : Pos} (hu : X.A.units + 1 < cLine) (hi : PE X i (tOfE c W T)) (ho : PE X o (tOfO c W O)) (hm : behindInMarks .In o = false) : PT X (.Compare i [.In] [o] pos) (tOfT c W (dB (dDin id T O))) :=
  (pt_cmp (pc_din hu hi ho) hm).imp fun _ _ _ h => run_din (tB_of h)
theorem T_dnotin {i o : Expr} {T : DE} {O : DO} {pos : Pos} (hu : X.A.units + 1 < cLine) (hi : PE X i (tOfE c W T)) (ho : PE X o (tOfO c W O)) (hm : behindInMarks .NotIn o = false) : PT X (.Compare i [.NotIn] [o] pos) (tOfT c W (dB (dDin not T O))) :=
  (pt_cmp (pc_dnotin hu hi ho) hm).imp fun _ _ _ h => run_din (tB_of h)
end
end Vi
/-! Vi25: a store into a dict of one's own. -/
namespace Vi
open PySem L2 PySem.Spec PyProof.Rows

/-- the values behind d[k] = v, and the keys -/
def pKs {κ : Type} [DecidableEq κ] (ks : List κ) (ds : List D) (k : κ) : List κ := if ((ks.zip ds).any fun kv => decide (kv.1 = k)) = true then ks else ks ++ [k]
def pDs {κ : Type} [DecidableEq κ] (ks : List κ) (ds : List D) (k : κ) (v : D) : List D := if ((ks.zip ds).any fun kv => decide (kv.1 = k)) = true then (ks.zip ds).map (fun kv => if kv.1 = k then v else kv.2) else ds ++ [v]
theorem any_zip {κ : Type} [DecidableEq κ] {k : κ} {α β : Type} : ∀ {ks : List κ} {ds : List α} {vs : List β}, ks.length = ds.length → ds.length = vs.length → ((ks.zip ds).any fun kv => decide (kv.1 = k)) = ((ks.zip vs).any fun kv => decide (kv.1 = k))
  | [], _, _, _, _ => rfl
  | a :: ks, [], _, h, _ => by cases h
  | a :: ks, d :: ds, [], _, h => by cases h
  | a :: ks, d :: ds, v :: vs, h, g => by
    simp only [List.zip_cons_cons, List.any_cons]
    rw [any_zip (ks := ks) (ds := ds) (vs := vs) (by simpa using h) (by simpa using g)]
theorem RvL.mapK {κ : Type} [DecidableEq κ] {c : Ct} {F H : Hp} {Θ : Nm} {k : κ} {d : D} {v : V} (hd : Fz c F d v) (ho : own d = false) : ∀ {ks : List κ} {ds : List D} {vs : List V} {π : List Nat} {j : Nat}, ks.length = ds.length → RvL c F H Θ ds π j vs →
    ∃ ws, (ks.zip vs).map (fun kv => if kv.1 = k then (kv.1, v) else kv) = ks.zip ws ∧ RvL c F H Θ ((ks.zip ds).map fun kv => if kv.1 = k then d else kv.2) π j ws
  | [], [], vs, π, j, _, h => ⟨[], rfl, by simp only [List.zip_nil_left, List.map_nil, RvL]⟩
  | [], d' :: ds, vs, π, j, hl, h => by cases hl
  | a :: ks, [], vs, π, j, hl, h => by cases hl
  | a :: ks, e :: ds, vs, π, j, hl, h => by
    simp only [RvL] at h
    obtain ⟨u, r, e1, h1, h2⟩ := h
    subst e1
    obtain ⟨ws, q1, q2⟩ := RvL.mapK (k := k) hd ho (ks := ks) (by simpa using hl) h2
    by_cases hk : a = k
    · refine ⟨v :: ws, by simp only [List.zip_cons_cons, List.map_cons, if_pos hk, q1], ?_⟩
      simp only [List.zip_cons_cons, List.map_cons, if_pos hk, RvL]
      exact ⟨v, ws, rfl, (Rv_of_own ho).mpr hd, q2⟩
    · refine ⟨u :: ws, by simp only [List.zip_cons_cons, List.map_cons, if_neg hk, q1], ?_⟩
      simp only [List.zip_cons_cons, List.map_cons, if_neg hk, RvL]
      exact ⟨u, ws, rfl, h1, q2⟩
theorem put_zip {κ : Type} [DecidableEq κ] {c : Ct} {F H : Hp} {Θ : Nm} {k : κ} {d : D} {v : V} (hd : Fz c F d v) (ho : own d = false) {ks : List κ} {ds : List D} {vs : List V} {π : List Nat} (hl : ks.length = ds.length) (h : RvL c F H Θ ds π 0 vs) :
    ∃ ws, L2.putK (ks.zip vs) k v = (pKs ks ds k).zip ws ∧ RvL c F H Θ (pDs ks ds k d) π 0 ws ∧ (pKs ks ds k).length = (pDs ks ds k d).length := by
  have e := any_zip (k := k) hl h.length
  unfold L2.putK pKs pDs
  rw [← e]
  by_cases hc : ((ks.zip ds).any fun kv => decide (kv.1 = k)) = true
  · rw [if_pos hc, if_pos hc, if_pos hc]
    obtain ⟨ws, q1, q2⟩ := RvL.mapK (k := k) hd ho hl h
    exact ⟨ws, q1, q2, by rw [List.length_map, List.length_zip, hl, Nat.min_self]⟩
  · rw [if_neg hc, if_neg hc, if_neg hc]
    refine ⟨vs ++ [v], ?_, RvL.append h ((Rv_of_own ho).mpr hd), by rw [List.length_append, List.length_append, hl]; rfl⟩
    rw [List.zip_append (by rw [hl, h.length])]
    rfl
/-- d[y] = v upon data -/
def dputK (d y v : D) (ρ : Env) (j : Nat) (k : Env → Prop) : Prop := match d with
  | .dic true (.one ks) ds => (match keyOf y with | some q => ds.length < 16000000 ∧ k (ρ.set j (.dic true (.one (pKs ks ds q)) (pDs ks ds q (fr v)))) | none => False)
  | .dic true (.tup ks) ds => tkK y fun q => ds.length < 16000000 ∧ k (ρ.set j (.dic true (.tup (pKs ks ds q)) (pDs ks ds q (fr v))))
  | _ => False
section
variable {X : Cx} {x : Ct2} {W : WX}
def dDput (j : Nat) (Tk Tv : DE) : DS := fun ρ K => Tv ρ (onFl K fun d ρ1 => nz (gt ρ1 j) = true ∧ Tk ρ1 fun r ρ2 => exF r fun y => dputK (gt ρ2 j) y d ρ2 j fun ρ3 => K .nx ρ3)
theorem S_dput {j : Nat} {y : Str} {ei ev : Expr} {Tk Tv : DE} {p tpos pos : Pos} (hu : X.A.units + 1 < cLine) (hN : X.N[j]? = some y) (hv : Vis X.env.scope y) (hi : PE X ei (tOfE x.c W Tk)) (he : PE X ev (tOfE x.c W Tv)) (hd : (y == ("__debug__" : Str)) = false := by decide) (hcd : (y == ("__classdict__" : Str)) = false := by decide)
    (hs : swapsWith ev (some (.Subscript (.Name y p) ei tpos)) pos.line X.env = pure false := by rfl) : PS X (.Assign [.Subscript (.Name y p) ei tpos] ev pos) (tOfS x W (dDput j Tk Tv)) := by
  refine (ps_dput hu (pe_var hN hv hd hcd) hi he hs).imp fun De σ H h => ?_
  obtain ⟨F, Ω, ρ, K, r, t, w⟩ := tOfS_iff.mp h
  refine ⟨F, Ω, ρ, _, r, t, fun d ρ1 q v F1 H1 Ω1 s1 r1 f1 => ?_, w.exw⟩
  obtain ⟨hn, q⟩ := q
  obtain ⟨u, q1, q2⟩ := r1.sl j _ (gt_some hn) (nz_ne hn)
  refine ⟨u, q1, F1, Ω1, ρ1, _, r1, q, fun ky ρ2 q3 vk F2 H2 Ω2 s2 r2 f2 => ?_, fun C w ρ' q => q.elim⟩
  have q3 : dputK (gt ρ2 j) ky d ρ2 j fun ρ3 => K .nx ρ3 := q3
  generalize hz : gt ρ2 j = z at q3
  have fd := Fz.mono s2.ef _ _ f1
  have ffr : Fz x.c F2 (fr d) v := (Fz_fr _ _ _ _).mpr fd
  -- the dict's object, and what stands behind the store
  have fin : ∀ (ks : DKs) (ds : List D) (ks' : DKs) (ds' : List D), z = .dic true ks ds → (∀ (a : Addr) (vs : List V), H2 a = some (ks.ho vs) → ks.len = ds.length → RvL x.c F2 H2 Ω2 ds [j] 0 vs → ∃ ws, DPut H2 a vk v (upd H2 a (ks'.ho ws)) ∧ ks'.len = ds'.length ∧ RvL x.c F2 H2 Ω2 ds' [j] 0 ws) →
      K .nx (ρ2.set j (.dic true ks' ds')) → ∃ a H4, u = .ref a ∧ DPut H2 a vk v H4 ∧ De.nx σ H4 := by
    intro ks ds ks' ds' ez hp hk
    rw [ez] at hz
    have hn1 : nz (gt ρ2 j) = true := by rw [hz]; rfl
    have hs1 := gt_some hn1
    obtain ⟨v', z1, z2⟩ := r2.sl j _ hs1 (nz_ne hn1)
    rw [q1] at z1
    cases z1
    rw [hz] at z2
    simp only [Rv] at z2
    obtain ⟨a, vs, e1, hA, hH, hl, hr⟩ := z2
    obtain ⟨ws, g1, g2, g3⟩ := hp a vs hH hl hr
    refine ⟨a, _, e1, g1, ?_⟩
    subst e1
    refine w.nx _ hk σ F2 _ Ω2 ⟨s1.trans (chg_stp s2 hA fun b o e1 e2 e3 => (s2.ou b o e1 e2 e3).2.2), chg_slot r2 (List.getElem?_eq_some_iff.mp hs1).1 q1 hA ?_ (fun _ _ e => e) fun b π e => r2.wf.own b π e, Io.refl _ _⟩
    simp only [Rv]
    refine ⟨a, ws, rfl, hA, upd_same, g2, RvL.move (Sub.refl _) ds' [j] [j] 0 ws (fun b i π e => ⟨e, upd_ne fun y => ?_⟩) g3⟩
    rw [y, hA] at e
    simp at e
  cases z with
  | dic o ks ds =>
    cases o with
    | false => exact q3.elim
    | true =>
      cases ks with
      | one ks =>
        have q4 : (match keyOf ky with | some q => ds.length < 16000000 ∧ K .nx (ρ2.set j (.dic true (.one (pKs ks ds q)) (pDs ks ds q (fr d)))) | none => False) := q3
        cases e : keyOf ky with
        | none => rw [e] at q4; exact q4.elim
        | some q =>
          rw [e] at q4
          refine fin (.one ks) ds (.one (pKs ks ds q)) (pDs ks ds q (fr d)) rfl (fun a vs hH hl hr => ?_) q4.2
          obtain ⟨ws, g1, g2, g3⟩ := put_zip (k := q) ffr (own_fr d) (by exact hl) hr
          refine ⟨ws, ?_, g3, g2⟩
          rw [keyOf_fz e f2]
          show DPut H2 a (kV q) v (upd H2 a (.dK ((pKs ks ds q).zip ws)))
          rw [← g1]
          refine DPut.k hH ?_
          rw [List.length_zip, ← hr.length]
          exact Nat.lt_of_le_of_lt (Nat.min_le_right _ _) (Nat.lt_of_lt_of_le q4.1 (by decide))
      | tup ks =>
        obtain ⟨ys, q, ey, hq, hk⟩ := tkK_get (show tkK ky fun q => ds.length < 16000000 ∧ K .nx (ρ2.set j (.dic true (.tup (pKs ks ds q)) (pDs ks ds q (fr d)))) from q3)
        subst ey
        simp only [Fz] at f2
        obtain ⟨b, us, eu, hb, hf⟩ := f2
        have ev := keysOf_fz hq hf
        subst ev
        refine fin (.tup ks) ds (.tup (pKs ks ds q)) (pDs ks ds q (fr d)) rfl (fun a vs hH hl hr => ?_) hk.2
        obtain ⟨ws, g1, g2, g3⟩ := put_zip (k := q) ffr (own_fr d) (by exact hl) hr
        refine ⟨ws, ?_, g3, g2⟩
        rw [eu]
        show DPut H2 a (.ref b) v (upd H2 a (.dT ((pKs ks ds q).zip ws)))
        rw [← g1]
        refine DPut.t hH (r2.wf.sub _ _ hb) ?_
        rw [List.length_zip, ← hr.length]
        exact Nat.lt_of_le_of_lt (Nat.min_le_right _ _) (Nat.lt_of_lt_of_le hk.1 (by decide))
  | _ => exact q3.elim
end
end Vi
/-! Vi26: running the forms of Vi23 to Vi25; while by an invariant; equality of mapped data. -/
namespace Vi
open PySem L2

theorem own_und : own .und = false := rfl
theorem wb_v4 (ρ : Env) (a b e f : D) (ds : List D) : wb ρ [.vl a, .vl b, .vl e, .vl f] ds = ρ := by
  cases ds with
  | nil => rfl
  | cons d ds => exact wb_v3 ρ b e f ds
theorem wb_v5 (ρ : Env) (a b e f g : D) (ds : List D) : wb ρ [.vl a, .vl b, .vl e, .vl f, .vl g] ds = ρ := by
  cases ds with
  | nil => rfl
  | cons d ds => exact wb_v4 ρ b e f g ds
theorem wb_v6 (ρ : Env) (a b e f g h : D) (ds : List D) : wb ρ [.vl a, .vl b, .vl e, .vl f, .vl g, .vl h] ds = ρ := by
  cases ds with
  | nil => rfl
  | cons d ds => exact wb_v5 ρ b e f g h ds
theorem while_dn {T : DT} {B : DS} {ρ : Env} {K : Fl → Env → Prop} (I : Env → Prop) (m : Env → Nat) (h0 : I ρ) (st : ∀ ρ, I ρ → T ρ (onFl K fun b ρ1 => if b = true then B ρ1 (turnK K fun ρ2 => I ρ2 ∧ m ρ2 < m ρ) else K .nx ρ1)) : dWhile T B ρ K := ⟨I, m, h0, st⟩
theorem dDisp1_r {Tk Tv : DE} {ρ : Env} {K : R D → Env → Prop} : dDisp1 Tk Tv ρ K = Tk ρ (onOk K fun dk ρ1 => Tv ρ1 (onOk K fun dv ρ2 => tkK dk fun key => dAt (fr dv) fun dv' => K (.ok (.dic true (.tup [key]) [dv'])) ρ2)) := rfl
theorem tkK_ii (a b : Int) (k : List Key → Prop) : tkK (.tup [.int a, .int b]) k = k [.inl a, .inl b] := rfl
theorem dkK_tr (o : Bool) (ks : List (List Key)) (ds : List D) (y : D) (k : Option D → Prop) : dkK (.dic o (.tup ks) ds) y k = tkK y fun q => k (vD ks ds q) := rfl
theorem dkK_or (o : Bool) (ks : List Key) (ds : List D) (y : D) (k : Option D → Prop) : dkK (.dic o (.one ks) ds) y k = (match keyOf y with | some q => k (vD ks ds q) | none => False) := rfl
theorem dkK_oi (o : Bool) (ks : List Key) (ds : List D) (y : Int) (k : Option D → Prop) : dkK (.dic o (.one ks) ds) (.int y) k = k (vD ks ds (.inl y)) := rfl
theorem dkK_os (o : Bool) (ks : List Key) (ds : List D) (y : List Nat) (k : Option D → Prop) : dkK (.dic o (.one ks) ds) (.str y) k = k (vD ks ds (.inr ⟨y.toArray⟩)) := rfl
theorem haveK_of {r : Option D} {d : D} {k : D → Prop} (h : r = some d) (h2 : own d = false) (q : k d) : haveK r k := by
  rw [h]
  exact ⟨h2, q⟩
theorem dputK_t (ks : List (List Key)) (ds : List D) (y v : D) (ρ : Env) (j : Nat) (k : Env → Prop) : dputK (.dic true (.tup ks) ds) y v ρ j k = tkK y fun q => ds.length < 16000000 ∧ eAt (ρ.set j (.dic true (.tup (pKs ks ds q)) (pDs ks ds q (fr v)))) k := rfl
theorem dputK_oi (ks : List Key) (ds : List D) (y : Int) (v : D) (ρ : Env) (j : Nat) (k : Env → Prop) : dputK (.dic true (.one ks) ds) (.int y) v ρ j k = (ds.length < 16000000 ∧ eAt (ρ.set j (.dic true (.one (pKs ks ds (.inl y))) (pDs ks ds (.inl y) (fr v)))) k) := rfl
theorem dputK_os (ks : List Key) (ds : List D) (y : List Nat) (v : D) (ρ : Env) (j : Nat) (k : Env → Prop) : dputK (.dic true (.one ks) ds) (.str y) v ρ j k = (ds.length < 16000000 ∧ eAt (ρ.set j (.dic true (.one (pKs ks ds (.inr ⟨y.toArray⟩))) (pDs ks ds (.inr ⟨y.toArray⟩) (fr v)))) k) := rfl
theorem own_all_map {α : Type} {f : α → D} (h : ∀ a, own (f a) = false) (l : List α) : ((l.map f).all fun d => !own d) = true := by
  rw [List.all_map]
  exact List.all_eq_true.mpr fun a _ => by show (!own (f a)) = true; rw [h]; rfl
theorem eqDs_map {α : Type} {f : α → D} : ∀ {l : List α}, (∀ a ∈ l, eqD (f a) (f a) = true) → eqDs (l.map f) (l.map f) = true
  | [], _ => eqDs_nn
  | a :: l, h => by
    rw [List.map_cons, eqDs_cc, h a List.mem_cons_self, eqDs_map fun b hb => h b (List.mem_cons_of_mem _ hb)]
    rfl
theorem shps_map {α : Type} {f : α → D} {n : Nat} : ∀ {l : List α}, (∀ a ∈ l, shp n (f a) = true) → shps n (l.map f) = true
  | [], _ => shps_n n
  | a :: l, h => by
    rw [List.map_cons, shps_c, h a List.mem_cons_self, shps_map fun b hb => h b (List.mem_cons_of_mem _ hb)]
    rfl
theorem joinL_nil : ∀ ys : List (List Nat), TL.joinL [] ys = ys.flatten
  | [] => rfl
  | [x] => by simp [TL.joinL]
  | x :: y :: ys => by
    have h := joinL_nil (y :: ys)
    show x ++ ([] ++ TL.joinL [] (y :: ys)) = _
    rw [h]
    rfl
theorem vD_at {κ : Type} [DecidableEq κ] {ks : List κ} {ds : List D} {i : Nat} {k : κ} {d : D} (nd : ks.Nodup) (hk : ks[i]? = some k) (hd : ds[i]? = some d) : vD ks ds k = some d := by
  unfold vD
  induction ks generalizing ds i with
  | nil => cases hk
  | cons a ks ih =>
    cases ds with
    | nil => cases hd
    | cons e ds =>
      rw [List.zip_cons_cons, List.find?_cons]
      cases i with
      | zero =>
        cases hk; cases hd
        simp
      | succ i =>
        have ne : ¬ a = k := fun e => by
          subst e
          exact (List.nodup_cons.mp nd).1 (List.mem_of_getElem? (by simpa using hk))
        simp only [ne, decide_false]
        exact ih (List.nodup_cons.mp nd).2 (by simpa using hk) (by simpa using hd)
theorem vD_none {κ : Type} [DecidableEq κ] {ks : List κ} {ds : List D} {k : κ} (h : k ∉ ks) : vD ks ds k = none := by
  unfold vD
  rw [Option.map_eq_none_iff, List.find?_eq_none]
  intro x hx e
  rw [decide_eq_true_iff] at e
  exact h (e ▸ (List.of_mem_zip (a := x.1) (b := x.2) hx).1)
theorem any_none {κ : Type} [DecidableEq κ] {ks : List κ} {ds : List D} {k : κ} (h : k ∉ ks) : ((ks.zip ds).any fun kv => decide (kv.1 = k)) = false := by
  rw [Bool.eq_false_iff, Ne, List.any_eq_true]
  rintro ⟨x, hx, e⟩
  rw [decide_eq_true_iff] at e
  exact h (e ▸ (List.of_mem_zip (a := x.1) (b := x.2) hx).1)
theorem pKs_new {κ : Type} [DecidableEq κ] {ks : List κ} {ds : List D} {k : κ} (h : k ∉ ks) : pKs ks ds k = ks ++ [k] := by
  unfold pKs
  rw [any_none h]
  rfl
theorem pDs_new {κ : Type} [DecidableEq κ] {ks : List κ} {ds : List D} {k : κ} {v : D} (h : k ∉ ks) : pDs ks ds k v = ds ++ [v] := by
  unfold pDs
  rw [any_none h]
  rfl
/-- the items of a variable that is a text, a tuple or a list -/
def itK (d : D) (k : List D → Prop) : Prop := match d with
  | .str s => k (s.map fun c => .str [c])
  | .tup ds => k ds
  | .lst _ ds => k ds
  | .klst ds => k ds
  | _ => False
theorem itK_s (s : List Nat) (k : List D → Prop) : itK (.str s) k = k (s.map fun c => .str [c]) := rfl
theorem itK_t (ds : List D) (k : List D → Prop) : itK (.tup ds) k = k ds := rfl
theorem itK_l (o : Bool) (ds : List D) (k : List D → Prop) : itK (.lst o ds) k = k ds := rfl
theorem itK_k (ds : List D) (k : List D → Prop) : itK (.klst ds) k = k ds := rfl
def dItV (i : Nat) : DL := fun ρ K => dVar i ρ (onOk K fun d ρ' => itK d fun s => K (.ok s) ρ')
section
variable {X : Cx} {c : Ct} {W : WX}
theorem I_var {tg iter : Expr} {i : Nat} (hl : PI X tg iter (tOfI c W (dItL (dVar i)))) (ht : PI X tg iter (tOfI c W (dItT (dVar i)))) (hs : PI X tg iter (tOfI c W (dItS (dVar i)))) : PI X tg iter (tOfI c W (dItV i)) := ⟨fun pins s σ H R I h => by
  obtain ⟨F, Ω, ρ, K, r, t, k, kx⟩ := h
  obtain ⟨hn, t⟩ := t
  simp only [onOk_ok] at t
  cases e : gt ρ i with
  | str x =>
    refine hs.run pins s σ H R I ⟨F, Ω, ρ, K, r, ⟨hn, ?_⟩, k, kx⟩
    simp only [onOk_ok]
    rw [e] at t ⊢
    exact t
  | tup x =>
    refine ht.run pins s σ H R I ⟨F, Ω, ρ, K, r, ⟨hn, ?_⟩, k, kx⟩
    simp only [onOk_ok]
    rw [e] at t ⊢
    exact t
  | lst o x =>
    refine hl.run pins s σ H R I ⟨F, Ω, ρ, K, r, ⟨hn, ?_⟩, k, kx⟩
    simp only [onOk_ok]
    rw [e] at t ⊢
    exact t
  | klst x =>
    refine hl.run pins s σ H R I ⟨F, Ω, ρ, K, r, ⟨hn, ?_⟩, k, kx⟩
    simp only [onOk_ok]
    rw [e] at t ⊢
    exact t
  | _ => rw [e] at t; exact t.elim⟩
theorem fr_id {d : D} (h : own d = false) : fr d = d := by
  cases d with
  | lst o xs => cases o with | true => cases h | false => rfl
  | dic o ks xs => cases o with | true => cases h | false => rfl
  | ins o C xs => cases o with | true => cases h | false => rfl
  | _ => rfl
theorem fr_id_all : ∀ {xs : List D}, xs.all (fun d => !own d) = true → xs.map fr = xs
  | [], _ => rfl
  | d :: xs, h => by
    rw [List.all_cons, Bool.and_eq_true] at h
    rw [List.map_cons, fr_id (by simpa using h.1), fr_id_all h.2]
/-- a + b of lists: one's own -/
def catK (d e : D) (k : List D → Prop) : Prop := match d, e with
  | .lst _ xs, .lst _ ys => (xs.all (fun d => !own d) = true ∧ ys.all (fun d => !own d) = true) ∧ xs.length + ys.length ≤ 16000000 ∧ k (xs ++ ys)
  | _, _ => False
theorem catK_l (o p : Bool) (xs ys : List D) (k : List D → Prop) : catK (.lst o xs) (.lst p ys) k = ((xs.all (fun d => !own d) = true ∧ ys.all (fun d => !own d) = true) ∧ xs.length + ys.length ≤ 16000000 ∧ k (xs ++ ys)) := rfl
def dCat (A B : DO) : DE := fun ρ K => A ρ (onOk K fun x ρ1 => B ρ1 (onOk K fun y ρ2 => nz (see ρ2 x) = true ∧ nz (see ρ2 y) = true ∧ catK (see ρ2 x) (see ρ2 y) fun ds => K (.ok (.lst true ds)) ρ2))
theorem N_cat {a b : Expr} {pos : Pos} {A B : DO} (h1 : PE X a (tOfO c W A)) (h2 : PE X b (tOfO c W B)) : PE X (.BinOp a .Add b pos) (tOfN c W (dCat A B)) := (pe_op op_cat h1 h2).imp fun σ H Q h => by
  obtain ⟨F, Ω, ρ, K, r0, ht, k, kx⟩ := h
  refine ⟨F, Ω, ρ, _, r0, ht, fun x ρ1 q1 v F1 H1 Ω1 s1 r1 f1 => ?_, kx.imp (Stp.refl _ _ _) fun _ _ _ q => q⟩
  refine ⟨F1, Ω1, ρ1, _, r1, q1, fun y ρ2 q2 w F2 H2 Ω2 s2 r2 f2 => ?_, kx.imp s1 fun _ _ _ q => q⟩
  obtain ⟨n1, n2, q3⟩ := q2
  have h1 := (f1.mono s2.ef).vw r2 n1
  have h2 := f2.vw r2 n2
  cases e3 : see ρ2 x with
  | lst o xs =>
    cases e4 : see ρ2 y with
    | lst o' ys =>
      rw [e3] at h1 q3
      rw [e4] at h2 q3
      obtain ⟨a, vs, e1, q1, f1⟩ := h1.lst r2.wf
      obtain ⟨b, ws, e2, q2, f2⟩ := h2.lst r2.wf
      obtain ⟨⟨m1, m2⟩, hl, hk⟩ := q3
      have g1 := f1.fz m1
      have g2 := f2.fz m2
      refine ⟨a, b, vs, ws, e1, e2, q1, q2, ?_, fun p hp => ?_⟩
      · rw [← f1.1, ← f2.1]
        exact sz_ok hl
      · obtain ⟨r3, s3⟩ := rel_new (o := .lst (vs ++ ws)) r2 hp
        obtain ⟨hF, hΩ, hs, _⟩ := wf_new (o := .lst (vs ++ ws)) r2.wf hp
        refine k _ ρ2 hk (.ref p) F2 _ Ω2 (fun b => if b = p then some [] else none) ((s1.trans s2).trans s3) r3 ⟨?_, fun b π e => ?_⟩ fun b o e1 e2 e3 => ?_
        · simp only [Rv]
          have z := RvL.of_fz (c := c) (H := upd H2 p (HO.lst (vs ++ ws))) (Θ := fun b => if b = p then some [] else none) (π := []) (j := 0) (FzL.append g1 g2)
          rw [fr_id_all (by rw [List.all_append, m1, m2]; rfl)] at z
          exact ⟨p, vs ++ ws, rfl, by simp, upd_same, z⟩
        · have e' : (if b = p then some ([] : List Nat) else none) = some π := e
          split at e'
          · rename_i hb
            subst hb
            exact ⟨hF, hΩ, _, upd_same⟩
          · cases e'
        · have := ((s1.trans s2).ou b o e1 e2 e3).1
          exact if_neg (ne_of_none this hp)
    | _ => rw [e3, e4] at q3; exact q3.elim
  | _ => rw [e3] at q3; exact q3.elim
end
end Vi
/-! Vi27: a loan: an expression that only reads own lists, and whose value has no list in it, may read them as frozen; they are one's own again behind it. -/
namespace Vi
open PySem L2

/-- lists alone, two deep -/
def ol1 : D → Bool
  | .lst _ ys => ys.all fun y => !own y
  | y => !own y
def ol : D → Bool
  | .lst _ xs => xs.all ol1
  | d => !own d
def fr2 : D → D
  | .lst _ xs => .lst false (xs.map fr)
  | d => fr d
mutual
/-- no list in it -/
def lf : D → Bool
  | .tup ds => lfs ds
  | .ins o _ ds => !o && lfs ds
  | .lst _ _ => false
  | .klst _ => false
  | .dic _ _ _ => false
  | .exo _ _ _ _ => false
  | _ => true
def lfs : List D → Bool
  | [] => true
  | d :: ds => lf d && lfs ds
end
def lnE : List Bool → Env → Env
  | b :: bs, d :: ρ => (if b = true then fr2 d else if own d = true then .und else d) :: lnE bs ρ
  | _, _ => []
def olE : List Bool → Env → Bool
  | b :: bs, d :: ρ => (!b || ol d) && olE bs ρ
  | [], [] => true
  | _, _ => false
theorem lnE_len : ∀ {ms : List Bool} {ρ : Env}, olE ms ρ = true → (lnE ms ρ).length = ρ.length
  | b :: bs, d :: ρ, h => by
    simp only [olE, Bool.and_eq_true] at h
    simp only [lnE, List.length_cons, lnE_len h.2]
  | [], [], _ => rfl
theorem lnE_get : ∀ {ms : List Bool} {ρ : Env} {i : Nat} {d : D}, olE ms ρ = true → (lnE ms ρ)[i]? = some d → ∃ e, ρ[i]? = some e ∧ ((ms[i]? = some true ∧ ol e = true ∧ d = fr2 e) ∨ (d = .und ∨ (own e = false ∧ d = e)))
  | b :: bs, e :: ρ, i, d, h, g => by
    simp only [olE, Bool.and_eq_true] at h
    cases i with
    | zero =>
      simp only [lnE, List.getElem?_cons_zero, Option.some.injEq] at g
      refine ⟨e, rfl, ?_⟩
      cases b with
      | true =>
        rw [if_pos rfl] at g
        exact .inl ⟨rfl, by simpa using h.1, g.symm⟩
      | false =>
        rw [if_neg Bool.false_ne_true] at g
        right
        cases ho : own e with
        | true => rw [ho, if_pos rfl] at g; exact .inl g.symm
        | false => rw [ho, if_neg Bool.false_ne_true] at g; exact .inr ⟨rfl, g.symm⟩
    | succ i =>
      simp only [lnE, List.getElem?_cons_succ] at g ⊢
      exact lnE_get h.2 g
  | [], [], i, d, h, g => by simp [lnE] at g
section
variable {c : Ct} {F F' F'' H : Hp} {Ω : Nm}
mutual
theorem Fz.free (k : ∀ b o, F' b = some o → (∀ l, o ≠ .lst l) → F'' b = some o) : ∀ (d : D) (v : V), lf d = true → Fz c F' d v → Fz c F'' d v
  | .und, _, _, h => h
  | .non, _, _, h => h
  | .bl _, _, _, h => h
  | .int _, _, _, h => h
  | .str _, _, _, h => h
  | .fn _, _, _, h => h
  | .tup ds, v, g, h => by
    simp only [lf] at g
    simp only [Fz] at h ⊢
    obtain ⟨a, vs, e1, h1, h2⟩ := h
    exact ⟨a, vs, e1, k _ _ h1 (fun l e => by cases e), FzL.free k ds vs g h2⟩
  | .ins o C ds, v, g, h => by
    simp only [lf, Bool.and_eq_true] at g
    simp only [Fz] at h ⊢
    obtain ⟨a, dx, vs, e1, h1, h3, h2⟩ := h
    exact ⟨a, dx, vs, e1, k _ _ h1 (fun l e => by cases e), h3, FzL.free k ds vs g.2 h2⟩
  | .lst _ _, _, g, _ => by simp [lf] at g
  | .klst _, _, g, _ => by simp [lf] at g
  | .dic _ _ _, _, g, _ => by simp [lf] at g
  | .exo _ _ _ _, _, g, _ => by simp [lf] at g
theorem FzL.free (k : ∀ b o, F' b = some o → (∀ l, o ≠ .lst l) → F'' b = some o) : ∀ (ds : List D) (vs : List V), lfs ds = true → FzL c F' ds vs → FzL c F'' ds vs
  | [], _, _, h => by simp only [FzL] at h ⊢; exact h
  | d :: ds, vs, g, h => by
    simp only [lfs, Bool.and_eq_true] at g
    simp only [FzL] at h ⊢
    obtain ⟨v, r, e1, h1, h2⟩ := h
    exact ⟨v, r, e1, Fz.free k d v g.1 h1, FzL.free k ds r g.2 h2⟩
end
theorem fzl_fr : ∀ {ds : List D} {vs : List V}, FzL c F ds vs → FzL c F (ds.map fr) vs
  | [], vs, h => h
  | d :: ds, vs, h => by
    simp only [FzL] at h
    simp only [List.map_cons, FzL]
    obtain ⟨v, r, e1, h1, h2⟩ := h
    exact ⟨v, r, e1, (Fz_fr _ _ _ _).mpr h1, fzl_fr h2⟩
theorem rvl_flat : ∀ {ds : List D} {π : List Nat} {j : Nat} {vs : List V}, (ds.all fun y => !own y) = true → RvL c F H Ω ds π j vs → FzL c F ds vs
  | [], π, j, vs, _, h => by simp only [RvL] at h; simp only [FzL]; exact h
  | d :: ds, π, j, vs, g, h => by
    rw [List.all_cons, Bool.and_eq_true] at g
    simp only [RvL] at h
    simp only [FzL]
    obtain ⟨v, r, e1, h1, h2⟩ := h
    exact ⟨v, r, e1, (Rv_of_own (by simpa using g.1)).mp h1, rvl_flat g.2 h2⟩
theorem rvl_loan {π : List Nat} (sF : Sub F F') (k : ∀ b ρ l, Ω b = some (π ++ ρ) → H b = some (.lst l) → F' b = some (.lst l)) : ∀ {ds : List D} {j : Nat} {vs : List V}, ds.all ol1 = true → RvL c F H Ω ds π j vs → FzL c F' (ds.map fr) vs
  | [], j, vs, _, h => by simp only [RvL] at h; simp only [List.map_nil, FzL]; exact h
  | d :: ds, j, vs, g, h => by
    rw [List.all_cons, Bool.and_eq_true] at g
    simp only [RvL] at h
    simp only [List.map_cons, FzL]
    obtain ⟨v, r, e1, h1, h2⟩ := h
    refine ⟨v, r, e1, (Fz_fr _ _ _ _).mpr ?_, rvl_loan sF k g.2 h2⟩
    cases ho : own d with
    | false => exact Fz.mono sF _ _ ((Rv_of_own ho).mp h1)
    | true =>
      cases d with
      | lst o ys =>
        cases o with
        | false => cases ho
        | true =>
          simp only [Rv] at h1
          obtain ⟨a, us, e2, q1, q2, q3⟩ := h1
          have g1 : (ys.all fun y => !own y) = true := g.1
          simp only [Fz]
          refine ⟨a, us, e2, k a [j] us q1 q2, FzL.mono sF _ _ (rvl_flat g1 q3)⟩
      | _ =>
        have g1 := g.1
        simp only [ol1] at g1
        rw [ho] at g1
        cases g1
end
/-- the answer's part -/
def lnK (K : R D → Env → Prop) (ρ : Env) : R D → Env → Prop
  | .ok d, _ => lf d = true ∧ K (.ok d) ρ
  | .exc C w, _ => lf w = true ∧ K (.exc C w) ρ
theorem lnK_ok (K : R D → Env → Prop) (ρ ρ' : Env) (d : D) : lnK K ρ (.ok d) ρ' = (lf d = true ∧ K (.ok d) ρ) := rfl
theorem lnK_exc (K : R D → Env → Prop) (ρ ρ' : Env) (C : Nat) (w : D) : lnK K ρ (.exc C w) ρ' = (lf w = true ∧ K (.exc C w) ρ) := rfl
def dLoan (ms : List Bool) (T : DE) : DE := fun ρ K => olE ms ρ = true ∧ T (lnE ms ρ) (lnK K ρ)
theorem dLoan_r {ms : List Bool} {T : DE} {ρ : Env} {K : R D → Env → Prop} : dLoan ms T ρ K = (olE ms ρ = true ∧ eAt (lnE ms ρ) fun ρ' => T ρ' (lnK K ρ)) := rfl
theorem lnE_t (ms : List Bool) (d : D) (ρ : Env) : lnE (true :: ms) (d :: ρ) = fr2 d :: lnE ms ρ := rfl
theorem lnE_f (ms : List Bool) (d : D) (ρ : Env) : lnE (false :: ms) (d :: ρ) = (if own d = true then .und else d) :: lnE ms ρ := rfl
theorem lnE_n : lnE [] [] = [] := rfl
theorem olE_c (b : Bool) (ms : List Bool) (d : D) (ρ : Env) : olE (b :: ms) (d :: ρ) = ((!b || ol d) && olE ms ρ) := rfl
theorem olE_n : olE [] [] = true := rfl
theorem fr2_l (o : Bool) (xs : List D) : fr2 (.lst o xs) = .lst false (xs.map fr) := rfl
theorem ol_l (o : Bool) (xs : List D) : ol (.lst o xs) = xs.all ol1 := rfl
theorem lf_non : lf .non = true := by simp only [lf]
theorem lf_bl (b : Bool) : lf (.bl b) = true := by simp only [lf]
theorem lf_int (b : Int) : lf (.int b) = true := by simp only [lf]
theorem lf_str (b : List Nat) : lf (.str b) = true := by simp only [lf]
theorem lf_tup (ds : List D) : lf (.tup ds) = lfs ds := by simp only [lf]
theorem lf_ins (o : Bool) (C : Nat) (ds : List D) : lf (.ins o C ds) = (!o && lfs ds) := by simp only [lf]
theorem lfs_n : lfs [] = true := by simp only [lfs]
theorem lfs_c (d : D) (ds : List D) : lfs (d :: ds) = (lf d && lfs ds) := by simp only [lfs]
theorem lfs_map {α : Type} {f : α → D} : ∀ {l : List α}, (∀ a ∈ l, lf (f a) = true) → lfs (l.map f) = true
  | [], _ => lfs_n
  | a :: l, h => by
    rw [List.map_cons, lfs_c, h a List.mem_cons_self, lfs_map fun b hb => h b (List.mem_cons_of_mem _ hb)]
    rfl
section
variable {X : Cx} {c : Ct} {W : WX}
open Classical in
theorem E_loan {e : Expr} {T : DE} (ms : List Bool) (he : PE X e (tOfE c W T)) : PE X e (tOfE c W (dLoan ms T)) := he.imp fun σ H Q h => by
  obtain ⟨F, Ω, ρ, K, r, ⟨ho, t⟩, k, kx⟩ := h
  let P : Addr → Prop := fun b => (∃ i π, ms[i]? = some true ∧ Ω b = some (i :: π)) ∧ ∃ l, H b = some (.lst l)
  let Fv : Hp := fun b => if P b then H b else F b
  have hP : ∀ b, P b → F b = none := fun b ⟨⟨i, π, _, e⟩, _⟩ => (r.wf.own b _ e).1
  have fv_p : ∀ b, P b → Fv b = H b := fun b h => if_pos h
  have fv_n : ∀ b, ¬ P b → Fv b = F b := fun b h => if_neg h
  have sF : Sub F Fv := fun b o e => by
    have np : ¬ P b := fun p => by rw [hP b p] at e; cases e
    rw [fv_n b np]
    exact e
  have sFH : Sub Fv H := fun b o e => by
    by_cases p : P b
    · rw [fv_p b p] at e; exact e
    · rw [fv_n b p] at e; exact r.wf.sub b o e
  have rv : Rel c Fv H (fun _ => none) (lnE ms ρ) σ := by
    refine ⟨⟨sFH, fun b π e => nomatch e⟩, fun i d h1 h2 => ?_, by rw [lnE_len ho]; exact r.len⟩
    obtain ⟨e, he, hc⟩ := lnE_get ho h1
    have hne : e ≠ .und := by
      rintro rfl
      rcases hc with ⟨_, _, rfl⟩ | rfl | ⟨_, rfl⟩
      · exact h2 rfl
      · exact h2 rfl
      · exact h2 rfl
    obtain ⟨v, q1, q2⟩ := r.sl i e he hne
    refine ⟨v, q1, ?_⟩
    rcases hc with ⟨hm, hol, rfl⟩ | rfl | ⟨hn, rfl⟩
    · have kk : ∀ b ρ' l, Ω b = some ([i] ++ ρ') → H b = some (.lst l) → Fv b = some (.lst l) := fun b ρ' l e1 e2 => by
        rw [fv_p b ⟨⟨i, ρ', hm, e1⟩, l, e2⟩]
        exact e2
      have hfz : Fz c Fv (fr2 e) v := by
        cases e with
        | lst o xs =>
          simp only [fr2, Fz]
          cases o with
          | true =>
            simp only [Rv] at q2
            obtain ⟨a, vs, e1, w1, w2, w3⟩ := q2
            exact ⟨a, vs, e1, kk a [] vs (by simpa using w1) w2, rvl_loan sF kk hol w3⟩
          | false =>
            simp only [Rv] at q2
            obtain ⟨a, vs, e1, w1, w2⟩ := q2
            exact ⟨a, vs, e1, sF _ _ w1, FzL.mono sF _ _ (fzl_fr w2)⟩
        | dic o ks xs =>
          have hn : own (.dic o ks xs) = false := by simpa only [ol, Bool.not_eq_true'] using hol
          exact (Fz_fr _ _ _ _).mpr (Fz.mono sF _ _ ((Rv_of_own hn).mp q2))
        | ins o C xs =>
          have hn : own (.ins o C xs) = false := by simpa only [ol, Bool.not_eq_true'] using hol
          exact (Fz_fr _ _ _ _).mpr (Fz.mono sF _ _ ((Rv_of_own hn).mp q2))
        | _ => exact Fz.mono sF _ _ ((Rv_of_own rfl).mp q2)
      have hown : own (fr2 e) = false := by cases e <;> rfl
      exact (Rv_of_own hown).mpr hfz
    · exact absurd rfl h2
    · exact (Rv_of_own hn).mpr (Fz.mono sF _ _ ((Rv_of_own hn).mp q2))
  -- behind it
  have back : ∀ {F' H' : Hp} {Ω' : Nm} {ρ' : Env}, Stp Fv H (fun _ => none) F' H' Ω' → Rel c F' H' Ω' ρ' σ → ∃ F'' : Hp, Stp F H Ω F'' H' Ω ∧ Rel c F'' H' Ω ρ σ ∧ ∀ b o, F' b = some o → (∀ l, o ≠ .lst l) → F'' b = some o := fun {F' H' Ω' ρ'} s r' => by
    have sH : Sub H H' := fun b o e => by
      cases q : Fv b with
      | none => exact (s.ou b o e q rfl).1
      | some o' =>
        have e2 := sFH b o' q
        rw [e] at e2
        cases e2
        exact r'.wf.sub b o (s.ef b o q)
    refine ⟨fun b => if P b then none else F' b, ?_⟩
    have sFF : Sub F (fun b => if P b then none else F' b) := fun b o e => by
      have np : ¬ P b := fun p => by rw [hP b p] at e; cases e
      show (if P b then none else F' b) = some o
      rw [if_neg np]
      exact s.ef b o (sF b o e)
    have out : ∀ b o, H b = some o → F b = none → (if P b then none else F' b) = none := fun b o e1 e2 => by
      by_cases p : P b
      · rw [if_pos p]
      · rw [if_neg p]
        exact (s.ou b o e1 (by rw [fv_n b p]; exact e2) rfl).2.1
    refine ⟨⟨sFF, fun b o e1 e2 e3 => ⟨sH b o e1, out b o e1 e2, e3⟩⟩, ⟨⟨fun b o e => ?_, fun b π e => ?_⟩, fun i d e1 e2 => ?_, r.len⟩, fun b o e hl => ?_⟩
    · have e' : (if P b then none else F' b) = some o := e
      by_cases p : P b
      · rw [if_pos p] at e'; cases e'
      · rw [if_neg p] at e'; exact r'.wf.sub b o e'
    · obtain ⟨q1, o, q2⟩ := r.wf.own b π e
      exact ⟨out b o q2 q1, o, sH b o q2⟩
    · obtain ⟨v, q1, q2⟩ := r.sl i d e1 e2
      refine ⟨v, q1, Rv.move sFF d _ _ v (fun b π z => ⟨z, ?_⟩) q2⟩
      obtain ⟨_, o, q3⟩ := r.wf.own b _ z
      rw [q3, sH b o q3]
    · show (if P b then none else F' b) = some o
      by_cases p : P b
      · obtain ⟨l, q⟩ := p.2
        have z := s.ef b (.lst l) (by rw [fv_p b p]; exact q)
        rw [e] at z
        cases z
        exact absurd rfl (hl l)
      · rw [if_neg p]
        exact e
  refine ⟨Fv, fun _ => none, lnE ms ρ, lnK K ρ, rv, t, fun d ρ' q v F' H' Ω' s r' f => ?_, fun C w ρ' q cd vw F' H' Ω' s r' e1 e2 => ?_⟩
  · obtain ⟨F'', s2, r2, kf⟩ := back s r'
    exact k d ρ q.2 v F'' H' Ω s2 r2 (Fz.free kf d v q.1 f)
  · obtain ⟨F'', s2, r2, kf⟩ := back s r'
    exact kx C w ρ q.2 cd vw F'' H' Ω s2 r2 (kf _ _ e1 fun l z => by cases z) (Fz.free kf w vw q.1 e2)
end
end Vi
/-! Vi28: a text times an int, minus; own lists within own lists; an own list's items frozen. -/
namespace Vi
open PySem L2 PySem.Spec PyProof.Rows

section
variable {X : Cx} {c : Ct} {W : WX}
theorem tl_foldl (c : Array Nat) : ∀ (k : Nat) (acc : Array Nat), ((List.replicate k c).foldl (· ++ ·) acc).toList = acc.toList ++ (List.replicate k c.toList).flatten
  | 0, acc => by simp
  | k + 1, acc => by
    rw [List.replicate_succ, List.foldl_cons, tl_foldl c k, List.replicate_succ, List.flatten_cons, Array.toList_append, List.append_assoc]
theorem tl_mul (s : List Nat) (k : Int) : (Txt.mul ⟨s.toArray⟩ k).cps.toList = (List.replicate k.toNat s).flatten := by
  unfold Txt.mul
  by_cases h1 : k < 1
  · rw [if_pos h1, show k.toNat = 0 by omega]
    rfl
  · rw [if_neg h1]
    split
    · rename_i h
      rw [Bool.or_eq_true, beq_iff_eq, beq_iff_eq] at h
      rcases h with h | h
      · rw [h]
        simp
      · have e : s = [] := by
          have : s.toArray.size = 0 := h
          simpa using this
        subst e
        simp
    · show ((List.replicate k.toNat s.toArray).foldl (· ++ ·) #[]).toList = _
      rw [tl_foldl]
      simp
def rRepS : R2 := fun x y H Q => ∃ z k, x = .str z ∧ y = .int k ∧ 0 ≤ k ∧ k ≤ 16000000 ∧ z.length * k.toNat ≤ 16777216 ∧ Q (.str (Txt.mul z k)) H
theorem op_repS : OpR X (binaryOp .Mult) rRepS := by
  intro pins s σ H x y v u Q I rx ry h
  obtain ⟨z, k, rfl, rfl, h0, h1, hz, q⟩ := h
  obtain ⟨t, rfl⟩ := rx
  obtain ⟨t', rfl⟩ := ry
  exact PySem.SB.mul (mulOk_of z.length k.toNat (Nat.le_refl _) (by omega) (by omega) (by omega) hz) fun t' tk => ⟨.str (Txt.mul z k), H, I.tok _, ⟨_, rfl⟩, q⟩
def oRepS : D → D → (D → Prop) → Prop
  | .str s, .int k, K => 0 ≤ k ∧ k ≤ 16000000 ∧ s.length * k.toNat ≤ 16000000 ∧ K (.str (List.replicate k.toNat s).flatten)
  | _, _, _ => False
theorem oRepS_r (s : List Nat) (k : Int) (K : D → Prop) : oRepS (.str s) (.int k) K = (0 ≤ k ∧ k ≤ 16000000 ∧ s.length * k.toNat ≤ 16000000 ∧ K (.str (List.replicate k.toNat s).flatten)) := rfl
theorem b2_repS {c : Ct} : B2 c rRepS oRepS := ⟨fun F H Ω w d e v u h1 h2 K q Q k => by
  match d, e, q with
  | .str s, .int n, q =>
    refine ⟨_, _, vw_str h1, vw_int h2, q.1, q.2.1, ?_, k _ q.2.2.2 _ F H (Ext.refl w) (fz_str (tl_mul s n))⟩
    have : s.toArray.size = s.length := by simp
    show s.toArray.size * n.toNat ≤ _
    rw [this]
    exact Nat.le_trans q.2.2.1 (by decide)⟩
/-- minus -/
def ngK (d : D) (k : D → Prop) : Prop := match d with
  | .int i => k (.int (-i))
  | _ => False
theorem ngK_i (i : Int) (k : D → Prop) : ngK (.int i) k = k (.int (-i)) := rfl
def dNeg (T : DE) : DE := fun ρ K => T ρ (onOk K fun d ρ' => ngK d fun z => K (.ok z) ρ')
theorem E_neg {e : Expr} {T : DE} {pos : Pos} (h : PE X e (tOfE c W T)) : PE X (.UnaryOp .USub e pos) (tOfE c W (dNeg T)) := (pe_un un_neg h).imp fun σ H Q h => by
  obtain ⟨F, Ω, ρ, K, r0, ht, k, kx⟩ := h
  refine ⟨F, Ω, ρ, _, r0, ht, fun d ρ1 q v F1 H1 Ω1 s1 r1 f1 => ?_, kx.imp (Stp.refl _ _ _) fun _ _ _ q => q⟩
  cases d with
  | int i =>
    have ev : v = .int i := by simpa only [Fz] using f1
    exact ⟨i, ev, k (.int (-i)) ρ1 q (.int (-i)) F1 H1 Ω1 s1 r1 fz_int⟩
  | _ => exact q.elim
/-! ### simple expressions: a name, a constant -/
structure Sm (X : Cx) (e : Expr) (f : Env → D) : Prop where
  run : ∀ c : Ct, PE X e (fun σ H Q => ∃ F Ω ρ, Rel c F H Ω ρ σ ∧ nz (f ρ) = true ∧ own (f ρ) = false ∧ ∀ v, Fz c F (f ρ) v → Q v H)
theorem Sm_var (i : Nat) {x : Str} {pos : Pos} (hN : X.N[i]? = some x := by rfl) (hv : Vis X.env.scope x := by first | exact Or.inl rfl | exact Or.inr (Or.inl rfl) | exact Or.inr (Or.inr rfl)) (hd : (x == ("__debug__" : Str)) = false := by decide)
    (hcd : (x == ("__classdict__" : Str)) = false := by decide) : Sm X (.Name x pos) (fun ρ => gt ρ i) := ⟨fun c => (pe_var hN hv hd hcd).imp fun σ H Q h => by
  obtain ⟨F, Ω, ρ, r, hn, ho, k⟩ := h
  obtain ⟨v, q1, q2⟩ := r.sl i _ (gt_some hn) (nz_ne hn)
  exact ⟨v, q1, k v ((Rv_of_own ho).mp q2)⟩⟩
theorem Sm_int {i : Int} {j pos} : Sm X (.Constant (.int i) j pos) (fun _ => .int i) := ⟨fun c => pe_int.imp fun σ H Q h => by
  obtain ⟨F, Ω, ρ, r, hn, ho, k⟩ := h
  exact k (.int i) (by simp only [Fz])⟩
theorem Sm_non {j pos} : Sm X (.Constant .none j pos) (fun _ => .non) := ⟨fun c => pe_non.imp fun σ H Q h => by
  obtain ⟨F, Ω, ρ, r, hn, ho, k⟩ := h
  exact k .non (by simp only [Fz])⟩
end
theorem RvL.putH {c : Ct} {F H H' : Hp} {Θ : Nm} {d : D} {v : V} : ∀ {ds : List D} {vs : List V} {π : List Nat} {j i : Nat}, (∀ b k ρ, k ≠ j + i → Θ b = some (π ++ k :: ρ) → H' b = H b) → RvL c F H Θ ds π j vs → vs[i]? = some v → Rv c F H' Θ d (π ++ [j + i]) v → RvL c F H' Θ (ds.set i d) π j vs
  | [], vs, π, j, i, _, h, hv, g => by
    simp only [RvL] at h
    subst h
    simp at hv
  | e :: ds, vs, π, j, 0, mv, h, hv, g => by
    simp only [RvL] at h
    obtain ⟨u, r, e1, h1, h2⟩ := h
    subst e1
    simp only [List.getElem?_cons_zero, Option.some.injEq] at hv
    subst hv
    simp only [List.set_cons_zero, RvL]
    refine ⟨u, r, rfl, by simpa using g, ?_⟩
    -- the rest
    clear g h1
    have go : ∀ {ds : List D} {vs : List V} {m : Nat}, j + 1 ≤ m → RvL c F H Θ ds π m vs → RvL c F H' Θ ds π m vs := fun {ds} => by
      induction ds with
      | nil => intro vs m _ h; simp only [RvL] at h ⊢; exact h
      | cons d ds ih =>
        intro vs m hm h
        simp only [RvL] at h ⊢
        obtain ⟨u, r, e1, h1, h2⟩ := h
        refine ⟨u, r, e1, Rv.move (Sub.refl _) d _ _ u (fun b ρ z => ⟨z, mv b m ρ (by omega) (by rw [z, List.append_assoc]; rfl)⟩) h1, ih (by omega) h2⟩
    exact go (Nat.le_refl _) h2
  | e :: ds, vs, π, j, i + 1, mv, h, hv, g => by
    simp only [RvL] at h
    obtain ⟨u, r, e1, h1, h2⟩ := h
    subst e1
    simp only [List.set_cons_succ, RvL]
    refine ⟨u, r, rfl, Rv.move (Sub.refl _) e _ _ u (fun b ρ z => ⟨z, mv b j ρ (by omega) (by rw [z, List.append_assoc]; rfl)⟩) h1, RvL.putH (fun b k ρ hk z => mv b k ρ (by omega) z) h2 (by simpa using hv) ?_⟩
    rw [show j + 1 + i = j + (i + 1) by omega]
    exact g
/-- the list at place q of the list in slot j -/
structure Sb (c : Ct) (F H : Hp) (Ω : Nm) (ρ : Env) (σ : L2.St) (j : Nat) (xs : List D) (q : Nat) (ds : List D) (a b : Addr) (vs us : List V) : Prop where
  hσ : σ[j]? = some (some (.ref a))
  ha : H a = some (.lst vs)
  hv : vs[q]? = some (.ref b)
  hl : xs.length = vs.length
  hb : H b = some (.lst us)
  nb : Ω b = some [j, q]
  rl : RvL c F H Ω ds [j, q] 0 us
  chg : ∀ (ds' : List D) (us' : List V), RvL c F (upd H b (.lst us')) Ω ds' [j, q] 0 us' → Rel c F (upd H b (.lst us')) Ω (ρ.set j (.lst true (xs.set q (.lst true ds')))) σ
theorem sb_of {c : Ct} {F H : Hp} {Ω : Nm} {ρ : Env} {σ : L2.St} {j : Nat} {xs : List D} {q : Nat} {ds : List D} (r : Rel c F H Ω ρ σ) (hj : gt ρ j = .lst true xs) (hq : xs[q]? = some (.lst true ds)) : ∃ a b vs us, Sb c F H Ω ρ σ j xs q ds a b vs us := by
  have hn : nz (gt ρ j) = true := by rw [hj]; rfl
  have hs := gt_some hn
  have hlt := (List.getElem?_eq_some_iff.mp hs).1
  obtain ⟨v, q1, q2⟩ := r.sl j _ hs (nz_ne hn)
  rw [hj] at q2
  simp only [Rv] at q2
  obtain ⟨a, vs, e1, na, ha, hr⟩ := q2
  subst e1
  obtain ⟨u, hu, hR⟩ := hr.get hq
  simp only [Rv] at hR
  obtain ⟨b, us, e2, nb, hb, hR2⟩ := hR
  subst e2
  have nb' : Ω b = some [j, q] := by rw [nb]; simp
  have hR2' : RvL c F H Ω ds [j, q] 0 us := by simpa using hR2
  refine ⟨a, b, vs, us, q1, ha, hu, hr.length, hb, nb', hR2', fun ds' us' hd => ?_⟩
  have hFb : F b = none := (r.wf.own b _ nb').1
  have hab : a ≠ b := fun e => by rw [e, nb'] at na; simp at na
  refine ⟨⟨fun x u e => ?_, fun x π e => ?_⟩, fun k d h1 h2 => ?_, by rw [List.length_set]; exact r.len⟩
  · have hx : x ≠ b := fun z => by rw [z, hFb] at e; cases e
    rw [upd_ne hx]
    exact r.wf.sub x u e
  · obtain ⟨z1, u, z2⟩ := r.wf.own x π e
    refine ⟨z1, ?_⟩
    by_cases hx : x = b
    · exact ⟨_, by rw [hx, upd_same]⟩
    · exact ⟨u, by rw [upd_ne hx]; exact z2⟩
  · by_cases hk : k = j
    · subst hk
      rw [List.getElem?_set_self hlt] at h1
      cases h1
      refine ⟨.ref a, q1, ?_⟩
      simp only [Rv]
      refine ⟨a, vs, rfl, na, by rw [upd_ne hab]; exact ha, RvL.putH (fun x m ρ' hm z => upd_ne fun e => ?_) hr hu ?_⟩
      · rw [e, nb'] at z
        simp at z
        omega
      · simp only [Rv]
        refine ⟨b, us', rfl, by rw [nb']; simp, upd_same, ?_⟩
        simpa using hd
    · rw [List.getElem?_set_ne (Ne.symm hk)] at h1
      obtain ⟨v, z1, z2⟩ := r.sl k d h1 h2
      refine ⟨v, z1, Rv.move (Sub.refl _) d _ _ v (fun x π z => ⟨z, upd_ne fun e => ?_⟩) z2⟩
      rw [e, nb'] at z
      have z' := Option.some.inj z
      simp at z'
      exact hk z'.1.symm
theorem Sb.mv {c : Ct} {F H : Hp} {Ω : Nm} {ρ : Env} {σ : L2.St} {j : Nat} {xs : List D} {q : Nat} {ds : List D} {a b : Addr} {vs us us' : List V} (s : Sb c F H Ω ρ σ j xs q ds a b vs us) : RvL c F (upd H b (.lst us')) Ω ds [j, q] 0 us := RvL.move (Sub.refl _) ds _ _ 0 us (fun x i ρ z => ⟨z, upd_ne fun e => by rw [e, s.nb] at z; simp at z⟩) s.rl
section
variable {X : Cx} {x : Ct2} {W : WX}
/-- an operation upon the list at xs[i] -/
def sbK (d i : D) (op : List D → (List D → Prop) → Prop) (ρ : Env) (j : Nat) (k : Env → Prop) : Prop := match d, i with
  | .lst true xs, .int n => ∃ q ds, ixN xs.length n = some q ∧ xs[q]? = some (.lst true ds) ∧ op ds fun ds' => k (ρ.set j (.lst true (xs.set q (.lst true ds'))))
  | _, _ => False
theorem sbK_l (xs : List D) (n : Int) (op : List D → (List D → Prop) → Prop) (ρ : Env) (j : Nat) (k : Env → Prop) : sbK (.lst true xs) (.int n) op ρ j k = ∃ q ds, ixN xs.length n = some q ∧ xs[q]? = some (.lst true ds) ∧ op ds fun ds' => eAt (ρ.set j (.lst true (xs.set q (.lst true ds')))) k := rfl
def opApp (e : D) : List D → (List D → Prop) → Prop := fun ds k => nz e = true ∧ own e = false ∧ ds.length < 16000000 ∧ k (ds ++ [e])
def dApp2 (j : Nat) (fi fe : Env → D) : DS := fun ρ K => sbK (gt ρ j) (fi ρ) (opApp (fe ρ)) ρ j fun ρ' => K .nx ρ'
theorem atI_ixN {α : Type} {xs : List α} {n : Int} {q : Nat} (h : ixN xs.length n = some q) : atI xs n = xs[q]? := by
  unfold atI
  rw [h]
  rfl
theorem S_app2 {j : Nat} {y : Str} {ei e : Expr} {fi fe : Env → D} {p spos apos cpos pos : Pos} (hN : X.N[j]? = some y) (hv : Vis X.env.scope y) (hi : Sm X ei fi) (he : Sm X e fe) (hs : PlainIx ei) (hd : (y == ("__debug__" : Str)) = false := by decide) (hcd : (y == ("__classdict__" : Str)) = false := by decide)
    (hbase : attributeBase (.Subscript (.Name y p) ei spos) "append" X.env (eval (.Subscript (.Name y p) ei spos) X.env) = eval (.Subscript (.Name y p) ei spos) X.env := by rfl)
    (hfew : ((backTo cpos (starEach [e] X.env)).all (fun x => !x.1) && (backToKw cpos (keywordEach [] X.env)).all (fun x => x.1.isSome) && decide (([e]).length + ([] : List Keyword).length + (if ([] : List Keyword).isEmpty then 0 else 1) < 30)) = true := by rfl)
    (hline : (apos.endLine == cpos.line) = true := by rfl) (hst : starEach [e] X.env = (false, eval e X.env) :: starEach [] X.env := by rfl) (hsw : swapsWith (.Call (.Attribute (.Subscript (.Name y p) ei spos) "append" apos) [e] [] cpos) none pos.line X.env = pure false := by rfl) (hK : x.c.K = X.K := by rfl) :
    PS X (.Expr (.Call (.Attribute (.Subscript (.Name y p) ei spos) "append" apos) [e] [] cpos) pos) (tOfS x W (dApp2 j fi fe)) := by
  have base := ps_expr (pos := pos) (pe_bm PySem.F.plainAttrs_list PySem.F.slot_list_append PySem.F.type_list_append (mt_append (X := X)) (pe_ix ix_list (pe_var hN hv hd hcd) (hi.run x.c) hs) (pa_cons (he.run x.c) pa_nil hst) hbase hfew hline hst rfl) hsw
  refine base.imp fun De σ H h => ?_
  obtain ⟨F, Ω, ρ, K, r, t, w⟩ := tOfS_iff.mp h
  have t' : sbK (gt ρ j) (fi ρ) (opApp (fe ρ)) ρ j fun ρ' => K .nx ρ' := t
  generalize hz : gt ρ j = z at t'
  generalize hz2 : fi ρ = z2 at t'
  match z, z2, t', hz, hz2 with
  | .lst true xs, .int n, t', hz, hz2 =>
    obtain ⟨q, ds, hq, hx, hn, ho, hlen, hk⟩ := t'
    obtain ⟨a, b, vs, us, sb⟩ := sb_of r hz hx
    refine ⟨.ref a, sb.hσ, F, Ω, ρ, r, by rw [hz2]; rfl, by rw [hz2]; rfl, fun vi fi' => ?_⟩
    have ei : vi = .int n := by
      rw [hz2] at fi'
      simpa only [Fz] using fi'
    refine ⟨a, vs, n, .ref b, rfl, ei, SqL.of sb.ha, ?_, .inl ⟨rfl, us, SqL.of sb.hb⟩, F, Ω, ρ, r, hn, ho, fun ve fe' => ?_⟩
    · rw [atI_ixN (by rw [← sb.hl]; exact hq)]
      exact sb.hv
    · have hl2 := sb.rl.length
      refine ⟨b, us, ve, rfl, rfl, sb.hb, by rw [← hl2]; exact Nat.lt_of_lt_of_le hlen (by decide), ?_⟩
      refine w.nx _ hk σ F _ Ω ⟨chg_stp (Stp.refl _ _ _) sb.nb fun b o e1 e2 e3 => e3, sb.chg _ _ (RvL.append sb.mv ((Rv_of_own ho).mpr fe')), Io.refl _ _⟩
end
end Vi
/-! Vi29: xs[i].pop(k), xs[i][k] = e, xs.append(xs[i]) at the list's end, a, b, c = (e, own, own). -/
namespace Vi
open PySem L2 PySem.Spec PyProof.Rows

theorem FzL.erase {c : Ct} {F : Hp} : ∀ {ds : List D} {vs : List V} {k : Nat}, FzL c F ds vs → FzL c F (ds.eraseIdx k) (vs.eraseIdx k)
  | [], vs, k, h => by
    simp only [FzL] at h
    subst h
    simp only [List.eraseIdx_nil, FzL]
  | d :: ds, vs, 0, h => by
    simp only [FzL] at h
    obtain ⟨v, r, e, h1, h2⟩ := h
    subst e
    simpa only [List.eraseIdx_cons_zero] using h2
  | d :: ds, vs, k + 1, h => by
    simp only [FzL] at h
    obtain ⟨v, r, e, h1, h2⟩ := h
    subst e
    simp only [List.eraseIdx_cons_succ, FzL]
    exact ⟨v, r.eraseIdx k, rfl, h1, FzL.erase h2⟩
theorem all_erase {p : D → Bool} : ∀ {ds : List D} {k : Nat}, ds.all p = true → (ds.eraseIdx k).all p = true := fun {ds k} h => List.all_eq_true.mpr fun x hx => List.all_eq_true.mp h x (List.mem_of_mem_eraseIdx hx)
section
variable {X : Cx} {x : Ct2} {W : WX}
def opPop (i : D) : List D → (List D → Prop) → Prop := fun ds k => match i with
  | .int n => (ds.all fun y => !own y) = true ∧ -(2 ^ 63) ≤ n ∧ n < 2 ^ 63 ∧ ∃ m, seqIndex? n ds.length = some m ∧ m < ds.length ∧ k (ds.eraseIdx m)
  | _ => False
def dPop2 (j : Nat) (fi fk : Env → D) : DS := fun ρ K => sbK (gt ρ j) (fi ρ) (opPop (fk ρ)) ρ j fun ρ' => K .nx ρ'
theorem S_pop2 {j : Nat} {y : Str} {ei e : Expr} {fi fe : Env → D} {p spos apos cpos pos : Pos} (hN : X.N[j]? = some y) (hv : Vis X.env.scope y) (hi : Sm X ei fi) (he : Sm X e fe) (hs : PlainIx ei) (hd : (y == ("__debug__" : Str)) = false := by decide) (hcd : (y == ("__classdict__" : Str)) = false := by decide)
    (hbase : attributeBase (.Subscript (.Name y p) ei spos) "pop" X.env (eval (.Subscript (.Name y p) ei spos) X.env) = eval (.Subscript (.Name y p) ei spos) X.env := by rfl)
    (hfew : ((backTo cpos (starEach [e] X.env)).all (fun x => !x.1) && (backToKw cpos (keywordEach [] X.env)).all (fun x => x.1.isSome) && decide (([e]).length + ([] : List Keyword).length + (if ([] : List Keyword).isEmpty then 0 else 1) < 30)) = true := by rfl)
    (hline : (apos.endLine == cpos.line) = true := by rfl) (hst : starEach [e] X.env = (false, eval e X.env) :: starEach [] X.env := by rfl) (hsw : swapsWith (.Call (.Attribute (.Subscript (.Name y p) ei spos) "pop" apos) [e] [] cpos) none pos.line X.env = pure false := by rfl) :
    PS X (.Expr (.Call (.Attribute (.Subscript (.Name y p) ei spos) "pop" apos) [e] [] cpos) pos) (tOfS x W (dPop2 j fi fe)) := by
  have base := ps_expr (pos := pos) (pe_bm PySem.F.plainAttrs_list PySem.F.slot_list_pop PySem.F.type_list_pop (mt_popAt (X := X)) (pe_ix ix_list (pe_var hN hv hd hcd) (hi.run x.c) hs) (pa_cons (he.run x.c) pa_nil hst) hbase hfew hline hst rfl) hsw
  refine base.imp fun De σ H h => ?_
  obtain ⟨F, Ω, ρ, K, r, t, w⟩ := tOfS_iff.mp h
  have t' : sbK (gt ρ j) (fi ρ) (opPop (fe ρ)) ρ j fun ρ' => K .nx ρ' := t
  generalize hz : gt ρ j = z at t'
  generalize hz2 : fi ρ = z2 at t'
  match z, z2, t', hz, hz2 with
  | .lst true xs, .int n, t', hz, hz2 =>
    obtain ⟨q, ds, hq, hx, hop⟩ := t'
    unfold opPop at hop
    generalize hz3 : fe ρ = z3 at hop
    match z3, hop, hz3 with
    | .int m, hop, hz3 =>
      obtain ⟨hall, h1, h2, e, he1, he2, hk⟩ := hop
      obtain ⟨a, b, vs, us, sb⟩ := sb_of r hz hx
      refine ⟨.ref a, sb.hσ, F, Ω, ρ, r, by rw [hz2]; rfl, by rw [hz2]; rfl, fun vi fi' => ?_⟩
      have ei : vi = .int n := by
        rw [hz2] at fi'
        simpa only [Fz] using fi'
      refine ⟨a, vs, n, .ref b, rfl, ei, SqL.of sb.ha, ?_, .inl ⟨rfl, us, SqL.of sb.hb⟩, F, Ω, ρ, r, by rw [hz3]; rfl, by rw [hz3]; rfl, fun ve fe' => ?_⟩
      · rw [atI_ixN (by rw [← sb.hl]; exact hq)]
        exact sb.hv
      · have ev : ve = .int m := by
          rw [hz3] at fe'
          simpa only [Fz] using fe'
        have hl2 := sb.rl.length
        have hlt : e < us.length := by rw [← hl2]; exact he2
        refine ⟨b, us, m, e, us[e], rfl, by rw [ev], sb.hb, h1, h2, by rw [← hl2]; exact he1, List.getElem?_eq_getElem hlt, ?_⟩
        have fz := FzL.erase (k := e) (rvl_flat hall sb.rl)
        have rl := RvL.of_fz (c := x.c) (H := upd H b (.lst (us.eraseIdx e))) (Θ := Ω) (π := [j, q]) (j := 0) fz
        rw [fr_id_all (all_erase hall)] at rl
        exact w.nx _ hk σ F _ Ω ⟨chg_stp (Stp.refl _ _ _) sb.nb fun b o e1 e2 e3 => e3, sb.chg _ _ rl, Io.refl _ _⟩
def opPut (i v : D) : List D → (List D → Prop) → Prop := fun ds k => match i with
  | .int n => ∃ m, ixN ds.length n = some m ∧ k (ds.set m (fr v))
  | _ => False
def dPut2 (j : Nat) (fi fk : Env → D) (T : DE) : DS := fun ρ K => T ρ (onFl K fun d ρ1 => sbK (gt ρ1 j) (fi ρ1) (opPut (fk ρ1) d) ρ1 j fun ρ2 => K .nx ρ2)
theorem S_put2 {j : Nat} {y : Str} {ei ek ev : Expr} {fi fk : Env → D} {T : DE} {p spos tpos pos : Pos} (hN : X.N[j]? = some y) (hv : Vis X.env.scope y) (hi : Sm X ei fi) (hk : Sm X ek fk) (hs0 : PlainIx ei) (he : PE X ev (tOfE x.c W T)) (hd : (y == ("__debug__" : Str)) = false := by decide) (hcd : (y == ("__classdict__" : Str)) = false := by decide)
    (ha : ∀ v, assign (.Subscript (.Subscript (.Name y p) ei spos) ek tpos) X.env v = (do
      let ov ← holding [v] (eval (.Subscript (.Name y p) ei spos) X.env)
      let iv ← holding [v, ov] (eval ek X.env)
      standAt tpos
      holding [v, ov, iv] (setItem ov iv v)
      release [v, ov, iv] []) := by intro _; rfl)
    (hs : swapsWithSole [.Subscript (.Subscript (.Name y p) ei spos) ek tpos] ev pos.line X.env = pure false := by rfl) (hw : swappedStores [.Subscript (.Subscript (.Name y p) ei spos) ek tpos] ev X.env = pure none := by rfl)
    (h1 : (assignEach [.Subscript (.Subscript (.Name y p) ei spos) ek tpos] X.env).map (·.2) = [assign (.Subscript (.Subscript (.Name y p) ei spos) ek tpos) X.env] := by rfl) :
    PS X (.Assign [.Subscript (.Subscript (.Name y p) ei spos) ek tpos] ev pos) (tOfS x W (dPut2 j fi fk T)) := by
  refine (ps_asg he (pg_sub (pe_ix ix_list (pe_var hN hv hd hcd) (hi.run x.c) hs0) (hk.run x.c) set_list ha) hs hw h1).imp fun De σ H h => ?_
  obtain ⟨F, Ω, ρ, K, r, t, w⟩ := tOfS_iff.mp h
  refine ⟨F, Ω, ρ, _, r, t, fun d ρ1 t1 v F1 H1 Ω1 s1 r1 f1 => ?_, w.exw⟩
  simp only [onFl_ok] at t1
  generalize hz : gt ρ1 j = z at t1
  generalize hz2 : fi ρ1 = z2 at t1
  match z, z2, t1, hz, hz2 with
  | .lst true xs, .int n, t1, hz, hz2 =>
    obtain ⟨q, ds, hq, hx, hop⟩ := t1
    unfold opPut at hop
    generalize hz3 : fk ρ1 = z3 at hop
    match z3, hop, hz3 with
    | .int m, hop, hz3 =>
      obtain ⟨e, he1, hk⟩ := hop
      obtain ⟨a, b, vs, us, sb⟩ := sb_of r1 hz hx
      refine ⟨.ref a, sb.hσ, F1, Ω1, ρ1, r1, by rw [hz2]; rfl, by rw [hz2]; rfl, fun vi fi' => ?_⟩
      have ei : vi = .int n := by
        rw [hz2] at fi'
        simpa only [Fz] using fi'
      refine ⟨a, vs, n, .ref b, rfl, ei, SqL.of sb.ha, ?_, F1, Ω1, ρ1, r1, by rw [hz3]; rfl, by rw [hz3]; rfl, fun ve fe' => ?_⟩
      · rw [atI_ixN (by rw [← sb.hl]; exact hq)]
        exact sb.hv
      · have ev : ve = .int m := by
          rw [hz3] at fe'
          simpa only [Fz] using fe'
        have hl2 := sb.rl.length
        refine ⟨b, us, m, e, rfl, ev, sb.hb, by rw [← hl2]; exact he1, ?_⟩
        exact w.nx _ hk σ F1 _ Ω1 ⟨chg_stp s1 sb.nb fun b o e1 e2 e3 => (s1.ou b o e1 e2 e3).2.2, sb.chg _ _ (RvL.put sb.mv ((Rv_of_own (own_fr d)).mpr ((Fz_fr _ _ _ _).mpr f1))), Io.refl _ _⟩
/-- xs.append(xs[i]), xs not read any more -/
def dAppSelf (j : Nat) (fi : Env → D) : DS := fun ρ K => match gt ρ j, fi ρ with
  | .lst true xs, .int n => ∃ q, ixN xs.length n = some q ∧ q < xs.length ∧ xs.length < 16000000 ∧ eAt (ρ.set j .und) fun ρ' => K .nx ρ'
  | _, _ => False
theorem S_appSelf {j : Nat} {y : Str} {ei : Expr} {fi : Env → D} {p p2 spos apos cpos pos : Pos} (hN : X.N[j]? = some y) (hv : Vis X.env.scope y) (hi : Sm X ei fi) (hs : PlainIx ei) (hd : (y == ("__debug__" : Str)) = false := by decide) (hcd : (y == ("__classdict__" : Str)) = false := by decide)
    (hbase : attributeBase (.Name y p) "append" X.env (eval (.Name y p) X.env) = eval (.Name y p) X.env := by rfl)
    (hfew : ((backTo cpos (starEach [.Subscript (.Name y p2) ei spos] X.env)).all (fun x => !x.1) && (backToKw cpos (keywordEach [] X.env)).all (fun x => x.1.isSome) && decide (([Expr.Subscript (.Name y p2) ei spos]).length + ([] : List Keyword).length + (if ([] : List Keyword).isEmpty then 0 else 1) < 30)) = true := by rfl)
    (hline : (apos.endLine == cpos.line) = true := by rfl) (hst : starEach [.Subscript (.Name y p2) ei spos] X.env = (false, eval (.Subscript (.Name y p2) ei spos) X.env) :: starEach [] X.env := by rfl) (hsw : swapsWith (.Call (.Attribute (.Name y p) "append" apos) [.Subscript (.Name y p2) ei spos] [] cpos) none pos.line X.env = pure false := by rfl) :
    PS X (.Expr (.Call (.Attribute (.Name y p) "append" apos) [.Subscript (.Name y p2) ei spos] [] cpos) pos) (tOfS x W (dAppSelf j fi)) := by
  have base := ps_expr (pos := pos) (pe_bm PySem.F.plainAttrs_list PySem.F.slot_list_append PySem.F.type_list_append (mt_append (X := X)) (pe_var hN hv hd hcd) (pa_cons (pe_ix ix_list (pe_var hN hv hd hcd) (hi.run x.c) hs) pa_nil hst) hbase hfew hline hst rfl) hsw
  refine base.imp fun De σ H h => ?_
  obtain ⟨F, Ω, ρ, K, r, t, w⟩ := tOfS_iff.mp h
  unfold dAppSelf at t
  generalize hz : gt ρ j = z at t
  generalize hz2 : fi ρ = z2 at t
  match z, z2, t, hz, hz2 with
  | .lst true xs, .int n, t, hz, hz2 =>
    obtain ⟨q, hq, hql, hlen, hk⟩ := t
    have hn : nz (gt ρ j) = true := by rw [hz]; rfl
    have hs := gt_some hn
    have hlt := (List.getElem?_eq_some_iff.mp hs).1
    obtain ⟨v, q1, q2⟩ := r.sl j _ hs (nz_ne hn)
    rw [hz] at q2
    simp only [Rv] at q2
    obtain ⟨a, vs, e1, na, ha, hr⟩ := q2
    subst e1
    have hl := hr.length
    refine ⟨.ref a, q1, .inl ⟨rfl, vs, SqL.of ha⟩, .ref a, q1, F, Ω, ρ, r, by rw [hz2]; rfl, by rw [hz2]; rfl, fun vi fi' => ?_⟩
    have ei : vi = .int n := by
      rw [hz2] at fi'
      simpa only [Fz] using fi'
    have hqv : q < vs.length := by rw [← hl]; exact hql
    refine ⟨a, vs, n, vs[q], rfl, ei, SqL.of ha, ?_, a, vs, vs[q], rfl, rfl, ha, by rw [← hl]; exact Nat.lt_of_lt_of_le hlen (by decide), ?_⟩
    · rw [atI_ixN (by rw [← hl]; exact hq)]
      exact List.getElem?_eq_getElem hqv
    · have hFa : F a = none := (r.wf.own a _ na).1
      refine w.nx _ hk σ F _ (drp j Ω) ⟨chg_stp (Stp.refl _ _ _) na fun b o e1 e2 e3 => ?_, ⟨⟨fun b u e => ?_, fun b π e => ?_⟩, fun k d h1 h2 => ?_, by rw [List.length_set]; exact r.len⟩, Io.refl _ _⟩
      · unfold drp
        rw [e3]
        rfl
      · have hb : b ≠ a := fun z => by rw [z, hFa] at e; cases e
        rw [upd_ne hb]
        exact r.wf.sub b u e
      · unfold drp at e
        split at e
        · cases e
        · obtain ⟨z1, u, z2⟩ := r.wf.own b π e
          refine ⟨z1, ?_⟩
          by_cases hb : b = a
          · exact ⟨_, by rw [hb, upd_same]⟩
          · exact ⟨u, by rw [upd_ne hb]; exact z2⟩
      · by_cases hkj : k = j
        · subst hkj
          rw [List.getElem?_set_self hlt] at h1
          cases h1
          exact absurd rfl h2
        · rw [List.getElem?_set_ne (Ne.symm hkj)] at h1
          obtain ⟨v, z1, z2⟩ := r.sl k d h1 h2
          refine ⟨v, z1, Rv.move (Sub.refl _) d _ _ v (fun b π z => ⟨?_, upd_ne fun e => ?_⟩) z2⟩
          · unfold drp
            rw [z, if_neg (by rw [pre_ne hkj]; exact Bool.false_ne_true)]
          · rw [e, na] at z
            have z' := Option.some.inj z
            simp at z'
            exact hkj z'.1.symm
/-- a, b, c = (e1, e2, e3), e2 and e3 one's own -/
def dAsg3 (i1 i2 i3 : Nat) (T1 T2 T3 : DE) : DS := fun ρ K => T1 ρ (onFl K fun d1 ρ1 => T2 ρ1 (onFl K fun d2 ρ2 => T3 ρ2 (onFl K fun d3 ρ3 => (i1 < ρ3.length ∧ i2 < ρ3.length ∧ i3 < ρ3.length) ∧ eAt (ρ3.set i1 (fr d1)) fun ρ4 => eAt (ρ4.set i2 d2) fun ρ5 => eAt (ρ5.set i3 d3) fun ρ6 => K .nx ρ6)))
theorem S_asg3 {i1 i2 i3 : Nat} {y1 y2 y3 : Str} {e1 e2 e3 : Expr} {p1 p2 p3 pt pt2 pos : Pos} {kt k2} {T1 T2 T3 : DE} (hc : X.calm = true) (hN : X.N.Nodup) (h1 : X.N[i1]? = some y1) (h2 : X.N[i2]? = some y2) (h3 : X.N[i3]? = some y3) (n12 : i1 ≠ i2) (n13 : i1 ≠ i3) (n23 : i2 ≠ i3)
    (l1 : X.env.scope.names.lookup y1 = some .local) (l2 : X.env.scope.names.lookup y2 = some .local) (l3 : X.env.scope.names.lookup y3 = some .local) (o1 : i1 ∉ x.io) (o2 : i2 ∉ x.io) (o3 : i3 ∉ x.io) (he1 : PE X e1 (tOfE x.c W T1)) (he2 : PE X e2 (tOfN x.c W T2)) (he3 : PE X e3 (tOfN x.c W T3))
    (hw : swappedStores [.Tuple [.Name y1 p1, .Name y2 p2, .Name y3 p3] kt pt] (.Tuple [e1, e2, e3] k2 pt2) X.env = pure (some [y1, y2, y3]) := by rfl)
    (hs : swapsWithSole [.Tuple [.Name y1 p1, .Name y2 p2, .Name y3 p3] kt pt] (.Tuple [e1, e2, e3] k2 pt2) pos.line X.env = pure false := by rfl)
    (st3 : starEach [e3] X.env = (false, eval e3 X.env) :: starEach [] X.env := by rfl) (st2 : starEach [e2, e3] X.env = (false, eval e2 X.env) :: starEach [e3] X.env := by rfl) (st1 : starEach [e1, e2, e3] X.env = (false, eval e1 X.env) :: starEach [e2, e3] X.env := by rfl) :
    PS X (.Assign [.Tuple [.Name y1 p1, .Name y2 p2, .Name y3 p3] kt pt] (.Tuple [e1, e2, e3] k2 pt2) pos) (tOfS x W (dAsg3 i1 i2 i3 T1 T2 T3)) := by
  refine (ps_par3 hc hN h1 h2 h3 n12 n13 n23 l1 l2 l3 (pa_cons he1 (pa_cons he2 (pa_cons he3 pa_nil st3) st2) st1) hw hs).imp fun De σ H h => ?_
  obtain ⟨F, Ω, ρ, K, r, t, w⟩ := tOfS_iff.mp h
  refine ⟨F, Ω, ρ, _, r, t, fun d1 ρ1 t1 v1 F1 H1 Ω1 s1 r1 g1 => ?_, w.exw⟩
  have w1 := w.later s1 (Io.refl _ _)
  refine ⟨F1, Ω1, ρ1, _, r1, t1, fun d2 ρ2 t2 v2 F2 H2 Ω2 Θ2 s2 r2 a2 n2 => ?_, w1.exw⟩
  have w2 := w1.later s2 (Io.refl _ _)
  refine ⟨F2, Ω2, ρ2, _, r2, t2, fun d3 ρ3 t3 v3 F3 H3 Ω3 Θ3 s3 r3 a3 n3 => ?_, w2.exw⟩
  obtain ⟨⟨b1, b2, b3⟩, hk⟩ := t3
  refine ⟨v1, v2, v3, rfl, ?_⟩
  have r4 := r3
  have s4 := Stp.refl F3 H3 Ω3
  have a2' := a2.stp s3
  have a3' := a3
  have g1' : Fz x.c F3 d1 v1 := Fz.mono (s2.ef.trans s3.ef) _ _ g1
  have len := r4.len
  have q1 := set_slot (i := i1) r4 (by rw [← len]; exact b1) (Air.fz ((Fz_fr _ _ _ _).mpr g1') (own_fr d1))
  have e1 : putN i1 (fun _ => none) Ω3 = Ω3 := by
    funext b
    rfl
  rw [e1] at q1
  have q2 := set_slot (i := i2) q1 (by rw [List.length_set, ← len]; exact b2) a2'
  have a3'' : Air x.c F3 H3 (putN i2 Θ2 Ω3) d3 v3 Θ3 := ⟨a3'.rv, fun b π e => by
    obtain ⟨z1, z2, z3⟩ := a3'.nm b π e
    refine ⟨z1, ?_, z3⟩
    unfold putN
    cases q : Θ2 b with
    | none => exact z2
    | some π2 =>
      obtain ⟨y1, y2, o, y3⟩ := a2.nm b π2 q
      rw [n3 b o y3 y1 y2] at e
      cases e⟩
  have q3 := set_slot (i := i3) q2 (by rw [List.length_set, List.length_set, ← len]; exact b3) a3''
  refine w.nx _ hk _ F3 _ _ ⟨⟨((s1.ef.trans s2.ef).trans s3.ef), fun b o e1 e2 e3 => ?_⟩, q3, ?_⟩
  · obtain ⟨z1, z2, z3⟩ := (((s1.trans s2).trans s3).trans s4).ou b o e1 e2 e3
    refine ⟨z1, z2, ?_⟩
    have y2 := (n2.step s1) b o e1 e2 e3
    have y3 := (n3.step (s1.trans s2)) b o e1 e2 e3
    unfold putN
    rw [y3]
    show (match Θ2 b with | some π => _ | none => Ω3 b) = none
    rw [y2]
    exact z3
  · exact ((Io.set o1).trans (Io.set o2)).trans (Io.set o3)
end
end Vi
/-! Vi30: sorted(set(t)), sorted(xs), xs.extend(ys), i in xs, min(i, j), is of truth values, a value's truth. -/
namespace Vi
open PySem L2 PySem.Spec PyProof.Rows

/-- the names inside a comprehension, by the scope around it -/
def relN (names : List (Str × NameKind)) (s : Scope) : List (Str × NameKind) := names.map fun (n, k) => if (k == NameKind.free && s.kind == ScopeKind.function && s.names.lookup n == some NameKind.cell) then (n, NameKind.cell) else (n, k)
theorem comp_names (sc : Scope) (cl : List (Str × Addr)) (C : Addr) (env : PySem.Env) : (compEnvC sc cl C env).scope.names = relN sc.names env.scope := rfl
def intsD : List D → Option (List Int)
  | [] => some []
  | .int i :: ds => (intsD ds).map (i :: ·)
  | _ => none
theorem intsD_map : ∀ l : List Int, intsD (l.map D.int) = some l
  | [] => rfl
  | i :: l => by
    show (intsD (l.map D.int)).map (i :: ·) = _
    rw [intsD_map l]
    rfl
theorem intsD_eq : ∀ {ds : List D} {ns : List Int}, intsD ds = some ns → ds = ns.map D.int
  | [], ns, h => by cases h; rfl
  | .int i :: ds, ns, h => by
    have h' : (intsD ds).map (i :: ·) = some ns := h
    cases e : intsD ds with
    | none => rw [e] at h'; cases h'
    | some l =>
      rw [e] at h'
      cases h'
      rw [intsD_eq e]
      rfl
  | .und :: _, _, h => nomatch h
  | .non :: _, _, h => nomatch h
  | .bl _ :: _, _, h => nomatch h
  | .str _ :: _, _, h => nomatch h
  | .tup _ :: _, _, h => nomatch h
  | .lst _ _ :: _, _, h => nomatch h
  | .klst _ :: _, _, h => nomatch h
  | .dic _ _ _ :: _, _, h => nomatch h
  | .ins _ _ _ :: _, _, h => nomatch h
  | .exo _ _ _ _ :: _, _, h => nomatch h
  | .fn _ :: _, _, h => nomatch h
theorem fzl_ints_inv {c : Ct} {F : Hp} : ∀ {ns : List Int} {vs : List V}, FzL c F (ns.map D.int) vs → vs = ns.map V.int
  | [], vs, h => by simpa only [List.map_nil, FzL] using h
  | n :: ns, vs, h => by
    simp only [List.map_cons, FzL] at h
    obtain ⟨v, r, e, h1, h2⟩ := h
    have ev : v = .int n := by simpa only [Fz] using h1
    rw [e, ev, fzl_ints_inv h2]
    rfl
theorem vwl_ints_inv {c : Ct} {F H : Hp} {ns : List Int} {vs : List V} (h : VwL c F H (ns.map D.int) vs) : vs = ns.map V.int := fzl_ints_inv (h.fz (by rw [List.all_map]; exact List.all_eq_true.mpr fun _ _ => rfl))
section
variable {X : Cx} {c : Ct} {W : WX}
def rSetT (K : PySem.W.Frag) (w : World) : List V → Hp → VK → Prop := fun xs H Q => ∃ (p : Addr) (ns : List Int), xs = [.ref p] ∧ SqT K H p (ns.map V.int) ∧ ns.length ≤ 1000 ∧ ∀ a n, H a = none → n ≤ ns.length → Q (.ref a) (upd H a (SetO w a (fun j => decide (j ∈ ns)) n))
theorem cr_setT (hc : X.calm = true) : CallR X (.type "set") (rSetT X.K X.w) := by
  intro pins s σ H xs us Q I r h
  obtain ⟨p, ns, rfl, hq, hl, q⟩ := h
  rw [Vals.ref1 r]
  obtain ⟨its, rv, pt, hz⟩ := I.tuple hq
  have hi : IntsAre its.toArray.toList ns := ints_of_vals rv
  refine call_set_tupI ns (I.ok.hd hc) (show s.heap.IsTuple p its.toArray from pt) hi (by unfold scanBound; omega) fun h' tk n R hcn k => ?_
  exact ⟨.ref _, upd H s.heap.objs.size (SetO X.w s.heap.objs.size (fun j => decide (j ∈ ns)) n), I.laid (t' := tk) k (Nat.le_refl _) (setO_new R), rfl, q _ n (I.hok.fresh (Nat.le_refl _)) hcn⟩
def ssK (d : D) (k : D → Prop) : Prop := match d with
  | .tup xs => ∃ ns, intsD xs = some ns ∧ ns.length < 64 ∧ ∀ ms : List Int, ms.Pairwise (· < ·) → (∀ j, j ∈ ms ↔ j ∈ ns) → k (.lst false (ms.map .int))
  | _ => False
theorem ssK_t {ns : List Int} {k : D → Prop} (hl : ns.length < 64) (h : ∀ ms : List Int, ms.Pairwise (· < ·) → (∀ j, j ∈ ms ↔ j ∈ ns) → k (.lst false (ms.map .int))) : ssK (.tup (ns.map .int)) k := ⟨ns, intsD_map ns, hl, h⟩
def dSortSet (O : DO) : DE := fun ρ K => O ρ (onOk K fun o ρ' => nz (see ρ' o) = true ∧ ssK (see ρ' o) fun d => K (.ok d) ρ')
theorem E_sortSet {e : Expr} {O : DO} {p1 p2 p3 p4 : Pos} (hc : X.calm = true) (hK : c.K = X.K) (he : PE X e (tOfO c W O)) (g1 : Gl X "sorted") (m1 : X.mg "sorted" = none) (g2 : Gl X "set") (m2 : X.mg "set" = none)
    (hs2 : starEach [e] X.env = [(false, eval e X.env)] := by rfl) (hs1 : starEach [Expr.Call (.Name "set" p2) [e] [] p3] X.env = [(false, eval (Expr.Call (.Name "set" p2) [e] [] p3) X.env)] := by rfl)
    (hp2 : (backTo p3 (starEach [] X.env)).any (·.1) = false := by rfl) (hp1 : (backTo p4 (starEach [] X.env)).any (·.1) = false := by rfl) :
    PE X (.Call (.Name "sorted" p1) [.Call (.Name "set" p2) [e] [] p3] [] p4) (tOfE c W (dSortSet O)) := by
  refine (pe_callB (cr_sortedSet hc) g1 m1 (by rfl) (pa_cons (pe_callTy (T := "set") (cr_setT hc) g2 m2 (by rfl) (pa_cons he pa_nil hs2) (by decide) (by decide) hs2 hp2) pa_nil hs1) (by decide) (by decide) hs1 hp1).imp fun σ H Q h => ?_
  obtain ⟨F, Ω, ρ, K, r0, ht, k, kx⟩ := h
  refine ⟨F, Ω, ρ, _, r0, ht, fun o ρ1 q1 v F1 H1 Ω1 s1 r1 f1 => ?_, kx.imp (Stp.refl _ _ _) fun _ _ _ q => q⟩
  simp only [onOk_ok] at q1
  obtain ⟨hn, q2⟩ := q1
  have vw := f1.vw r1 hn
  cases e : see ρ1 o with
  | tup xs =>
    rw [e] at q2 vw
    obtain ⟨ns, hi, hl, hk⟩ := q2
    have ex := intsD_eq hi
    subst ex
    obtain ⟨a, vs, e1, h0, h1, h2⟩ := vw.tup r1.wf
    have ev := fzl_ints_inv h2
    subst ev
    refine ⟨a, ns, by rw [e1], by rw [← hK]; exact h1, by omega, fun b n hb hn => ?_⟩
    obtain ⟨r2, s2⟩ := rel_new (o := SetO X.w b (fun j => decide (j ∈ ns)) n) r1 hb
    refine ⟨b, fun j => decide (j ∈ ns), n, rfl, upd_same, by omega, fun ms p hp hm hlen hpn => ?_⟩
    have x3 := Ext.new (o := .lst (ms.map V.int)) r2.wf hpn
    refine k _ ρ1 (hk ms hp fun j => by rw [hm j, decide_eq_true_iff]) _ _ _ _ ((s1.trans s2).trans x3.stp) (r2.ext x3) ?_
    simp only [Fz]
    exact ⟨p, _, rfl, upd_same, fzl_ints ms⟩
  | _ => rw [e] at q2; exact q2.elim
/-! sorted(xs) -/
def oSort : List D → (D → Prop) → Prop
  | [.lst _ xs], K => ∃ ns, intsD xs = some ns ∧ ∀ ms : List Int, ms.Perm ns → ms.Pairwise (· ≤ ·) → K (.lst false (ms.map .int))
  | _, _ => False
theorem oSort_l {o : Bool} {ns : List Int} {k : D → Prop} (h : ∀ ms : List Int, ms.Perm ns → ms.Pairwise (· ≤ ·) → k (.lst false (ms.map .int))) : oSort [.lst o (ns.map .int)] k := ⟨ns, intsD_map ns, h⟩
theorem ba_sort {c : Ct} : BA c (rSortedI c.K) oSort := ⟨fun F H Ω w ds vs hl hv K q Q k => by
  match ds, hl, hv, q with
  | [.lst o xs], hl, hv, q =>
    obtain ⟨ns, hi, hk⟩ := q
    have ex := intsD_eq hi
    subst ex
    obtain ⟨v, e, h⟩ := one_of hl hv
    obtain ⟨a, ys, e1, h1, h2⟩ := h.lst w
    have ev := vwl_ints_inv h2
    subst ev
    refine ⟨a, ns, by rw [e, e1], SqL.of h1, fun ms p hp hs hpn => ?_⟩
    have x3 := Ext.new (o := .lst (ms.map V.int)) w hpn
    refine k _ (hk ms hp hs) _ _ _ x3 ?_
    simp only [Fz]
    exact ⟨p, _, rfl, upd_same, fzl_ints ms⟩⟩
def oMin2 : List D → (D → Prop) → Prop
  | [.int i, .int j], K => K (.int (if j < i then j else i))
  | _, _ => False
theorem oMin2_r (i j : Int) (k : D → Prop) : oMin2 [.int i, .int j] k = k (.int (if j < i then j else i)) := rfl
theorem ba_min2 {c : Ct} : BA c (fun xs H Q => ∃ i j, xs = [.int i, .int j] ∧ Q (.int (if j < i then j else i)) H) oMin2 := ⟨fun F H Ω w ds vs hl hv K q Q k => by
  match ds, hl, hv, q with
  | [.int i, .int j], hl, hv, q =>
    match vs, hl with
    | [v, u], _ =>
      exact ⟨i, j, by rw [vw_int (hv 0 _ v rfl rfl), vw_int (hv 1 _ u rfl rfl)], k _ q _ F H (Ext.refl w) fz_int⟩⟩
/-! i in xs -/
def oInL (g : Bool → Bool) : D → D → (D → Prop) → Prop
  | .int i, .lst _ xs, K => ∃ ns, intsD xs = some ns ∧ K (.bl (g (decide (i ∈ ns))))
  | .int i, .tup xs, K => ∃ ns, intsD xs = some ns ∧ K (.bl (g (decide (i ∈ ns))))
  | _, _, _ => False
theorem oInL_l {g : Bool → Bool} {i : Int} {o : Bool} {ns : List Int} {k : D → Prop} (h : k (.bl (g (decide (i ∈ ns))))) : oInL g (.int i) (.lst o (ns.map .int)) k := ⟨ns, intsD_map ns, h⟩
theorem inV_ints (i : Int) : ∀ ns : List Int, inV (.int i) (ns.map V.int) = decide (i ∈ ns)
  | [] => rfl
  | n :: ns => by
    show (eqV (.int n) (.int i) || inV (.int i) (ns.map V.int)) = _
    rw [inV_ints i ns]
    have e : eqV (.int n) (.int i) = decide (i = n) := by
      show (n == i) = _
      rw [Bool.eq_iff_iff, beq_iff_eq, decide_eq_true_iff]
      exact eq_comm
    rw [e, Bool.eq_iff_iff]
    simp [Bool.or_eq_true]
theorem flat_ints (ns : List Int) : (ns.map V.int).all flatV = true := by
  rw [List.all_map]
  exact List.all_eq_true.mpr fun _ _ => rfl
theorem b2_inL {c : Ct} {neg : Bool} : B2 c (rIn c.K neg) (oInL fun b => if neg = true then !b else b) := ⟨fun F H Ω w d e v u h1 h2 K q Q k => by
  match d, e, q with
  | .int i, .lst o xs, q =>
    obtain ⟨ns, hi, hk⟩ := q
    have ex := intsD_eq hi
    subst ex
    obtain ⟨a, ys, e1, q1, f1⟩ := h2.lst w
    have ev := vwl_ints_inv f1
    subst ev
    have e0 := vw_int h1
    subst e0
    refine ⟨a, _, e1, .inl (SqL.of q1), rfl, flat_ints ns, ?_⟩
    rw [inV_ints]
    cases neg <;> exact k _ hk _ F H (Ext.refl w) (by simp only [Fz] <;> rfl)
  | .int i, .tup xs, q =>
    obtain ⟨ns, hi, hk⟩ := q
    have ex := intsD_eq hi
    subst ex
    obtain ⟨a, ys, e1, _, q1, f1⟩ := h2.tup w
    have ev := fzl_ints_inv f1
    subst ev
    have e0 := vw_int h1
    subst e0
    refine ⟨a, _, e1, .inr q1, rfl, flat_ints ns, ?_⟩
    rw [inV_ints]
    cases neg <;> exact k _ hk _ F H (Ext.refl w) (by simp only [Fz] <;> rfl)⟩
theorem b2_in {c : Ct} : B2 c (rIn c.K false) (oInL id) := b2_inL (neg := false)
theorem b2_nin {c : Ct} : B2 c (rIn c.K true) (oInL not) := b2_inL (neg := true)
/-! is of truth values -/
def oIsB (g : Bool → Bool) : D → D → (D → Prop) → Prop
  | .bl a, .bl b, K => K (.bl (g (decide (a = b))))
  | _, _, _ => False
theorem oIsB_r {g : Bool → Bool} (a b : Bool) (k : D → Prop) : oIsB g (.bl a) (.bl b) k = k (.bl (g (decide (a = b)))) := rfl
theorem b2_isB {c : Ct} : B2 c rIsB (oIsB id) := ⟨fun F H Ω w d e v u h1 h2 K q Q k => by
  match d, e, q with
  | .bl a, .bl b, q => exact ⟨a, b, vw_bl h1, vw_bl h2, k _ q _ F H (Ext.refl w) (by simp only [Fz] <;> rfl)⟩⟩
theorem b2_notB {c : Ct} : B2 c rNotB (oIsB not) := ⟨fun F H Ω w d e v u h1 h2 K q Q k => by
  match d, e, q with
  | .bl a, .bl b, q => exact ⟨a, b, vw_bl h1, vw_bl h2, k _ q _ F H (Ext.refl w) (by simp only [Fz] <;> rfl)⟩⟩
/-! a value's truth -/
def truK (d : D) (k : Bool → Prop) : Prop := match d with
  | .bl b => k b
  | .lst _ xs => k (!xs.isEmpty)
  | .str s => s.length ≤ 16000000 ∧ k (!s.isEmpty)
  | _ => False
theorem truK_s (s : List Nat) (k : Bool → Prop) : truK (.str s) k = (s.length ≤ 16000000 ∧ k (!s.isEmpty)) := rfl
theorem truK_b (b : Bool) (k : Bool → Prop) : truK (.bl b) k = k b := rfl
theorem truK_l (o : Bool) (xs : List D) (k : Bool → Prop) : truK (.lst o xs) k = k (!xs.isEmpty) := rfl
def dTru (O : DO) : DT := fun ρ K => O ρ (onOk K fun o ρ' => nz (see ρ' o) = true ∧ truK (see ρ' o) fun b => K (.ok b) ρ')
theorem T_tru {a : Expr} {O : DO} (hK : c.K = X.K) (ho : PE X a (tOfO c W O)) (he : ∀ whole, isTrue a X.env whole = (do let v ← whole; standAt a.pos; holding [v] (truthy v))) : PT X a (tOfT c W (dTru O)) := (pt_truth ho he).imp fun σ H Q h => by
  obtain ⟨F, Ω, ρ, K, r0, ht, k, kx⟩ := h
  refine ⟨F, Ω, ρ, _, r0, ht, fun o ρ1 q1 v F1 H1 Ω1 s1 r1 f1 => ?_, kx.imp (Stp.refl _ _ _) fun _ _ _ q => q⟩
  simp only [onOk_ok] at q1
  obtain ⟨hn, q2⟩ := q1
  have vw := f1.vw r1 hn
  cases e : see ρ1 o with
  | bl b =>
    rw [e] at q2 vw
    have ev := vw_bl vw
    subst ev
    exact ⟨b, rfl, k b ρ1 q2 F1 H1 Ω1 s1 r1⟩
  | lst b xs =>
    rw [e] at q2 vw
    obtain ⟨p, vs, e1, h1, h2⟩ := vw.lst r1.wf
    have hl := h2.1
    refine ⟨!xs.isEmpty, ?_, k _ ρ1 q2 F1 H1 Ω1 s1 r1⟩
    rw [e1]
    refine .inl ⟨vs, SqL.of h1, ?_⟩
    cases xs <;> cases vs <;> first | rfl | (simp at hl)
  | str s =>
    rw [e] at q2 vw
    have ev := vw_str vw
    subst ev
    refine ⟨!s.isEmpty, ?_, k _ ρ1 q2.2 F1 H1 Ω1 s1 r1⟩
    refine ⟨?_, ?_⟩
    · show (⟨s.toArray⟩ : Str).cps.size ≤ sizeLine
      simp only [List.size_toArray]
      exact Nat.le_trans q2.1 (by decide)
    · show (!s.isEmpty) = (((⟨s.toArray⟩ : Str).cps.size : Int) != 0)
      simp only [List.size_toArray]
      cases s with
      | nil => rfl
      | cons a s =>
        show true = _
        rw [eq_comm, bne_iff_ne]
        simp only [List.length_cons]
        omega
  | _ => rw [e] at q2; exact q2.elim
end
section
variable {X : Cx} {x : Ct2} {W : WX}
/-- xs.extend(ys) -/
def extK (d v : D) (ρ : Env) (j : Nat) (k : Env → Prop) : Prop := match d, v with
  | .lst true xs, .lst false ys => (ys.all fun y => !own y) = true ∧ xs.length + ys.length ≤ 16000000 ∧ k (ρ.set j (.lst true (xs ++ ys)))
  | _, _ => False
theorem extK_l (xs ys : List D) (ρ : Env) (j : Nat) (k : Env → Prop) : extK (.lst true xs) (.lst false ys) ρ j k = ((ys.all fun y => !own y) = true ∧ xs.length + ys.length ≤ 16000000 ∧ eAt (ρ.set j (.lst true (xs ++ ys))) k) := rfl
def dExt (j : Nat) (T : DE) : DS := fun ρ K => isLst (gt ρ j) = true ∧ T ρ (onFl K fun d ρ1 => dAt (fr d) fun d' => extK (gt ρ1 j) d' ρ1 j fun ρ2 => K .nx ρ2)
theorem RvL.app {c : Ct} {F H : Hp} {Θ : Nm} : ∀ {es ds : List D} {ws vs : List V} {π : List Nat} {j : Nat}, RvL c F H Θ ds π j vs → FzL c F es ws → (es.all fun y => !own y) = true → RvL c F H Θ (ds ++ es) π j (vs ++ ws)
  | [], ds, ws, vs, π, j, h, g, _ => by
    simp only [FzL] at g
    subst g
    simpa using h
  | e :: es, ds, ws, vs, π, j, h, g, ho => by
    simp only [FzL] at g
    obtain ⟨w, r, e1, g1, g2⟩ := g
    subst e1
    rw [List.all_cons, Bool.and_eq_true] at ho
    have z := RvL.app (RvL.append h ((Rv_of_own (by simpa using ho.1)).mpr g1)) g2 ho.2
    simpa using z
theorem S_ext {j : Nat} {y : Str} {e : Expr} {T : DE} {p apos cpos pos : Pos} (hN : X.N[j]? = some y) (hv : Vis X.env.scope y) (he : PE X e (tOfE x.c W T)) (hd : (y == ("__debug__" : Str)) = false := by decide) (hcd : (y == ("__classdict__" : Str)) = false := by decide)
    (hbase : attributeBase (.Name y p) "extend" X.env (eval (.Name y p) X.env) = eval (.Name y p) X.env := by rfl)
    (hfew : ((backTo cpos (starEach [e] X.env)).all (fun x => !x.1) && (backToKw cpos (keywordEach [] X.env)).all (fun x => x.1.isSome) && decide (([e]).length + ([] : List Keyword).length + (if ([] : List Keyword).isEmpty then 0 else 1) < 30)) = true := by rfl)
    (hline : (apos.endLine == cpos.line) = true := by rfl) (hst : starEach [e] X.env = (false, eval e X.env) :: starEach [] X.env := by rfl) (hsw : swapsWith (.Call (.Attribute (.Name y p) "extend" apos) [e] [] cpos) none pos.line X.env = pure false := by rfl) :
    PS X (.Expr (.Call (.Attribute (.Name y p) "extend" apos) [e] [] cpos) pos) (tOfS x W (dExt j T)) := by
  have base := ps_expr (pos := pos) (pe_bm PySem.F.plainAttrs_list PySem.F.slot_list_extend PySem.F.type_list_extend (mt_extend (X := X)) (pe_var hN hv hd hcd) (pa_cons he pa_nil hst) hbase hfew hline hst rfl) hsw
  refine base.imp fun De σ H h => ?_
  obtain ⟨F, Ω, ρ, K, r, ⟨hn, t⟩, w⟩ := tOfS_iff.mp h
  have hn' : nz (gt ρ j) = true := by
    cases e : gt ρ j <;> rw [e] at hn <;> first | rfl | cases hn
  obtain ⟨v, q1, q2⟩ := r.sl j _ (gt_some hn') (nz_ne hn')
  refine ⟨v, q1, ?_, F, Ω, ρ, _, r, t, fun d ρ1 q u F1 H1 Ω1 s1 r1 f1 => ?_, w.exw⟩
  · cases e : gt ρ j with
    | lst o ds =>
      rw [e] at q2
      obtain ⟨a, vs, e1, h1, _⟩ := Vw.lst r.wf (.inr ⟨_, _, q2⟩)
      subst e1
      exact .inl ⟨rfl, vs, SqL.of h1⟩
    | _ => rw [e] at hn; cases hn
  · simp only [onFl_ok] at q
    have q' : extK (gt ρ1 j) (fr d) ρ1 j fun ρ2 => K .nx ρ2 := q
    have f1' : Fz x.c F1 (fr d) u := (Fz_fr _ _ _ _).mpr f1
    generalize hz : gt ρ1 j = z at q'
    generalize fr d = d' at q' f1'
    match z, d', q', hz, f1' with
    | .lst true xs, .lst false ys, ⟨hall, hl, hk⟩, hz, f1' =>
      have hn1 : nz (gt ρ1 j) = true := by rw [hz]; rfl
      have hs1 := gt_some hn1
      obtain ⟨v', z1, z2⟩ := r1.sl j _ hs1 (nz_ne hn1)
      rw [q1] at z1
      cases z1
      rw [hz] at z2
      simp only [Rv] at z2
      obtain ⟨a, vs, e1, ha, hH, hr⟩ := z2
      subst e1
      simp only [Fz] at f1'
      obtain ⟨b, ws, e2, hb, hw⟩ := f1'
      subst e2
      have lenv := hr.length
      have lenw := hw.length
      refine ⟨a, b, vs, ws, rfl, rfl, hH, r1.wf.sub _ _ hb, by rw [← lenv, ← lenw]; exact sz_ok hl, ?_⟩
      refine w.nx _ hk σ F1 _ Ω1 ⟨chg_stp s1 ha fun b o e1 e2 e3 => (s1.ou b o e1 e2 e3).2.2, chg_slot r1 (List.getElem?_eq_some_iff.mp hs1).1 q1 ha ?_ (fun _ _ e => e) fun b π e => r1.wf.own b π e, Io.refl _ _⟩
      simp only [Rv]
      refine ⟨a, vs ++ ws, rfl, ha, upd_same, RvL.app (RvL.move (Sub.refl _) xs [j] [j] 0 vs (fun b i π e => ⟨e, upd_ne fun y => ?_⟩) hr) hw hall⟩
      rw [y, ha] at e
      simp at e
end
end Vi
/-! Vi31: repr of nested tuples and lists; the law's def where it is known that no repr is under way (callerA). -/
namespace Vi
open PySem L2 PySem.Spec PyProof.Rows

mutual
def pdd : D → PyData
  | .bl b => .bool b
  | .int i => .int i
  | .str x => .str ⟨x.toArray⟩
  | .tup ds => .tuple (pdds ds)
  | .lst _ ds => .list (pdds ds)
  | _ => .none
def pdds : List D → List PyData
  | [] => []
  | d :: ds => pdd d :: pdds ds
end
mutual
def nice : D → Bool
  | .bl _ | .int _ | .str _ | .non => true
  | .tup ds => nices ds
  | .lst _ ds => nices ds
  | _ => false
def nices : List D → Bool
  | [] => true
  | d :: ds => nice d && nices ds
end
def deepD : D → Bool
  | .tup _ | .lst _ _ => true
  | _ => false
/-- repr's text -/
def shD (d : D) : List Nat := (pdd d).shown.cps.toList
def shOk (d : D) : Prop := deepD d = true ∧ nice d = true ∧ (pdd d).showable = true ∧ (pdd d).hasDict = false ∧ (pdd d).depth ≤ 40 ∧ (pdd d).shown.length ≤ sizeLine
section
variable {P : Program} {w : World} {c : Ct} {F H : Hp} {h : Heap}
mutual
theorem rds (ok : HOk P w H h) (sb : Sub F H) : ∀ (d : D) (v : V) (u : Value), nice d = true → Fz c F d v → RelV v u → ∃ as, Reads h u (pdd d) as
  | .und, _, _, n, _, _ => by simp [nice] at n
  | .klst _, _, _, n, _, _ => by simp [nice] at n
  | .dic _ _ _, _, _, n, _, _ => by simp [nice] at n
  | .ins _ _ _, _, _, n, _, _ => by simp [nice] at n
  | .exo _ _ _ _, _, _, n, _, _ => by simp [nice] at n
  | .fn _, _, _, n, _, _ => by simp [nice] at n
  | .non, v, u, _, f, r => by
    simp only [Fz] at f
    subst f
    obtain rfl : u = .none := r
    exact ⟨[], by simp only [pdd]; exact .none⟩
  | .bl b, v, u, _, f, r => by
    simp only [Fz] at f
    subst f
    obtain rfl : u = .bool b := r
    exact ⟨[], by simp only [pdd]; exact .bool b⟩
  | .int i, v, u, _, f, r => by
    simp only [Fz] at f
    subst f
    obtain ⟨t, rfl⟩ : ∃ t, u = .int i t := r
    exact ⟨[], by simp only [pdd]; exact .int i t⟩
  | .str x, v, u, _, f, r => by
    simp only [Fz] at f
    subst f
    obtain ⟨t, rfl⟩ : ∃ t, u = .str ⟨x.toArray⟩ t := r
    exact ⟨[], by simp only [pdd]; exact .str _ t⟩
  | .tup ds, v, u, n, f, r => by
    simp only [Fz] at f
    obtain ⟨a, vs, rfl, e, fl⟩ := f
    obtain rfl : u = .ref a := r
    obtain ⟨_, its, q, o, g, hc, m, hd⟩ := ok _ _ (sb _ _ e)
    obtain ⟨as, z⟩ := rdsL ok sb ds vs its (by simpa [nice] using n) fl q
    exact ⟨as, by simp only [pdd]; exact .tuple g hc hd (by simpa using z)⟩
  | .lst b ds, v, u, n, f, r => by
    simp only [Fz] at f
    obtain ⟨a, vs, rfl, e, fl⟩ := f
    obtain rfl : u = .ref a := r
    obtain ⟨_, its, m, q, g⟩ := ok _ _ (sb _ _ e)
    obtain ⟨as, z⟩ := rdsL ok sb ds vs its (by simpa [nice] using n) fl q
    exact ⟨a :: as, by simp only [pdd]; exact .list g rfl rfl (by simpa using z)⟩
theorem rdsL (ok : HOk P w H h) (sb : Sub F H) : ∀ (ds : List D) (vs : List V) (us : List Value), nices ds = true → FzL c F ds vs → Vals vs us → ∃ as, ReadsAll h us (pdds ds) as
  | [], vs, us, _, f, r => by
    simp only [Fz, FzL] at f
    subst f
    cases r
    exact ⟨[], by simp only [pdds]; exact .nil⟩
  | d :: ds, vs, us, n, f, r => by
    simp only [FzL] at f
    obtain ⟨v, vr, rfl, f1, f2⟩ := f
    simp only [nices, Bool.and_eq_true] at n
    match us, r with
    | _ :: _, .cons r1 r2 =>
      obtain ⟨as, z1⟩ := rds ok sb d v _ n.1 f1 r1
      obtain ⟨bs, z2⟩ := rdsL ok sb ds vr _ n.2 f2 r2
      exact ⟨as ++ bs, by simp only [pdds]; exact .cons z1 z2⟩
end
end
section
variable {X : Cx} {c : Ct} {W : WX}
theorem call_repr_deep (hg : X.A.guards = some []) (hu : X.A.units + 64 < cLine) : CallR X (.builtin "repr") (fun xs H Q => ∃ (F : Hp) (d : D) (v : V), xs = [v] ∧ Sub F H ∧ Fz c F d v ∧ shOk d ∧ Q (.str (pdd d).shown) H) := by
  intro pins s σ H xs us Q I r h
  obtain ⟨F, d, v, rfl, sb, f, ⟨o1, o2, o3, o4, o5, o6⟩, q⟩ := h
  obtain ⟨u, rfl, ru⟩ := vals1 r
  obtain ⟨as, z⟩ := rds I.hok sb d v u o2 f ru
  obtain ⟨a, rfl⟩ : ∃ a, u = .ref a := by
    cases d <;> simp only [deepD] at o1 <;> first | (cases o1; done) | (simp only [pdd] at z; cases z; exact ⟨_, rfl⟩)
  exact repr_of_reads' z o3 (PyData.noDict_hsm o4) hg (by omega) (fun _ _ e => e) (fun h' t tk k => ⟨.str (pdd d).shown, H, I.kept k, ⟨_, rfl⟩, q⟩) o6
/-- repr(e), e nested -/
def dReprT (T : DE) : DE := fun ρ K => T ρ (onOk K fun d ρ' => shOk d ∧ K (.ok (.str (shD d))) ρ')
theorem E_reprT {e : Expr} {T : DE} {p1 p2 : Pos} (hgd : X.A.guards = some []) (hu : X.A.units + 64 < cLine) (he : PE X e (tOfE c W T)) (hg : Gl X "repr") (hm : X.mg "repr" = none)
    (hs : starEach [e] X.env = (false, eval e X.env) :: starEach [] X.env := by rfl) (hpl : (backTo p2 (starEach [] X.env)).any (·.1) = false := by rfl) :
    PE X (.Call (.Name "repr" p1) [e] [] p2) (tOfE c W (dReprT T)) := by
  refine (pe_callB (id := "repr") (call_repr_deep (c := c) hgd hu) hg hm (by decide +kernel) (pa_cons he pa_nil hs) (by decide) (by decide) hs hpl).imp fun σ H Q h => ?_
  obtain ⟨F, Ω, ρ, K, r, t, k, kx⟩ := h
  refine ⟨F, Ω, ρ, _, r, t, fun d ρ' q v F' H' Ω' s r' f => ?_, kx.imp (Stp.refl _ _ _) fun _ _ _ q => q⟩
  simp only [onOk_ok] at q
  refine ⟨F', d, v, rfl, r'.wf.sub, f, q.1, ?_⟩
  refine k _ ρ' q.2 _ _ _ Ω' s r' ?_
  simp only [Fz, shD]
/-! ### text == text, of any signs -/
def oEqS (g : Bool → Bool) : D → D → (D → Prop) → Prop := fun d e K => match d, e with
  | .str s, .str t => K (.bl (g (decide (s = t))))
  | _, _ => False
theorem oEqS_r (g : Bool → Bool) (s t : List Nat) (K : D → Prop) : oEqS g (.str s) (.str t) K = K (.bl (g (decide (s = t)))) := rfl
theorem dec_txt (s t : List Nat) : decide (V.str ⟨s.toArray⟩ = V.str ⟨t.toArray⟩) = decide (s = t) := by
  rw [Bool.eq_iff_iff]
  simp
theorem b2_eqS {c : Ct} : B2 c rEq (oEqS id) := ⟨fun F H Ω w d e v u h1 h2 K q Q k => by
  match d, e, q with
  | .str s, .str t, q =>
    rw [vw_str h1, vw_str h2]
    exact ⟨rfl, k _ q _ F H (Ext.refl w) (by rw [dec_txt]; simp only [Fz]; rfl)⟩⟩
theorem b2_neS {c : Ct} : B2 c rNe (oEqS not) := ⟨fun F H Ω w d e v u h1 h2 K q Q k => by
  match d, e, q with
  | .str s, .str t, q =>
    rw [vw_str h1, vw_str h2]
    exact ⟨rfl, k _ q _ F H (Ext.refl w) (by rw [dec_txt]; simp only [Fz])⟩⟩
end
end Vi
/-! Vi32: the law's def at callerA alone, where it is known that no repr is under way. -/
namespace Vi
open PySem L2 PySem.Spec PyProof.Rows

/-- one run of a def, at one place -/
theorem run_at {P : Program} {w : World} {K : PySem.W.Frag} {mg : Str → Option Value} {base : Heap} {x qual : Str} {st : Stmt} {f : Addr} {fd : FuncData} {N ps : List Str} {k : Nat} {A : Around} {outer : List PySem.Env} {s : Shared} {H : Hp} {Q : VK} {E : XK} {args : Args} {us : List Value} {vs : List V}
    (Fn : Fun K x qual st f fd) (Sc : FnScope N ps (defScope st)) (room : Room (k + 1) A) (en : Env0 P w K mg base A outer s H) (bind : BindsTo s fd args (ps.zip us)) (vals : Vals vs us) (len : vs.length = ps.length)
    (body : ∀ cdv : Value, ∃ t, PSs (cxOf (L2.CX P w) P w K mg base N qual (defScope st) f cdv A outer s H E) (defBody st) t ∧ t { nx := fun _ H' => Q .non H', rt := Q } (L2.start N vs) H) :
    codeAny (model P w) A (.call (.ref f) args) (CR (L2.CX P w) outer P w H s Q E) s := by
  obtain ⟨_, _, _, _, _, _, cdv, _, _, efd, look, code⟩ := Fn.ex
  subst efd
  have known : K.In s.heap := en.mod.kin.keeps (fun b o h => (en.bs b o h).1)
  have limit : s.heap.NoLimit := en.mod.nolimit.keeps (fun b o h => (en.bs b o h).1)
  apply codeAny_call_function room.depth (known _ _ look) rfl Sc.co Sc.gen rfl (PySem.W.codeRec_of known code)
  apply bind
  apply wpAny_newFunctionEnv_cells Sc.kind
  · rintro ⟨n, v⟩ hn
    exact (Sc.par n (List.of_mem_zip hn).1).imp id fun q => ⟨q, PySem.W.cellsFrom_some _ _ _ (Or.inl q)⟩
  · rintro env rfl s1 made
    refine ⟨limit.keeps made.toInCall.keep, ?_⟩
    obtain ⟨t, ht, hq⟩ := body cdv
    have inv := inv_start (CX := L2.CX P w) (E := E) Sc room.hd en len vals made
    refine codeAny_func (wpAny_mono (ht.run [] s1 (L2.start N vs) H _ inv hq) ?_ ?_)
    · rintro (_ | _ | _ | u) s' hs
      · obtain ⟨σ', H', J, q⟩ := hs
        exact ⟨.non, H', J.os, J.bare, J.base, J.hok, rfl, q⟩
      · obtain ⟨_, _, _, q⟩ := hs
        exact False.elim q
      · obtain ⟨_, _, _, q⟩ := hs
        exact False.elim q
      · obtain ⟨v, σ', H', J, rv, q⟩ := hs
        exact ⟨v, H', J.os, J.bare, J.base, J.hok, rv, q⟩
    · exact fun e s' hs => hs

/-- a def's promise at the law's own call -/
def TopOk (P : Program) (w : World) (K : PySem.W.Frag) (mg : Str → Option Value) (base : Heap) (f : Addr) (fd : FuncData) (ps : List Str) (sp : Sp) : Prop :=
  ∀ (s : Shared) (H : Hp) (us : List Value) (vs : List V) (Q : VK) (E : XK), Env0 P w K mg base callerA [] s H → BindsTo s fd ⟨us, []⟩ (ps.zip us) → Vals vs us → sp vs H Q E → codeAny (model P w) callerA (.call (.ref f) ⟨us, []⟩) (CR (L2.CX P w) [] P w H s Q E) s
theorem TopOk.imp {P : Program} {w : World} {K : PySem.W.Frag} {mg : Str → Option Value} {base : Heap} {f : Addr} {fd : FuncData} {ps : List Str} {sp sp' : Sp} (T : TopOk P w K mg base f fd ps sp) (h : ∀ vs H Q E, sp' vs H Q E → sp vs H Q E) : TopOk P w K mg base f fd ps sp' :=
  fun s H us vs Q E e b v q => T s H us vs Q E e b v (h _ _ _ _ q)
theorem fn_top {P : Program} {w : World} {K : PySem.W.Frag} {mg : Str → Option Value} {base : Heap} {x qual : Str} {st : Stmt} {f : Addr} {fd : FuncData} {N ps : List Str} {k : Nat} {c : Ct} {S : FS} {B : DS} (Fn : Fun K x qual st f fd) (Sc : FnScope N ps (defScope st)) (room : Room (k + 1) callerA)
    (hb : ∀ (cdv : Value) (s : Shared) (H : Hp) (E : XK), Room k (callerA.deeper (envOfC qual (defScope st) s.heap.objs.size f cdv)) → (callerA.deeper (envOfC qual (defScope st) s.heap.objs.size f cdv)).guards = some [] →
      PSs (cxOf (L2.CX P w) P w K mg base N qual (defScope st) f cdv callerA [] s H E) (defBody st) (tOfS ⟨c, []⟩ (fun cls d _ H => E cls d H) B))
    (hd : ∀ args K', args.length = ps.length → S args K' → B (args ++ List.replicate (N.length - ps.length) .und) (endK ps.length K')) : TopOk P w K mg base f fd ps (spOf c [] ps.length S) := by
  intro s H us vs Q E en bind vals hsp
  obtain ⟨F, Ω, args, K', hl, r, hS, kr, kx⟩ := hsp
  have lv : vs.length = ps.length := by
    have := r.len
    rw [List.length_map] at this
    omega
  refine run_at Fn Sc room en bind vals lv fun cdv => ⟨_, hb cdv s H E (room.deeper _) rfl, ?_⟩
  have r0 : Rel c F H Ω (args ++ List.replicate (N.length - ps.length) .und) (L2.start N vs) := by
    refine ⟨r.wf, fun i d h1 h2 => ?_, by unfold L2.start; simp only [List.length_append, List.length_replicate, List.length_map]; omega⟩
    by_cases hi : i < args.length
    · rw [List.getElem?_append_left hi] at h1
      obtain ⟨v, q1, q2⟩ := r.sl i d h1 h2
      refine ⟨v, ?_, q2⟩
      unfold L2.start
      rwa [List.getElem?_append_left (by simpa [lv] using (hl ▸ hi))]
    · rw [List.getElem?_append_right (by omega), List.getElem?_replicate] at h1
      split at h1 <;> first | (cases h1; exact absurd rfl h2) | cases h1
  have none_io : ∀ {F' H' : Hp} {Ω' : Nm} {ρ' : Vi.Env} {σ' : L2.St}, PostS ⟨c, []⟩ F H Ω (L2.start N vs) F' H' Ω' ρ' σ' → IoP c [] F' H' Ω' (ρ'.take ps.length) vs := fun p => ⟨p.2.1.wf, fun _ z => by cases z⟩
  refine tOfS_iff.mpr ⟨F, Ω, _, _, r0, hd args K' hl hS, ⟨fun ρ' q σ' F' H' Ω' p => ?_, fun ρ' q => q.elim, fun ρ' q => q.elim, fun d ρ' q σ' v F' H' Ω' Θ p a n => ?_, fun C u ρ' q cd vw σ' F' H' Ω' p e1 e2 => ?_⟩⟩
  · exact kr .non _ q .non F' H' Ω' _ p.1 (none_io p) (Air.fz (by simp only [Fz]) rfl) New.none
  · exact kr d _ q v F' H' Ω' Θ p.1 (none_io p) a n
  · exact kx C u _ q cd vw F' H' Ω' p.1 (none_io p) e1 e2

/-- the script's heap: the list, where it is none of the module's own -/
def scr (K : PySem.W.Frag) (a : Addr) (o : Obj) (xs : List V) : Hp := fun b => if b = a ∧ K.lookup a = none then some (.frz o (.lst xs)) else none
theorem scr_none {K : PySem.W.Frag} {a b : Addr} {o : Obj} {xs : List V} (h : ¬ (b = a ∧ K.lookup a = none)) : scr K a o xs b = none := if_neg h
theorem scr_some {K : PySem.W.Frag} {a b : Addr} {o : Obj} {xs : List V} {u : HO} (h : scr K a o xs b = some u) : b = a ∧ K.lookup a = none ∧ u = .frz o (.lst xs) := by
  unfold scr at h
  split at h
  · rename_i y
    cases h
    exact ⟨y.1, y.2, rfl⟩
  · cases h
theorem top_call {P : Program} {w : World} {K : PySem.W.Frag} {mg mb : Str → Option Value} {f a : Addr} {fd : FuncData} {x : Str} {s : Shared} {vs : List Value} {ns : List Int}
    (KX : K.In s.heap) (glob : s.heap.Ns mainGlobals mg) (blt : s.heap.Ns builtinsNs mb) (bb : ∀ x : Str, x ≠ "__name__" → mb x = bootBuiltins x) (lim : s.heap.NoLimit) (gens : s.gens = #[])
    (obj : s.heap.get? a = some { cls := .type "list", data := .seq vs.toArray }) (nums : IntsAre vs ns) (size : ns.length ≤ 63)
    (F : ∀ base : Heap, K.In base → base.Ns mainGlobals mg → TopOk P w K mg base f fd [x] (spLaw K)) (bind : ∀ (s : Shared) (u : Value), BindsTo s fd ⟨[u], []⟩ [(x, u)]) :
    codeAny (model P w) callerA (.call (.ref f) ⟨[.ref a], []⟩) (fun r s' => r = .ok (.ret (.bool true)) ∧ OldK s.heap s'.heap ∧ s'.os = s.os ∧ AllBare s'.gens) s := by
  let o : Obj := { cls := .type "list", data := .seq vs.toArray }
  let H := scr K a o (ns.map V.int)
  have hl : vs.length = ns.length := nums.length
  have sz : ns.length ≤ sizeLine := Nat.le_trans size (by decide)
  have sql : SqL K H a (ns.map V.int) := by
    cases hk : K.lookup a with
    | none => exact .inl (.inr ⟨o, if_pos ⟨rfl, hk⟩⟩)
    | some o' =>
      have e := KX a o' hk
      rw [obj] at e
      cases e
      exact .inr ⟨_, vs.toArray, _, hk, rfl, rfl, rfl, by simpa [hl] using sz, by simpa using vals_ints nums⟩
  have ok : HOk P w H s.heap := fun b u e => by
    obtain ⟨rfl, _, rfl⟩ := scr_some e
    exact ⟨obj, by simpa using sz, vs, _, vals_ints nums, obj⟩
  -- what a module's thing is stays in the base
  have stay : ∀ {b : Addr} {u : Obj}, s.heap.get? b = some u → (b = a → K.lookup a ≠ none ∨ ∃ es n, u.data = .dict es n) → (hidT s.heap H).get? b = some u := fun {b u} e n => hidT_get e (scr_none fun ⟨y1, y2⟩ => by
    rcases n y1 with z | ⟨es, m, z⟩
    · exact z y2
    · subst y1
      rw [obj] at e
      cases e
      cases z)
  have names : ∀ {b : Addr} {m : Str → Option Value}, s.heap.Ns b m → (hidT s.heap H).Ns b m := fun ⟨u, es, n, e, d, r⟩ => ⟨u, es, n, stay e fun _ => .inr ⟨es, n, d⟩, d, r⟩
  have kin : K.In (hidT s.heap H) := fun b u e => stay (KX b u e) fun y => .inl (by subst y; rw [e]; simp)
  have mod : Mod K mg (hidT s.heap H) := ⟨kin, names glob, ⟨mb, names blt, bb⟩, by obtain ⟨m, h1, h2⟩ := lim; exact ⟨m, names h1, h2⟩⟩
  have en : Env0 P w K mg (hidT s.heap H) callerA [] s H := ⟨rfl, mod, fun b u e => of_hidT e, (by rw [hidT_size]; exact Nat.le_refl _), trivial, (fun b hb => by cases hb), ok, .of_eq gens⟩
  refine codeAny_mono (F _ kin (names glob) s H [.ref a] [.ref a] (fun v _ => v = .bl true) (fun _ _ _ => False) en (bind s _) (.cons rfl .nil) ⟨a, ns, rfl, sql, size, fun _ => rfl⟩) ?_
  rintro (e | fl) s' q
  · obtain ⟨_, _, _, _, _, _, _, _, _, _, _, _, z⟩ := q
    exact False.elim z
  · cases fl with
    | next => exact False.elim q
    | brk => exact False.elim q
    | cont => exact False.elim q
    | ret u =>
      obtain ⟨v, H', os, bare, un, ok', rel, rfl⟩ := q
      obtain rfl : u = .bool true := rel
      refine ⟨rfl, OldK.of_keep fun b u e => ?_, os, bare⟩
      cases hb : H b with
      | none => exact un.keep b u e hb (by rintro ⟨⟩) (by simp)
      | some t =>
        obtain ⟨rfl, _, rfl⟩ := scr_some hb
        rw [obj] at e
        cases e
        exact (ok' _ _ (un.frzs b o _ hb)).1
theorem walkG {l : PySem.W.OpenLaw} {q : Program} {loose : List Str} {XP : (Str → Option Value) → Heap → Prop} {YP : World → Heap → Prop} {d : DefRec} {K : Params → PySem.W.Frag} (hn : l.most = some 63) (hdf : d.params.defaults = [])
    (hY : ∀ (w : World) (h : Heap), YP w h → (K w.params).In h)
    (F : ∀ (w : World) (mg : Str → Option Value) (fa : Addr) (h : Heap), (K w.params).In h → h.Ns mainGlobals mg → mg d.name = some (.ref fa) →
      ∃ fd : FuncData, (∀ (s : Shared) (u : Value), BindsTo s fd ⟨[u], []⟩ [("_law_script", u)]) ∧ ∀ base : Heap, (K w.params).In base → base.Ns mainGlobals mg → TopOk l.prog w (K w.params) mg base fa fd ["_law_script"] (spLaw (K w.params))) :
    PySem.W.WalkO q loose XP YP l.row.toRowW d [] (fun f vs => PySem.call f vs) := by
  refine Att.attach_call hn hdf fun w _ s mg mb fa _ _ _ _ a vs ns G Y _ _ _ hmg obj nums size gens => ?_
  obtain ⟨fd, bind, T⟩ := F w mg fa _ (hY w _ Y) G.T.g hmg
  exact top_call (hY w _ Y) G.T.g G.T.b G.T.builtins G.T.nolimit gens obj nums size T bind
end Vi
/-! Vi33: zip of a text and a tuple; sum; slices of tuples. -/
namespace Vi
open PySem L2 PySem.Spec PyProof.Rows

/-- the signs of x with the items of the tuple at b, in new pairs -/
def ItzS (K : PySem.W.Frag) (x : Str) (b : Addr) (ys : List V) : It :=
  ⟨fun i H => i < min x.cps.size ys.length ∧ SqT K H b ys,
    fun i H v H' => ∃ T c y, v = .ref T ∧ H T = none ∧ H' = upd H T (.tup [.str ⟨#[c]⟩, y]) ∧ x.cps[i]? = some c ∧ ys[i]? = some y,
    fun i H => i = min x.cps.size ys.length ∧ SqT K H b ys⟩
theorem at_str {h h' : Heap} {a : Addr} {ty : String} {x : Str} {t : Tok} {i : Nat} (q : h.IsStrIter a ty x t i) (e : ∀ o, h.get? a = some o → h'.get? a = some o) : h'.IsStrIter a ty x t i := let ⟨o, ho, r⟩ := q; ⟨o, e _ ho, r⟩
theorem turn_zipS {P : Program} {w : World} {K : PySem.W.Frag} {elts : List Expr} {kk : Nat} {tpos : Pos} {x : Str} {t : Tok} {b z TI TO i1 i2 : Addr} {ys : List V} (D : ZipSep2 z TI TO i1 i2 [i1] [i2, b]) (hb : b ≠ i2) :
    Turn P w K (.Tuple elts kk tpos) (ItzS K x b ys) [z, TI, TO, i1, i2] z (fun i h => IsZip h z TI TO .none ∧ IsTupOf2 h TI (.ref i1) (.ref i2) ∧ (∃ p q, IsTupOf2 h TO p q) ∧ h.IsStrIter i1 (strIterType x) x t i ∧ h.IsTupleIter i2 b i) where
  mem := by simp
  obj := fun i h st c hc => by
    obtain ⟨hz, hTI, ⟨p, q, hTO⟩, ⟨o1, e1, _, d1⟩, ⟨o2, e2, _, d2⟩⟩ := st
    simp only [List.mem_cons, List.not_mem_nil, or_false] at hc
    rcases hc with rfl | rfl | rfl | rfl | rfl
    · exact ⟨_, hz, fun v q => nomatch q⟩
    · exact ⟨_, hTI, fun v q => nomatch q⟩
    · exact ⟨_, hTO, fun v q => nomatch q⟩
    · exact ⟨o1, e1, fun v q => by rw [d1] at q; cases q⟩
    · exact ⟨o2, e2, fun v q => by rw [d2] at q; cases q⟩
  keep := fun i h h' st k => by
    obtain ⟨hz, hTI, ⟨p, q, hTO⟩, h1, h2⟩ := st
    exact ⟨k z (by simp) _ hz, k TI (by simp) _ hTI, ⟨p, q, k TO (by simp) _ hTO⟩, at_str h1 fun o e => k i1 (by simp) o e, h2.at fun o e => k i2 (by simp) o e⟩
  item := by
    rintro X rfl rfl rfl hc i pins s σ H E I hf ⟨hz, hTI, ⟨p, q, hTO⟩, h1, h2⟩ ⟨hi, hq⟩
    obtain ⟨its, rv, tp, _⟩ := I.tuple hq
    have hsz : its.toArray.size = ys.length := by simp [rv.length]
    have live : ∀ c ∈ [z, TI, TO, i1, i2], c < s.heap.objs.size := fun c hcm => by
      simp only [List.mem_cons, List.not_mem_nil, or_false] at hcm
      rcases hcm with rfl | rfl | rfl | rfl | rfl
      · exact Heap.lt_size hz
      · exact Heap.lt_size hTI
      · exact Heap.lt_size hTO
      · obtain ⟨_, e1, _⟩ := h1
        exact Heap.lt_size e1
      · obtain ⟨_, e2, _⟩ := h2
        exact Heap.lt_size e2
    have G := GoesN.zip2 (elts := elts) (x1 := kk) (pos := tpos) D (Draws.text (prog := X.prog) (w := X.w) (A := X.A.in1) (I.ok.hd hc) i1 x t) (Draws.tuple (prog := X.prog) (w := X.w) (A := X.A.in1) (I.ok.hd hc) i2 b hb its.toArray)
    rw [hsz] at G
    refine G.goes i s _ E hi ⟨hz, hTI, ⟨p, q, hTO⟩, h1, h2, tp⟩ fun v h' tk hY st' hk htk => ?_
    obtain ⟨T, u1, u2, rfl, hT, ⟨c, tc, hcx, rfl⟩, hu2, hTT⟩ := hY
    have hy : its[i]? = some u2 := by simpa using hu2
    obtain ⟨yv, hyv⟩ : ∃ yv, ys[i]? = some yv := ⟨_, List.getElem?_eq_getElem (by omega)⟩
    obtain ⟨u2', e2, ru⟩ := rv.get hyv
    rw [hy] at e2
    cases e2
    have new : ObjOk X.prog X.w (upd H T (.tup [.str ⟨#[c]⟩, yv])) h' T (.tup [.str ⟨#[c]⟩, yv]) := ⟨by show 2 ≤ sizeLine; decide, [_, u2], .cons ⟨tc, rfl⟩ (.cons ru .nil), hTT⟩
    have I1 := I.turnedNew (t' := tk) (ch := [z, TI, TO, i1, i2]) (fun b' o hb' e => hk b' o (fun z => hb' (by simp only [List.mem_cons, List.not_mem_nil, or_false] at z ⊢; rcases z with z | z | z | z <;> simp [z])) e) hf hT new
    refine ⟨.ref T, _, I1, rfl, ⟨T, c, yv, rfl, I.hok.fresh hT, rfl, hcx, hyv⟩, ⟨st'.1, st'.2.1, st'.2.2.1, st'.2.2.2.1, st'.2.2.2.2.1⟩, fun c' hcm => ?_⟩
    rw [upd_ne (Nat.ne_of_lt (Nat.lt_of_lt_of_le (live c' hcm) hT))]
    exact (hf c' hcm).1
  done := by
    rintro X rfl rfl rfl hc i pins s σ H E I hf ⟨hz, hTI, ⟨p, q, hTO⟩, h1, h2⟩ ⟨hi, hq⟩
    obtain ⟨its, rv, tp, _⟩ := I.tuple hq
    have hsz : its.toArray.size = ys.length := by simp [rv.length]
    have G := GoesN.zip2 (elts := elts) (x1 := kk) (pos := tpos) D (Draws.text (prog := X.prog) (w := X.w) (A := X.A.in1) (I.ok.hd hc) i1 x t) (Draws.tuple (prog := X.prog) (w := X.w) (A := X.A.in1) (I.ok.hd hc) i2 b hb its.toArray)
    rw [hsz] at G
    subst hi
    exact G.stops s _ E ⟨hz, hTI, ⟨p, q, hTO⟩, h1, h2, tp⟩ fun h' tk hk htk => I.turnedL (t' := tk) (ch := [z, TI, TO, i1, i2]) (fun b' o hb' e => hk b' o (fun z => hb' (by simp only [List.mem_cons, List.not_mem_nil, or_false] at z ⊢; rcases z with z | z | z | z <;> simp [z])) e) hf
  self := fun A i s Q E st h => wpAny_pyIter_zip st.1 h
section
variable {X : Cx} {c : Ct} {W : WX}
def iZipS (K : PySem.W.Frag) (ta : TA) : TI := fun σ H R => ta σ H fun vs H1 => ∃ x b ys, vs = [.str x, .ref b] ∧ SqT K H1 b ys ∧ R (ItzS K x b ys) H1
theorem pi_zipS {e e2 : Expr} {ta : TA} {p pos tpos : Pos} {elts : List Expr} {kk : Nat} (hg : Gl X "zip") (hm : X.mg "zip" = none) (ha : PA X [e, e2] ta)
    (hs : starEach [e, e2] X.env = (false, eval e X.env) :: starEach [e2] X.env := by rfl) (hpl : (backTo pos (starEach [e2] X.env)).any (·.1) = false := by rfl) :
    PI X (.Tuple elts kk tpos) (.Call (.Name "zip" p) [e, e2] [] pos) (iZipS X.K ta) := by
  refine ⟨fun pins s σ H R I h => ?_⟩
  refine Call_ (ld_blt I hg hm PyProof.Rows.boot_zip (PyProof.Rows.callWith_type1 (thn (ha.run pos pins s σ H _ I h) ?_) hs hpl))
  rintro us s1 ⟨vs, H1, I1, r1, x, b, ys, rfl, hq, q⟩
  match us, r1 with
  | [u, v], .cons r (.cons r' .nil) =>
    obtain ⟨t, rfl⟩ : ∃ t, u = .str x t := r
    obtain rfl : v = .ref b := r'
    obtain ⟨its, rv, tp, _⟩ := I1.tuple hq
    have hbl : b < s1.heap.objs.size := by
      obtain ⟨_, e, _⟩ := tp
      exact Heap.lt_size e
    refine zip_begins2 (begins_text x t) (begins_tuple b its.toArray) trivial tp fun h' hz hTI hTO g1 g2 hsz hk => wpAny_pyIter_zip hz ?_
    have I2 : Inv X pins σ H1 { s1 with heap := h' } := I1.kept (t' := s1.toks) hk
    refine ⟨s1.heap.objs.size + 4, [s1.heap.objs.size + 4, s1.heap.objs.size + 2, s1.heap.objs.size + 3, s1.heap.objs.size, s1.heap.objs.size + 1], _, _, H1, rfl, I2, turn_zipS (x := x) (t := t) (ys := ys) (zip_sep2 (fun _ z => nomatch z) fun c z => by rw [List.mem_singleton.mp z]; exact hbl) (Nat.ne_of_lt (Nat.lt_succ_of_lt hbl)), ⟨hz, hTI, ⟨_, _, hTO⟩, ⟨_, g1, rfl, rfl⟩, ⟨_, g2, rfl, rfl⟩⟩, fun c hcm => ?_, q⟩
    have hle : s1.heap.objs.size ≤ c := by
      simp only [List.mem_cons, List.not_mem_nil, or_false] at hcm
      rcases hcm with rfl | rfl | rfl | rfl | rfl <;> first | exact Nat.le_add_right _ _ | exact Nat.le_refl _
    exact I1.fpOk hle (I1.hok.fresh hle)
def zipD (s : List Nat) (es : List D) : List D := List.zipWith (fun c d => D.tup [.str [c], d]) s es
def zpK (ds : List D) (k : List D → Prop) : Prop := match ds with
  | [.str s, .tup es] => k (zipD s es)
  | _ => False
theorem zpK_st (s : List Nat) (es : List D) (k : List D → Prop) : zpK [.str s, .tup es] k = k (zipD s es) := rfl
def dZip (L : DL) : DL := fun ρ K => L ρ (onOk K fun ds ρ' => zpK ds fun z => K (.ok z) ρ')
theorem zipD_get {s : List Nat} {es : List D} {i : Nat} {d : D} (h : (zipD s es)[i]? = some d) : ∃ c e, s[i]? = some c ∧ es[i]? = some e ∧ d = .tup [.str [c], e] := by
  unfold zipD at h
  rw [List.getElem?_zipWith] at h
  cases h1 : s[i]? with
  | none => rw [h1] at h; cases h
  | some c =>
    cases h2 : es[i]? with
    | none => rw [h1, h2] at h; cases h
    | some e => rw [h1, h2] at h; cases h; exact ⟨c, e, rfl, rfl, rfl⟩
theorem I_zip {e e2 : Expr} {p pos tpos : Pos} {elts : List Expr} {kk : Nat} {L : DL} (hK : c.K = X.K) (hg : Gl X "zip") (hm : X.mg "zip" = none) (ha : PA X [e, e2] (tOfL c W L))
    (hs : starEach [e, e2] X.env = (false, eval e X.env) :: starEach [e2] X.env := by rfl) (hpl : (backTo pos (starEach [e2] X.env)).any (·.1) = false := by rfl) :
    PI X (.Tuple elts kk tpos) (.Call (.Name "zip" p) [e, e2] [] pos) (tOfI c W (dZip L)) := (pi_zipS hg hm ha hs hpl).imp fun σ H R h => by
  obtain ⟨F, Ω, ρ, K, r, t, k, kx⟩ := h
  refine ⟨F, Ω, ρ, _, r, t, fun ds ρ' q vs F' H' Ω' s' r' f => ?_, kx.imp (Stp.refl _ _ _) fun _ _ _ q => q⟩
  match ds, q with
  | [.str s, .tup es], q =>
    simp only [FzL, Fz] at f
    obtain ⟨v, r0, rfl, rfl, v2, r2, rfl, ⟨b, ys, rfl, hb, hf⟩, rfl⟩ := f
    refine ⟨⟨s.toArray⟩, b, ys, rfl, by rw [← hK]; exact SqT.of (r'.wf.sub _ _ hb), k _ ρ' q _ F' H' Ω' s' r' ?_⟩
    rw [← hK]
    intro F2 H2 Ω2 sb w
    have q2 : SqT c.K H2 b ys := SqT.of ((sb.trans w.sub) _ _ hb)
    have hn : (zipD s es).length = min (⟨s.toArray⟩ : Str).cps.size ys.length := by
      unfold zipD
      rw [List.length_zipWith, hf.length]
      simp
    refine ⟨fun i hi => ⟨⟨by rw [← hn]; exact hi, q2⟩, fun x H'' y => ?_⟩, hn, q2⟩
    obtain ⟨T, cc, yv, rfl, hT, rfl, hc, hy⟩ := y
    obtain ⟨c1, e1, g1, g2, g3⟩ := zipD_get (List.getElem?_eq_getElem hi)
    have hc' : s[i]? = some cc := by simpa using hc
    rw [hc'] at g1
    cases g1
    obtain ⟨v, q3, q4⟩ := hf.get g2
    rw [hy] at q3
    cases q3
    have ex := Ext.new (o := .tup [.str ⟨#[cc]⟩, yv]) w hT
    refine ⟨_, _, ex, List.getElem?_eq_getElem hi, ?_⟩
    rw [g3]
    simp only [Fz, FzL]
    exact ⟨T, _, rfl, upd_same, _, _, rfl, rfl, _, _, rfl, Fz.mono (sb.trans ex.stp.ef) _ _ q4, rfl⟩
/-! ### sum of ints -/
def oSum : List D → (D → Prop) → Prop
  | [.lst _ xs], K => ∃ ns, intsD xs = some ns ∧ K (.int ns.sum)
  | _, _ => False
theorem oSum_m (o : Bool) (ns : List Int) (k : D → Prop) : oSum [.lst o (ns.map .int)] k = k (.int ns.sum) := by
  refine propext ⟨fun ⟨ms, h, q⟩ => ?_, fun q => ⟨ns, intsD_map ns, q⟩⟩
  rw [intsD_map] at h
  cases h
  exact q
theorem ba_sum {c : Ct} : BA c (rSum c.K) oSum := ⟨fun F H Ω w ds vs hl hv K q Q k => by
  match ds, hl, hv, q with
  | [.lst o xs], hl, hv, ⟨ns, hi, hk⟩ =>
    have ex := intsD_eq hi
    subst ex
    obtain ⟨v, e, h⟩ := one_of hl hv
    obtain ⟨a, ys, e1, h1, h2⟩ := h.lst w
    have ev := vwl_ints_inv h2
    subst ev
    exact ⟨a, ns, by rw [e, e1], SqL.of h1, k _ hk _ F H (Ext.refl w) fz_int⟩⟩
/-! ### slices of tuples -/
def slT (d : D) (lo hi : Option Int) (k : D → Prop) : Prop := match d with
  | .tup xs => k (.tup (cut xs lo hi))
  | _ => False
theorem slT_t (xs : List D) (lo hi : Option Int) (k : D → Prop) : slT (.tup xs) lo hi k = k (.tup (cut xs lo hi)) := rfl
def dSlT (O : DO) (L Hh : DP) : DE := fun ρ K => O ρ (onOk K fun o ρ1 => L ρ1 (onOk K fun lo ρ2 => Hh ρ2 (onOk K fun hi ρ3 => slT (see ρ3 o) lo hi fun z => K (.ok z) ρ3)))
theorem E_slT {e : Expr} {lo hi : Option Expr} {p2 pos : Pos} {O : DO} {L Hh : DP} (hK : c.K = X.K) (ho : PE X e (tOfO c W O)) (hl : PO X lo (tOfP c W L)) (hh : PO X hi (tOfP c W Hh)) : PE X (.Subscript e (.Slice lo hi none p2) pos) (tOfE c W (dSlT O L Hh)) :=
  (pe_slice sl_tupA ho hl hh).imp fun σ H Q h => by
    obtain ⟨F, Ω, ρ, K, r0, ht, k, kx⟩ := h
    refine ⟨F, Ω, ρ, _, r0, ht, fun o ρ1 q1 v F1 H1 Ω1 s1 r1 f1 => ?_, kx.imp (Stp.refl _ _ _) fun _ _ _ q => q⟩
    refine ⟨F1, Ω1, ρ1, _, r1, q1, fun l ρ2 q2 F2 H2 Ω2 s2 r2 => ?_, kx.imp s1 fun _ _ _ q => q⟩
    refine ⟨F2, Ω2, ρ2, _, r2, q2, fun u ρ3 q3 F3 H3 Ω3 s3 r3 => ?_, kx.imp (s1.trans s2) fun _ _ _ q => q⟩
    have q3' : slT (see ρ3 o) l u fun z => K (.ok z) ρ3 := q3
    have hn : nz (see ρ3 o) = true := by
      cases e : see ρ3 o <;> rw [e] at q3' <;> first | rfl | exact q3'.elim
    have vw := ((f1.mono s2.ef).mono s3.ef).vw r3 hn
    have st := (s1.trans s2).trans s3
    cases e : see ρ3 o with
    | tup xs =>
      rw [e] at q3' vw
      obtain ⟨a, vs, e1, hF, h1, hf⟩ := vw.tup r3.wf
      refine ⟨a, vs, e1, by rw [← hK]; exact h1, fun hw => ?_, fun _ p hp => ?_⟩
      · have ec : cut xs l u = xs := by
          unfold cut
          rw [hf.length, hw.1, hw.2, ← hf.length]
          simp
        rw [slT_t, ec] at q3'
        refine k _ ρ3 q3' _ F3 H3 Ω3 st r3 ?_
        simp only [Fz]
        exact ⟨a, vs, rfl, hF, hf⟩
      · have ex := Ext.new (o := .tup (cutV vs l u)) r3.wf hp
        refine k _ ρ3 q3' _ _ _ Ω3 (st.trans ex.stp) (r3.ext ex) ?_
        simp only [Fz]
        refine ⟨p, _, rfl, upd_same, FzL.mono ex.ef _ _ ?_⟩
        unfold cutV cut
        rw [← hf.length]
        exact FzL.take _ (FzL.drop _ hf)
    | _ => rw [e] at q3'; exact q3'.elim
end
end Vi
/-! Vi34: {}, dict(d), d.get(k, x), d != e; range downwards; xs * n. -/
namespace Vi
open PySem L2 PySem.Spec PyProof.Rows

section
variable {X : Cx} {c : Ct} {W : WX}
/-- a new thing of one's own -/
theorem own_new {F H F1 H1 : Hp} {Ω Ω1 : Nm} {ρ1 : Env} {σ : L2.St} {p : Addr} {o : HO} {d : D} (s1 : Stp F H Ω F1 H1 Ω1) (r1 : Rel c F1 H1 Ω1 ρ1 σ) (hp : H1 p = none) (hr : Rv c F1 (upd H1 p o) (fun b => if b = p then some [] else none) d [] (.ref p)) :
    Stp F H Ω F1 (upd H1 p o) Ω1 ∧ Rel c F1 (upd H1 p o) Ω1 ρ1 σ ∧ Air c F1 (upd H1 p o) Ω1 d (.ref p) (fun b => if b = p then some [] else none) ∧ New F H Ω (fun b => if b = p then some [] else none) := by
  obtain ⟨r2, s2⟩ := rel_new (o := o) r1 hp
  obtain ⟨hF, hΩ, hs3, _⟩ := wf_new (o := o) r1.wf hp
  refine ⟨s1.trans s2, r2, ⟨hr, fun b π e => ?_⟩, fun b o e1 e2 e3 => ?_⟩
  · have e' : (if b = p then some ([] : List Nat) else none) = some π := e
    split at e'
    · rename_i hb
      subst hb
      exact ⟨hF, hΩ, _, upd_same⟩
    · cases e'
  · show (if b = p then some ([] : List Nat) else none) = none
    rw [if_neg]
    rintro rfl
    obtain ⟨q1, _, _⟩ := s1.ou b o e1 e2 e3
    rw [hp] at q1
    cases q1
/-- {} -/
def dDnew : DE := fun ρ K => K (.ok (.dic true (.one []) [])) ρ
theorem N_dnew {pos : Pos} : PE X (.Dict [] [] pos) (tOfN c W dDnew) := pe_dnewK.imp fun σ H Q h => by
  obtain ⟨F, Ω, ρ, K, r0, ht, k, kx⟩ := h
  intro p hp
  obtain ⟨a1, a2, a3, a4⟩ := own_new (o := .dK []) (d := .dic true (.one []) []) (Stp.refl F H Ω) r0 hp (by
    simp only [Rv]
    refine ⟨p, [], rfl, by simp, upd_same, rfl, ?_⟩
    simp only [RvL])
  exact k _ ρ ht _ _ _ _ _ a1 a2 a3 a4
/-- dict(d) -/
def dcK (d : D) (k : List Key → List D → Prop) : Prop := match d with
  | .dic _ (.one ks) ds => ds.all (fun d => !own d) = true ∧ k ks ds
  | _ => False
theorem dcK_d (o : Bool) (ks : List Key) (ds : List D) (k : List Key → List D → Prop) : dcK (.dic o (.one ks) ds) k = (ds.all (fun d => !own d) = true ∧ k ks ds) := rfl
def dDcopy (O : DO) : DE := fun ρ K => O ρ (onOk K fun o ρ' => nz (see ρ' o) = true ∧ dcK (see ρ' o) fun ks ds => K (.ok (.dic true (.one ks) (ds.map fr))) ρ')
theorem N_dcopy {e : Expr} {O : DO} {p pos : Pos} (he : PE X e (tOfO c W O)) (hg : Gl X "dict") (hm : X.mg "dict" = none) (hs : starEach [e] X.env = (false, eval e X.env) :: starEach [] X.env := by rfl) (hpl : (backTo pos (starEach [] X.env)).any (·.1) = false := by rfl) :
    PE X (.Call (.Name "dict" p) [e] [] pos) (tOfN c W (dDcopy O)) := by
  refine (pe_callTy (T := "dict") call_dictD hg hm (by decide +kernel) (pa_cons he pa_nil hs) (by decide) (by decide) hs hpl).imp fun σ H Q h => ?_
  obtain ⟨F, Ω, ρ, K, r0, ht, k, kx⟩ := h
  refine ⟨F, Ω, ρ, _, r0, ht, fun o ρ1 q1 v F1 H1 Ω1 s1 r1 f1 => ?_, kx.imp (Stp.refl _ _ _) fun _ _ _ q => q⟩
  simp only [onOk_ok] at q1
  obtain ⟨hn, q2⟩ := q1
  have vw := f1.vw r1 hn
  cases e : see ρ1 o with
  | dic b kk ds =>
    rw [e] at q2 vw
    cases kk with
    | tup ks => exact q2.elim
    | one ks =>
      obtain ⟨ho, q3⟩ := q2
      obtain ⟨a, vs, e1, h1, h2, h3⟩ := vw.dic r1.wf
      subst e1
      refine ⟨a, ks.zip vs, rfl, h1, fun p hp => ?_⟩
      obtain ⟨a1, a2, a3, a4⟩ := own_new (o := .dK (ks.zip vs)) (d := .dic true (.one ks) (ds.map fr)) s1 r1 hp (by
        simp only [Rv]
        exact ⟨p, vs, rfl, by simp, upd_same, by rw [List.length_map]; exact h2, RvL.of_fz (h3.fz ho)⟩)
      exact k _ ρ1 q3 _ _ _ _ _ a1 a2 a3 a4
  | _ => rw [e] at q2; exact q2.elim
/-- d.get(k, x) -/
def getK (r : Option D) (x : D) (k : D → Prop) : Prop := match r with
  | some d => own d = false ∧ k d
  | none => k x
theorem getK_s (d x : D) (k : D → Prop) : getK (some d) x k = (own d = false ∧ k d) := rfl
theorem getK_n (x : D) (k : D → Prop) : getK none x k = k x := rfl
def isDic : D → Bool
  | .dic _ _ _ => true
  | _ => false
theorem isDic_d (o : Bool) (ks : DKs) (ds : List D) : isDic (.dic o ks ds) = true := rfl
def dDgetD (O : DO) (T U : DE) : DE := fun ρ K => O ρ (onOk K fun o ρ1 => isDic (see ρ1 o) = true ∧ T ρ1 (onOk K fun y ρ2 => U ρ2 (onOk K fun z ρ3 => nz (see ρ3 o) = true ∧ dkK (see ρ3 o) y fun r => getK r z fun d => K (.ok d) ρ3)))
theorem E_dgetD {o e f : Expr} {O : DO} {T U : DE} {apos cpos : Pos} (hu : X.A.units + 1 < cLine) (ho : PE X o (tOfO c W O)) (he : PE X e (tOfE c W T)) (hf : PE X f (tOfE c W U)) (m : M2 X o "get" apos e f cpos) :
    PE X (.Call (.Attribute o "get" apos) [e, f] [] cpos) (tOfE c W (dDgetD O T U)) := by
  refine (pe_dget2 hu ho he hf m).imp fun σ H Q h => ?_
  obtain ⟨F, Ω, ρ, K, r0, ht, k, kx⟩ := h
  refine ⟨F, Ω, ρ, _, r0, ht, fun x ρ1 q1 v F1 H1 Ω1 s1 r1 f1 => ?_, kx.imp (Stp.refl _ _ _) fun _ _ _ q => q⟩
  obtain ⟨hi, q1⟩ := q1
  obtain ⟨a, ev, hd⟩ : ∃ a, v = .ref a ∧ IsD H1 a := by
    cases e1 : see ρ1 x with
    | dic b kk ds =>
      have vw := f1.vw r1 (by rw [e1]; rfl)
      rw [e1] at vw
      obtain ⟨a, vs, e2, h1, _, _⟩ := vw.dic r1.wf
      cases kk with
      | one ks => exact ⟨a, e2, .inl ⟨_, h1⟩⟩
      | tup ks => exact ⟨a, e2, .inr ⟨_, h1⟩⟩
    | _ => rw [e1] at hi; cases hi
  subst ev
  refine ⟨a, rfl, hd, F1, Ω1, ρ1, _, r1, q1, fun y ρ2 q2 u F2 H2 Ω2 s2 r2 f2 => ?_, kx.imp s1 fun _ _ _ q => q⟩
  refine ⟨F2, Ω2, ρ2, _, r2, q2, fun z ρ3 q3 w' F3 H3 Ω3 s3 r3 f3 => ?_, kx.imp (s1.trans s2) fun _ _ _ q => q⟩
  simp only [onOk_ok] at q3
  obtain ⟨hn, q4⟩ := q3
  obtain ⟨a', r, rv, ev, g, hk, hr⟩ := dkK_get r3.wf (((f1.mono s2.ef).mono s3.ef).vw r3 hn) (Fz.mono s3.ef _ _ f2) q4
  cases ev
  refine ⟨rv, g, ?_⟩
  have st := (s1.trans s2).trans s3
  cases r with
  | none =>
    have hr' : rv = none := hr
    subst hr'
    exact k z ρ3 hk w' F3 H3 Ω3 st r3 f3
  | some d =>
    obtain ⟨zv, ez, vz⟩ := hr
    subst ez
    exact k d ρ3 hk.2 zv F3 H3 Ω3 st r3 (vz.fz hk.1)
/-- d != e, of alike dicts -/
def rNeDR : R2 := fun x y H Q => ∃ a b ks ls, x = .ref a ∧ y = .ref b ∧ Rd H a (.dK ks) ∧ Rd H b (.dK ls) ∧ ks.length = ls.length ∧ (∀ p ∈ ks, valV ls p.1 = some p.2 ∧ flatB p.2 = true) ∧ Q (.bl false) H
theorem op_ne_dictR (hu : X.A.units < cLine) : OpR X (compareOp .NotEq) rNeDR := by
  intro pins s σ H x y v u Q I rx ry h
  obtain ⟨a, b, ks, ls, rfl, rfl, ea, eb, hlen, hp, q⟩ := h
  cases rx
  cases ry
  obtain ⟨_, la, va, ra, da⟩ := dk_rd I.hok ea
  obtain ⟨_, lb, vb, rb, db⟩ := dk_rd I.hok eb
  have hl : va.length = vb.length := ra.length.symm.trans (hlen.trans rb.length)
  exact PySem.W.keq_ne (knd := mixKind X.prog X.w) (r := true) la lb da db hu (fun _ => hits_all rb ra hp) (fin_bl I q (by simp [hl]))
def flatD : D → Bool
  | .non => true
  | .bl _ => true
  | .int _ => true
  | .str _ => true
  | _ => false
theorem valV_at {κ : Type} [DecidableEq κ] : ∀ {ks : List κ} {vs : List V} {p : κ × V}, ks.Nodup → p ∈ ks.zip vs → valV (ks.zip vs) p.1 = some p.2
  | [], _, p, _, h => by simp at h
  | k :: ks, [], p, _, h => by simp at h
  | k :: ks, v :: vs, p, nd, h => by
    rw [List.zip_cons_cons] at h
    unfold valV
    rw [List.zip_cons_cons, List.find?_cons]
    rcases List.mem_cons.mp h with e | h
    · rw [e]
      simp
    · have hm : p.1 ∈ ks := (List.of_mem_zip (a := p.1) (b := p.2) h).1
      have hne : k ≠ p.1 := fun e => (List.nodup_cons.mp nd).1 (e ▸ hm)
      rw [decide_eq_false hne]
      exact valV_at (List.nodup_cons.mp nd).2 h
/-- two dicts that hold the same -/
def oNeDic : D → D → (D → Prop) → Prop := fun d e K => match d, e with
  | .dic _ (.one ks) ds, .dic _ (.one ls) es => ks = ls ∧ ds = es ∧ ks.Nodup ∧ ds.all flatD = true ∧ K (.bl false)
  | _, _ => False
theorem oNeDic_r (b o : Bool) (ks ls : List Key) (ds es : List D) (K : D → Prop) : oNeDic (.dic b (.one ks) ds) (.dic o (.one ls) es) K = (ks = ls ∧ ds = es ∧ ks.Nodup ∧ ds.all flatD = true ∧ K (.bl false)) := rfl
theorem flat_one {F H : Hp} {d : D} {v u : V} (hf : flatD d = true) (h : Vw c F H d v) (g : Vw c F H d u) : v = u ∧ flatB v = true := by
  cases d with
  | non => rw [vw_non h, vw_non g]; exact ⟨rfl, rfl⟩
  | bl b => rw [vw_bl h, vw_bl g]; exact ⟨rfl, rfl⟩
  | int i => rw [vw_int h, vw_int g]; exact ⟨rfl, rfl⟩
  | str s => rw [vw_str h, vw_str g]; exact ⟨rfl, rfl⟩
  | _ => cases hf
theorem flat_all {F H : Hp} : ∀ {ds : List D} {vs us : List V}, ds.all flatD = true → VwL c F H ds vs → VwL c F H ds us → vs = us ∧ ∀ v ∈ vs, flatB v = true
  | [], vs, us, _, h, g => by
    match vs, us, h.1, g.1 with
    | [], [], _, _ => exact ⟨rfl, fun _ z => nomatch z⟩
  | d :: ds, vs, us, hf, h, g => by
    match vs, us, h.1, g.1 with
    | v :: vs, u :: us, hl, gl =>
      rw [List.all_cons, Bool.and_eq_true] at hf
      obtain ⟨v', q1, q2⟩ := h.2 0 d rfl
      obtain ⟨u', q3, q4⟩ := g.2 0 d rfl
      cases q1
      cases q3
      obtain ⟨e1, e2⟩ := flat_one hf.1 q2 q4
      obtain ⟨e3, e4⟩ := flat_all (ds := ds) hf.2 (vs := vs) (us := us) ⟨by simpa using h.1, fun i x e => h.2 (i + 1) x (by simpa using e)⟩ ⟨by simpa using g.1, fun i x e => g.2 (i + 1) x (by simpa using e)⟩
      exact ⟨by rw [e1, e3], fun z hz => (List.mem_cons.mp hz).elim (fun e => e ▸ e2) (e4 z)⟩
theorem b2_neDic : B2 c rNeDR oNeDic := ⟨fun F H Ω w d e v u h1 h2 K q Q k => by
  match d, e, q with
  | .dic _ (.one ks) ds, .dic _ (.one ls) es, ⟨e1, e2, nd, hf, q⟩ =>
    subst e1 e2
    obtain ⟨a, vs, ea, ra, la, va⟩ := h1.dic w
    obtain ⟨b, us, eb, rb, lb, vb⟩ := h2.dic w
    obtain ⟨ev, fl⟩ := flat_all hf va vb
    subst ev
    exact ⟨a, b, _, _, ea, eb, ra, rb, rfl, fun p hp => ⟨valV_at nd hp, fl _ (List.of_mem_zip (a := p.1) (b := p.2) hp).2⟩, k _ q _ F H (Ext.refl w) (by simp only [Fz])⟩⟩
/-! ### range(i, j, -1) -/
def rngM (i : Int) (n : Nat) : List D := (List.range n).map fun (k : Nat) => D.int (i + (k : Int) * -1)
def int3m (ds : List D) (k : Int → Int → Prop) : Prop := match ds with
  | [.int i, .int j, .int s] => s = -1 ∧ k i j
  | _ => False
theorem int3m_r (i j s : Int) (k : Int → Int → Prop) : int3m [.int i, .int j, .int s] k = (s = -1 ∧ k i j) := rfl
def dRngM (L : DL) : DL := fun ρ K => L ρ (onOk K fun ds ρ' => int3m ds fun i j => inR i ∧ inR j ∧ K (.ok (rngM i (i - j).toNat)) ρ')
theorem I_rngM {tg a b d : Expr} {p pos : Pos} {L : DL} (hgl : Gl X "range") (hm : X.mg "range" = none) (ha : PA X [a, b, d] (tOfL c W L)) (hs : starEach [a, b, d] X.env = (false, eval a X.env) :: starEach [b, d] X.env := by rfl) (hpl : (backTo pos (starEach [b, d] X.env)).any (·.1) = false := by rfl) :
    PI X tg (.Call (.Name "range" p) [a, b, d] [] pos) (tOfI c W (dRngM L)) := (pi_range3 hgl hm ha hs hpl).imp fun σ H R h => by
  obtain ⟨F, Ω, ρ, K, r, t, k, kx⟩ := h
  refine ⟨F, Ω, ρ, _, r, t, fun ds ρ' q vs F' H' Ω' s' r' f => ?_, kx.imp (Stp.refl _ _ _) fun _ _ _ q => q⟩
  match ds, q with
  | [.int i, .int j, .int s], ⟨es, bi, bj, q⟩ =>
    subst es
    simp only [FzL, Fz] at f
    obtain ⟨v, r0, rfl, rfl, v2, r2, rfl, rfl, v3, r3, rfl, rfl, rfl⟩ := f
    refine ⟨i, j, -1, (i - j).toNat, rfl, RgC.neg bi.1 bi.2 bj.1 bj.2, k _ ρ' q _ F' H' Ω' s' r' fun F2 H2 Ω2 sb w => ?_⟩
    have l : (rngM i (i - j).toNat).length = (i - j).toNat := by
      unfold rngM
      rw [List.length_map, List.length_range]
    refine ⟨fun n hn => ?_, by show (i - j).toNat ≤ _; rw [l]; exact Nat.le_refl _⟩
    rw [l] at hn
    refine ⟨hn, fun x H'' y => ?_⟩
    obtain ⟨e, ex⟩ := y
    subst e ex
    refine ⟨F2, .int (i + (n : Int) * -1), Ext.refl w, ?_, by simp only [Fz]⟩
    unfold rngM
    rw [List.getElem?_map, List.getElem?_range hn]
    rfl
/-! ### xs * n -/
def oRepL : D → D → (D → Prop) → Prop := fun d e K => match d, e with
  | .lst _ xs, .int k => xs.all (fun d => !own d) = true ∧ 0 ≤ k ∧ k ≤ 16000000 ∧ xs.length * k.toNat ≤ 16000000 ∧ K (.lst false (List.replicate k.toNat xs).flatten)
  | _, _ => False
theorem oRepL_r (o : Bool) (xs : List D) (k : Int) (K : D → Prop) : oRepL (.lst o xs) (.int k) K = (xs.all (fun d => !own d) = true ∧ 0 ≤ k ∧ k ≤ 16000000 ∧ xs.length * k.toNat ≤ 16000000 ∧ K (.lst false (List.replicate k.toNat xs).flatten)) := rfl
theorem FzL.app {F : Hp} : ∀ {ds es : List D} {vs us : List V}, FzL c F ds vs → FzL c F es us → FzL c F (ds ++ es) (vs ++ us)
  | [], es, vs, us, h, g => by
    simp only [FzL] at h
    subst h
    exact g
  | d :: ds, es, vs, us, h, g => by
    simp only [FzL] at h
    obtain ⟨v, r, rfl, h1, h2⟩ := h
    exact FzL.cons h1 (FzL.app h2 g)
theorem FzL.rep {F : Hp} {ds : List D} {vs : List V} (h : FzL c F ds vs) : ∀ n : Nat, FzL c F (List.replicate n ds).flatten (List.replicate n vs).flatten
  | 0 => FzL.nil
  | n + 1 => by
    rw [List.replicate_succ, List.replicate_succ, List.flatten_cons, List.flatten_cons]
    exact FzL.app h (FzL.rep h n)
theorem b2_repL : B2 c rRep oRepL := ⟨fun F H Ω w d e v u h1 h2 K q Q k => by
  match d, e, q with
  | .lst _ xs, .int n, ⟨ho, n0, n1, hz, q⟩ =>
    obtain ⟨a, ys, e1, q1, q2⟩ := h1.lst w
    have hf := q2.fz ho
    refine ⟨a, n, ys, e1, vw_int h2, q1, by omega, by omega, by rw [← hf.length]; exact Nat.le_trans hz (by decide), fun p hp => ?_⟩
    have ex := Ext.new (o := .lst (List.replicate n.toNat ys).flatten) w hp
    refine k _ q _ _ _ ex ?_
    simp only [Fz]
    exact ⟨p, _, rfl, upd_same, FzL.mono ex.ef _ _ (FzL.rep hf _)⟩⟩
end
end Vi
/-! Vi35: a variable's own value is given away (return xs): it stays one's own, the slot is no more. -/
namespace Vi
open PySem L2 PySem.Spec PyProof.Rows

section
variable {X : Cx} {c : Ct} {W : WX}
def mvN (i : Nat) (Ω : Nm) : Nm := fun b => match Ω b with
  | some (j :: π) => if j = i then none else some (j :: π)
  | o => o
def mvT (i : Nat) (Ω : Nm) : Nm := fun b => match Ω b with
  | some (j :: π) => if j = i then some π else none
  | _ => none
theorem mvT_get {i : Nat} {Ω : Nm} {b : Addr} {π : List Nat} (h : mvT i Ω b = some π) : Ω b = some (i :: π) := by
  unfold mvT at h
  split at h
  · rename_i j π' e
    split at h
    · rename_i hj
      cases h
      rw [e, hj]
    · cases h
  · cases h
theorem mvT_of {i : Nat} {Ω : Nm} {b : Addr} {π : List Nat} (h : Ω b = some (i :: π)) : mvT i Ω b = some π := by
  unfold mvT
  rw [h]
  exact if_pos rfl
theorem mvN_of {i : Nat} {Ω : Nm} {b : Addr} {π : List Nat} (h : Ω b = some (i :: π)) : mvN i Ω b = none := by
  unfold mvN
  rw [h]
  exact if_pos rfl
theorem mvN_other {i j : Nat} {Ω : Nm} {b : Addr} {π : List Nat} (h : Ω b = some (j :: π)) (hj : j ≠ i) : mvN i Ω b = some (j :: π) := by
  unfold mvN
  rw [h]
  exact if_neg hj
theorem mvN_none {i : Nat} {Ω : Nm} {b : Addr} (h : Ω b = none) : mvN i Ω b = none := by
  unfold mvN
  rw [h]
theorem mvN_get {i : Nat} {Ω : Nm} {b : Addr} {π : List Nat} (h : mvN i Ω b = some π) : Ω b = some π := by
  unfold mvN at h
  split at h
  · rename_i j π' e
    split at h
    · cases h
    · rw [e]
      exact h
  · exact h
def dMv (i : Nat) : DE := fun ρ K => nz (gt ρ i) = true ∧ K (.ok (gt ρ i)) (ρ.set i .und)
theorem N_mv (i : Nat) {x : Str} {pos : Pos} (hN : X.N[i]? = some x := by rfl) (hv : Vis X.env.scope x := by first | exact Or.inl rfl | exact Or.inr (Or.inl rfl) | exact Or.inr (Or.inr rfl)) (hd : (x == ("__debug__" : Str)) = false := by decide)
    (hcd : (x == ("__classdict__" : Str)) = false := by decide) : PE X (.Name x pos) (tOfN c W (dMv i)) := by
  refine (pe_var hN hv hd hcd).imp fun σ H Q h => ?_
  obtain ⟨F, Ω, ρ, K, r, ⟨hn, hk⟩, k, _⟩ := h
  obtain ⟨v, q1, q2⟩ := r.sl i _ (gt_some hn) (nz_ne hn)
  refine ⟨v, q1, ?_⟩
  have hi : i < ρ.length := (List.getElem?_eq_some_iff.mp (gt_some hn)).1
  refine k _ _ hk v F H (mvN i Ω) (mvT i Ω) ⟨Sub.refl F, fun b o h h1 h2 => ⟨h, h1, mvN_none h2⟩⟩ ⟨⟨r.wf.sub, fun b π e => r.wf.own b π (mvN_get e)⟩, fun j d h1 h2 => ?_, by rw [List.length_set]; exact r.len⟩ ⟨Rv.move (Sub.refl F) _ [i] [] v (fun b π z => ⟨mvT_of z, rfl⟩) q2, fun b π e => ?_⟩ fun b o e1 e2 e3 => ?_
  · rw [List.getElem?_set] at h1
    split at h1
    · cases h1
      exact absurd rfl h2
    · rename_i hj
      obtain ⟨u, z1, z2⟩ := r.sl j d h1 h2
      exact ⟨u, z1, Rv.move (Sub.refl F) d [j] [j] u (fun b π z => ⟨mvN_other z fun e => hj e.symm, rfl⟩) z2⟩
  · have e' := mvT_get e
    obtain ⟨z1, z2⟩ := r.wf.own b _ e'
    exact ⟨z1, mvN_of e', z2⟩
  · cases q : mvT i Ω b with
    | none => rfl
    | some π => rw [mvT_get q] at e3; cases e3
end
end Vi
/-! Vi36: match upon a text, upon a tuple of texts and names. -/
namespace Vi
open PySem L2 PySem.Spec PyProof.Rows

/-- an item of a tuple pattern: a written text, or a name's slot -/
inductive El where
  | lit (s : List Nat)
  | cap (i : Nat)
def elsK : List El → List D → (Option (List (Nat × D)) → Prop) → Prop
  | [], [], k => k (some [])
  | .lit s :: es, .str t :: ds, k => if decide (t = s) = true then elsK es ds k else k none
  | .cap i :: es, d :: ds, k => elsK es ds fun r => k (r.map ((i, d) :: ·))
  | _, _, _ => False
def putAll (ρ : Env) : List (Nat × D) → Env
  | [] => ρ
  | (i, d) :: bs => putAll (ρ.set i (fr d)) bs
abbrev DC := D → DS
def dcNil : DC := fun _ ρ K => K .nx ρ
def dcSeq (els : List El) (B : DS) (C : DC) : DC := fun d ρ K => match d with
  | .tup ds => if decide (ds.length = els.length) = true then elsK els ds fun r => match r with
      | some bs => B (putAll ρ bs) K
      | none => C d ρ K
    else C d ρ K
  | _ => False
def dcVal (s : List Nat) (B : DS) (C : DC) : DC := fun d ρ K => match d with
  | .str t => if decide (t = s) = true then B ρ K else C d ρ K
  | _ => False
def dcAny (B : DS) : DC := fun _ ρ K => B ρ K
def dMatch (T : DE) (C : DC) : DS := fun ρ K => T ρ (onFl K fun d ρ' => C d ρ' K)

section
variable {X : Cx} {x : Ct2} {W : WX}
theorem txt_eq (s t : Str) : (s == t) = decide (s.cps.toList = t.cps.toList) := by
  rw [Bool.eq_iff_iff]
  simp only [beq_iff_eq, decide_eq_true_iff]
  constructor
  · intro h
    rw [h]
  · intro h
    cases s
    cases t
    simp only at h
    congr
    exact Array.toList_inj.mp h
/-- a name that may be bound -/
structure NmOk (X : Cx) (x : Ct2) (n : Str) (i : Nat) : Prop where
  at_ : X.N[i]? = some n
  loc : Loc X.env.scope n
  io : i ∉ x.io
  fn : X.fn n = true ∨ X.env.scope.names.lookup n = some .local
inductive ElsOk (X : Cx) (x : Ct2) : List Pattern → List El → Prop where
  | nil : ElsOk X x [] []
  | lit {ps es} {z : Str} {j : Nat} {p1 p2 : Pos} {s : List Nat} : z.cps.toList = s → ElsOk X x ps es → ElsOk X x (.MatchValue (.Constant (.str z) j p1) p2 :: ps) (.lit s :: es)
  | cap {ps es} {n : Str} {p : Pos} {i : Nat} : NmOk X x n i → ElsOk X x ps es → ElsOk X x (.MatchAs none (some n) p :: ps) (.cap i :: es)
theorem ElsOk.length {ps : List Pattern} {es : List El} (h : ElsOk X x ps es) : ps.length = es.length := by
  induction h with
  | nil => rfl
  | lit _ _ ih => rw [List.length_cons, List.length_cons, ih]
  | cap _ _ ih => rw [List.length_cons, List.length_cons, ih]
/-- what has been bound -/
inductive Bnd (X : Cx) (x : Ct2) (F : Hp) : List (Nat × D) → List (Str × Value) → Prop where
  | nil : Bnd X x F [] []
  | cons {i d n u v bs cs} : NmOk X x n i → Fz x.c F d v → RelV v u → Bnd X x F bs cs → Bnd X x F ((i, d) :: bs) ((n, u) :: cs)
def BndO (X : Cx) (x : Ct2) (F : Hp) : Option (List (Nat × D)) → Option (List (Str × Value)) → Prop
  | none, none => True
  | some bs, some cs => Bnd X x F bs cs
  | _, _ => False
/-- subject == text -/
theorem val_ok {pins : List (Addr × Obj)} {s : Shared} {σ : L2.St} {H : Hp} {z t : Str} {j : Nat} {p1 p2 : Pos} {u : Value} {k : Bool → Prop} (I : Inv X pins σ H s) (r : RelV (.str t) u) (h : k (decide (t.cps.toList = z.cps.toList))) :
    wpAny (model X.prog X.w) X.A (matchPattern (.MatchValue (.Constant (.str z) j p1) p2) X.env u) (fun r s' => ∃ b : Bool, Inv X pins σ H s' ∧ r = (if b = true then some [] else none) ∧ k b) X.xe s := by
  refine wpAny_matchPattern_Value (wpAny_mono ((pe_str (X := X) (x := z) (j := j) (pos := p1)).run pins s σ H (fun v H' => v = .str z ∧ H' = H) I ⟨rfl, rfl⟩) (fun w s1 ⟨v, H', I1, rv, e1, e2⟩ => ?_) fun _ _ e => e)
  subst e1 e2
  refine wpAny_mono (op_eq pins s1 σ H' (.str t) (.str z) u w (fun v H2 => v = .bl (decide (t.cps.toList = z.cps.toList)) ∧ H2 = H') I1 r rv ⟨rfl, ?_, rfl⟩) (fun c s2 ⟨v, H2, I2, rc, e3, e4⟩ => ?_) fun _ _ e => e
  · rw [dec_str, txt_eq]
  · subst e3 e4
    cases rc
    refine wpAny_truthy_bool ?_
    cases e : decide (t.cps.toList = z.cps.toList) with
    | true =>
      rw [e] at h
      exact ⟨true, I2, rfl, h⟩
    | false =>
      rw [e] at h
      exact ⟨false, I2, rfl, h⟩
theorem each_ok {pins : List (Addr × Obj)} {σ : L2.St} {H F : Hp} {ps : List Pattern} {es : List El} (hE : ElsOk X x ps es) : ∀ {s : Shared} {ds : List D} {vs : List V} {us : List Value} {k : Option (List (Nat × D)) → Prop}, Inv X pins σ H s → FzL x.c F ds vs → Vals vs us → elsK es ds k →
    wpAny (model X.prog X.w) X.A (matchEach ps X.env us) (fun r s' => ∃ r', Inv X pins σ H s' ∧ BndO X x F r' r ∧ k r') X.xe s := by
  induction hE with
  | nil =>
    intro s ds vs us k I f r h
    match ds, h with
    | [], h =>
      simp only [FzL] at f
      subst f
      cases r
      exact wpAny_matchEach_nil ⟨some [], I, Bnd.nil, h⟩
  | @lit ps es z j p1 p2 t0 hz hE ih =>
    intro s ds vs us k I f r h
    match ds, h with
    | .str t :: ds, h =>
      simp only [FzL] at f
      obtain ⟨v, r', e1, e2, f2⟩ := f
      subst e1
      simp only [Fz] at e2
      cases r with
      | @cons _ u _ us rv rr =>
        subst hz
        have h2 : (if decide (t = z.cps.toList) = true then elsK es ds k else k none) := h
        subst e2
        refine wpAny_matchEach_cons (wpAny_mono (val_ok (k := fun b => if b = true then elsK es ds k else k none) I rv ?_) (fun r s1 ⟨b, I1, e, q1⟩ => ?_) fun _ _ e => e)
        · simpa using h2
        · cases b with
          | false =>
            rw [if_neg Bool.false_ne_true] at e q1
            subst e
            exact ⟨none, I1, trivial, q1⟩
          | true =>
            rw [if_pos rfl] at e q1
            subst e
            refine wpAny_mono (ih I1 f2 rr q1) (fun r2 s2 ⟨r2', I2, b2, q3⟩ => ?_) fun _ _ e => e
            match r2', r2, b2 with
            | none, none, _ => exact ⟨none, I2, trivial, q3⟩
            | some bs2, some cs2, b2 => exact ⟨some bs2, I2, b2, q3⟩
  | @cap ps es n p i hn hE ih =>
    intro s ds vs us k I f r h
    match ds, h with
    | d :: ds, h =>
      simp only [FzL] at f
      obtain ⟨v, r', e1, e2, f2⟩ := f
      subst e1
      cases r with
      | @cons _ u _ us rv rr =>
        have h2 : elsK es ds fun r => k (r.map ((i, d) :: ·)) := h
        refine wpAny_matchEach_cons (wpAny_matchPattern_Capture ?_)
        show wpAny _ _ _ _ _ _
        refine wpAny_mono (ih I f2 rr h2) (fun r2 s2 ⟨r2', I2, b2, q3⟩ => ?_) fun _ _ e => e
        match r2', r2, b2 with
        | none, none, _ => exact ⟨none, I2, trivial, q3⟩
        | some bs2, some cs2, b2 => exact ⟨some ((i, d) :: bs2), I2, Bnd.cons hn e2 rv b2, q3⟩
/-- the names are bound -/
theorem bind_ok {pins : List (Addr × Obj)} {F H : Hp} (hN : X.N.Nodup) : ∀ {bs : List (Nat × D)} {cs : List (Str × Value)} {s : Shared} {σ : L2.St} {Ω : Nm} {ρ : Env}, Bnd X x F bs cs → Inv X pins σ H s → Rel x.c F H Ω ρ σ →
    wpAny (model X.prog X.w) X.A (assignInOrder (cs.map fun (n, _) => bindName X.env n) (cs.map (·.2))) (fun _ s' => ∃ σ' Ω', Inv X pins σ' H s' ∧ PostS x F H Ω σ F H Ω' (putAll ρ bs) σ') X.xe s
  | _, _, s, σ, Ω, ρ, .nil, I, r => by
    exact wpAny_pure ⟨σ, Ω, I, Stp.refl _ _ _, r, Io.refl _ _⟩
  | _, _, s, σ, Ω, ρ, .cons (i := i) (d := d) (v := v) hn f rv b, I, r => by
    refine wpAny_assignInOrder_more (wpAny_bindName (store_ok I hN hn.at_ hn.loc rv (fun s' I' => ?_) hn.fn))
    have p := fz_set (x := x) (by rw [I.len]; exact (List.getElem?_eq_some_iff.mp hn.at_).1) hn.io r f
    refine wpAny_mono (bind_ok hN b I' p.2.1) (fun _ s2 ⟨σ', Ω', I2, q⟩ => ⟨σ', Ω', I2, p.1.trans q.1, q.2.1, p.2.2.trans q.2.2⟩) fun _ _ e => e
/-- the cases -/
structure PCs (X : Cx) (x : Ct2) (W : WX) (cs : List MatchCase) (C : DC) : Prop where
  run : ∀ (pins : List (Addr × Obj)) (s : Shared) (σ : L2.St) (De : Ends) (u : Value) (v : V) (F H : Hp) (Ω : Nm) (ρ : Env) (K : Fl → Env → Prop) (d : D) (fst : Bool), Inv X pins σ H s → RelV v u → Rel x.c F H Ω ρ σ → Fz x.c F d v → C d ρ K → Wants x W F H Ω σ K De →
    wpAny (model X.prog X.w) X.A (matchCases cs X.env u fst) (SP X pins De) X.xe s
theorem C_nil : PCs X x W [] dcNil := ⟨fun pins s σ De u v F H Ω ρ K d b I r rl f t w => wpAny_matchCases_nil ⟨σ, H, I, w.nx ρ t σ F H Ω ⟨Stp.refl _ _ _, rl, Io.refl _ _⟩⟩⟩
theorem C_any {body : List Stmt} {p : Pos} {B : DS} {rest : List MatchCase} (hb : PSs X body (tOfS x W B)) : PCs X x W (⟨.MatchAs none none p, none, body⟩ :: rest) (dcAny B) := ⟨fun pins s σ De u v F H Ω ρ K d b I r rl f t w => by
  refine wpAny_matchCases_cons (wpAny_matchPattern_Capture ?_)
  refine wpAny_assignInOrder_none ?_
  exact hb.run pins s σ H De I (tOfS_iff.mpr ⟨F, Ω, ρ, K, rl, t, w⟩)⟩
theorem C_val {z : Str} {j : Nat} {p1 p2 : Pos} {t : List Nat} {body : List Stmt} {B : DS} {C : DC} {rest : List MatchCase} (hz : z.cps.toList = t) (hb : PSs X body (tOfS x W B)) (hr : PCs X x W rest C) : PCs X x W (⟨.MatchValue (.Constant (.str z) j p1) p2, none, body⟩ :: rest) (dcVal t B C) := ⟨fun pins s σ De u v F H Ω ρ K d b I r rl f h w => by
  match d, h with
  | .str y, h =>
    simp only [Fz] at f
    subst f hz
    have h2 : (if decide (y = z.cps.toList) = true then B ρ K else C (.str y) ρ K) := h
    refine wpAny_matchCases_cons (wpAny_mono (val_ok (k := fun b => if b = true then B ρ K else C (.str y) ρ K) I r ?_) (fun r1 s1 ⟨b, I1, e, q1⟩ => ?_) fun _ _ e => e)
    · simpa using h2
    · cases b with
      | false =>
        rw [if_neg Bool.false_ne_true] at e q1
        subst e
        exact hr.run pins s1 σ De u _ F H Ω ρ K _ _ I1 r rl (by simp only [Fz]) q1 w
      | true =>
        rw [if_pos rfl] at e q1
        subst e
        refine wpAny_assignInOrder_none ?_
        exact hb.run pins s1 σ H De I1 (tOfS_iff.mpr ⟨F, Ω, ρ, K, rl, q1, w⟩)⟩
theorem C_seq {ps : List Pattern} {els : List El} {p : Pos} {body : List Stmt} {B : DS} {C : DC} {rest : List MatchCase} (hc : X.calm = true) (hN : X.N.Nodup) (hE : ElsOk X x ps els) (hb : PSs X body (tOfS x W B)) (hr : PCs X x W rest C)
    (hstar : ps.findIdx? (·.isStar) = none := by rfl) (hwild : (ps.all fun p => p.isWildcard || (p.isStar && p.names.isEmpty)) = false := by rfl) : PCs X x W (⟨.MatchSequence ps p, none, body⟩ :: rest) (dcSeq els B C) := ⟨fun pins s σ De u v F H Ω ρ K d b I r rl f h w => by
  match d, h with
  | .tup ds, h =>
    have f0 := f
    simp only [Fz] at f
    obtain ⟨a, vs, e1, h1, f2⟩ := f
    subst e1
    have hq : SqT X.K H a vs := SqT.of (rl.wf.sub _ _ h1)
    have r0 := r
    cases r
    obtain ⟨its, rv, ht, hz⟩ := I.tuple hq
    have hl : its.length = ds.length := by rw [← rv.length, f2.length]
    have hfit : (its.toArray.size : Int) < 2 ^ 63 := by
      have e : its.toArray.size = vs.length := by rw [List.size_toArray, rv.length]
      have z : sizeLine < 2 ^ 63 := by decide
      omega
    by_cases hn : ds.length = els.length
    · have h2 : elsK els ds fun r => match r with
          | some bs => B (putAll ρ bs) K
          | none => C (.tup ds) ρ K := by
        have h3 : (if decide (ds.length = els.length) = true then _ else _) := h
        rw [if_pos (decide_eq_true hn)] at h3
        exact h3
      refine wpAny_matchCases_cons (matchSeq_tuple_hit ht hfit (by rw [List.size_toArray, hl, hn, hE.length]) ?_ hstar hwild)
      rw [show ps.length = its.toArray.size by rw [List.size_toArray, hl, hn, hE.length]]
      have It : Inv X pins σ H { s with toks := s.toks + 1 + 1 } := I.tok _
      refine unpackItems_tuple (I.ok.hd hc) ht fun h' hx => ?_
      have I1 : Inv X pins σ H { s with heap := h', toks := s.toks + 1 + 1 } := I.kept (t' := s.toks + 1 + 1) fun b o e => hx b o (Nat.ne_of_lt (Heap.lt_size e)) e
      refine wpAny_mono (each_ok (F := F) hE I1 f2 (by simpa using rv) h2) (fun r1 s1 ⟨r1', I2, b1, q1⟩ => ?_) fun _ _ e => e
      match r1', r1, b1 with
      | none, none, _ => exact hr.run pins s1 σ De _ _ F H Ω ρ K _ _ I2 r0 rl f0 q1 w
      | some bs, some cs, b1 =>
        refine wpAny_mono (bind_ok hN b1 I2 rl) (fun _ s2 ⟨σ', Ω', I3, p3⟩ => ?_) fun _ _ e => e
        exact hb.run pins s2 σ' H De I3 (tOfS_iff.mpr ⟨F, Ω', _, K, p3.2.1, q1, w.later p3.1 p3.2.2⟩)
    · have h2 : C (.tup ds) ρ K := by
        have h3 : (if decide (ds.length = els.length) = true then _ else _) := h
        rw [if_neg (by simpa using hn)] at h3
        exact h3
      refine wpAny_matchCases_cons (matchSeq_tuple_miss ht hfit (by rw [List.size_toArray, hl, hE.length]; exact hn) ?_ hstar hwild)
      exact hr.run pins _ σ De _ _ F H Ω ρ K _ _ (I.tok _) r0 rl f0 h2 w⟩
theorem S_match {e : Expr} {cs : List MatchCase} {pos : Pos} {T : DE} {C : DC} (he : PE X e (tOfE x.c W T)) (hc : PCs X x W cs C) : PS X (.Match e cs pos) (tOfS x W (dMatch T C)) := ⟨fun pins s σ H De I h => by
  obtain ⟨F, Ω, ρ, K, r, t, w⟩ := tOfS_iff.mp h
  refine wpAny_Match (wpAny_mono (he.run pins s σ H (fun v H' => ∃ F' Ω' ρ' d, Stp F H Ω F' H' Ω' ∧ Rel x.c F' H' Ω' ρ' σ ∧ Fz x.c F' d v ∧ C d ρ' K) I ⟨F, Ω, ρ, _, r, t, fun d ρ' q v F' H' Ω' s' r' f => ⟨F', Ω', ρ', d, s', r', f, q⟩, w.exw⟩) (fun u s1 ⟨v, H1, I1, rv, F1, Ω1, ρ1, d, s', r', f, q⟩ => ?_) fun _ _ e => e)
  exact hc.run pins s1 σ De u v F1 H1 Ω1 ρ1 K d true I1 rv r' f q (w.later s' (Io.refl _ _))⟩
end
end Vi
/-! Vi37: C(..).m() of a new thing; max(i, j); NAME.get(text, x) of a dict of the module; {..}.get. -/
namespace Vi
open PySem L2 PySem.Spec PyProof.Rows

/-! ### C(..).m() -/
section
variable {X : Cx} {c : Ct} {W : WX} {k : Nat} {f : Addr} {fd : FuncData} {ps : List Str} {io : List Nat} {S : FS}
/-- o.m(), o one's own, new -/
def dMethNew (C : Nat) (S : FS) (T : DE) : DE := fun ρ K => T ρ (onOk K fun d ρ1 => isIns C d = true ∧ S [d] fun r posts => posts.length = 1 ∧ K r ρ1)
def airN (Θ : Nm) : Nm := fun b => (Θ b).map (0 :: ·)
theorem air_rel {F H : Hp} {Ω Θ : Nm} {ρ : Env} {σ : L2.St} {d : D} {v : V} (r : Rel c F H Ω ρ σ) (a : Air c F H Ω d v Θ) : Rel c F H (airN Θ) [d] [some v] := by
  refine ⟨⟨r.wf.sub, fun b π e => ?_⟩, fun i x h1 h2 => ?_, rfl⟩
  · unfold airN at e
    cases q : Θ b with
    | none => rw [q] at e; cases e
    | some π' =>
      obtain ⟨q1, _, q2⟩ := a.nm b π' q
      exact ⟨q1, q2⟩
  · cases i with
    | zero =>
      cases h1
      refine ⟨v, rfl, Rv.move (Sub.refl _) d [] [0] v (fun b π z => ⟨?_, rfl⟩) a.rv⟩
      have z' : Θ b = some π := by simpa using z
      unfold airN
      rw [z']
      rfl
    | succ i => simp at h1
/-- behind the call: what was owned stands as it did -/
theorem air_back {F0 H0 F H F' H' : Hp} {Ω0 Ω Ω' Θ : Nm} {ρ : Env} {σ : L2.St} {d : D} {v : V} (s0 : Stp F0 H0 Ω0 F H Ω) (r : Rel c F H Ω ρ σ) (a : Air c F H Ω d v Θ) (n0 : New F0 H0 Ω0 Θ) (ef : Sub F' H') (s : Stp F H (airN Θ) F' H' Ω') :
    Stp F0 H0 Ω0 F' H' Ω ∧ Rel c F' H' Ω ρ σ ∧ ∀ b π, Ω b = some π → H' b = H b ∧ Ω' b = none := by
  have other : ∀ b π, Ω b = some π → H' b = H b ∧ F' b = none ∧ Ω' b = none ∧ ∃ o, H b = some o := fun b π e => by
    obtain ⟨q1, o, q2⟩ := r.wf.own b π e
    have q3 : airN Θ b = none := by
      unfold airN
      cases q : Θ b with
      | none => rfl
      | some π' => have := (a.nm b π' q).2.1; rw [e] at this; cases this
    obtain ⟨z1, z2, z3⟩ := s.ou b o q2 q1 q3
    exact ⟨z1.trans q2.symm, z2, z3, o, q2⟩
  refine ⟨⟨s0.ef.trans s.ef, fun b o h1 h2 h3 => ?_⟩, ⟨⟨ef, fun b π e => ?_⟩, fun j x h1 h2 => ?_, r.len⟩, fun b π e => ⟨(other b π e).1, (other b π e).2.2.1⟩⟩
  · obtain ⟨z1, z2, z3⟩ := s0.ou b o h1 h2 h3
    have q3 : airN Θ b = none := by unfold airN; rw [n0 b o h1 h2 h3]; rfl
    obtain ⟨y1, y2, y3⟩ := s.ou b o z1 z2 q3
    exact ⟨y1, y2, z3⟩
  · obtain ⟨z1, z2, z3, o, z4⟩ := other b π e
    exact ⟨z2, o, z1.trans z4⟩
  · obtain ⟨u, q1, q2⟩ := r.sl j x h1 h2
    exact ⟨u, q1, Rv.move s.ef x [j] [j] u (fun b π z => ⟨z, (other b _ z).1⟩) q2⟩
theorem run_methNew {C : Nat} {m : Str} {T : DE} {σ : L2.St} {H : Hp} {Q : VK} (hm : m ∉ c.flds C) (h : tOfN c W (dMethNew C S T) σ H Q) :
    tMethSD (c.cls C) m (spOf c io 1 S) [] (WE W) (tOfN c W T) tNil σ H Q := by
  obtain ⟨F, Ω, ρ, K, r0, ht, k', kx⟩ := h
  refine ⟨F, Ω, ρ, _, r0, ht, fun d ρ1 q1 x F1 H1 Ω1 Θ1 s1 r1 a1 n1 => ?_, kx.imp (Stp.refl _ _ _) fun _ _ _ q => q⟩
  obtain ⟨hi, q1⟩ := q1
  cases e : d with
  | ins b C' xs =>
    rw [e] at hi
    have eC : C' = C := by simpa [isIns] using hi
    subst eC
    have vw : Vw c F1 H1 (.ins b C' xs) x := .inr ⟨_, _, e ▸ a1.rv⟩
    obtain ⟨a, dx, vs, e1, h1, _, _⟩ := vw.ins r1.wf
    refine ⟨a, dx, _, e1, h1, lookup_zip hm, ?_⟩
    refine ⟨F1, airN Θ1, [d], _, rfl, air_rel r1 a1, q1, fun d' posts q v F' H' Ω' Θ' s ip air nw => ?_, fun Ce w posts q cd vw' F' H' Ω' s ip e1 e2 => ?_⟩
    · obtain ⟨z1, z2, z3⟩ := air_back s1 r1 a1 n1 ip.wf.sub s
      refine k' d' ρ1 q.2 v F' H' Ω1 Θ' z1 z2 ⟨air.rv, fun b π y => ?_⟩ fun b o e1 e2 e3 => ?_
      · obtain ⟨y1, y2, y3⟩ := air.nm b π y
        refine ⟨y1, ?_, y3⟩
        cases q2 : Ω1 b with
        | none => rfl
        | some π' =>
          obtain ⟨w1, o, w2⟩ := r1.wf.own b π' q2
          have w3 : airN Θ1 b = none := by
            unfold airN
            cases q3 : Θ1 b with
            | none => rfl
            | some π2 => have := (a1.nm b π2 q3).2.1; rw [q2] at this; cases this
          have := nw b o w2 w1 w3
          rw [y] at this
          cases this
      · obtain ⟨y1, y2, y3⟩ := s1.ou b o e1 e2 e3
        exact nw b o y1 y2 (by unfold airN; rw [n1 b o e1 e2 e3]; rfl)
    · obtain ⟨z1, z2, z3⟩ := air_back s1 r1 a1 n1 ip.wf.sub s
      exact kx Ce w ρ1 q.2 cd vw' F' H' Ω1 z1 z2 e1 e2
  | _ => rw [e] at hi; cases hi
theorem N_methNew {C : Nat} {m : Str} {o : Expr} {T : DE} {apos pos : Pos} {pl : Sem Bool} (ho : PE X o (tOfN c W T)) (cl : Cls X.K (c.cls C)) (hm : Meth X.K (c.cls C) m f) (hmf : m ∉ c.flds C) (Fk : FnOk X.prog X.w X.K X.mg X.base (L2.CX X.prog X.w) k f fd ps (spOf c io 1 S)) (hr : Room k X.A) (tk : Takes X W) (hb : Binds X.K fd ps [])
    (ht : eval (.Call (.Attribute o m apos) [] [] pos) X.env = (do
      let ov ← eval o X.env
      standAt apos.atName
      let (f, first) ← holding [ov] (getMethod ov m pl)
      callWith pos f first (backTo pos (starEach [] X.env)) (backToKw pos (keywordEach [] X.env))) := by rfl) :
    PE X (.Call (.Attribute o m apos) [] [] pos) (tOfN c W (dMethNew C S T)) :=
  (pe_methSD0 (E := WE W) ho cl hm Fk hr hb .nil (passAt tk) ht).imp fun σ H Q h => run_methNew hmf h
end

/-! ### max(i, j) -/
def oMax2 : List D → (D → Prop) → Prop
  | [.int i, .int j], K => K (.int (if j > i then j else i))
  | _, _ => False
theorem oMax2_r (i j : Int) (k : D → Prop) : oMax2 [.int i, .int j] k = k (.int (if j > i then j else i)) := rfl
theorem ba_max2 {c : Ct} : BA c (fun xs H Q => ∃ i j, xs = [.int i, .int j] ∧ Q (.int (if j > i then j else i)) H) oMax2 := ⟨fun F H Ω w ds vs hl hv K q Q k => by
  match ds, hl, hv, q with
  | [.int i, .int j], hl, hv, q =>
    match vs, hl with
    | [v, u], _ =>
      exact ⟨i, j, by rw [vw_int (hv 0 _ v rfl rfl), vw_int (hv 1 _ u rfl rfl)], k _ q _ F H (Ext.refl w) fz_int⟩⟩

/-! ### a dict of the module: texts to ints -/
abbrev GTab : Type := List (List Nat × Int)
def gAt (tab : GTab) (z : List Nat) : Option Int := (tab.find? fun p => decide (p.1 = z)).map (·.2)
structure GDct (K : PySem.W.Frag) (w : World) (a : Addr) (tab : GTab) : Prop where
  kd : ∃ es n, KDict K w a es n
  at_ : ∀ z : Str, ∃ r, PySem.W.nsIn K a z = some r ∧ match gAt tab z.cps.toList with
    | none => r = none
    | some i => ∃ t, r = some (.int i t)
section
variable {X : Cx} {c : Ct} {W : WX}
def orD (r : Option Int) (z : D) : D := match r with
  | some i => .int i
  | none => z
def kgK (tab : GTab) (y z : D) (k : D → Prop) : Prop := match y with
  | .str s => k (orD (gAt tab s) z)
  | _ => False
theorem kgK_s (tab : GTab) (s : List Nat) (z : D) (k : D → Prop) : kgK tab (.str s) z k = k (orD (gAt tab s) z) := rfl
def dKget (tab : GTab) (T U : DE) : DE := fun ρ K => T ρ (onOk K fun y ρ1 => U ρ1 (onOk K fun z ρ2 => kgK tab y z fun d => K (.ok d) ρ2))
theorem E_kdget {x : Str} {a : Addr} {tab : GTab} {e f : Expr} {T U : DE} {p apos cpos : Pos} (D : GDct X.K X.w a tab) (hg : Gl X x) (hm : X.mg x = some (.ref a)) (he : PE X e (tOfE c W T)) (hf : PE X f (tOfE c W U)) (m : M2 X (.Name x p) "get" apos e f cpos) (hd : (x == ("__debug__" : Str)) = false := by decide) :
    PE X (.Call (.Attribute (.Name x p) "get" apos) [e, f] [] cpos) (tOfE c W (dKget tab T U)) := by
  refine ⟨fun pins s σ H Q I h => ?_⟩
  obtain ⟨F, Ω, ρ, K, r0, ht, k, kx⟩ := h
  obtain ⟨es, n, kd⟩ := D.kd
  refine wpAny_Call_method m.base m.few m.line PySem.F.plainAttrs_dict PySem.F.slot_dict_get PySem.F.type_dict_get (thn ((pe_glob (X := X) (pos := p) (v := .ref a) hg hm rfl hd).run pins s σ H (fun v H' => v = .ref a ∧ H' = H) I ⟨rfl, rfl⟩) fun u s1 ⟨v, H1, I1, rv, e1, e2⟩ => ?_)
  subst e1 e2
  obtain rfl : u = Value.ref a := rv
  have mp := PySem.W.mapOf_K (prog := X.prog) (w := X.w) I1.kIn kd.at_ kd.lit
  refine ⟨mp.typeIs, fun b eb => ?_, ?_⟩
  · cases eb
    exact ⟨_, I1.kIn _ _ kd.at_, rfl⟩
  rw [m.trees]
  refine Calls.callWith_builtin rfl (Calls.evalArgs_plain (Calls.spliced_cons (thn (he.run pins s1 σ H1 (fun v H' => ∃ F' Ω' ρ' d, Stp F H1 Ω F' H' Ω' ∧ Rel c F' H' Ω' ρ' σ ∧ Fz c F' d v ∧ U ρ' (onOk K fun z ρ2 => kgK tab d z fun d => K (.ok d) ρ2)) I1 ⟨F, Ω, ρ, _, r0, ht, fun d ρ' q v F' H' Ω' s' r' f => ⟨F', Ω', ρ', d, s', r', f, q⟩, kx.imp (Stp.refl _ _ _) fun _ _ _ q => q⟩) fun iv s2 ⟨y, H2, I2, ry, F2, Ω2, ρ2, d, st2, r2, f2, q2⟩ =>
    Calls.spliced_cons (thn (hf.run pins s2 σ H2 (fun v H' => ∃ F' Ω' ρ' z, Stp F2 H2 Ω2 F' H' Ω' ∧ Rel c F' H' Ω' ρ' σ ∧ Fz c F' z v ∧ kgK tab d z fun d => K (.ok d) ρ') I2 ⟨F2, Ω2, ρ2, _, r2, q2, fun z ρ' q v F' H' Ω' s' r' f => ⟨F', Ω', ρ', z, s', r', f, q⟩, kx.imp st2 fun _ _ _ q => q⟩) fun fv s3 ⟨zv, H3, I3, rz, F3, Ω3, ρ3, z, st3, r3, f3, q3⟩ => Calls.spliced_nil ?_))))
  obtain ⟨s0, es0, q4⟩ : ∃ s0, d = .str s0 ∧ K (.ok (orD (gAt tab s0) z)) ρ3 := by
    cases d <;> first | exact q3.elim | exact ⟨_, rfl, q3⟩
  · subst es0
    simp only [Fz] at f2
    subst f2
    obtain ⟨t, rfl⟩ : ∃ t, iv = Value.str ⟨s0.toArray⟩ t := ry
    have mp3 := PySem.W.mapOf_K (prog := X.prog) (w := X.w) I3.kIn kd.at_ kd.lit
    obtain ⟨r, e1, e2⟩ := D.at_ ⟨s0.toArray⟩
    have ef := PySem.W.find_K kd.at_ e1
    refine call_meetsIn PySem.F.slot_dict_get mp3.typeIs PySem.F.entry_dict_get (PySem.F.args_dict_get_3 _ _ _) (meets_dict_get_default (strKind X.prog X.w) a (PySem.strKind_is X.prog X.w ⟨s0.toArray⟩ t) kd.low fv) ⟨_, mp3, ?_⟩
    rw [ef]
    have e2' : (match gAt tab s0 with
      | none => r = none
      | some i => ∃ t, r = some (.int i t)) := e2
    cases hga : gAt tab s0 with
    | none =>
      rw [hga] at q4 e2'
      have e3 : r = none := e2'
      rw [e3]
      exact ⟨zv, H3, I3.tok _, rz, k z ρ3 q4 zv F3 H3 Ω3 (st2.trans st3) r3 f3⟩
    | some i =>
      rw [hga] at q4 e2'
      obtain ⟨t', e3⟩ : ∃ t, r = some (.int i t) := e2'
      rw [e3]
      exact ⟨.int i, H3, I3.tok _, ⟨_, rfl⟩, k (.int i) ρ3 q4 (.int i) F3 H3 Ω3 (st2.trans st3) r3 (by simp only [Fz])⟩
end
/-- the facts of a dict of the module, by computing -/
theorem gdct_mk {K : PySem.W.Frag} {w : World} {a : Addr} {tab : GTab} (h1 : He.dicW K a = some (He.keysIn w.params (tab.map fun p => ⟨p.1.toArray⟩))) (h2 : He.valsB K a (tab.map fun p => (⟨p.1.toArray⟩, .int p.2)) = true) : GDct K w a tab := by
  obtain ⟨es, n, kd⟩ := He.dicW_ok h1
  refine ⟨⟨es, n, kd⟩, fun z => ?_⟩
  have hz : (⟨z.cps.toList.toArray⟩ : Str) = z := by cases z; simp
  cases e : gAt tab z.cps.toList with
  | some i =>
    unfold gAt at e
    cases q : tab.find? fun p => decide (p.1 = z.cps.toList) with
    | none => rw [q] at e; cases e
    | some p =>
      rw [q] at e
      have e2 : p.2 = i := Option.some.inj e
      have hp := List.mem_of_find?_eq_some q
      have hk : p.1 = z.cps.toList := by simpa using List.find?_some q
      obtain ⟨u, u1, u2⟩ := He.valsB_ok h2 (List.mem_map.mpr ⟨p, hp, rfl⟩)
      rw [hk, hz] at u1
      refine ⟨some u, u1, ?_⟩
      obtain ⟨t, ht⟩ : ∃ t, u = .int p.2 t := u2
      exact ⟨t, by rw [ht, e2]⟩
  | none =>
    refine ⟨none, ?_, rfl⟩
    have hks : es.toList.map He.keyOf = He.keysIn w.params (tab.map fun p => ⟨p.1.toArray⟩) := by
      have h3 := h1
      unfold He.dicW at h3
      rw [kd.at_] at h3
      simpa [kd.low] using h3
    have each : ∀ d ∈ es.toList, ∃ p ∈ tab, ∃ t, d.key = .str ⟨p.1.toArray⟩ t := fun d hd => by
      have hm : He.keyOf d ∈ es.toList.map He.keyOf := List.mem_map.mpr ⟨d, hd, rfl⟩
      rw [hks] at hm
      obtain ⟨k, hk, ek⟩ := List.mem_map.mp hm
      obtain ⟨p, hp, rfl⟩ := List.mem_map.mp hk
      unfold He.keyOf at ek
      split at ek
      · rename_i x t q
        have ek := Option.some.inj ek
        obtain ⟨h5, h6⟩ := Prod.mk.inj ek
        exact ⟨p, hp, t, by rw [q, ← h5]⟩
      · cases ek
    have ne : ∀ p ∈ tab, p.1 ≠ z.cps.toList := fun p hp hq => by
      unfold gAt at e
      cases q : tab.find? fun p => decide (p.1 = z.cps.toList) with
      | some p' => rw [q] at e; cases e
      | none =>
        have := List.find?_eq_none.mp q p hp
        simp [hq] at this
    unfold PySem.W.nsIn
    rw [kd.at_]
    show (match es.toList.find? (·.key.isStr z) with | some e => some (some e.val) | none => if es.toList.any (·.refKey) then none else some none) = some none
    have f1 : es.toList.find? (·.key.isStr z) = none := List.find?_eq_none.mpr fun d hd => by
      obtain ⟨p, hp, t, ek⟩ := each d hd
      rw [ek]
      show ¬ ((⟨p.1.toArray⟩ : Str) == z) = true
      rw [txt_eq, decide_eq_true_iff]
      exact ne p hp
    have f2 : es.toList.any (·.refKey) = false := List.any_eq_false.mpr fun d hd => by
      obtain ⟨p, hp, t, ek⟩ := each d hd
      unfold DictEntry.refKey
      rw [ek]
      simp
    rw [f1, f2]
    rfl
end Vi
/-! Vi38: {text: int, ..}.get(e, x). -/
namespace Vi
open PySem L2 PySem.Spec PyProof.Rows

def kvs' (tab : GTab) : List (Key × V) := tab.map fun p => (.inr ⟨p.1.toArray⟩, .int p.2)
abbrev gKs (tab : GTab) : List Key := tab.map fun p => .inr ⟨p.1.toArray⟩
abbrev gDs (tab : GTab) : List D := tab.map fun p => .int p.2
def dDispC (tab : GTab) : DE := fun ρ K => K (.ok (.dic true (.one (gKs tab)) (gDs tab))) ρ
section
variable {X : Cx} {c : Ct} {W : WX}
theorem pairs_c {σ : L2.St} : ∀ {tab : GTab} {H : Hp} {Q : List (V × V) → Hp → Prop}, Q (tab.map fun p => (.str ⟨p.1.toArray⟩, .int p.2)) H → tPairs (tab.map fun p => (tC (.str ⟨p.1.toArray⟩), tC (.int p.2))) σ H Q
  | [], H, Q, h => h
  | p :: tab, H, Q, h => pairs_c (tab := tab) h
theorem kvs_zip (tab : GTab) : kvs' tab = (gKs tab).zip (tab.map fun p => V.int p.2) := by
  unfold kvs' gKs
  rw [List.zip_map']
theorem fz_ints {Θ : Nm} {F H : Hp} {π : List Nat} : ∀ {tab : GTab} {j : Nat}, RvL c F H Θ (gDs tab) π j (tab.map fun p => V.int p.2)
  | [], j => by simp only [gDs, List.map_nil, RvL]
  | p :: tab, j => by
    simp only [gDs, List.map_cons, RvL]
    exact ⟨_, _, rfl, (Rv_of_own rfl).mpr (by simp only [Fz]), fz_ints (tab := tab)⟩
theorem N_dispC {keys : List (Option Expr)} {values : List Expr} {pos : Pos} (tab : GTab) (h : PPs X pos keys values (tab.map fun p => (tC (.str ⟨p.1.toArray⟩), tC (.int p.2)))) (hm : mergeK [] (kvs' tab) = kvs' tab) (hall : keys.all (·.isSome) = true := by rfl) (hl : keys.length = values.length := by rfl) (h0 : keys ≠ [] := by intro h; cases h) (h15 : keys.length ≤ 15 := by decide) (ht : tab.length ≤ 15 := by decide) :
    PE X (.Dict keys values pos) (tOfN c W (dDispC tab)) := (pe_disp h hall hl h0 h15).imp fun σ H Q h => by
  obtain ⟨F, Ω, ρ, K, r0, ht', k, kx⟩ := h
  intro p hp
  refine pairs_c ⟨upd_same, kvs' tab, ?_, by unfold kvs'; rw [List.length_map]; exact ht, ?_⟩
  · unfold kvs'
    rw [List.map_map]
    rfl
  · rw [hm, upd_upd]
    obtain ⟨a1, a2, a3, a4⟩ := own_new (o := .dK (kvs' tab)) (d := .dic true (.one (gKs tab)) (gDs tab)) (Stp.refl F H Ω) r0 hp (by
      simp only [Rv]
      refine ⟨p, tab.map fun p => V.int p.2, rfl, by simp, ?_, by simp [DKs.len, gKs, gDs], fz_ints⟩
      rw [upd_same]
      show some (HO.dK (kvs' tab)) = some (HO.dK ((gKs tab).zip _))
      rw [kvs_zip])
    exact k _ ρ ht' _ _ _ _ _ a1 a2 a3 a4
def kgC (tab : GTab) (y z : D) (k : D → Prop) : Prop := match y with
  | .str s => k (orD (gAt tab s) z)
  | .int _ => k z
  | _ => False
theorem kgC_s (tab : GTab) (s : List Nat) (z : D) (k : D → Prop) : kgC tab (.str s) z k = k (orD (gAt tab s) z) := rfl
theorem kgC_i (tab : GTab) (i : Int) (z : D) (k : D → Prop) : kgC tab (.int i) z k = k z := rfl
def dCget (tab : GTab) (T U : DE) : DE := fun ρ K => T ρ (onOk K fun y ρ1 => U ρ1 (onOk K fun z ρ2 => kgC tab y z fun d => K (.ok d) ρ2))
theorem inr_dec (a b : List Nat) : decide ((Sum.inr (⟨a.toArray⟩ : Str) : Key) = .inr ⟨b.toArray⟩) = decide (a = b) := by
  by_cases h : a = b
  · rw [h]
    simp
  · rw [decide_eq_false h]
    refine decide_eq_false fun e => h ?_
    have h1 : (⟨a.toArray⟩ : Str) = ⟨b.toArray⟩ := Sum.inr.inj e
    have h2 : a.toArray = b.toArray := by injection h1
    injection h2
theorem vD_gtab (s : List Nat) : ∀ tab : GTab, vD (gKs tab) (gDs tab) (.inr ⟨s.toArray⟩) = (gAt tab s).map .int
  | [] => rfl
  | p :: tab => by
    have ih := vD_gtab s tab
    unfold vD gAt at ih ⊢
    simp only [gKs, gDs, List.map_cons, List.zip_cons_cons, List.find?_cons]
    rw [inr_dec]
    cases decide (p.1 = s) with
    | true => rfl
    | false => exact ih
theorem vD_gint (i : Int) : ∀ tab : GTab, vD (gKs tab) (gDs tab) (.inl i) = none
  | [] => rfl
  | p :: tab => by
    have ih := vD_gint i tab
    unfold vD at ih ⊢
    simp only [gKs, gDs, List.map_cons, List.zip_cons_cons, List.find?_cons]
    have e : decide ((Sum.inr (⟨p.1.toArray⟩ : Str) : Key) = .inl i) = false := decide_eq_false fun e => by cases e
    rw [e]
    exact ih
theorem kgC_eq (tab : GTab) (y z : D) (k : D → Prop) (b : Bool) : dkK (.dic b (.one (gKs tab)) (gDs tab)) y (fun r => getK r z k) = kgC tab y z k := by
  cases y with
  | str s =>
    show getK (vD (gKs tab) (gDs tab) (.inr ⟨s.toArray⟩)) z k = k (orD (gAt tab s) z)
    rw [vD_gtab]
    cases gAt tab s with
    | none => rfl
    | some i => exact propext ⟨fun h => h.2, fun h => ⟨rfl, h⟩⟩
  | int i =>
    show getK (vD (gKs tab) (gDs tab) (.inl i)) z k = k z
    rw [vD_gint]
    rfl
  | _ => rfl
theorem E_cget {keys : List (Option Expr)} {values : List Expr} {pos apos cpos : Pos} {e f : Expr} {T U : DE} (tab : GTab) (hu : X.A.units + 1 < cLine) (h : PE X (.Dict keys values pos) (tOfN c W (dDispC tab))) (he : PE X e (tOfE c W T)) (hf : PE X f (tOfE c W U)) (m : M2 X (.Dict keys values pos) "get" apos e f cpos) :
    PE X (.Call (.Attribute (.Dict keys values pos) "get" apos) [e, f] [] cpos) (tOfE c W (dCget tab T U)) := (E_dgetD hu (O_of (E_of_N h)) he hf m).imp fun σ H Q h => by
  obtain ⟨F, Ω, ρ, K, r, t, k, kx⟩ := h
  refine ⟨F, Ω, ρ, K, r, ?_, k, kx⟩
  have e1 : ∀ (y z : D) (ρ3 : Env), (nz (D.dic false (.one (gKs tab)) (gDs tab)) = true ∧ dkK (.dic false (.one (gKs tab)) (gDs tab)) y fun r => getK r z fun d => K (.ok d) ρ3) = kgC tab y z fun d => K (.ok d) ρ3 := fun y z ρ3 => by
    rw [kgC_eq]
    exact propext ⟨fun h => h.2, fun h => ⟨rfl, h⟩⟩
  have e2 : (fun (y : D) (ρ2 : Env) => U ρ2 (onOk K fun z ρ3 => nz (D.dic false (.one (gKs tab)) (gDs tab)) = true ∧ dkK (.dic false (.one (gKs tab)) (gDs tab)) y fun r => getK r z fun d => K (.ok d) ρ3)) = fun y ρ2 => U ρ2 (onOk K fun z ρ3 => kgC tab y z fun d => K (.ok d) ρ3) := by
    funext y ρ2
    congr 1
    congr 1
    funext z ρ3
    exact e1 y z ρ3
  show isDic (D.dic false (.one (gKs tab)) (gDs tab)) = true ∧ T ρ (onOk K fun (y : D) (ρ2 : Env) => U ρ2 (onOk K fun z ρ3 => nz (D.dic false (.one (gKs tab)) (gDs tab)) = true ∧ dkK (.dic false (.one (gKs tab)) (gDs tab)) y fun r => getK r z fun d => K (.ok d) ρ3))
  rw [e2]
  exact ⟨rfl, t⟩
end
end Vi
/-! Vi39: a, b = (e1, e2); text in texts; a promise of nothing. -/
namespace Vi
open PySem L2 PySem.Spec PyProof.Rows

section
variable {X : Cx} {x : Ct2} {W : WX}
/-- a, b = (e1, e2) -/
def dAsg2 (i j : Nat) (T1 T2 : DE) : DS := fun ρ K => T1 ρ (onFl K fun a ρ1 => T2 ρ1 (onFl K fun b ρ2 => (i < ρ2.length ∧ j < ρ2.length) ∧ eAt (ρ2.set i (fr a)) fun ρ3 => eAt (ρ3.set j (fr b)) fun ρ4 => K .nx ρ4))
theorem S_asg2 {i j : Nat} {y1 y2 : Str} {e1 e2 : Expr} {p1 p2 pt pt2 pos : Pos} {kt k2} {T1 T2 : DE} (hc : X.calm = true) (hN : X.N.Nodup) (h1 : X.N[i]? = some y1) (h2 : X.N[j]? = some y2) (n12 : i ≠ j)
    (l1 : X.env.scope.names.lookup y1 = some .local) (l2 : X.env.scope.names.lookup y2 = some .local) (o1 : i ∉ x.io) (o2 : j ∉ x.io) (he1 : PE X e1 (tOfE x.c W T1)) (he2 : PE X e2 (tOfE x.c W T2))
    (hw : swappedStores [.Tuple [.Name y1 p1, .Name y2 p2] kt pt] (.Tuple [e1, e2] k2 pt2) X.env = pure (some [y1, y2]) := by rfl)
    (hs : swapsWithSole [.Tuple [.Name y1 p1, .Name y2 p2] kt pt] (.Tuple [e1, e2] k2 pt2) pos.line X.env = pure false := by rfl)
    (st2 : starEach [e2] X.env = (false, eval e2 X.env) :: starEach [] X.env := by rfl) (st1 : starEach [e1, e2] X.env = (false, eval e1 X.env) :: starEach [e2] X.env := by rfl) :
    PS X (.Assign [.Tuple [.Name y1 p1, .Name y2 p2] kt pt] (.Tuple [e1, e2] k2 pt2) pos) (tOfS x W (dAsg2 i j T1 T2)) := by
  refine (ps_par hc hN h1 h2 n12 l1 l2 (pa_cons he1 (pa_cons he2 pa_nil st2) st1) hw hs).imp fun De σ H h => ?_
  obtain ⟨F, Ω, ρ, K, r, t, w⟩ := tOfS_iff.mp h
  refine ⟨F, Ω, ρ, _, r, t, fun a ρ1 t1 v1 F1 H1 Ω1 s1 r1 g1 => ?_, w.exw⟩
  have w1 := w.later s1 (Io.refl _ _)
  refine ⟨F1, Ω1, ρ1, _, r1, t1, fun b ρ2 t2 v2 F2 H2 Ω2 s2 r2 g2 => ?_, w1.exw⟩
  have w2 := w1.later s2 (Io.refl _ _)
  obtain ⟨⟨b1, b2⟩, hk⟩ := t2
  refine ⟨v1, v2, rfl, ?_⟩
  have len := r2.len
  have q1 := fz_set (x := x) (i := i) (by rw [← len]; exact b1) o1 r2 (Fz.mono s2.ef _ _ g1)
  have q2 := fz_set (x := x) (i := j) (by rw [List.length_set, ← len]; exact b2) o2 q1.2.1 g2
  exact w2.nx _ hk _ F2 H2 _ ⟨q1.1.trans q2.1, q2.2.1, q1.2.2.trans q2.2.2⟩
end

/-! ### a text among texts -/
def oInX (g : Bool → Bool) : D → D → (D → Prop) → Prop
  | .str s, .lst _ xs, K => ∃ ts, strsD xs = some ts ∧ K (.bl (g (decide (s ∈ ts))))
  | .str s, .tup xs, K => ∃ ts, strsD xs = some ts ∧ K (.bl (g (decide (s ∈ ts))))
  | _, _, _ => False
theorem oInX_l {g : Bool → Bool} {s : List Nat} {o : Bool} {ts : List (List Nat)} {k : D → Prop} (h : k (.bl (g (decide (s ∈ ts))))) : oInX g (.str s) (.lst o (ts.map .str)) k := ⟨ts, strsD_map ts, h⟩
theorem oInX_t {g : Bool → Bool} {s : List Nat} {xs : List D} {ts : List (List Nat)} {k : D → Prop} (h1 : strsD xs = some ts) (h : k (.bl (g (decide (s ∈ ts))))) : oInX g (.str s) (.tup xs) k := ⟨ts, h1, h⟩
abbrev vS (s : List Nat) : V := .str ⟨s.toArray⟩
theorem inV_strs (s : List Nat) : ∀ ts : List (List Nat), inV (vS s) ((ts.map fun s => (⟨s.toArray⟩ : Str)).map V.str) = decide (s ∈ ts)
  | [] => rfl
  | t :: ts => by
    show (eqV (vS t) (vS s) || inV (vS s) ((ts.map fun s => (⟨s.toArray⟩ : Str)).map V.str)) = _
    rw [inV_strs s ts]
    have e : eqV (vS t) (vS s) = decide (s = t) := by
      show ((⟨t.toArray⟩ : Str) == ⟨s.toArray⟩) = _
      rw [txt_eq, Bool.eq_iff_iff, decide_eq_true_iff, decide_eq_true_iff]
      exact eq_comm
    rw [e, Bool.eq_iff_iff]
    simp [Bool.or_eq_true]
theorem flat_strs (ts : List (List Nat)) : (((ts.map fun s => (⟨s.toArray⟩ : Str)).map V.str)).all flatV = true := by
  rw [List.all_map]
  exact List.all_eq_true.mpr fun _ _ => rfl
theorem b2_inX' {c : Ct} {neg : Bool} : B2 c (rIn c.K neg) (oInX fun b => if neg = true then !b else b) := ⟨fun F H Ω w d e v u h1 h2 K q Q k => by
  match d, e, q with
  | .str s, .lst o xs, q =>
    obtain ⟨ts, hi, hk⟩ := q
    obtain ⟨a, ys, e1, q1, f1⟩ := h2.lst w
    have ev := strsD_vw hi f1
    subst ev
    have e0 := vw_str h1
    subst e0
    refine ⟨a, _, e1, .inl (SqL.of q1), rfl, flat_strs ts, ?_⟩
    rw [inV_strs]
    cases neg <;> exact k _ hk _ F H (Ext.refl w) (by simp only [Fz] <;> rfl)
  | .str s, .tup xs, q =>
    obtain ⟨ts, hi, hk⟩ := q
    obtain ⟨a, ys, e1, _, q1, f1⟩ := h2.tup w
    have ev := strsD_vw (H := H) hi f1.vw
    subst ev
    have e0 := vw_str h1
    subst e0
    refine ⟨a, _, e1, .inr q1, rfl, flat_strs ts, ?_⟩
    rw [inV_strs]
    cases neg <;> exact k _ hk _ F H (Ext.refl w) (by simp only [Fz] <;> rfl)⟩
theorem b2_inX {c : Ct} : B2 c (rIn c.K false) (oInX id) := b2_inX' (neg := false)
theorem b2_ninX {c : Ct} : B2 c (rIn c.K true) (oInX not) := b2_inX' (neg := true)

section
variable {X : Cx} {c : Ct} {W : WX}
theorem E_kdgetX {x : Str} {tab : GTab} {e f : Expr} {T U : DE} {p apos cpos : Pos} (hg : Gl X x) (hm : ∃ a, X.mg x = some (.ref a) ∧ GDct X.K X.w a tab) (he : PE X e (tOfE c W T)) (hf : PE X f (tOfE c W U)) (m : M2 X (.Name x p) "get" apos e f cpos) (hd : (x == ("__debug__" : Str)) = false := by decide) :
    PE X (.Call (.Attribute (.Name x p) "get" apos) [e, f] [] cpos) (tOfE c W (dKget tab T U)) := let ⟨_, hm, D⟩ := hm; E_kdget D hg hm he hf m hd
theorem pps_si {x : Str} {l : List Nat} {i : Int} {j j2 : Nat} {p p2 pos : Pos} {ks : List (Option Expr)} {vs : List Expr} {tab : GTab} (hx : x.cps.toList = l) (hr : PPs X pos ks vs (tab.map fun p => (tC (.str ⟨p.1.toArray⟩), tC (.int p.2)))) :
    PPs X pos (some (.Constant (.str x) j p) :: ks) (.Constant (.int i) j2 p2 :: vs) (((l, i) :: tab).map fun p => (tC (.str ⟨p.1.toArray⟩), tC (.int p.2))) := by
  subst hx
  have e : (⟨x.cps.toList.toArray⟩ : Str) = x := by cases x; simp
  have q := pps_cons (pos := pos) (pe_str (X := X) (x := x) (j := j) (pos := p)) (pe_int (X := X) (i := i) (j := j2) (pos := p2)) hr
  rw [List.map_cons]
  simp only [e]
  exact q
end

/-! ### a promise of nothing -/
theorem fn_none {P : Program} {w : World} {K : PySem.W.Frag} {mg : Str → Option Value} {base : Heap} {CX : CXT} {k : Nat} {f : Addr} {fd : FuncData} {ps : List Str} {c : Ct} {io : List Nat} {n : Nat} {S : FS} (h : ∀ args K, ¬ S args K) : FnOk P w K mg base CX k f fd ps (spOf c io n S) :=
  ⟨fun vs H Q E ⟨_, _, args, K, _, _, q, _⟩ => absurd q (h args K), fun A outer s H args us vs Q E _ _ _ _ ⟨_, _, args', K, _, _, q, _⟩ => absurd q (h args' K)⟩
end Vi
/-! Vi40: running match, written dicts, new things. -/
namespace Vi
open PySem L2

/-- how a tuple pattern ends: stuck, no, or yes with what is bound -/
def seqG : List El → List D → Option (Option (List (Nat × D)))
  | [], [] => some (some [])
  | .lit s :: es, .str t :: ds => if decide (t = s) = true then seqG es ds else some none
  | .cap i :: es, d :: ds => (seqG es ds).map fun r => r.map ((i, d) :: ·)
  | _, _ => none
theorem seqG_ok : ∀ {es : List El} {ds : List D} {r : Option (List (Nat × D))} {k : Option (List (Nat × D)) → Prop}, seqG es ds = some r → k r → elsK es ds k
  | [], [], r, k, h, q => by
    cases h
    exact q
  | .lit s :: es, .str t :: ds, r, k, h, q => by
    have h' : (if decide (t = s) = true then seqG es ds else some none) = some r := h
    show (if decide (t = s) = true then elsK es ds k else k none)
    split at h'
    · rename_i c
      rw [if_pos c]
      exact seqG_ok h' q
    · rename_i c
      rw [if_neg c]
      cases h'
      exact q
  | .cap i :: es, d :: ds, r, k, h, q => by
    have h' : (seqG es ds).map (fun r => r.map ((i, d) :: ·)) = some r := h
    cases e : seqG es ds with
    | none => rw [e] at h'; cases h'
    | some r' =>
      rw [e] at h'
      cases h'
      exact seqG_ok (k := fun r => k (r.map ((i, d) :: ·))) e q
theorem dcSeq_t (els : List El) (B : DS) (C : DC) (ds : List D) (ρ : Env) (K : Fl → Env → Prop) : dcSeq els B C (.tup ds) ρ K = (if decide (ds.length = els.length) = true then elsK els ds fun r => match r with
      | some bs => B (putAll ρ bs) K
      | none => C (.tup ds) ρ K
    else C (.tup ds) ρ K) := rfl
def seqR (els : List El) (ds : List D) : Option (Option (List (Nat × D))) := if decide (ds.length = els.length) = true then seqG els ds else some none
theorem dcSeq_hit {els : List El} {B : DS} {C : DC} {ds : List D} {ρ : Env} {K : Fl → Env → Prop} {bs : List (Nat × D)} (h : seqR els ds = some (some bs)) (q : B (putAll ρ bs) K) : dcSeq els B C (.tup ds) ρ K := by
  unfold seqR at h
  rw [dcSeq_t]
  split at h
  · rename_i c
    rw [if_pos c]
    exact seqG_ok h q
  · cases h
theorem dcSeq_miss {els : List El} {B : DS} {C : DC} {ds : List D} {ρ : Env} {K : Fl → Env → Prop} (h : seqR els ds = some none) (q : C (.tup ds) ρ K) : dcSeq els B C (.tup ds) ρ K := by
  unfold seqR at h
  rw [dcSeq_t]
  split at h
  · rename_i c
    rw [if_pos c]
    exact seqG_ok h q
  · rename_i c
    rw [if_neg c]
    exact q
theorem dMatch_r {T : DE} {C : DC} {ρ : Env} {K : Fl → Env → Prop} : dMatch T C ρ K = T ρ (onFl K fun d ρ' => C d ρ' K) := rfl
theorem putAll_n (ρ : Env) : putAll ρ [] = ρ := rfl
theorem putAll_c (ρ : Env) (i : Nat) (d : D) (bs : List (Nat × D)) : putAll ρ ((i, d) :: bs) = putAll (ρ.set i (fr d)) bs := rfl
theorem dcVal_s (s : List Nat) (B : DS) (C : DC) (t : List Nat) (ρ : Env) (K : Fl → Env → Prop) : dcVal s B C (.str t) ρ K = (if decide (t = s) = true then B ρ K else C (.str t) ρ K) := rfl
end Vi
/-! Vi41: an attribute written anew. -/
namespace Vi
open PySem L2 PySem.Spec PyProof.Rows

theorem putF_set {f : Str} {y : V} : ∀ {fs : List Str} {vs : List V} {j : Nat}, fs.Nodup → fs[j]? = some f → j < vs.length → putF f y (fs.zip vs) = fs.zip (vs.set j y)
  | [], vs, j, _, h, _ => by simp at h
  | g :: fs, [], j, _, _, h => by simp at h
  | g :: fs, w :: vs, 0, nd, h, _ => by
    simp at h
    subst h
    simp [putF]
  | g :: fs, w :: vs, j + 1, nd, h, hl => by
    have h' : fs[j]? = some f := by simpa using h
    have ne : g ≠ f := by
      rintro rfl
      exact (List.nodup_cons.mp nd).1 (List.mem_of_getElem? h')
    rw [List.zip_cons_cons, List.set_cons_succ, List.zip_cons_cons]
    show (if g = f then (g, y) :: fs.zip vs else (g, w) :: putF f y (fs.zip vs)) = _
    rw [if_neg ne, putF_set (List.nodup_cons.mp nd).2 h' (by simpa using hl)]
section
variable {X : Cx} {x : Ct2} {W : WX}
def fsetU (C j : Nat) (d v : D) (ρ : Env) (i : Nat) (k : Env → Prop) : Prop := match d with
  | .ins true C' ds => C' = C ∧ j < ds.length ∧ k (ρ.set i (.ins true C (ds.set j (fr v))))
  | _ => False
theorem fsetU_r (C j : Nat) (ds : List D) (v : D) (ρ : Env) (i : Nat) (k : Env → Prop) : fsetU C j (.ins true C ds) v ρ i k = (j < ds.length ∧ eAt (ρ.set i (.ins true C (ds.set j (fr v)))) k) := propext ⟨fun h => h.2, fun h => ⟨rfl, h⟩⟩
def dFsetU (C i j : Nat) (T : DE) : DS := fun ρ K => T ρ (onFl K fun d ρ1 => fsetU C j (gt ρ1 i) d ρ1 i fun ρ2 => K .nx ρ2)
theorem S_fldU {C i j : Nat} {y f : Str} {e : Expr} {T : DE} {p pos' pos : Pos} (cl : Cls X.K (x.c.cls C)) (na : NoAttr X.K (x.c.cls C) f) (hj : (x.c.flds C)[j]? = some f) (hjn : (x.c.flds C).length < 1000) (nd : (x.c.flds C).Nodup) (hN : X.N[i]? = some y) (hv : Vis X.env.scope y) (he : PE X e (tOfE x.c W T))
    (hd : (y == ("__debug__" : Str)) = false := by decide) (hcd : (y == ("__classdict__" : Str)) = false := by decide) (hs : swapsWith e (some (.Attribute (.Name y p) f pos')) pos.line X.env = pure false := by rfl) :
    PS X (.Assign [.Attribute (.Name y p) f pos'] e pos) (tOfS x W (dFsetU C i j T)) := by
  refine (ps_fld (pe_var hN hv hd hcd) he hs).imp fun De σ H h => ?_
  obtain ⟨F, Ω, ρ, K, r, t, w⟩ := tOfS_iff.mp h
  refine ⟨F, Ω, ρ, _, r, t, fun d ρ1 q v F1 H1 Ω1 s1 r1 f1 => ?_, w.exw⟩
  simp only [onFl_ok] at q
  generalize hz : gt ρ1 i = z at q
  match z, q, hz with
  | .ins true C' ds, ⟨eC, hl, hk⟩, hz =>
    subst eC
    have hn1 : nz (gt ρ1 i) = true := by rw [hz]; rfl
    have hs1 := gt_some hn1
    obtain ⟨v', z1, z2⟩ := r1.sl i _ hs1 (nz_ne hn1)
    rw [hz] at z2
    simp only [Rv] at z2
    obtain ⟨a, dx, vs, e1, hA, hH, hle, hr⟩ := z2
    subst e1
    have lenv := hr.length
    have hvl : j < vs.length := by rw [← lenv]; exact hl
    refine ⟨.ref a, z1, a, x.c.cls C', dx, _, rfl, hH, cl, na, ?_, ?_⟩
    · rw [List.length_zip]
      exact Nat.lt_of_le_of_lt (Nat.min_le_left _ _) hjn
    · have hp : putF f v ((x.c.flds C').zip vs) = (x.c.flds C').zip (vs.set j v) := putF_set nd hj hvl
      rw [hp]
      refine w.nx _ hk σ F1 _ Ω1 ⟨chg_stp s1 hA fun b o e1 e2 e3 => (s1.ou b o e1 e2 e3).2.2, chg_slot r1 (List.getElem?_eq_some_iff.mp hs1).1 z1 hA ?_ (fun _ _ e => e) fun b π e => r1.wf.own b π e, Io.refl _ _⟩
      simp only [Rv]
      refine ⟨a, dx, vs.set j v, rfl, hA, upd_same, ?_, RvL.put (RvL.move (Sub.refl _) ds [i] [i] 0 vs (fun b m π e => ⟨e, upd_ne fun y => ?_⟩) hr) ((Rv_of_own (own_fr d)).mpr ((Fz_fr _ _ _ _).mpr f1))⟩
      · rw [List.length_set]
        exact hle
      · rw [y, hA] at e
        simp at e
end

end Vi
/-! Vi42: str of a digit, int of a digit. -/
namespace Vi
open PySem L2 PySem.Spec PyProof.Rows

def oStrI : List D → (D → Prop) → Prop
  | [.int i], K => (0 ≤ i ∧ i ≤ 9) ∧ K (.str [48 + i.toNat])
  | _, _ => False
theorem oStrI_r (i : Int) (K : D → Prop) : oStrI [.int i] K = ((0 ≤ i ∧ i ≤ 9) ∧ K (.str [48 + i.toNat])) := rfl
theorem dig_str : ∀ n : Nat, n < 10 → ((toString (n : Int) : String) : Str) = ⟨#[48 + n]⟩ := by decide +kernel
theorem ba_strI {c : Ct} : BA c (fun xs H Q => ∃ i, xs = [.int i] ∧ i.natAbs.log2 < 1920 ∧ Q (.str (toString i)) H) oStrI := ⟨fun F H Ω w ds vs hl hv K q Q k => by
  match ds, hl, hv, q with
  | [.int i], hl, hv, ⟨⟨h0, h9⟩, q⟩ =>
    obtain ⟨v, e, h⟩ := one_of hl hv
    obtain ⟨n, rfl⟩ : ∃ n : Nat, i = n := ⟨i.toNat, by omega⟩
    refine ⟨n, by rw [e, vw_int h], ?_, k _ q _ F H (Ext.refl w) ?_⟩
    · have : n < 10 := by omega
      have hn : (n : Int).natAbs = n := Int.natAbs_natCast n
      rw [hn]
      exact Nat.lt_of_le_of_lt (Nat.log2_le_self n) (by omega)
    · simp only [Fz]
      rw [dig_str n (by omega)]
      rfl⟩
def oIntX : List D → (D → Prop) → Prop
  | [.str [a]], K => (48 ≤ a ∧ a ≤ 57) ∧ K (.int ((a - 48 : Nat) : Int))
  | _, _ => False
theorem oIntX_r (a : Nat) (K : D → Prop) : oIntX [.str [a]] K = ((48 ≤ a ∧ a ≤ 57) ∧ K (.int ((a - 48 : Nat) : Int))) := rfl
theorem dig_int : ∀ n : Nat, n < 10 → PySem.intText? ⟨#[48 + n]⟩ = some (n : Int) := by decide +kernel
theorem ba_intX {c : Ct} : BA c (fun xs H Q => ∃ a n, xs = [.str a] ∧ PySem.intText? a = some n ∧ a.length ≤ 640 ∧ Q (.int n) H) oIntX := ⟨fun F H Ω w ds vs hl hv K q Q k => by
  match ds, hl, hv, q with
  | [.str [a]], hl, hv, ⟨⟨h0, h9⟩, q⟩ =>
    obtain ⟨v, e, h⟩ := one_of hl hv
    have hd := dig_int (a - 48) (by omega)
    rw [show 48 + (a - 48) = a by omega] at hd
    exact ⟨⟨#[a]⟩, _, by rw [e, vw_str h], hd, by show 1 ≤ 640; decide, k _ q _ F H (Ext.refl w) fz_int⟩⟩
end Vi
/-! Vi43: a loop over one's own flat list: the list stays one's own; the loop may not set the name. -/
namespace Vi
open PySem L2

def forO (j : Nat) (ds0 : List D) (G : DG) (B : DS) : List D → DS
  | [], ρ, K => gt ρ j = .lst true ds0 ∧ K .nx ρ
  | d :: ds, ρ, K => gt ρ j = .lst true ds0 ∧ G d ρ fun ρ1 => B ρ1 (turnK K fun ρ' => forO j ds0 G B ds ρ' K)
def dForO (j : Nat) (G : DG) (B : DS) : DS := fun ρ K => ∃ ds, gt ρ j = .lst true ds ∧ (ds.all fun y => !own y) = true ∧ forO j ds G B ds ρ K
theorem forO_dn {j : Nat} {ds0 : List D} {G : DG} {B : DS} {K : Fl → Env → Prop} (Iv : Nat → Env → Prop) (hj : ∀ i ρ, Iv i ρ → gt ρ j = .lst true ds0) : ∀ (ds : List D) (i : Nat) (ρ : Env), Iv i ρ →
    (∀ i' d ρ (N : Env → Prop), ds[i']? = some d → Iv (i + i') ρ → (∀ ρ', Iv (i + i' + 1) ρ' → N ρ') → G d ρ fun ρ1 => B ρ1 (turnK K N)) → (∀ ρ, Iv (i + ds.length) ρ → K .nx ρ) → forO j ds0 G B ds ρ K
  | [], i, ρ, h0, _, he => ⟨hj _ _ h0, he ρ h0⟩
  | d :: ds, i, ρ, h0, st, he => ⟨hj _ _ h0, st 0 d ρ _ rfl h0 fun ρ' h1 => forO_dn Iv hj ds (i + 1) ρ' h1 (fun i' d2 ρ2 N e h k => by
      have e1 : i + 1 + i' = i + (i' + 1) := by omega
      rw [e1] at h k
      exact st (i' + 1) d2 ρ2 N (by simpa using e) h k) fun ρ2 h => he ρ2 (by
      rw [List.length_cons, show i + (ds.length + 1) = i + 1 + ds.length by omega]
      exact h)⟩
section
variable {X : Cx} {x : Ct2} {W : WX}
theorem Wants.more {F H : Hp} {Ω : Nm} {σ : L2.St} {K : Fl → Env → Prop} {De : Ends} {j : Nat} (w : Wants x W F H Ω σ K De) : Wants ⟨x.c, j :: x.io⟩ W F H Ω σ K De := by
  have io : ∀ {a b : L2.St}, Io (j :: x.io) a b → Io x.io a b := fun h => ⟨h.1, fun i hi => h.2 i (List.mem_cons_of_mem _ hi)⟩
  exact ⟨fun ρ' q σ' F' H' Ω' p => w.nx ρ' q σ' F' H' Ω' ⟨p.1, p.2.1, io p.2.2⟩, fun ρ' q σ' F' H' Ω' p => w.bk ρ' q σ' F' H' Ω' ⟨p.1, p.2.1, io p.2.2⟩, fun ρ' q σ' F' H' Ω' p => w.ct ρ' q σ' F' H' Ω' ⟨p.1, p.2.1, io p.2.2⟩,
    fun d ρ' q σ' v F' H' Ω' Θ p => w.rt d ρ' q σ' v F' H' Ω' Θ ⟨p.1, p.2.1, io p.2.2⟩, fun C u ρ' q cd vw σ' F' H' Ω' p => w.ex C u ρ' q cd vw σ' F' H' Ω' ⟨p.1, p.2.1, io p.2.2⟩⟩
theorem S_forO {tg : Expr} {body : List Stmt} {p pos : Pos} {G : DG} {B : DS} {j : Nat} {y : Str} (hp : PassesOwn (model X.prog X.w) X.A X.env X.xe) (hc : X.calm = true) (hK : x.c.K = X.K) (hN : X.N[j]? = some y) (hv : Vis X.env.scope y)
    (hg : PG X tg (tOfG ⟨x.c, j :: x.io⟩ G)) (hb : PSs X body (tOfS ⟨x.c, j :: x.io⟩ W B)) (hd : (y == ("__debug__" : Str)) = false := by decide) (hcd : (y == ("__classdict__" : Str)) = false := by decide)
    (hs : ∀ z, foldedSetIterable (.Name y p) X.env z = pure z := by intro _; rfl) : PS X (.For tg (.Name y p) body [] pos) (tOfS x W (dForO j G B)) := (ps_for hp hc (pi_list (pe_var hN hv hd hcd)) hg hb hs).imp fun De σ H h => by
  obtain ⟨F, Ω, ρ, K, r, ⟨ds, hj, hall, t⟩, w⟩ := tOfS_iff.mp h
  have slot : ∀ {F1 H1 : Hp} {Ω1 : Nm} {ρ1 : Env} {σ1 : L2.St}, Rel x.c F1 H1 Ω1 ρ1 σ1 → gt ρ1 j = .lst true ds → ∃ a vs, σ1[j]? = some (some (.ref a)) ∧ SqL X.K H1 a vs ∧ FzL x.c F1 ds vs := fun {F1 H1 Ω1 ρ1 σ1} r1 e => by
    have e2 : ρ1[j]? = some (.lst true ds) := by
      unfold gt at e
      cases q : ρ1[j]? with
      | none => rw [List.getD_eq_getElem?_getD, q] at e; cases e
      | some d => rw [List.getD_eq_getElem?_getD, q] at e; exact congrArg some e
    obtain ⟨v, q1, q2⟩ := r1.sl j _ e2 (fun z => by cases z)
    simp only [Rv] at q2
    obtain ⟨a, vs, e3, _, w2, w3⟩ := q2
    subst e3
    exact ⟨a, vs, q1, SqL.of w2, rvl_flat hall w3⟩
  obtain ⟨a, vs0, q1, q2, q3⟩ := slot r hj
  refine ⟨_, q1, a, rfl, ⟨vs0, q2⟩, ?_⟩
  have w' := w.more (j := j)
  refine ⟨fun k m σ1 H1 => m = ds.length - k ∧ k ≤ ds.length ∧ ∃ F1 Ω1 ρ1, PostS ⟨x.c, j :: x.io⟩ F H Ω σ F1 H1 Ω1 ρ1 σ1 ∧ forO j ds G B (ds.drop k) ρ1 K, ⟨_, rfl, Nat.zero_le _, F, Ω, ρ, ⟨Stp.refl _ _ _, r, Io.refl _ _⟩, t⟩, ?_⟩
  rintro k m σ1 H1 ⟨rfl, hk, F1, Ω1, ρ1, p, f⟩
  have hj1 : gt ρ1 j = .lst true ds := by
    cases hdr : ds.drop k with
    | nil => rw [hdr] at f; exact f.1
    | cons d r => rw [hdr] at f; exact f.1
  obtain ⟨a1, vs, s1, s2, s3⟩ := slot p.2.1 hj1
  have ea : a1 = a := by
    have z := p.2.2.2 j List.mem_cons_self
    rw [q1, s1] at z
    cases z
    rfl
  subst ea
  have ln := s3.length
  by_cases hlt : k < ds.length
  · have hlv : k < vs.length := by rw [← ln]; exact hlt
    rw [List.drop_eq_getElem_cons hlt] at f
    refine .inr ⟨⟨vs, vs[k], s2, List.getElem?_eq_getElem hlv⟩, fun σ2 H2 => k + 1 ≤ ds.length ∧ ∃ F2 Ω2 ρ2, PostS ⟨x.c, j :: x.io⟩ F H Ω σ F2 H2 Ω2 ρ2 σ2 ∧ forO j ds G B (ds.drop (k + 1)) ρ2 K, fun σ2 H2 ⟨l, z⟩ => ⟨_, by omega, rfl, l, z⟩, fun v H2 y => ?_⟩
    obtain ⟨e, y⟩ := y
    subst e
    obtain ⟨v2, q1', q2'⟩ := s3.get (List.getElem?_eq_getElem hlt)
    rw [y vs s2] at q1'
    cases q1'
    have w2 := w'.later p.1 p.2.2
    refine ⟨F1, Ω1, ρ1, _, _, p.2.1, q2', f.2, fun ρ3 q3 σ3 Ω3 p3 => ?_⟩
    have w3 := w2.later p3.1 p3.2.2
    refine tOfS_iff.mpr ⟨F1, Ω3, ρ3, _, p3.2.1, q3, turn_wants w3 fun ρ4 q4 σ4 F4 H4 Ω4 p4 => ?_⟩
    exact ⟨hlt, F4, Ω4, ρ4, ⟨(p.1.trans p3.1).trans p4.1, p4.2.1, (p.2.2.trans p3.2.2).trans p4.2.2⟩, q4⟩
  · have e : k = ds.length := by omega
    subst e
    rw [List.drop_eq_nil_of_le (Nat.le_refl _)] at f
    exact .inl ⟨⟨vs, s2, by rw [← ln]; exact Nat.le_refl _⟩, (w'.later p.1 p.2.2).nx ρ1 f.2 σ1 F1 H1 Ω1 ⟨Stp.refl _ _ _, p.2.1, Io.refl _ _⟩⟩
end
end Vi
/-! Vi44: try with several clauses, each of which names its error. -/
namespace Vi
open PySem L2 PySem.Spec PyProof.Rows PySem.AnyX

abbrev SuiT := Addr → Value → Option Addr → TS
def endsN (i : Nat) (De : Ends) : Ends := { nx := fun τ J => De.nx (τ.set i none) J, rt := De.rt, bk := fun τ J => De.bk (τ.set i none) J, ct := fun τ J => De.ct (τ.set i none) J }
/-- what clauses with names wish of an error -/
def wCls (K : PySem.W.Frag) (Wo : WX) (De : Ends) : List (Value × Nat × SuiT) → WX
  | [] => Wo
  | q :: r => fun cls d τ J => ∃ b, PySem.W.exmOne K cls q.1 = some b ∧
    (b = true → ∀ ad, J ad = none → q.2.2 ad cls d (endsN q.2.1 De) (τ.set q.2.1 (some (.ref ad))) J) ∧ (b = false → wCls K Wo De r cls d τ J)
/-- a clause's suite, walked -/
def SuiOk (X : Cx) (ss : List Stmt) (t : SuiT) : Prop :=
  ∀ (ad : Addr) (ob : Obj) (cls : Value) (d : Option Addr) (pn : List (Addr × Obj)), Zc cls d ob → (∃ us, ob.data = .fields us) → PSs (X.suite ad ((ad, ob) :: pn)) ss (t ad cls d)
inductive ClOk (X : Cx) : List ExceptHandler → List (Value × Nat × SuiT) → Prop
  | nil : ClOk X [] []
  | cons {nm y : Str} {cv : Value} {i : Nat} {t : SuiT} {s0 : Stmt} {ss : List Stmt} {p1 p2 : Pos} {hs : List ExceptHandler} {qs : List (Value × Nat × SuiT)} :
      Names X nm cv → X.N[i]? = some y → X.env.kindOf y = some .local → SuiOk X (s0 :: ss) t → ClOk X hs qs →
      ClOk X (.ExceptHandler (some (.Name nm p1)) (some y) (s0 :: ss) p2 :: hs) ((cv, i, t) :: qs)
section
variable {X : Cx} {body : List Stmt} {h0 : ExceptHandler} {hs : List ExceptHandler} {qs : List (Value × Nat × SuiT)} {pos : Pos} {tb : WX → TS} {Wo : WX}
theorem ps_try_cls (hstk : X.stack = X.env :: X.outer) (hfr : X.env.frame = some X.env.locals) (hnd : X.N.Nodup) (tk : Takes X Wo)
    (hb : ∀ (W : WX) (pn : List (Addr × Obj)) (xe : Value → Shared → Prop), Takes (X.tr pn xe) W → PassesOwn (model X.prog X.w) X.A X.env xe → PSs (X.tr pn xe) body (tb W))
    (hh : ClOk X (h0 :: hs) qs) : PS X (.Try body (h0 :: hs) [] [] pos) (fun De τ J => tb (wCls X.K Wo De qs) De τ J) := by
  refine ⟨fun pins s τ J De I0 want => ?_⟩
  have ok := I0.ok
  have hfs : X.A.frames = some (X.env :: X.outer) := by
    rw [ok.frames, hstk]
  let M := model X.prog X.w
  let EE : Value → Shared → Prop := fun er t1 => wpAny M X.A (noteFrame er X.env) (fun _ t2 => wpAny M X.A (setFlight er none) (fun _ t3 => wpAny M X.A (handleBy er X.env (h0 :: hs)) (SP X pins De) X.xe t3) X.xe t2) X.xe t1
  have hbody := hb (wCls X.K Wo De qs) (X.pn ++ pins) EE
  refine wpAny_Try_except (wpAny_mono ((hbody (fun er t0 xx => ?_) PassesOwn.looking).run [] s τ J De (I0.toTry _) want) (fun fl t1 sp => ?_) fun _ _ z => z)
  · obtain ⟨ad, Bk, tI, pins', τ', J', cls, d, rfl, Iv', nb, up, sky, na, os, ag, w⟩ := xx
    have Iv : Inv X pins τ' J' tI := Iv'.ofTry ok
    have sky' : Sky Bk (X.env :: X.outer) ad (Zc cls d) X.env.locals t0.heap := by
      rw [← hstk]
      exact sky
    show wpAny M X.A (noteFrame (.ref ad) X.env) _ _ _
    refine Sky.land Zc.steady hfs hfr sky' fun g3 fl3 up3 => ?_
    have Iv3 := Iv.landed (s' := { t0 with heap := g3 }) nb fl3.1 (up.trans up3) os ag
    obtain ⟨ob3, us3, at3, z3, dat3⟩ := fl3.there
    have far : ad ∉ L2.frs (X.env :: X.outer) := fun hm => by
      obtain ⟨_, o2, at2, hnf⟩ := Heap.FunFrames.mem fl3.2.2.1 hm
      rw [at3] at at2
      cases at2
      exact hnf _ dat3
    have far1 : ad ≠ X.env.locals := fun z => far (List.mem_filterMap.mpr ⟨X.env, List.mem_cons_self, z ▸ hfr⟩)
    have far2 : ad ∉ X.fs := fun hm =>
      let ⟨en, hen, q⟩ := List.mem_filterMap.mp hm
      far (List.mem_filterMap.mpr ⟨en, List.mem_cons_of_mem _ hen, q⟩)
    have Su3 := Iv3.suite at3 dat3 na far1 far2
    have looks : PySem.W.Looks M g3 (typeOf (.ref ad)) cls := fun _ _ _ _ keep q => wpAny_typeOf_ref (keep _ _ at3) (z3.1.symm ▸ q)
    have go : ∀ {hs' : List ExceptHandler} {qs' : List (Value × Nat × SuiT)}, ClOk X hs' qs' → wCls X.K Wo De qs' cls d τ' J' → wpAny M X.A (handleBy (.ref ad) X.env hs') (SP X pins De) X.xe { t0 with heap := g3 } := by
      intro hs' qs' hk
      induction hk with
      | nil =>
        intro w2
        refine wpAny_handleBy_nil ?_
        have fl3' := fl3
        obtain ⟨_, _, _, ob, us, T, _, _, at', _, dat, fld, _⟩ := fl3'
        unfold PySem.passOn
        refine wpAny_bind (wpAny_field at' dat fld ?_)
        rw [if_neg (by simp : ¬ ((Value.ref T == Value.none) = true))]
        have last : wpAny M X.A (setFlight (.ref ad) X.env.frame) (fun _ t4 => wpAny M X.A (throw (.ref ad) : Sem Flow) (SP X pins De) X.xe t4) X.xe { t0 with heap := g3 } := by
          rw [hfr]
          exact HandSPX.setFlight_upZ fl3 fun g4 sky4 up4 => wpAny_throw (tk _ _ ⟨ad, Bk, tI, pins, τ', J', cls, d, rfl, Iv, nb, (up.trans up3).trans up4, .inr (.inr (hstk.symm ▸ sky4)), na, os, ag, w2⟩)
        first | exact wpAny_bind (wpAny_pure (wpAny_bind last)) | exact wpAny_bind last
      | @cons nm y cv i t s0 ss p1 p2 hs2 qs2 hc hi hln hsu _ ih =>
        rintro ⟨b, hex, hyes, hno⟩
        refine wpAny_handleBy_cons (codeAny_handlers_test ?_) (fun q => by cases q)
        have hit := PySem.W.exm_one (M := M) Iv3.kIn looks hex
        have nmd : ∀ {Q E : Value → Shared → Prop}, Q cv { t0 with heap := g3 } → wpAny M (X.A.mark (some (.ref ad))) (eval (.Name nm p1) X.env) Q E { t0 with heap := g3 } := fun {Q E} q => by
          obtain ⟨hgl, hdb, hmg | ⟨hmg, hbt, hne⟩⟩ := hc
          · exact ld_glob (X := X.suite ad ((ad, ob3) :: (X.pn ++ pins))) Su3 hgl hmg q hdb
          · exact ld_blt (X := X.suite ad ((ad, ob3) :: (X.pn ++ pins))) Su3 hgl hmg hbt q hne hdb
        refine nmd (hit.here ?_)
        cases b with
        | false => exact ih (hno rfl)
        | true =>
          refine codeAny_handlers_suite_as (HandSPX.lands_againZ fl3 fun g4 fl4 up4 => ?_)
          have Iv4 := Iv.landed (s' := { t0 with heap := g4 }) nb fl4.1 ((up.trans up3).trans up4) os ag
          obtain ⟨ob4, us4, at4, z4, dat4⟩ := fl4.there
          have Su4 := Iv4.suite at4 dat4 na far1 far2
          let X4 := X.suite ad ((ad, ob4) :: (X.pn ++ pins))
          refine store_ok (X := X4) (v := .ref ad) Su4 hnd hi (.inl hln) rfl (fun t5 Su5 => ?_) (.inr hln)
          refine wpAny_mono ((hsu ad ob4 cls d (X.pn ++ pins) z4 ⟨_, dat4⟩).run [] t5 _ J' _ Su5 (hyes rfl ad na)) (fun fl t6 sp => ?_) (fun _ _ z => z.elim)
          have out : ∀ {τ6 : L2.St} {J6 : Hp} {Q : Shared → Prop}, Inv X4 [] τ6 J6 t6 → (∀ t7, Inv X pins (τ6.set i none) J6 t7 → Q t7) →
              wpAny M X.A (do bindName X.env y .none; unbindBehindTheSuite X.env y p2) (fun _ t7 => Q t7) X.xe t6 := fun Su6 k => gone_ok (Su6.unsuite ok) hnd hi hln k
          cases fl with
          | next => exact let ⟨_, _, Su6, q⟩ := sp; out Su6 fun _ Iv7 => ⟨_, _, Iv7, q⟩
          | brk => exact let ⟨_, _, Su6, q⟩ := sp; out Su6 fun _ Iv7 => ⟨_, _, Iv7, q⟩
          | cont => exact let ⟨_, _, Su6, q⟩ := sp; out Su6 fun _ Iv7 => ⟨_, _, Iv7, q⟩
          | ret u => exact let ⟨_, _, _, Su6, r6, q⟩ := sp; out Su6 fun _ Iv7 => ⟨_, _, _, Iv7, r6, q⟩
    exact go hh w
  · cases fl with
    | next => exact let ⟨τ', J', Iv', q⟩ := sp; wpAny_execs_nil ⟨τ', J', Iv'.ofTry ok, q⟩
    | brk => exact let ⟨τ', J', Iv', q⟩ := sp; ⟨τ', J', Iv'.ofTry ok, q⟩
    | cont => exact let ⟨τ', J', Iv', q⟩ := sp; ⟨τ', J', Iv'.ofTry ok, q⟩
    | ret u => exact let ⟨v, τ', J', Iv', r, q⟩ := sp; ⟨v, τ', J', Iv'.ofTry ok, r, q⟩
end

/-! ### the data -/
abbrev SuiD := Addr → Value → Option Addr → DS
def clK (cl : Nat → Addr) : List ((Nat → Option Bool) × Nat × SuiD) → Nat → D → Env → (Fl → Env → Prop) → Prop
  | [], C, w, ρ, K => K (.exc C w) ρ
  | q :: r, C, w, ρ, K => match q.1 C with
    | some true => ∀ a cd, q.2.2 a (.ref (cl C)) (some cd) (ρ.set q.2.1 (.exo a cd C w)) (endT q.2.1 K)
    | some false => clK cl r C w ρ K
    | none => False
def dTryC (cl : Nat → Addr) (B : DS) (qs : List ((Nat → Option Bool) × Nat × SuiD)) : DS := fun ρ K => B ρ fun fl ρ' => match fl with
  | .exc C w => clK cl qs C w ρ' K
  | g => K g ρ'
inductive ClD (X : Cx) (x : Ct2) : List ExceptHandler → List ((Nat → Option Bool) × Nat × SuiD) → Prop
  | nil : ClD X x [] []
  | cons {nm y : Str} {cv : Value} {i : Nat} {h : Nat → Option Bool} {S : SuiD} {s0 : Stmt} {ss : List Stmt} {p1 p2 : Pos} {hs : List ExceptHandler} {qs : List ((Nat → Option Bool) × Nat × SuiD)} :
      Names X nm cv → X.N[i]? = some y → X.env.kindOf y = some .local → (∀ C b, h C = some b → PySem.W.exmOne X.K (.ref (x.c.cls C)) cv = some b) → i ∉ x.io →
      (∀ (a : Addr) (oe : Obj) (cls : Value) (d : Option Addr) (pn : List (Addr × Obj)), Zc cls d oe → (∃ vs, oe.data = .fields vs) → PSs (X.suite a ((a, oe) :: pn)) (s0 :: ss) (tOfS x (fun _ _ _ _ => False) (S a cls d))) →
      ClD X x hs qs → ClD X x (.ExceptHandler (some (.Name nm p1)) (some y) (s0 :: ss) p2 :: hs) ((h, i, S) :: qs)
section
variable {X : Cx} {x : Ct2} {W : WX}
theorem ClD.run {hs : List ExceptHandler} {qs : List ((Nat → Option Bool) × Nat × SuiD)} (k : ClD X x hs qs) : ∃ ts, ClOk X hs ts ∧
    ∀ {F H : Hp} {Ω : Nm} {σ : L2.St} {ρ : Env} {K : Fl → Env → Prop} {De : Ends} {C : Nat} {u : Vi.D} {cd : Addr} {vw : V}, σ.length = X.N.length → Wants x W F H Ω σ K De → Rel x.c F H Ω ρ σ → F cd = some (.xd [(("what" : Str), vw)]) → Fz x.c F u vw →
      clK x.c.cls qs C u ρ K → wCls X.K W De ts (.ref (x.c.cls C)) (some cd) σ H := by
  induction k with
  | nil => exact ⟨[], .nil, fun {F H Ω σ ρ K De C u cd vw} _ w r e1 e2 q => w.ex C u ρ q cd vw σ F H Ω ⟨Stp.refl _ _ _, r, Io.refl _ _⟩ e1 e2⟩
  | @cons nm y cv i h S s0 ss p1 p2 hs qs hc hi hln hh hio hsu _ ih =>
    obtain ⟨ts, h1, h2⟩ := ih
    refine ⟨(cv, i, fun a cls d => tOfS x (fun _ _ _ _ => False) (S a cls d)) :: ts, .cons hc hi hln hsu h1, fun {F H Ω σ ρ K De C u cd vw} len w r e1 e2 q => ?_⟩
    unfold clK at q
    dsimp only at q
    cases hb : h C with
    | none => rw [hb] at q; exact q.elim
    | some b =>
      rw [hb] at q
      refine ⟨b, hh C b hb, fun hy a na => ?_, fun hy => ?_⟩
      · subst hy
        have hl : i < σ.length := by rw [len]; exact (List.getElem?_eq_some_iff.mp hi).1
        have Fa : Fz x.c F (.exo a cd C u) (.ref a) := by
          simp only [Fz]
          exact ⟨trivial, vw, e1, e2⟩
        have r2 := set_slot (i := i) r hl (Air.fz (Ω := Ω) (H := H) Fa rfl)
        show tOfS x (fun _ _ _ _ => False) (S a (.ref (x.c.cls C)) (some cd)) (endsN i De) (σ.set i (some (.ref a))) H
        refine tOfS_iff.mpr ⟨F, _, _, _, r2, q a cd, ?_⟩
        have back : ∀ {F2 H2 : Hp} {Ω2 : Nm} {ρ2 : Env} {σ2 : L2.St}, PostS x F H (putN i (fun _ => none) Ω) (σ.set i (some (.ref a))) F2 H2 Ω2 ρ2 σ2 → PostS x F H Ω σ F2 H2 Ω2 ρ2 σ2 := fun p2 =>
          ⟨⟨p2.1.ef, fun b o h1 h2 h3 => p2.1.ou b o h1 h2 (by show putN i (fun _ => none) Ω b = none; unfold putN; exact h3)⟩, p2.2.1, (Io.set hio).trans p2.2.2⟩
        have back2 : ∀ {F2 H2 : Hp} {Ω2 : Nm} {ρ2 : Env} {σ2 : L2.St}, PostS x F H (putN i (fun _ => none) Ω) (σ.set i (some (.ref a))) F2 H2 Ω2 ρ2 σ2 → PostS x F H Ω σ F2 H2 Ω2 (ρ2.set i .und) (σ2.set i none) := fun p2 =>
          let p3 := back p2
          ⟨p3.1, clr_slot p3.2.1, p3.2.2.trans (Io.setN hio)⟩
        exact ⟨fun ρ2 q2 σ2 F2 H2 Ω2 p2 => w.nx _ q2 _ _ _ _ (back2 p2), fun ρ2 q2 σ2 F2 H2 Ω2 p2 => w.bk _ q2 _ _ _ _ (back2 p2), fun ρ2 q2 σ2 F2 H2 Ω2 p2 => w.ct _ q2 _ _ _ _ (back2 p2),
          fun d ρ2 q2 σ2 v F2 H2 Ω2 Θ p2 ar nw => w.rt d ρ2 q2 σ2 v F2 H2 Ω2 Θ (back p2) ar (fun b o h1 h2 h3 => nw b o h1 h2 (by show putN i (fun _ => none) Ω b = none; unfold putN; exact h3)), fun C u ρ2 q2 => q2.elim⟩
      · subst hy
        exact h2 len w r e1 e2 q
theorem S_tryC {body : List Stmt} {h0 : ExceptHandler} {hs : List ExceptHandler} {qs : List ((Nat → Option Bool) × Nat × SuiD)} {pos : Pos} {B : DS} (hstk : X.stack = X.env :: X.outer) (hf : X.env.frame = some X.env.locals) (hN : X.N.Nodup) (tk : Takes X W)
    (hk : ClD X x (h0 :: hs) qs)
    (hb : ∀ (W : WX) (pn : List (Addr × Obj)) (xe : Value → Shared → Prop), Takes (X.tr pn xe) W → PassesOwn (model X.prog X.w) X.A X.env xe → PSs (X.tr pn xe) body (tOfS x W B)) :
    PS X (.Try body (h0 :: hs) [] [] pos) (tOfS x W (dTryC x.c.cls B qs)) := by
  obtain ⟨ts, c1, c2⟩ := hk.run (W := W)
  refine ⟨fun pins s σ H De I hh => (ps_try_cls (Wo := W) (tb := fun W => tOfS x W B) hstk hf hN tk hb c1).run pins s σ H De I ?_⟩
  obtain ⟨F, Ω, ρ, K, r, t, w⟩ := tOfS_iff.mp hh
  refine tOfS_iff.mpr ⟨F, Ω, ρ, _, r, t, ⟨fun ρ' q => w.nx ρ' q, fun ρ' q => w.bk ρ' q, fun ρ' q => w.ct ρ' q, fun d ρ' q => w.rt d ρ' q, fun C u ρ' q cd vw σ' F' H' Ω' p e1 e2 => ?_⟩⟩
  exact c2 (by rw [p.2.2.1, I.len]) (w.later p.1 p.2.2) p.2.1 e1 e2 q
end
theorem clK_n (cl : Nat → Addr) (C : Nat) (w : D) (ρ : Env) (K : Fl → Env → Prop) : clK cl [] C w ρ K = K (.exc C w) ρ := rfl
theorem clK_t {cl : Nat → Addr} {h : Nat → Option Bool} {i : Nat} {S : SuiD} {r : List ((Nat → Option Bool) × Nat × SuiD)} {C : Nat} {w : D} {ρ : Env} {K : Fl → Env → Prop} (e : h C = some true) (q : ∀ a cd, S a (.ref (cl C)) (some cd) (ρ.set i (.exo a cd C w)) (endT i K)) : clK cl ((h, i, S) :: r) C w ρ K := by
  unfold clK
  dsimp only
  rw [e]
  exact q
theorem clK_f {cl : Nat → Addr} {h : Nat → Option Bool} {i : Nat} {S : SuiD} {r : List ((Nat → Option Bool) × Nat × SuiD)} {C : Nat} {w : D} {ρ : Env} {K : Fl → Env → Prop} (e : h C = some false) (q : clK cl r C w ρ K) : clK cl ((h, i, S) :: r) C w ρ K := by
  unfold clK
  dsimp only
  rw [e]
  exact q
theorem dTryC_r {cl : Nat → Addr} {B : DS} {qs : List ((Nat → Option Bool) × Nat × SuiD)} {ρ : Env} {K : Fl → Env → Prop} : dTryC cl B qs ρ K = B ρ fun fl ρ' => match fl with
  | .exc C w => clK cl qs C w ρ' K
  | g => K g ρ' := rfl
end Vi
/-! Vi45: {text: int, ..}[e]. -/
namespace Vi
open PySem L2 PySem.Spec PyProof.Rows

def kiC (tab : GTab) (y : D) (k : D → Prop) : Prop := match y with
  | .str s => match gAt tab s with
    | some i => k (.int i)
    | none => False
  | _ => False
theorem kiC_s {tab : GTab} {s : List Nat} {i : Int} {k : D → Prop} (h : gAt tab s = some i) (q : k (.int i)) : kiC tab (.str s) k := by
  unfold kiC
  dsimp only
  rw [h]
  exact q
def dCix (tab : GTab) (T : DE) : DE := fun ρ K => T ρ (onOk K fun y ρ1 => kiC tab y fun d => K (.ok d) ρ1)
theorem dCix_r {tab : GTab} {T : DE} {ρ : Env} {K : R D → Env → Prop} : dCix tab T ρ K = T ρ (onOk K fun y ρ1 => kiC tab y fun d => K (.ok d) ρ1) := rfl
section
variable {X : Cx} {c : Ct} {W : WX}
theorem E_cix {keys : List (Option Expr)} {values : List Expr} {pos cpos : Pos} {e : Expr} {T : DE} (tab : GTab) (hu : X.A.units + 1 < cLine) (h : PE X (.Dict keys values pos) (tOfN c W (dDispC tab))) (he : PE X e (tOfE c W T)) (hs : NoSl e) :
    PE X (.Subscript (.Dict keys values pos) e cpos) (tOfE c W (dCix tab T)) := (E_dget hu (O_of (E_of_N h)) he hs).imp fun σ H Q h => by
  obtain ⟨F, Ω, ρ, K, r, t, k, kx⟩ := h
  refine ⟨F, Ω, ρ, K, r, ?_, k, kx⟩
  have e1 : ∀ (y : D) (ρ3 : Env), (nz (D.dic false (.one (gKs tab)) (gDs tab)) = true ∧ dkK (.dic false (.one (gKs tab)) (gDs tab)) y fun r => haveK r fun d => K (.ok d) ρ3) = kiC tab y fun d => K (.ok d) ρ3 := fun y ρ3 => by
    cases y with
    | str s =>
      show (nz (D.dic false (.one (gKs tab)) (gDs tab)) = true ∧ haveK (vD (gKs tab) (gDs tab) (.inr ⟨s.toArray⟩)) fun d => K (.ok d) ρ3) = _
      rw [vD_gtab]
      unfold kiC
      dsimp only
      cases gAt tab s with
      | none => exact propext ⟨fun h => h.2, fun h => h.elim⟩
      | some i => exact propext ⟨fun h => h.2.2, fun h => ⟨rfl, rfl, h⟩⟩
    | int i =>
      show (nz (D.dic false (.one (gKs tab)) (gDs tab)) = true ∧ haveK (vD (gKs tab) (gDs tab) (.inl i)) fun d => K (.ok d) ρ3) = _
      rw [vD_gint]
      exact propext ⟨fun h => h.2, fun h => h.elim⟩
    | _ => exact propext ⟨fun h => h.2.elim, fun h => h.elim⟩
  show T ρ (onOk K fun (y : D) (ρ2 : Env) => nz (D.dic false (.one (gKs tab)) (gDs tab)) = true ∧ dkK (.dic false (.one (gKs tab)) (gDs tab)) y fun r => haveK r fun d => K (.ok d) ρ2)
  have e2 : (fun (y : D) (ρ2 : Env) => nz (D.dic false (.one (gKs tab)) (gDs tab)) = true ∧ dkK (.dic false (.one (gKs tab)) (gDs tab)) y fun r => haveK r fun d => K (.ok d) ρ2) = fun y ρ2 => kiC tab y fun d => K (.ok d) ρ2 := by
    funext y ρ3
    exact e1 y ρ3
  rw [e2]
  exact t
end
end Vi
/-! Vi46: case name; isinstance(e, T) of a value; str of a number, int of digits. -/
namespace Vi
open PySem L2 PySem.Spec PyProof.Rows

def dcCap (i : Nat) (B : DS) : DC := fun d ρ K => eAt (ρ.set i (fr d)) fun ρ' => B ρ' K
theorem dcCap_r {i : Nat} {B : DS} {d : D} {ρ : Env} {K : Fl → Env → Prop} : dcCap i B d ρ K = eAt (ρ.set i (fr d)) fun ρ' => B ρ' K := rfl
section
variable {X : Cx} {x : Ct2} {W : WX}
theorem C_cap {n : Str} {i : Nat} {body : List Stmt} {p : Pos} {B : DS} {rest : List MatchCase} (hN : X.N.Nodup) (hn : NmOk X x n i) (hb : PSs X body (tOfS x W B)) : PCs X x W (⟨.MatchAs none (some n) p, none, body⟩ :: rest) (dcCap i B) := ⟨fun pins s σ De u v F H Ω ρ K d b I r rl f t w => by
  refine wpAny_matchCases_cons (wpAny_matchPattern_Capture ?_)
  refine wpAny_mono (bind_ok (bs := [(i, d)]) hN (Bnd.cons hn f r Bnd.nil) I rl) (fun _ s2 ⟨σ', Ω', I3, p3⟩ => ?_) fun _ _ e => e
  exact hb.run pins s2 σ' H De I3 (tOfS_iff.mpr ⟨F, Ω', _, K, p3.2.1, t, w.later p3.1 p3.2.2⟩)⟩
end

/-! ### isinstance(e, T) -/
inductive BT where
  | tuple | bool | int | str | list
def BT.nm : BT → String
  | .tuple => "tuple" | .bool => "bool" | .int => "int" | .str => "str" | .list => "list"
def isT : BT → D → Option Bool
  | .tuple, .tup _ => some true
  | .bool, .bl _ => some true
  | .int, .bl _ => some true
  | .int, .int _ => some true
  | .str, .str _ => some true
  | .list, .lst _ _ => some true
  | _, .tup _ => some false
  | _, .bl _ => some false
  | _, .int _ => some false
  | _, .str _ => some false
  | _, .lst _ _ => some false
  | _, .non => some false
  | _, _ => none
def isK (T : BT) (d : D) (k : Bool → Prop) : Prop := match isT T d with
  | some b => k b
  | none => False
theorem isK_t (T : BT) (xs : List D) (k : Bool → Prop) : isK T (.tup xs) k = k (match T with | .tuple => true | _ => false) := by cases T <;> rfl
theorem isK_l (T : BT) (o : Bool) (xs : List D) (k : Bool → Prop) : isK T (.lst o xs) k = k (match T with | .list => true | _ => false) := by cases T <;> rfl
theorem isK_b (T : BT) (b : Bool) (k : Bool → Prop) : isK T (.bl b) k = k (match T with | .bool => true | .int => true | _ => false) := by cases T <;> rfl
theorem isK_i (T : BT) (i : Int) (k : Bool → Prop) : isK T (.int i) k = k (match T with | .int => true | _ => false) := by cases T <;> rfl
theorem isK_s (T : BT) (s : List Nat) (k : Bool → Prop) : isK T (.str s) k = k (match T with | .str => true | _ => false) := by cases T <;> rfl
theorem isK_n (T : BT) (k : Bool → Prop) : isK T .non k = k false := by cases T <;> rfl
/-- a value's type, and the answer -/
theorem ty_bt {c : Ct} {F H : Hp} {Ω : Nm} {d : D} {v : V} {T : BT} {b : Bool} (w : Wf F H Ω) (h : Vw c F H d v) (e : isT T d = some b) : ∃ n, TyX c.K H v (.type n) ∧ PySem.W.kitOne c.K (.type n) (.type T.nm) = some b := by
  cases d with
  | non =>
    obtain rfl : v = .non := by simpa only [Fz] using h.fz rfl
    refine ⟨"NoneType", .base .non, ?_⟩
    cases T <;> (cases e; kernel_rfl)
  | bl x =>
    obtain rfl : v = .bl x := by simpa only [Fz] using h.fz rfl
    refine ⟨"bool", .base (.bl x), ?_⟩
    cases T <;> (cases e; kernel_rfl)
  | int i =>
    obtain rfl : v = .int i := by simpa only [Fz] using h.fz rfl
    refine ⟨"int", .base (.int i), ?_⟩
    cases T <;> (cases e; kernel_rfl)
  | str s =>
    obtain rfl : v = .str ⟨s.toArray⟩ := by simpa only [Fz] using h.fz rfl
    refine ⟨"str", .base (.str _), ?_⟩
    cases T <;> (cases e; kernel_rfl)
  | tup xs =>
    obtain ⟨a, vs, rfl, h1, _, _⟩ := h.tup w
    refine ⟨"tuple", .base (.tup (w.sub _ _ h1)), ?_⟩
    cases T <;> (cases e; kernel_rfl)
  | lst o xs =>
    obtain ⟨a, vs, rfl, h1, _⟩ := h.lst w
    refine ⟨"list", .base (.lst h1), ?_⟩
    cases T <;> (cases e; kernel_rfl)
  | _ => cases T <;> cases e
def dIsi (T : BT) (O : DO) : DE := fun ρ K => O ρ (onOk K fun o ρ1 => nz (see ρ1 o) = true ∧ isK T (see ρ1 o) fun b => K (.ok (.bl b)) ρ1)
theorem dIsi_r {T : BT} {O : DO} {ρ : Env} {K : R D → Env → Prop} : dIsi T O ρ K = O ρ (onOk K fun o ρ1 => nz (see ρ1 o) = true ∧ isK T (see ρ1 o) fun b => K (.ok (.bl b)) ρ1) := rfl
section
variable {X : Cx} {c : Ct} {W : WX}
theorem E_isi {nm : Str} {e : Expr} {O : DO} {p p2 pos : Pos} (T : BT) (hcK : c.K = X.K) (he : PE X e (tOfO c W O)) (hcl : PE X (.Name nm p2) (tC (.ty T.nm))) (hg : Gl X "isinstance") (hm : X.mg "isinstance" = none)
    (hs : starEach [e, .Name nm p2] X.env = (false, eval e X.env) :: starEach [.Name nm p2] X.env := by rfl) (hpl : (backTo pos (starEach [.Name nm p2] X.env)).any (·.1) = false := by rfl) :
    PE X (.Call (.Name "isinstance" p) [e, .Name nm p2] [] pos) (tOfE c W (dIsi T O)) := by
  refine (pe_callB (id := "isinstance") call_isi hg hm (by decide +kernel) (pa_cons he (pa_cons hcl pa_nil) hs) (by decide) (by decide) hs hpl).imp fun σ H Q h => ?_
  obtain ⟨F, Ω, ρ, K, r, t, k, kx⟩ := h
  refine ⟨F, Ω, ρ, _, r, t, fun o ρ' q v F' H' Ω' s r' f => ?_, kx.imp (Stp.refl _ _ _) fun _ _ _ q => q⟩
  simp only [onOk_ok] at q
  obtain ⟨q1, q2⟩ := q
  have hv := f.vw r' q1
  unfold isK at q2
  cases e1 : isT T (see ρ' o) with
  | none => rw [e1] at q2; exact q2.elim
  | some b =>
    rw [e1] at q2
    obtain ⟨n, h1, h2⟩ := ty_bt r'.wf hv e1
    rw [hcK] at h1 h2
    exact ⟨v, .ty T.nm, _, _, b, rfl, .ty _, h1, h2, k _ ρ' q2 _ _ _ Ω' s r' (by simp only [Fz])⟩
end

/-! ### numbers as texts -/
def oStrN : List D → (D → Prop) → Prop
  | [.int i], K => (0 ≤ i ∧ i ≤ 1000000000000) ∧ K (.str (TL.numL i.toNat))
  | _, _ => False
theorem oStrN_r (i : Int) (K : D → Prop) : oStrN [.int i] K = ((0 ≤ i ∧ i ≤ 1000000000000) ∧ K (.str (TL.numL i.toNat))) := rfl
theorem ba_strN {c : Ct} : BA c (fun xs H Q => ∃ i, xs = [.int i] ∧ i.natAbs.log2 < 1920 ∧ Q (.str (toString i)) H) oStrN := ⟨fun F H Ω w ds vs hl hv K q Q k => by
  match ds, hl, hv, q with
  | [.int i], hl, hv, ⟨⟨h0, h9⟩, q⟩ =>
    obtain ⟨v, e, h⟩ := one_of hl hv
    obtain ⟨n, rfl⟩ : ∃ n : Nat, i = n := ⟨i.toNat, by omega⟩
    refine ⟨n, by rw [e, vw_int h], ?_, k _ q _ F H (Ext.refl w) ?_⟩
    · have hn : (n : Int).natAbs = n := Int.natAbs_natCast n
      rw [hn]
      by_cases h0 : n = 0
      · subst h0
        decide
      · refine (Nat.log2_lt h0).mpr (Nat.lt_of_lt_of_le (show n < 2 ^ 50 by omega) (Nat.pow_le_pow_right (n := 2) (by decide) (show 50 ≤ 1920 by decide)))
    · simp only [Fz]
      have e2 : (toString (n : Int) : Str) = ⟨(TL.numL n).toArray⟩ := by
        rw [← TL.tl_num n]
      rw [e2]
      rfl⟩
def oIntN : List D → (D → Prop) → Prop
  | [.str s], K => ((s.all fun a => decide (48 ≤ a) && decide (a ≤ 57)) = true ∧ s ≠ [] ∧ s.length ≤ 600) ∧ K (.int ((NumText.digitsVal s : Nat) : Int))
  | _, _ => False
theorem oIntN_r (s : List Nat) (K : D → Prop) : oIntN [.str s] K = (((s.all fun a => decide (48 ≤ a) && decide (a ≤ 57)) = true ∧ s ≠ [] ∧ s.length ≤ 600) ∧ K (.int ((NumText.digitsVal s : Nat) : Int))) := rfl
theorem ba_intN {c : Ct} : BA c (fun xs H Q => ∃ a n, xs = [.str a] ∧ PySem.intText? a = some n ∧ a.length ≤ 640 ∧ Q (.int n) H) oIntN := ⟨fun F H Ω w ds vs hl hv K q Q k => by
  match ds, hl, hv, q with
  | [.str s], hl, hv, ⟨⟨h0, h1, h2⟩, q⟩ =>
    obtain ⟨v, e, h⟩ := one_of hl hv
    have hd : PySem.intText? ⟨s.toArray⟩ = some ((NumText.digitsVal s : Nat) : Int) := SX.int_S h0 h1 (by omega)
    exact ⟨⟨s.toArray⟩, _, by rw [e, vw_str h], hd, by show s.toArray.size ≤ 640; rw [List.size_toArray]; omega, k _ q _ F H (Ext.refl w) fz_int⟩⟩
/-! ### repr of any plain thing -/
def shOkA (d : D) : Prop := nice d = true ∧ (pdd d).showable = true ∧ (pdd d).hasDict = false ∧ (pdd d).depth ≤ 40 ∧ (pdd d).shown.length ≤ sizeLine
section
variable {X : Cx} {c : Ct} {W : WX}
theorem call_repr_any (hg : X.A.guards = some []) (hu : X.A.units + 64 < cLine) : CallR X (.builtin "repr") (fun xs H Q => ∃ (F : Hp) (d : D) (v : V), xs = [v] ∧ Sub F H ∧ Fz c F d v ∧ shOkA d ∧ Q (.str (pdd d).shown) H) := by
  intro pins s σ H xs us Q I r h
  obtain ⟨F, d, v, rfl, sb, f, ⟨o2, o3, o4, o5, o6⟩, q⟩ := h
  by_cases o1 : deepD d = true
  · exact call_repr_deep (c := c) hg hu pins s σ H [v] us Q I r ⟨F, d, v, rfl, sb, f, ⟨o1, o2, o3, o4, o5, o6⟩, q⟩
  · obtain ⟨u, rfl, ru⟩ := vals1 r
    cases d with
    | non =>
      simp only [Fz] at f
      subst f
      obtain rfl : u = Value.none := ru
      exact PySem.P.repr_of_none ⟨.str _, H, I.tok _, ⟨_, rfl⟩, q⟩
    | bl b =>
      simp only [Fz] at f
      subst f
      obtain rfl : u = Value.bool b := ru
      exact PySem.P.repr_of_bool ⟨.str _, H, I.tok _, ⟨_, rfl⟩, by simp only [pdd, PyData.shown] at q; exact q⟩
    | int i =>
      simp only [Fz] at f
      subst f
      obtain ⟨t, rfl⟩ := ru
      simp only [pdd, PyData.showable, decide_eq_true_eq] at o3
      exact PySem.P.repr_of_int o3 ⟨.str _, H, I.tok _, ⟨_, rfl⟩, by simp only [pdd, PyData.shown] at q; exact q⟩
    | str x =>
      simp only [Fz] at f
      subst f
      obtain ⟨t, rfl⟩ := ru
      exact PySem.P.repr_of_str ⟨.str _, H, I.tok _, ⟨_, rfl⟩, by simp only [pdd, PyData.shown] at q; exact q⟩ (by simp only [pdd, PyData.shown] at o6; exact o6)
    | tup _ => exact absurd rfl o1
    | lst _ _ => exact absurd rfl o1
    | _ => simp only [nice] at o2; cases o2
def dReprA (T : DE) : DE := fun ρ K => T ρ (onOk K fun d ρ' => shOkA d ∧ K (.ok (.str (shD d))) ρ')
theorem E_reprA {e : Expr} {T : DE} {p1 p2 : Pos} (hgd : X.A.guards = some []) (hu : X.A.units + 64 < cLine) (he : PE X e (tOfE c W T)) (hg : Gl X "repr") (hm : X.mg "repr" = none)
    (hs : starEach [e] X.env = (false, eval e X.env) :: starEach [] X.env := by rfl) (hpl : (backTo p2 (starEach [] X.env)).any (·.1) = false := by rfl) :
    PE X (.Call (.Name "repr" p1) [e] [] p2) (tOfE c W (dReprA T)) := by
  refine (pe_callB (id := "repr") (call_repr_any (c := c) hgd hu) hg hm (by decide +kernel) (pa_cons he pa_nil hs) (by decide) (by decide) hs hpl).imp fun σ H Q h => ?_
  obtain ⟨F, Ω, ρ, K, r, t, k, kx⟩ := h
  refine ⟨F, Ω, ρ, _, r, t, fun d ρ' q v F' H' Ω' s r' f => ?_, kx.imp (Stp.refl _ _ _) fun _ _ _ q => q⟩
  simp only [onOk_ok] at q
  refine ⟨F', d, v, rfl, r'.wf.sub, f, q.1, ?_⟩
  refine k _ ρ' q.2 _ _ _ Ω' s r' ?_
  simp only [Fz, shD]
end
end Vi

namespace K48
open PySem L2 Vi PySem.Spec PyProof.Rows
local macro_rules
  | `(tactic| simp! only [$ls,*]) => `(tactic| simp only [$ls,*, ↓dSeq, ↓dIfS, ↓dRet, ↓dRetN, ↓dSkip, ↓dBrk, ↓dCnt, ↓dPk, ↓dC, ↓dO, ↓d2, ↓dNotT, ↓dAndT, ↓dOrT, ↓dIf, ↓dNil, ↓dCons, ↓dNilL, ↓dConsL, ↓dTup, ↓dLst, ↓dBI, ↓dOwnL, ↓dCall, ↓dRng1, ↓dRng2, ↓dFor, ↓dRaise, ↓dRaise0, ↓dPn, ↓dYes, ↓dLc, ↓dExp, ↓onOk_ok, ↓onOk_exc, ↓onFl_ok, ↓onFl_exc, gt0, gtS, Vi.frs, fr_non, own_non, own_und, nz_non, fr_bl, own_bl, nz_bl, fr_int, own_int, nz_int, fr_str, own_str, nz_str, fr_tup, own_tup, nz_tup, fr_lst, own_lst, nz_lst, fr_klst, own_klst, nz_klst, fr_dic, own_dic, nz_dic, fr_ins, own_ins, nz_ins, fr_exo, own_exo, nz_exo, fr_fn, own_fn, nz_fn, eqD_ii, eqD_ss, eqD_bb, eqD_nn, eqD_sn, eqD_ns, eqD_ll, eqD_tt, eqDs_nn, eqDs_cn, eqDs_nc, eqDs_cc, shp_i, shp_b, shp_n, shp_s, shp_l, shp_t, shps_n, shps_c, id_eq, ↓dTry, ↓dIs_eq, ↓dWhat_eq, endT_rt, endT_nx, oEq, oIsN, isN, ↓endK_rt, ↓endK_nx, ↓endK_exc, ↓turnK_nx, ↓turnK_ct, ↓turnK_bk, ↓turnK_rt, ↓turnK_exc, List.set_cons_zero, List.set_cons_succ, List.all_cons, List.all_nil, List.map_cons, List.map_nil, Bool.and_true, Bool.and_self, Bool.true_and, Bool.not_true, Bool.not_false, true_and, and_true, List.take_succ_cons, List.take_zero, List.cons_append, List.nil_append, Bool.false_eq_true, if_false, if_true, ite_false, ite_true, wb_n, wb_sl, wb_vc, wb_vn, wb_v1, wb_v2, wb_v3, wb_v4, wb_v5, wb_v6, unb, reb, List.length_cons, List.length_nil, ↓dVar_r, ↓dFr_r, ↓dSet_r, ↓dgN_r, ↓dPut_r, ↓dApp_r, ↓dB_r, ↓dAndV_r, ↓dOrV_r, ↓dNotV_r, ↓dChn_r, ↓dSl_r, ↓dLenSet_r, ↓dItS_r, ↓dItL_r, ↓dItT_r, ↓dPs_r, eAt_c, exF_ok, putK_li, appK_l, blK_b, slK_s, slK_l, oIx_l, oIx_k, oIx_t, oIx_s, oAll_m, stK_b, seqK_l, seqK_k, tupK_t, inK_b, dAt_non, dAt_bl, dAt_int, dAt_str, dAt_tup, dAt_lst, dAt_klst, dAt_dic, dAt_ins, dAt_exo, dAt_fn, dAt_und, oAdd_ii, oAdd_ss, oAdd_ll, oAdd_tt, oOrd_ii, oOrd_ss, oInS_r, oInt_r, oInt0_r, oLen_l, oLen_k, oLen_t, oLen_s, oAbs_r, oInt1_i, oInt1_b, oReprB_r, int1_r, int2_r, isLst_l, see_v, see_s, sea_v, sea_s, ↓dIdx, ↓dFld, ↓dFset, ↓dJoin, ↓dListOf, ↓dMeth, ↓dMake_r, ↓dAsgG, ↓dLcN, ↓dLc2, idxK_ss, isStr_s, fldK_0, fldK_S, fsetK_r, isIns_i, dgTup_t, dgSeq_l, dgSeq_k, dgCons_c, dgNil_n, rowK_l, rowK_k, rowK_t, oTup_l, oTup_k, oTup_t, ↓dLoan_r, lnK_ok, lnK_exc, lnE_t, lnE_f, lnE_n, olE_c, olE_n, Bool.true_or, Bool.or_true, Bool.false_or, lf_non, lf_bl, lf_int, lf_str, lf_tup, lf_ins, lfs_n, lfs_c, fr2_l, ol_l, ↓dNeg, ngK_i, oRepS_r, ↓dApp2, ↓dPop2, ↓dPut2, sbK_l, opApp, opPop, opPut, ↓dAppSelf, ↓dAsg3, ↓dTru, truK_b, truK_l, ↓dExt, extK_l, oMin2_r, oIsB_r, ↓dSortSet, ↓dReprT, oEqS_r, oSum_m, ↓dSlT, slT_t, ↓dZip, zpK_st, ↓dDnew, dcK_d, ↓dDcopy, isDic_d, ↓dDgetD, getK_s, getK_n, oNeDic_r, int3m_r, ↓dRngM, oRepL_r, ↓dMv, ↓dCat, catK_l, ↓dItV, itK_s, itK_t, itK_l, itK_k, ↓dDisp1_r, tkK_ii, ↓dDget, ↓dDin, ↓dDput, dkK_tr, dkK_oi, dkK_os, dputK_t, dputK_oi, dputK_os, ↓dMatch_r, putAll_n, putAll_c, ↓dKget, kgK_s, ↓dCget, kgC_s, kgC_i, oMax2_r, ↓dAsg2, ↓dMethNew, dcVal_s, truK_s, ↓dFsetU, fsetU_r, oStrI_r, oIntX_r, ↓dTryC_r, ↓dCix_r, ↓dcCap_r, ↓dIsi_r, isK_t, isK_l, isK_b, isK_i, isK_s, isK_n, oStrN_r, oIntN_r, ↓dReprA])

def inCls (s : Stmt) (j : Nat) : Stmt := match s with
  | .ClassDef (body := b) .. => b.getD j (.Pass ⟨0, 0, 0, 0⟩)
  | _ => .Pass ⟨0, 0, 0, 0⟩
def top (i : Nat) : Stmt := PySem.Challenge.pw_anytext_k48_values_written.main.body.getD i (.Pass ⟨0, 0, 0, 0⟩)
/-- subTab[j][C]: the class C is one of the class j -/
def subTab : List (List Bool) := [[true, true, true, true, true, true], [false, true, false, false, false, false], [false, false, true, true, false, false], [false, false, false, true, false, false], [false, false, false, false, true, true], [false, false, false, false, false, true]]
def nErr : Nat := 6
def fldT : Nat → List Str := fun i => [[], [], [], [], [], [], [("_text" : Str), ("_place" : Str)]].getD i []
def subE (j C : Nat) : Option Bool := (subTab[j]?).bind fun r => r[C]?
def subsE (js : List Nat) (C : Nat) : Option Bool := if C < nErr then some (js.any fun j => subE j C == some true) else none
def allE (C : Nat) : Option Bool := if C < nErr then some true else none
def fam (C : Nat) : Bool := decide (C < nErr)
def errNm (j : Nat) : Option Str := [("AnytextError" : Str), ("PatternError" : Str), ("ProgramError" : Str), ("BadLine" : Str), ("RecordError" : Str), ("BadRecord" : Str)][j]?
def s_LETTERS : List Nat := [97, 98, 99, 100, 101, 102, 103, 104, 105, 106, 107, 108, 109, 110, 111, 112, 113, 114, 115, 116, 117, 118, 119, 120, 121, 122, 65, 66, 67, 68, 69, 70, 71, 72, 73, 74, 75, 76, 77, 78, 79, 80, 81, 82, 83, 84, 85, 86, 87, 88, 89, 90, 48, 49, 50, 51, 52, 53, 54, 55, 56, 57, 60, 62, 61, 58, 95, 64, 35]
def lv_write_value : Nat → Nat
  | 0 => 0
  | n + 1 => lv_write_value n + 1
theorem lvge_write_value : ∀ n, 0 ≤ lv_write_value n
  | 0 => Nat.le_refl _
  | n + 1 => Nat.le_trans (lvge_write_value n) (Nat.le_add_right _ _)
def lv_ValueReader__value : Nat → Nat
  | 0 => 3
  | n + 1 => lv_ValueReader__value n + 2
theorem lvge_ValueReader__value : ∀ n, 3 ≤ lv_ValueReader__value n
  | 0 => Nat.le_refl _
  | n + 1 => Nat.le_trans (lvge_ValueReader__value n) (Nat.le_add_right _ _)
def lv__law_value : Nat → Nat
  | 0 => 1
  | n + 1 => lv__law_value n + 1
theorem lvge__law_value : ∀ n, 1 ≤ lv__law_value n
  | 0 => Nat.le_refl _
  | n + 1 => Nat.le_trans (lvge__law_value n) (Nat.le_add_right _ _)
def lv__law_written : Nat → Nat
  | 0 => 0
  | n + 1 => lv__law_written n + 1
theorem lvge__law_written : ∀ n, 0 ≤ lv__law_written n
  | 0 => Nat.le_refl _
  | n + 1 => Nat.le_trans (lvge__law_written n) (Nat.le_add_right _ _)
/-! write_value: slots value, item -/
abbrev st_write_value : Stmt := top 11
theorem sc_write_value : FnScope ["value", "item"] ["value"] (defScope st_write_value) := ⟨rfl, rfl, rfl, by decide +kernel, rfl, by decide +kernel, by decide +kernel⟩
/-! ValueReader.__init__: slots self, text -/
abbrev st_ValueReader___init__ : Stmt := inCls (top 12) 0
theorem sc_ValueReader___init__ : FnScope ["self", "text"] ["self", "text"] (defScope st_ValueReader___init__) := ⟨rfl, rfl, rfl, by decide +kernel, rfl, by decide +kernel, by decide +kernel⟩
/-! ValueReader._next: slots self -/
abbrev st_ValueReader__next : Stmt := inCls (top 12) 1
theorem sc_ValueReader__next : FnScope ["self"] ["self"] (defScope st_ValueReader__next) := ⟨rfl, rfl, rfl, by decide +kernel, rfl, by decide +kernel, by decide +kernel⟩
/-! ValueReader._step: slots self, found -/
abbrev st_ValueReader__step : Stmt := inCls (top 12) 2
theorem sc_ValueReader__step : FnScope ["self", "found"] ["self"] (defScope st_ValueReader__step) := ⟨rfl, rfl, rfl, by decide +kernel, rfl, by decide +kernel, by decide +kernel⟩
/-! ValueReader._letters: slots self, found -/
abbrev st_ValueReader__letters : Stmt := inCls (top 12) 5
theorem sc_ValueReader__letters : FnScope ["self", "found"] ["self"] (defScope st_ValueReader__letters) := ⟨rfl, rfl, rfl, by decide +kernel, rfl, by decide +kernel, by decide +kernel⟩
/-! ValueReader._number: slots self, first, digits -/
abbrev st_ValueReader__number : Stmt := inCls (top 12) 7
theorem sc_ValueReader__number : FnScope ["self", "first", "digits"] ["self", "first"] (defScope st_ValueReader__number) := ⟨rfl, rfl, rfl, by decide +kernel, rfl, by decide +kernel, by decide +kernel⟩
/-! ValueReader._items: slots self, depth, found -/
abbrev st_ValueReader__items : Stmt := inCls (top 12) 6
theorem sc_ValueReader__items : FnScope ["self", "depth", "found"] ["self", "depth"] (defScope st_ValueReader__items) := ⟨rfl, rfl, rfl, by decide +kernel, rfl, by decide +kernel, by decide +kernel⟩
/-! ValueReader._value: slots self, depth, first -/
abbrev st_ValueReader__value : Stmt := inCls (top 12) 4
theorem sc_ValueReader__value : FnScope ["self", "depth", "first"] ["self", "depth"] (defScope st_ValueReader__value) := ⟨rfl, rfl, rfl, by decide +kernel, rfl, by decide +kernel, by decide +kernel⟩
/-! ValueReader.whole: slots self, found -/
abbrev st_ValueReader_whole : Stmt := inCls (top 12) 3
theorem sc_ValueReader_whole : FnScope ["self", "found"] ["self"] (defScope st_ValueReader_whole) := ⟨rfl, rfl, rfl, by decide +kernel, rfl, by decide +kernel, by decide +kernel⟩
/-! read_value: slots text -/
abbrev st_read_value : Stmt := top 13
theorem sc_read_value : FnScope ["text"] ["text"] (defScope st_read_value) := ⟨rfl, rfl, rfl, by decide +kernel, rfl, by decide +kernel, by decide +kernel⟩
/-! _law_cell: slots _law_script, _law_k -/
abbrev st__law_cell : Stmt := top 15
theorem sc__law_cell : FnScope ["_law_script", "_law_k"] ["_law_script", "_law_k"] (defScope st__law_cell) := ⟨rfl, rfl, rfl, by decide +kernel, rfl, by decide +kernel, by decide +kernel⟩
/-! _law_numbers: slots _law_cell_here, _law_many, _law_rest, _law_whole, _law_numbers_here, _law_k, _law_mixed -/
abbrev st__law_numbers : Stmt := top 16
theorem sc__law_numbers : FnScope ["_law_cell_here", "_law_many", "_law_rest", "_law_whole", "_law_numbers_here", "_law_k", "_law_mixed"] ["_law_cell_here", "_law_many"] (defScope st__law_numbers) := ⟨rfl, rfl, rfl, by decide +kernel, rfl, by decide +kernel, by decide +kernel⟩
/-! _law_state: slots _law_script, _law_start, _law_many, _law_numbers_here, _law_k, _law_cell_here -/
abbrev st__law_state : Stmt := top 17
theorem sc__law_state : FnScope ["_law_script", "_law_start", "_law_many", "_law_numbers_here", "_law_k", "_law_cell_here"] ["_law_script", "_law_start", "_law_many"] (defScope st__law_state) := ⟨rfl, rfl, rfl, by decide +kernel, rfl, by decide +kernel, by decide +kernel⟩
/-! _law_next: slots _law_state_here, _law_many, _law_numbers_here, _law_place -/
abbrev st__law_next : Stmt := top 18
theorem sc__law_next : FnScope ["_law_state_here", "_law_many", "_law_numbers_here", "_law_place"] ["_law_state_here", "_law_many"] (defScope st__law_next) := ⟨rfl, rfl, rfl, by decide +kernel, rfl, by decide +kernel, by decide +kernel⟩
/-! _law_value: slots _law_state_here, _law_deep, _law_kind, _law_pool, _law_k -/
abbrev st__law_value : Stmt := top 19
theorem sc__law_value : FnScope ["_law_state_here", "_law_deep", "_law_kind", "_law_pool", "_law_k"] ["_law_state_here", "_law_deep"] (defScope st__law_value) := ⟨rfl, rfl, rfl, by decide +kernel, rfl, by decide +kernel, by decide +kernel⟩
/-! _law_written: slots _law_value_here, _law_item -/
abbrev st__law_written : Stmt := top 20
theorem sc__law_written : FnScope ["_law_value_here", "_law_item"] ["_law_value_here"] (defScope st__law_written) := ⟨rfl, rfl, rfl, by decide +kernel, rfl, by decide +kernel, by decide +kernel⟩
/-! _law_read: slots _law_text, e -/
abbrev st__law_read : Stmt := top 21
theorem sc__law_read : FnScope ["_law_text", "e"] ["_law_text"] (defScope st__law_read) := ⟨rfl, rfl, rfl, by decide +kernel, rfl, by decide +kernel, by decide +kernel⟩
/-! _law_due: slots _law_text, _law_pool, _law_depth, _law_wanted, _law_at, _law_sign, _law_end -/
abbrev st__law_due : Stmt := top 22
theorem sc__law_due : FnScope ["_law_text", "_law_pool", "_law_depth", "_law_wanted", "_law_at", "_law_sign", "_law_end"] ["_law_text"] (defScope st__law_due) := ⟨rfl, rfl, rfl, by decide +kernel, rfl, by decide +kernel, by decide +kernel⟩
/-! _law_spoilt: slots _law_state_here, _law_text, _law_other, _law_place, _law_sign, _law_kind, _law_many -/
abbrev st__law_spoilt : Stmt := top 23
theorem sc__law_spoilt : FnScope ["_law_state_here", "_law_text", "_law_other", "_law_place", "_law_sign", "_law_kind", "_law_many"] ["_law_state_here", "_law_text", "_law_other"] (defScope st__law_spoilt) := ⟨rfl, rfl, rfl, by decide +kernel, rfl, by decide +kernel, by decide +kernel⟩
/-! law: slots _law_script, _law_state_here, _law_rows, _law_k, _law_value_here, _law_turn, _law_texts, _law_told, _law_spoilt_here, _law_due_here -/
abbrev st_law : Stmt := top 24
theorem sc_law : FnScope ["_law_script", "_law_state_here", "_law_rows", "_law_k", "_law_value_here", "_law_turn", "_law_texts", "_law_told", "_law_spoilt_here", "_law_due_here"] ["_law_script"] (defScope st_law) := ⟨rfl, rfl, rfl, by decide +kernel, rfl, by decide +kernel, by decide +kernel⟩
/-! ### what all laws share: cells, numbers, the state of the draws -/
theorem atI_ok {α : Type} {xs : List α} {i : Int} (h0 : 0 ≤ i) (h1 : i < xs.length) : ∃ x, atI xs i = some x ∧ xs[i.toNat]? = some x := by
  unfold atI ixN
  rw [if_pos h0, if_pos h1]
  have hl : i.toNat < xs.length := by omega
  exact ⟨xs[i.toNat], by simp [hl], List.getElem?_eq_getElem hl⟩
theorem if_d {p : Prop} [Decidable p] {A B : Prop} (h1 : p → A) (h2 : ¬ p → B) : if decide p = true then A else B := by
  by_cases h : p
  · rw [if_pos (decide_eq_true h)]; exact h1 h
  · rw [if_neg (by simpa using h)]; exact h2 h
theorem if_b {b : Bool} {A B : Prop} (h1 : b = true → A) (h2 : b = false → B) : if b = true then A else B := by
  cases b with
  | true => exact h1 rfl
  | false => exact h2 rfl
theorem atI_ints {ns : List Int} {i : Int} (h0 : 0 ≤ i) (h1 : i < ns.length) : ∃ v : Int, atI (ns.map D.int) i = some (.int v) ∧ v ∈ ns := by
  obtain ⟨x, h2, h3⟩ := atI_ok (xs := ns.map D.int) h0 (by simpa using h1)
  rw [List.getElem?_map] at h3
  cases e : ns[i.toNat]? with
  | none => rw [e] at h3; cases h3
  | some v => rw [e] at h3; cases h3; exact ⟨v, h2, List.mem_of_getElem? e⟩
def S__law_cell : FS := fun args K => ∃ (ns : List Int) (k : Int), args = [.klst (ns.map .int), .int k] ∧ 0 ≤ k ∧ ∀ v posts, posts.length = 2 → K (.ok (.int v)) posts
def b__law_cell : DS :=
  dSeq (dIfS (dB (d2 oLt (dPk 1) (dO (dBI oLen (dCons (dPk 0) (dNil)))))) (dRet (dFr (d2 oIx (dPk 0) (dPk 1)))) (dSkip))
  (dRet (dFr (dC (.int 0))))
theorem p__law_cell : ∀ args K', args.length = 2 → S__law_cell args K' → b__law_cell (args ++ List.replicate 0 .und) (endK 2 K') := by
  rintro args K' - ⟨ns, k, rfl, h0, kk⟩
  show b__law_cell [.klst (ns.map .int), .int k] _
  unfold b__law_cell
  simp! only [gt0]
  refine if_d (fun h => ?_) fun _ => kk _ _ rfl
  obtain ⟨v, h2, _⟩ := atI_ints h0 (by simpa using h)
  exact atD_of h2 rfl (kk _ _ rfl)
def S__law_numbers : FS := fun args K => ∃ (c : Int) (m : Int), args = [.int c, .int m] ∧ 0 ≤ m ∧ m ≤ 1000 ∧ ∀ (nums : List Int) posts, nums.length = m.toNat → posts.length = 2 → K (.ok (.lst false (nums.map .int))) posts
def b__law_numbers : DS :=
  dSeq (dSet 2 (dFr (dBI oAbs (dCons (dPk 0) (dNil)))))
  (dSeq (dSet 3 (dFr (dVar 2)))
  (dSeq (dSet 4 (dOwnL (dNilL)))
  (dSeq (dFor (dRng1 (dConsL (dVar 1) (dNilL))) (dgN 5) (dIfS (dAndT (dB (d2 oGe (dPk 3) (dO (d2 (oInt CPow gPow) (dO (dC (.int 10))) (dO (dC (.int 18))))))) (dB (d2 oGt (dPk 2) (dO (dC (.int 0)))))) (dSeq (dApp 4 (dFr (d2 (oInt cMod gMod) (dO (dBI oInt1 (dCons (dPk 2) (dNil)))) (dO (dC (.int 1000))))))
  (dSet 2 (dFr (d2 (oInt CDiv gDiv) (dPk 2) (dO (dC (.int 1000))))))) (dSeq (dSet 6 (dFr (d2 (oInt cMod gMod) (dO (dBI oInt1 (dCons (dO (d2 oAdd (dO (d2 oAdd (dO (d2 (oInt CMul gMul) (dPk 3) (dO (dC (.int 48271))))) (dO (d2 (oInt CMul gMul) (dPk 5) (dO (dC (.int 69621))))))) (dO (dC (.int 11))))) (dNil)))) (dO (dC (.int 2147483647))))))
  (dSeq (dSet 6 (dFr (d2 (oInt cMod gMod) (dO (dBI oInt1 (dCons (dO (d2 oAdd (dO (d2 oAdd (dO (d2 (oInt CMul gMul) (dPk 6) (dPk 6))) (dO (d2 (oInt CMul gMul) (dO (dC (.int 40692))) (dPk 5))))) (dO (dC (.int 3))))) (dNil)))) (dO (dC (.int 2147483629))))))
  (dApp 4 (dFr (d2 (oInt cMod gMod) (dO (dBI oInt1 (dCons (dO (d2 (oInt CDiv gDiv) (dPk 6) (dO (dC (.int 7))))) (dNil)))) (dO (dC (.int 1000))))))))))
  (dRet (dFr (dVar 4))))))
theorem p__law_numbers : ∀ args K', args.length = 2 → S__law_numbers args K' → b__law_numbers (args ++ List.replicate 5 .und) (endK 2 K') := by
  rintro args K' - ⟨c, m, rfl, h0, h1, kk⟩
  show b__law_numbers [.int c, .int m, .und, .und, .und, .und, .und] _
  unfold b__law_numbers
  simp! only [gt0]
  refine ⟨by decide, ⟨by omega, by omega⟩, ?_⟩
  generalize (if c < 0 then -c else c) = whole
  refine for_dn (fun i ρ => ∃ (rest : Int) (nums : List Int) (x y : D), ρ = [.int c, .int m, .int rest, .int whole, .lst true (nums.map .int), x, y] ∧ nums.length = i) ⟨whole, [], .und, .und, rfl, rfl⟩ ?_ ?_
  · rintro i d ρ N hd ⟨rest, nums, x, y, rfl, hl⟩ kN
    obtain ⟨hi, rfl⟩ := rngD_get hd
    have hl2 : nums.length < 16000000 := by omega
    simp! only [gt0]
    have e2 : ∀ v : Int, List.map D.int nums ++ [D.int v] = (nums ++ [v]).map D.int := fun v => by simp
    have l2 : ∀ v : Int, (nums ++ [v]).length = i + 1 := fun v => by simp [hl]
    have l3 : (List.map D.int nums).length < 16000000 := by simpa using hl2
    have mixed : CMul whole 48271 ∧ CMul (0 + (i : Int)) 69621 ∧ cMod (whole * 48271 + (0 + (i : Int)) * 69621 + 11) 2147483647 := ⟨.inr ⟨by decide, by decide⟩, .inr ⟨by decide, by decide⟩, by show (0 : Int) < 2147483647; decide⟩
    have more : ∀ z : Int, CMul (z % 2147483647) (z % 2147483647) := fun z => .inl ⟨by omega, by omega⟩
    refine ⟨⟨by decide, by decide, by decide⟩, ?_⟩
    rw [e2, e2]
    refine if_d (fun _ => if_d (fun _ => ⟨by show (0 : Int) < 1000; decide, l3, ⟨by decide, by decide⟩, kN _ ⟨_, _, _, _, rfl, l2 _⟩⟩) fun _ => ?_) fun _ => ?_
    all_goals exact ⟨mixed.1, mixed.2.1, mixed.2.2, more _, .inl ⟨by decide, by decide⟩, by show (0 : Int) < 2147483629; decide, ⟨by decide, by decide⟩, by show (0 : Int) < 1000; decide, l3, kN _ ⟨_, _, _, _, rfl, l2 _⟩⟩
  · rintro ρ ⟨rest, nums, x, y, rfl, hl⟩
    rw [rngD_len] at hl
    simp! only [gt0]
    exact kk nums _ hl rfl
abbrev stD (nums : List Int) (p : Int) : D := .lst true [.lst false (nums.map .int), .int p]
def S__law_state : FS := fun args K => ∃ (ns : List Int) (s m : Int), args = [.klst (ns.map .int), .int s, .int m] ∧ 0 ≤ s ∧ s ≤ 1000 ∧ 0 ≤ m ∧ m ≤ 1000 ∧ ∀ (nums : List Int) posts, nums.length = 20 * m.toNat → posts.length = 3 → K (.ok (stD nums 0)) posts
def b__law_state : DS :=
  dSeq (dSet 3 (dOwnL (dNilL)))
  (dSeq (dFor (dRng2 (dConsL (dVar 1) (dConsL (d2 oAdd (dPk 1) (dPk 2)) (dNilL)))) (dgN 4) (dSeq (dSet 5 (dCall [] 2 S__law_cell [] (dCons (dO (dVar 0)) (dCons (dO (dVar 4)) (dNil)))))
  (dSeq (dIfS (dB (d2 oLt (dO (dBI oAbs (dCons (dPk 5) (dNil)))) (dO (d2 (oInt CPow gPow) (dO (dC (.int 10))) (dO (dC (.int 18))))))) (dSet 5 (dFr (d2 oAdd (dO (d2 (oInt CMul gMul) (dPk 5) (dO (dC (.int 61))))) (dPk 4)))) (dSkip))
  (dSet 3 (dFr (d2 oAdd (dPk 3) (dO (dFr (dCall [] 2 S__law_numbers [] (dCons (dO (dVar 5)) (dCons (dO (dC (.int 20))) (dNil))))))))))))
  (dRet (dOwnL (dConsL (dVar 3) (dConsL (dC (.int 0)) (dNilL))))))
theorem p__law_state : ∀ args K', args.length = 3 → S__law_state args K' → b__law_state (args ++ List.replicate 3 .und) (endK 3 K') := by
  rintro args K' - ⟨ns, s, m, rfl, h0, h1, h2, h3, kk⟩
  show b__law_state [.klst (ns.map .int), .int s, .int m, .und, .und, .und] _
  unfold b__law_state
  simp! only [gt0]
  refine ⟨by decide, ⟨by omega, by omega⟩, ⟨by omega, by omega⟩, ?_⟩
  have ek : (s + m - s).toNat = m.toNat := by congr 1; omega
  rw [ek]
  refine for_dn (fun i ρ => ∃ (o : Bool) (nums : List Int) (x y : D), ρ = [.klst (ns.map .int), .int s, .int m, .lst o (nums.map .int), x, y] ∧ nums.length = 20 * i) ⟨true, [], .und, .und, rfl, rfl⟩ ?_ ?_
  · rintro i d ρ N hd ⟨o, nums, x, y, rfl, hl⟩ kN
    obtain ⟨hi, rfl⟩ := rngD_get hd
    simp! only [gt0]
    refine call_step rfl rfl rfl ⟨ns, s + i, rfl, by omega, fun v posts hp => ⟨hp, ?_⟩⟩
    simp! only [gt0]
    refine ⟨⟨by decide, by decide, by decide⟩, ?_⟩
    refine if_d (fun _ => ⟨.inr ⟨by decide, by decide⟩, ?_⟩) fun _ => ?_
    all_goals
      refine call_step rfl rfl rfl ⟨_, 20, rfl, by decide, by decide, fun nums2 posts2 hl2 hp2 => ⟨hp2, ?_⟩⟩
      simp! only [gt0]
      have e4 : List.map D.int nums ++ List.map D.int nums2 = (nums ++ nums2).map D.int := by rw [List.map_append]
      have e5 : ∀ l : List Int, ((List.map D.int l).all fun d => !own d) = true := fun l => by rw [List.all_map]; exact List.all_eq_true.mpr fun _ _ => rfl
      have l4 : (nums ++ nums2).length = 20 * (i + 1) := by rw [List.length_append, hl, hl2]; show 20 * i + 20 = _; omega
      refine ⟨⟨e5 _, e5 _⟩, ?_, ?_⟩
      · rw [List.length_map, List.length_map, hl, hl2]
        show 20 * i + 20 ≤ 16000000
        omega
      · rw [e4]
        exact kN _ ⟨_, _, _, _, rfl, l4⟩
  · rintro ρ ⟨o, nums, x, y, rfl, hl⟩
    rw [rngD_len] at hl
    simp! only [gt0]
    refine ⟨by decide, ?_⟩
    have e3 : (List.take 3 (if o = true then [D.klst (List.map D.int ns), D.int s, D.int m, D.lst false (List.map D.int nums), x, y] else [D.klst (List.map D.int ns), D.int s, D.int m, D.lst o (List.map D.int nums), x, y])).length = 3 := by cases o <;> rfl
    exact kk nums _ hl e3
def S__law_next : FS := fun args K => ∃ (nums : List Int) (p many : Int), args = [stD nums p, .int many] ∧ 0 < nums.length ∧ nums.length ≤ 100000 ∧ 0 < many ∧ ∀ (v : Int) (x : D), 0 ≤ v → v < many → K (.ok (.int v)) [stD nums (p + 1), x]
def b__law_next : DS :=
  dSeq (dSet 2 (dFr (d2 oIx (dPk 0) (dO (dC (.int 0))))))
  (dSeq (dSet 3 (dFr (d2 oIx (dPk 0) (dO (dC (.int 1))))))
  (dSeq (dPut 0 (dC (.int 1)) (d2 oAdd (dPk 3) (dO (dC (.int 1)))))
  (dRet (dFr (d2 (oInt cMod gMod) (dO (dBI oInt1 (dCons (dO (d2 oAdd (dO (d2 oIx (dPk 2) (dO (d2 (oInt cMod gMod) (dPk 3) (dO (dBI oLen (dCons (dPk 2) (dNil)))))))) (dO (d2 (oInt CMul gMul) (dO (d2 (oInt CDiv gDiv) (dPk 3) (dO (dBI oLen (dCons (dPk 2) (dNil)))))) (dO (dC (.int 7))))))) (dNil)))) (dPk 1))))))
theorem p__law_next : ∀ args K', args.length = 2 → S__law_next args K' → b__law_next (args ++ List.replicate 2 .und) (endK 2 K') := by
  rintro args K' - ⟨nums, p, many, rfl, h0, h1, h2, kk⟩
  show b__law_next [stD nums p, .int many, .und, .und] _
  unfold b__law_next stD
  have a0 : ∀ y z : D, atI [y, z] 0 = some y := fun _ _ => rfl
  have a1 : ∀ y z : D, atI [y, z] 1 = some z := fun _ _ => rfl
  have i1 : ixN (0 + 1 + 1) 1 = some 1 := rfl
  simp! only [gt0]
  refine atD_of (a0 _ _) rfl ?_
  simp! only [gt0]
  refine atD_of (a1 _ _) rfl ?_
  simp! only [gt0]
  refine ⟨1, i1, ?_⟩
  have hl : (0 : Int) < (List.map D.int nums).length := by rw [List.length_map]; omega
  have hl2 : ((List.map D.int nums).length : Int) = nums.length := by rw [List.length_map]
  have m0 : 0 ≤ p % ((List.map D.int nums).length : Int) := Int.emod_nonneg _ (by omega)
  have m1 : p % ((List.map D.int nums).length : Int) < nums.length := by rw [hl2]; exact Int.emod_lt_of_pos _ (by omega)
  obtain ⟨v, e, _⟩ := atI_ints m0 m1
  simp! only [gt0]
  refine ⟨hl, atD_of e rfl ?_⟩
  simp! only [gt0]
  refine ⟨⟨hl, by rw [hl2]; omega⟩, .inr ⟨by decide, by decide⟩, h2, ?_⟩
  exact kk _ _ (Int.emod_nonneg _ (by omega)) (Int.emod_lt_of_pos _ h2)
def asc (t : List Nat) : Prop := ∀ c ∈ t, c < 128
theorem asc_app {s t : List Nat} (h : asc s) (g : asc t) : asc (s ++ t) := fun c hc => (List.mem_append.mp hc).elim (h c) (g c)
theorem asc_one {s : List Nat} (h : asc s) {c : Nat} (hc : c ∈ s) : asc [c] := fun d hd => by rw [List.mem_singleton.mp hd]; exact h c hc
theorem sg_get {t : List Nat} {i : Nat} {d : D} (h : (t.map fun c => D.str [c])[i]? = some d) : ∃ c, t[i]? = some c ∧ d = .str [c] := by
  rw [List.getElem?_map] at h
  cases e : t[i]? with
  | none => rw [e] at h; cases h
  | some c => rw [e] at h; cases h; exact ⟨c, rfl, rfl⟩
theorem take_get {α : Type} {l : List α} {i : Nat} {x : α} (h : l[i]? = some x) : l.take (i + 1) = l.take i ++ [x] := by
  have hl := (List.getElem?_eq_some_iff.mp h)
  rw [List.take_succ_eq_append_getElem hl.1, hl.2]
theorem all_map_id (t : List Nat) (p : Nat → Bool) : ((t.map p).all id) = t.all p := by rw [List.all_map]; rfl
theorem cut_take {t : List Nat} {k : Nat} (h : k ≤ t.length) : cut t none (some (0 + (k : Int))) = t.take k := by
  unfold cut HT.sIx
  simp
  rw [if_neg (by omega)]
  omega

/-! ### what stands where in a mapped list -/
theorem map_get {α β : Type} {f : α → β} {l : List α} {i : Nat} {d : β} (h : (l.map f)[i]? = some d) : ∃ x, l[i]? = some x ∧ d = f x := by
  rw [List.getElem?_map] at h
  cases e : l[i]? with
  | none => rw [e] at h; cases h
  | some c => rw [e] at h; cases h; exact ⟨c, rfl, rfl⟩
theorem all_take {α : Type} {l : List α} {i : Nat} {x : α} (h : l[i]? = some x) (p : α → Bool) : (l.take (i + 1)).all p = ((l.take i).all p && p x) := by
  rw [take_get h, List.all_append, List.all_cons, List.all_nil, Bool.and_true]
theorem map_at {α : Type} {f : α → D} {l : List α} {i : Nat} {d : α} (h : i < l.length) : atI (l.map f) (i : Int) = some (f (l.getD i d)) := by
  obtain ⟨x, h2, h3⟩ := atI_ok (xs := l.map f) (Int.natCast_nonneg i) (by rw [List.length_map]; omega)
  obtain ⟨y, h4, rfl⟩ := map_get h3
  rw [Int.toNat_natCast] at h4
  rw [h2, List.getD_eq_getElem?_getD, h4]
  rfl
theorem map_atI {α : Type} {f : α → D} {l : List α} {q : Int} {d : α} (h0 : 0 ≤ q) (h : q < l.length) : atI (l.map f) q = some (f (l.getD q.toNat d)) := by
  have z := map_at (f := f) (l := l) (i := q.toNat) (d := d) (by omega)
  rw [Int.toNat_of_nonneg h0] at z
  exact z

theorem if_rt {b : Bool} {A B : Prop} (h : b = true) (q : A) : if b = true then A else B := by rw [if_pos h]; exact q
theorem if_rf {b : Bool} {A B : Prop} (h : b = false) (q : B) : if b = true then A else B := by rw [h, if_neg Bool.false_ne_true]; exact q

def pool69 : List Nat := [97, 98, 99, 100, 101, 102, 103, 104, 105, 106, 107, 108, 109, 110, 111, 112, 113, 114, 115, 116, 117, 118, 119, 120, 121, 122, 65, 66, 67, 68, 69, 70, 71, 72, 73, 74, 75, 76, 77, 78, 79, 80, 81, 82, 83, 84, 85, 86, 87, 88, 89, 90, 48, 49, 50, 51, 52, 53, 54, 55, 56, 57, 60, 62, 61, 58, 95, 64, 35]
theorem asc_pool69 : asc pool69 := by unfold asc; decide
--@@SPLIT
/-! ### values, their notation, the reader, the scan: plainly -/
inductive Vl where
  | bl (b : Bool) | num (n : Nat) | str (s : List Nat) | tup (vs : List Vl)
mutual
def vD : Vl → D
  | .bl b => .bl b
  | .num n => .int n
  | .str s => .str s
  | .tup vs => .tup (vDs vs)
def vDs : List Vl → List D
  | [] => []
  | v :: vs => vD v :: vDs vs
end
mutual
def wr : Vl → List Nat
  | .bl b => [if b then 84 else 70]
  | .num n => TL.numL n
  | .str s => 39 :: (s ++ [39])
  | .tup vs => 40 :: (wrs vs ++ [41])
def wrs : List Vl → List Nat
  | [] => []
  | v :: vs => wr v ++ wrT vs
def wrT : List Vl → List Nat
  | [] => []
  | v :: vs => 32 :: (wr v ++ wrT vs)
end
theorem vDs_map : ∀ vs : List Vl, vDs vs = vs.map vD
  | [] => by simp only [vDs, List.map_nil]
  | v :: vs => by simp only [vDs, List.map_cons, vDs_map vs]
theorem wrT_app : ∀ (us : List Vl) (v : Vl) , wrT (us ++ [v]) = wrT us ++ 32 :: wr v
  | [], v => by simp only [List.nil_append, wrT, List.append_nil]
  | u :: us, v => by simp only [List.cons_append, wrT, wrT_app us v, List.append_assoc]
theorem joinL_wr : ∀ vs : List Vl, TL.joinL [32] (vs.map wr) = wrs vs
  | [] => by simp only [List.map_nil, TL.joinL, wrs]
  | [v] => by simp only [List.map_cons, List.map_nil, TL.joinL, wrs, wrT, List.append_nil]
  | v :: u :: vs => by
    have ih := joinL_wr (u :: vs)
    simp only [List.map_cons] at ih ⊢
    rw [TL.joinL, ih]
    simp only [wrs, wrT, List.cons_append, List.nil_append]
inductive Rs (α : Type) where
  | ok (a : α) (r : List Nat)
  | bad (r : List Nat)
def isDg (c : Nat) : Bool := decide (48 ≤ c) && decide (c ≤ 57)
def dgs (w : List Nat) : List Nat := (w.takeWhile isDg).take 8
def letR : List Nat → List Nat → Rs Vl
  | s, [] => .bad []
  | s, c :: u => if c = 39 then .ok (.str s) u else .bad (c :: u)
def inP (c : Nat) : Bool := decide (c ∈ pool69)
def letF (w : List Nat) : Rs Vl := letR (w.takeWhile inP) (w.dropWhile inP)
def numF (c : Nat) (w : List Nat) : Rs Vl := if isDg c = true then (if c = 48 then .ok (.num 0) w else .ok (.num (NumText.digitsVal (c :: dgs w))) (w.drop (dgs w).length)) else .bad (c :: w)
instance decNil (acc : List Vl) : Decidable (acc = []) := match acc with
  | [] => isTrue rfl
  | _ :: _ => isFalse (fun h => nomatch h)
def itL (V : List Nat → Rs Vl) : Nat → List Vl → List Nat → Rs Vl
  | 0, _, r => .bad r
  | _ + 1, _, [] => .bad []
  | n + 1, acc, c :: w => if c = 41 then .ok (.tup acc) w else if acc = [] then (match V (c :: w) with
      | .ok v r => itL V n [v] r
      | .bad q => .bad q)
    else if c = 32 then (match V w with
      | .ok v r => itL V n (acc ++ [v]) r
      | .bad q => .bad q)
    else .bad (c :: w)
def vG (I : List Nat → Rs Vl) : List Nat → Rs Vl
  | [] => .bad []
  | c :: w => if c = 84 then .ok (.bl true) w else if c = 70 then .ok (.bl false) w else if c = 39 then letF w else if c = 40 then I w else numF c w
def itF (V : List Nat → Rs Vl) (w : List Nat) : Rs Vl := itL V (w.length + 1) [] w
def vF : Nat → List Nat → Rs Vl
  | 0 => vG fun w => .bad (40 :: w)
  | m + 1 => vG (itF (vF m))
theorem itL_c (V : List Nat → Rs Vl) (n : Nat) (acc : List Vl) (c : Nat) (w : List Nat) : itL V (n + 1) acc (c :: w) = if c = 41 then .ok (.tup acc) w else if acc = [] then (match V (c :: w) with
      | .ok v r => itL V n [v] r
      | .bad q => .bad q)
    else if c = 32 then (match V w with
      | .ok v r => itL V n (acc ++ [v]) r
      | .bad q => .bad q)
    else .bad (c :: w) := rfl
theorem vG_c (I : List Nat → Rs Vl) (c : Nat) (w : List Nat) : vG I (c :: w) = if c = 84 then .ok (.bl true) w else if c = 70 then .ok (.bl false) w else if c = 39 then letF w else if c = 40 then I w else numF c w := rfl
/-! ### the scan -/
inductive Wd where
  | value | item | more | fin
  deriving DecidableEq
def aft (d : Nat) : Wd := if 0 < d then .more else .fin
def vch : List Nat := [84, 70, 39, 40, 48, 49, 50, 51, 52, 53, 54, 55, 56, 57, 41]
def scN : Nat → Nat → Wd → List Nat → Option (List Nat)
  | 0, _, _, r => some r
  | _ + 1, _, wt, [] => if wt = .fin then none else some []
  | n + 1, d, wt, c :: w => if wt = .fin then some (c :: w)
    else if (wt = .more ∧ c ∉ [32, 41]) ∨ ((wt = .value ∨ wt = .item) ∧ c ∉ vch) then some (c :: w)
    else if (c = 41 ∧ wt = .value) ∨ (c = 40 ∧ d = 8) then some (c :: w)
    else if c = 39 then (match w.dropWhile inP with
      | [] => some []
      | e :: u => if e = 39 then scN n d (aft d) u else some (e :: u))
    else if 49 ≤ c ∧ c ≤ 57 then scN n d (aft d) (w.drop (dgs w).length)
    else if c = 40 then scN n (d + 1) .item w
    else if c = 32 then scN n d .value w
    else if c = 41 then scN n (d - 1) (aft (d - 1)) w
    else scN n d (aft d) w
theorem scN_c (n d : Nat) (wt : Wd) (c : Nat) (w : List Nat) : scN (n + 1) d wt (c :: w) = if wt = .fin then some (c :: w)
    else if (wt = .more ∧ c ∉ [32, 41]) ∨ ((wt = .value ∨ wt = .item) ∧ c ∉ vch) then some (c :: w)
    else if (c = 41 ∧ wt = .value) ∨ (c = 40 ∧ d = 8) then some (c :: w)
    else if c = 39 then (match w.dropWhile inP with
      | [] => some []
      | e :: u => if e = 39 then scN n d (aft d) u else some (e :: u))
    else if 49 ≤ c ∧ c ≤ 57 then scN n d (aft d) (w.drop (dgs w).length)
    else if c = 40 then scN n (d + 1) .item w
    else if c = 32 then scN n d .value w
    else if c = 41 then scN n (d - 1) (aft (d - 1)) w
    else scN n d (aft d) w := rfl
theorem dw_le (w : List Nat) : (w.dropWhile inP).length ≤ w.length := by
  have := congrArg List.length (List.takeWhile_append_dropWhile (p := inP) (l := w))
  rw [List.length_append] at this
  omega
/-- what a reading tells, a scan tells -/
def Agree (d : Nat) (wt : Wd) (d2 : Nat) (r : List Nat) : Rs Vl → Prop
  | .ok _ r' => r'.length < r.length ∧ ∀ n, r.length < n → ∃ n', r'.length < n' ∧ scN n d wt r = scN n' d2 (aft d2) r'
  | .bad q => ∀ n, r.length < n → scN n d wt r = some q
theorem pre_ok {wt : Wd} (hw : wt = .value ∨ wt = .item) {c : Nat} (hc : c ∈ vch) (h41 : c ≠ 41) {d : Nat} (h40 : ¬ (c = 40 ∧ d = 8)) (n : Nat) (w : List Nat) : scN (n + 1) d wt (c :: w) = if c = 39 then (match w.dropWhile inP with
      | [] => some []
      | e :: u => if e = 39 then scN n d (aft d) u else some (e :: u))
    else if 49 ≤ c ∧ c ≤ 57 then scN n d (aft d) (w.drop (dgs w).length)
    else if c = 40 then scN n (d + 1) .item w
    else if c = 32 then scN n d .value w
    else if c = 41 then scN n (d - 1) (aft (d - 1)) w
    else scN n d (aft d) w := by
  rw [scN_c, if_neg (by rintro rfl; rcases hw with h | h <;> cases h), if_neg, if_neg]
  · rintro (⟨h, _⟩ | h)
    · exact h41 h
    · exact h40 h
  · rintro (⟨rfl, _⟩ | ⟨_, h⟩)
    · rcases hw with h | h <;> cases h
    · exact h hc
theorem dg_of {c : Nat} (h : isDg c = true) : 48 ≤ c ∧ c ≤ 57 := by
  unfold isDg at h
  simp only [Bool.and_eq_true, decide_eq_true_eq] at h
  exact h
theorem of_dg {c : Nat} (h : 48 ≤ c ∧ c ≤ 57) : isDg c = true := by
  unfold isDg
  simp only [Bool.and_eq_true, decide_eq_true_eq]
  exact h
theorem dg_vch {c : Nat} (h : 48 ≤ c ∧ c ≤ 57) : c ∈ vch := by
  unfold vch
  simp only [List.mem_cons, List.not_mem_nil, or_false]
  omega
theorem vG_agree {I : List Nat → Rs Vl} {d : Nat} (hI : ∀ w wt, (wt = .value ∨ wt = .item) → Agree d wt d (40 :: w) (I w)) {wt : Wd} (hw : wt = .value ∨ wt = .item) : ∀ r : List Nat, (wt = .item → ∀ u, r ≠ 41 :: u) → Agree d wt d r (vG I r)
  | [], _ => fun n hn => by
    obtain ⟨n, rfl⟩ : ∃ j, n = j + 1 := ⟨n - 1, by have := hn; simp at this; omega⟩
    show (if wt = .fin then none else some []) = _
    rw [if_neg (by rintro rfl; rcases hw with h | h <;> cases h)]
  | c :: w, h41 => by
    rw [vG_c]
    have suc : ∀ {n}, (c :: w).length < n → ∃ j, n = j + 1 ∧ w.length < j := fun {n} h => ⟨n - 1, by rw [List.length_cons] at h; omega, by rw [List.length_cons] at h; omega⟩
    by_cases e1 : c = 84
    · subst e1
      rw [if_pos rfl]
      refine ⟨Nat.lt_succ_self _, fun n hn => ?_⟩
      obtain ⟨n, rfl, hn2⟩ := suc hn
      exact ⟨n, hn2, by rw [pre_ok hw (by decide) (by decide) (by omega), if_neg (by decide), if_neg (by decide), if_neg (by decide), if_neg (by decide), if_neg (by decide)]⟩
    rw [if_neg e1]
    by_cases e2 : c = 70
    · subst e2
      rw [if_pos rfl]
      refine ⟨Nat.lt_succ_self _, fun n hn => ?_⟩
      obtain ⟨n, rfl, hn2⟩ := suc hn
      exact ⟨n, hn2, by rw [pre_ok hw (by decide) (by decide) (by omega), if_neg (by decide), if_neg (by decide), if_neg (by decide), if_neg (by decide), if_neg (by decide)]⟩
    rw [if_neg e2]
    by_cases e3 : c = 39
    · subst e3
      rw [if_pos rfl]
      unfold letF
      have dl := dw_le w
      cases e : w.dropWhile inP with
      | nil =>
        intro n hn
        obtain ⟨n, rfl, hn2⟩ := suc hn
        rw [pre_ok hw (by decide) (by decide) (by omega), if_pos rfl, e]
      | cons x u =>
        rw [e, List.length_cons] at dl
        show Agree _ _ _ _ (if x = 39 then _ else _)
        by_cases hx : x = 39
        · rw [if_pos hx]
          refine ⟨by rw [List.length_cons]; omega, fun n hn => ?_⟩
          obtain ⟨n, rfl, hn2⟩ := suc hn
          exact ⟨n, by omega, by rw [pre_ok hw (by decide) (by decide) (by omega), if_pos rfl, e]; exact if_pos hx⟩
        · rw [if_neg hx]
          intro n hn
          obtain ⟨n, rfl, hn2⟩ := suc hn
          rw [pre_ok hw (by decide) (by decide) (by omega), if_pos rfl, e]
          exact if_neg hx
    rw [if_neg e3]
    by_cases e4 : c = 40
    · subst e4
      rw [if_pos rfl]
      exact hI w wt hw
    rw [if_neg e4]
    unfold numF
    by_cases hd : isDg c = true
    · have hc := dg_of hd
      rw [if_pos hd]
      by_cases e5 : c = 48
      · subst e5
        rw [if_pos rfl]
        refine ⟨Nat.lt_succ_self _, fun n hn => ?_⟩
        obtain ⟨n, rfl, hn2⟩ := suc hn
        exact ⟨n, hn2, by rw [pre_ok hw (by decide) (by decide) (by omega), if_neg (by decide), if_neg (by decide), if_neg (by decide), if_neg (by decide), if_neg (by decide)]⟩
      · rw [if_neg e5]
        refine ⟨by rw [List.length_cons, List.length_drop]; omega, fun n hn => ?_⟩
        obtain ⟨n, rfl, hn2⟩ := suc hn
        exact ⟨n, by rw [List.length_drop]; omega, by rw [pre_ok hw (dg_vch hc) (by omega) (by omega), if_neg e3, if_pos (by omega)]⟩
    · rw [if_neg hd]
      intro n hn
      obtain ⟨n, rfl, hn2⟩ := suc hn
      have hnd : ¬ (48 ≤ c ∧ c ≤ 57) := fun h => hd (of_dg h)
      rw [scN_c, if_neg (by rintro rfl; rcases hw with h | h <;> cases h)]
      by_cases e6 : c = 41
      · subst e6
        have hv : wt = .value := hw.elim id fun h => absurd rfl (h41 h w)
        subst hv
        rw [if_neg (by rintro (⟨h, _⟩ | ⟨_, h⟩) <;> first | (cases h; done) | exact h (by decide)), if_pos (.inl ⟨rfl, rfl⟩)]
      · have hv : c ∉ vch := by
          unfold vch
          simp only [List.mem_cons, List.not_mem_nil, or_false]
          omega
        rw [if_pos (.inr ⟨hw, hv⟩)]
theorem itL_agree {k : Nat} (hk : k < 8) (V : List Nat → Rs Vl) (hV : ∀ r wt, (wt = .value ∨ wt = .item) → (wt = .item → ∀ u, r ≠ 41 :: u) → Agree (8 - k) wt (8 - k) r (V r)) : ∀ (i : Nat) (acc : List Vl) (r : List Nat), r.length < i → Agree (8 - k) (if acc = [] then .item else .more) (8 - k - 1) r (itL V i acc r)
  | 0, _, _, h => absurd h (Nat.not_lt_zero _)
  | i + 1, acc, [], _ => fun n hn => by
    obtain ⟨n, rfl⟩ : ∃ j, n = j + 1 := ⟨n - 1, by have := hn; simp at this; omega⟩
    show (if (if acc = [] then Wd.item else .more) = .fin then none else some []) = _
    rw [if_neg]
    split <;> (intro h; cases h)
  | i + 1, acc, c :: w, hi => by
    have af : aft (8 - k) = .more := if_pos (by omega)
    rw [List.length_cons] at hi
    rw [itL_c]
    by_cases e1 : c = 41
    · subst e1
      rw [if_pos rfl]
      refine ⟨Nat.lt_succ_self _, fun n hn => ?_⟩
      obtain ⟨n, rfl⟩ : ∃ j, n = j + 1 := ⟨n - 1, by rw [List.length_cons] at hn; omega⟩
      rw [List.length_cons] at hn
      refine ⟨n, by omega, ?_⟩
      rw [scN_c, if_neg, if_neg, if_neg, if_neg (by decide), if_neg (by decide), if_neg (by decide), if_neg (by decide), if_pos rfl]
      · split <;> (rintro (⟨_, h⟩ | ⟨h, _⟩) <;> cases h)
      · split <;> (rintro (⟨_, h⟩ | ⟨_, h⟩) <;> exact h (by decide))
      · split <;> (intro h; cases h)
    rw [if_neg e1]
    by_cases e0 : acc = []
    · rw [if_pos e0, if_pos e0]
      have h := hV (c :: w) .item (.inr rfl) fun _ u e => e1 (by injection e)
      cases hr : V (c :: w) with
      | bad q =>
        rw [hr] at h
        exact h
      | ok v r1 =>
        rw [hr] at h
        obtain ⟨h1, h2⟩ := h
        rw [List.length_cons] at h1
        have g := itL_agree hk V hV i [v] r1 (by omega)
        rw [if_neg (fun h => nomatch h)] at g
        show Agree _ _ _ _ (itL V i [v] r1)
        generalize itL V i [v] r1 = x at g
        cases x with
        | ok u r2 =>
          obtain ⟨g1, g2⟩ := g
          refine ⟨by rw [List.length_cons]; omega, fun n hn => ?_⟩
          obtain ⟨n1, a1, a2⟩ := h2 n hn
          obtain ⟨n2, b1, b2⟩ := g2 n1 a1
          exact ⟨n2, b1, by rw [a2, af, b2]⟩
        | bad q =>
          intro n hn
          obtain ⟨n1, a1, a2⟩ := h2 n hn
          rw [a2, af]
          exact g n1 a1
    rw [if_neg e0, if_neg e0]
    by_cases e2 : c = 32
    · subst e2
      rw [if_pos rfl]
      have st : ∀ n, (32 :: w).length < n → ∃ j, w.length < j ∧ scN n (8 - k) .more (32 :: w) = scN j (8 - k) .value w := fun n hn => by
        rw [List.length_cons] at hn
        obtain ⟨n, rfl⟩ : ∃ j, n = j + 1 := ⟨n - 1, by omega⟩
        refine ⟨n, by omega, ?_⟩
        rw [scN_c, if_neg (by decide), if_neg, if_neg, if_neg (by decide), if_neg (by decide), if_neg (by decide), if_pos rfl]
        · rintro (⟨h, _⟩ | ⟨h, _⟩) <;> cases h
        · rintro (⟨_, h⟩ | ⟨h, _⟩)
          · exact h (by decide)
          · rcases h with h | h <;> cases h
      have h := hV w .value (.inl rfl) fun h => nomatch h
      cases hr : V w with
      | bad q =>
        rw [hr] at h
        intro n hn
        obtain ⟨j, a1, a2⟩ := st n hn
        rw [a2]
        exact h j a1
      | ok v r1 =>
        rw [hr] at h
        obtain ⟨h1, h2⟩ := h
        have g := itL_agree hk V hV i (acc ++ [v]) r1 (by omega)
        rw [if_neg (by simp)] at g
        show Agree _ _ _ _ (itL V i (acc ++ [v]) r1)
        generalize itL V i (acc ++ [v]) r1 = x at g
        cases x with
        | ok u r2 =>
          obtain ⟨g1, g2⟩ := g
          refine ⟨by rw [List.length_cons]; omega, fun n hn => ?_⟩
          obtain ⟨j, a1, a2⟩ := st n hn
          obtain ⟨n1, c1, c2⟩ := h2 j a1
          obtain ⟨n2, b1, b2⟩ := g2 n1 c1
          exact ⟨n2, b1, by rw [a2, c2, af, b2]⟩
        | bad q =>
          intro n hn
          obtain ⟨j, a1, a2⟩ := st n hn
          obtain ⟨n1, c1, c2⟩ := h2 j a1
          rw [a2, c2, af]
          exact g n1 c1
    · rw [if_neg e2]
      intro n hn
      rw [List.length_cons] at hn
      obtain ⟨n, rfl⟩ : ∃ j, n = j + 1 := ⟨n - 1, by omega⟩
      rw [scN_c, if_neg (by decide), if_pos (.inl ⟨rfl, by simp only [List.mem_cons, List.not_mem_nil, or_false]; omega⟩)]
theorem vF_agree : ∀ (m : Nat), m ≤ 8 → ∀ r wt, (wt = .value ∨ wt = .item) → (wt = .item → ∀ u, r ≠ 41 :: u) → Agree (8 - m) wt (8 - m) r (vF m r)
  | 0, _, r, wt, hw, h41 => vG_agree (I := fun w => .bad (40 :: w)) (fun w wt hw n hn => by
      rw [List.length_cons] at hn
      obtain ⟨n, rfl⟩ : ∃ j, n = j + 1 := ⟨n - 1, by omega⟩
      rw [scN_c, if_neg (by rintro rfl; rcases hw with h | h <;> cases h), if_neg, if_pos (.inr ⟨rfl, rfl⟩)]
      rintro (⟨rfl, _⟩ | ⟨_, h⟩)
      · rcases hw with h | h <;> cases h
      · exact h (by decide)) hw r h41
  | m + 1, hm, r, wt, hw, h41 => vG_agree (I := itF (vF m)) (fun w wt hw => by
      have g := itL_agree (k := m) (by omega) (vF m) (vF_agree m (by omega)) (w.length + 1) [] w (Nat.lt_succ_self _)
      rw [if_pos rfl] at g
      have e8 : 8 - m = 8 - (m + 1) + 1 := by omega
      have e9 : 8 - m - 1 = 8 - (m + 1) := by omega
      rw [e9] at g
      unfold itF
      have st : ∀ n, (40 :: w).length < n → ∃ j, w.length < j ∧ scN n (8 - (m + 1)) wt (40 :: w) = scN j (8 - m) .item w := fun n hn => by
        rw [List.length_cons] at hn
        obtain ⟨n, rfl⟩ : ∃ j, n = j + 1 := ⟨n - 1, by omega⟩
        exact ⟨n, by omega, by rw [pre_ok hw (by decide) (by decide) (by omega), if_neg (by decide), if_neg (by decide), if_pos rfl, ← e8]⟩
      generalize itL (vF m) (w.length + 1) [] w = x at g
      cases x with
      | ok u r2 =>
        obtain ⟨g1, g2⟩ := g
        refine ⟨by rw [List.length_cons]; omega, fun n hn => ?_⟩
        obtain ⟨j, a1, a2⟩ := st n hn
        obtain ⟨n2, b1, b2⟩ := g2 j a1
        exact ⟨n2, b1, by rw [a2, b2]⟩
      | bad q =>
        intro n hn
        obtain ⟨j, a1, a2⟩ := st n hn
        rw [a2]
        exact g j a1) hw r h41

--@@SPLIT
/-! ### what is read is what was written -/
inductive Gd : Nat → Vl → Prop where
  | bl {m : Nat} {b : Bool} : Gd m (.bl b)
  | num {m n : Nat} : n ≤ 999999999 → Gd m (.num n)
  | str {m : Nat} {s : List Nat} : (∀ c ∈ s, c ∈ pool69) → Gd m (.str s)
  | tup {m : Nat} {vs : List Vl} : (∀ v ∈ vs, Gd m v) → Gd (m + 1) (.tup vs)
theorem Gd.mono {m : Nat} {v : Vl} (h : Gd m v) : ∀ {k}, m ≤ k → Gd k v := by
  induction h with
  | bl => exact fun _ => .bl
  | num h => exact fun _ => .num h
  | str h => exact fun _ => .str h
  | tup _ ih =>
    intro k hk
    obtain ⟨j, rfl⟩ : ∃ j, k = j + 1 := ⟨k - 1, by omega⟩
    exact .tup fun v hv => ih v hv (by omega)
theorem dgs_all (w : List Nat) : ∀ c ∈ dgs w, isDg c = true := fun c hc => by
  have h := List.mem_of_mem_take hc
  have : ∀ (l : List Nat), c ∈ l.takeWhile isDg → isDg c = true := fun l => by
    induction l with
    | nil => intro h; cases h
    | cons x l ih =>
      rw [List.takeWhile_cons]
      cases e : isDg x with
      | false => intro h; cases h
      | true =>
        intro h
        rcases List.mem_cons.mp h with rfl | h
        · exact e
        · exact ih h
  exact this w h
theorem dgs_app (w : List Nat) : w = dgs w ++ w.drop (dgs w).length := by
  have h : w = (w.takeWhile isDg).take 8 ++ ((w.takeWhile isDg).drop 8 ++ w.dropWhile isDg) := by
    rw [← List.append_assoc, List.take_append_drop, List.takeWhile_append_dropWhile]
  have e : w.drop (dgs w).length = (w.takeWhile isDg).drop 8 ++ w.dropWhile isDg := (congrArg (List.drop (dgs w).length) h).trans (List.drop_left (l₁ := (w.takeWhile isDg).take 8))
  rw [e]
  exact h
theorem dgs_len (w : List Nat) : (dgs w).length ≤ 8 := by
  unfold dgs
  rw [List.length_take]
  omega
theorem dv_snoc (s : List Nat) (c : Nat) : NumText.digitsVal (s ++ [c]) = NumText.digitsVal s * 10 + (c - 48) := by
  unfold NumText.digitsVal
  rw [List.foldl_append]
  rfl
theorem dv_one {c : Nat} : NumText.digitsVal [c] = c - 48 := by
  unfold NumText.digitsVal
  simp
/-- digits without a zero in front are a number's digits -/
theorem num_dv {s : List Nat} (c : Nat) (hc : isDg c = true) (h0 : c ≠ 48) : ∀ (k : Nat) (s : List Nat), s.length = k → (∀ x ∈ s, isDg x = true) → 0 < NumText.digitsVal (c :: s) ∧ TL.numL (NumText.digitsVal (c :: s)) = c :: s ∧ NumText.digitsVal (c :: s) < 10 ^ (k + 1)
  | 0, s, hs, _ => by
    obtain rfl := List.eq_nil_of_length_eq_zero hs
    have d := dg_of hc
    rw [dv_one, TL.numL_lt (by omega)]
    refine ⟨by omega, ?_, by omega⟩
    rw [show 48 + (c - 48) = c by omega]
  | k + 1, s, hs, ha => by
    obtain ⟨t, x, rfl⟩ : ∃ t x, s = t ++ [x] := by
      have hne : s ≠ [] := fun e => by rw [e] at hs; cases hs
      exact ⟨s.dropLast, s.getLast hne, (List.dropLast_concat_getLast hne).symm⟩
    have hl : t.length = k := by rw [List.length_append] at hs; simpa using hs
    obtain ⟨i0, i1, i2⟩ := num_dv (s := t) c hc h0 k t hl fun y hy => ha y (List.mem_append_left _ hy)
    have dx := dg_of (ha x (by simp))
    rw [← List.cons_append, dv_snoc]
    generalize NumText.digitsVal (c :: t) = v at i0 i1 i2
    refine ⟨by omega, ?_, ?_⟩
    · rw [TL.numL_step (by omega), show (v * 10 + (x - 48)) / 10 = v by omega, show (v * 10 + (x - 48)) % 10 = x - 48 by omega, i1, show 48 + (x - 48) = x by omega]
    · have : 10 ^ (k + 1 + 1) = 10 ^ (k + 1) * 10 := Nat.pow_succ ..
      omega
theorem numF_ok {c : Nat} {w r : List Nat} {v : Vl} {m : Nat} (h : numF c w = .ok v r) : c :: w = wr v ++ r ∧ Gd m v := by
  unfold numF at h
  split at h
  · rename_i hd
    split at h
    · rename_i e
      cases h
      subst e
      refine ⟨?_, .num (by decide)⟩
      simp only [wr]
      rw [TL.numL_lt (by decide)]
      rfl
    · rename_i e
      cases h
      obtain ⟨i0, i1, i2⟩ := num_dv (s := dgs w) c hd e _ (dgs w) rfl (dgs_all w)
      have hl := dgs_len w
      have : 10 ^ ((dgs w).length + 1) ≤ 10 ^ 9 := Nat.pow_le_pow_right (by decide) (by omega)
      refine ⟨?_, .num (by omega)⟩
      simp only [wr]
      rw [i1, List.cons_append, ← dgs_app]
  · cases h
theorem tw_in : ∀ (w : List Nat), ∀ c ∈ w.takeWhile inP, c ∈ pool69
  | [], c, h => nomatch h
  | x :: w, c, h => by
    rw [List.takeWhile_cons] at h
    cases e : inP x with
    | false => rw [e] at h; cases h
    | true =>
      rw [e] at h
      rcases List.mem_cons.mp h with rfl | h
      · exact of_decide_eq_true e
      · exact tw_in w c h
theorem letF_ok {w r : List Nat} {v : Vl} {m : Nat} (h : letF w = .ok v r) : 39 :: w = wr v ++ r ∧ Gd m v := by
  unfold letF at h
  have e := List.takeWhile_append_dropWhile (p := inP) (l := w)
  cases hd : w.dropWhile inP with
  | nil => rw [hd] at h; cases h
  | cons c u =>
    rw [hd] at h e
    have h : (if c = 39 then Rs.ok (Vl.str (w.takeWhile inP)) u else .bad (c :: u)) = .ok v r := h
    split at h
    · rename_i hc
      cases h
      subst hc
      refine ⟨?_, .str (tw_in w)⟩
      simp only [wr]
      rw [List.cons_append, List.append_assoc]
      show 39 :: w = 39 :: (w.takeWhile inP ++ 39 :: r)
      rw [e]
    · cases h
theorem itL_ok {m : Nat} {V : List Nat → Rs Vl} (hV : ∀ r v r', V r = .ok v r' → r = wr v ++ r' ∧ Gd m v) : ∀ (i : Nat) (acc : List Vl) (r : List Nat) (v : Vl) (r' : List Nat), itL V i acc r = .ok v r' → ∃ vs, v = .tup (acc ++ vs) ∧ r = (if acc = [] then wrs vs else wrT vs) ++ 41 :: r' ∧ ∀ u ∈ vs, Gd m u
  | 0, _, _, _, _, h => nomatch h
  | _ + 1, _, [], _, _, h => nomatch h
  | i + 1, acc, c :: w, v, r', h => by
    rw [itL_c] at h
    split at h
    · rename_i e
      cases h
      subst e
      exact ⟨[], by rw [List.append_nil], by split <;> rfl, fun _ h => nomatch h⟩
    · split at h
      · rename_i e0
        subst e0
        cases hr : V (c :: w) with
        | bad q => rw [hr] at h; cases h
        | ok u r1 =>
          rw [hr] at h
          obtain ⟨a1, a2⟩ := hV _ _ _ hr
          obtain ⟨vs, b1, b2, b3⟩ := itL_ok hV i [u] r1 v r' h
          rw [if_neg (fun h => nomatch h)] at b2
          refine ⟨u :: vs, b1, ?_, fun x hx => (List.mem_cons.mp hx).elim (fun e => e ▸ a2) (b3 x)⟩
          rw [if_pos rfl, a1, b2]
          simp only [wrs, List.append_assoc]
      · rename_i e0
        split at h
        · rename_i e2
          subst e2
          cases hr : V w with
          | bad q => rw [hr] at h; cases h
          | ok u r1 =>
            rw [hr] at h
            obtain ⟨a1, a2⟩ := hV _ _ _ hr
            obtain ⟨vs, b1, b2, b3⟩ := itL_ok hV i (acc ++ [u]) r1 v r' h
            rw [if_neg (by simp)] at b2
            refine ⟨u :: vs, by rw [b1, List.append_assoc]; rfl, ?_, fun x hx => (List.mem_cons.mp hx).elim (fun e => e ▸ a2) (b3 x)⟩
            rw [if_neg e0, a1, b2]
            simp only [wrT, List.cons_append, List.append_assoc]
        · cases h
theorem vG_ok {m : Nat} {I : List Nat → Rs Vl} (hI : ∀ w v r', I w = .ok v r' → 40 :: w = wr v ++ r' ∧ Gd m v) : ∀ (r : List Nat) (v : Vl) (r' : List Nat), vG I r = .ok v r' → r = wr v ++ r' ∧ Gd m v
  | [], _, _, h => nomatch h
  | c :: w, v, r', h => by
    rw [vG_c] at h
    split at h
    · rename_i e
      cases h
      exact ⟨by rw [e]; simp only [wr]; rfl, .bl⟩
    · split at h
      · rename_i e
        cases h
        exact ⟨by rw [e]; simp only [wr]; rfl, .bl⟩
      · split at h
        · rename_i e
          rw [e]
          exact letF_ok h
        · split at h
          · rename_i e
            rw [e]
            exact hI _ _ _ h
          · exact numF_ok h
theorem vF_ok : ∀ (m : Nat) (r : List Nat) (v : Vl) (r' : List Nat), vF m r = .ok v r' → r = wr v ++ r' ∧ Gd m v
  | 0, r, v, r', h => vG_ok (I := fun w => .bad (40 :: w)) (fun _ _ _ h => nomatch h) r v r' h
  | m + 1, r, v, r', h => vG_ok (I := itF (vF m)) (fun w v r' h => by
      obtain ⟨vs, b1, b2, b3⟩ := itL_ok (vF_ok m) _ [] w v r' h
      rw [if_pos rfl] at b2
      subst b1
      refine ⟨?_, .tup b3⟩
      rw [b2]
      simp only [wr, List.nil_append, List.cons_append, List.append_assoc]) r v r' h
/-! ### what is written is read -/
def NoD (r : List Nat) : Prop := ∀ c u, r = c :: u → isDg c = false
theorem numL_head : ∀ n : Nat, ∃ c s, TL.numL n = c :: s ∧ (∀ x ∈ c :: s, isDg x = true) ∧ (c = 48 → n = 0 ∧ s = []) := by
  intro n
  have ha : ∀ x ∈ TL.numL n, isDg x = true := fun x hx => of_dg (TL.numL_digits n x hx)
  induction n using Nat.strongRecOn with
  | ind n ih =>
    by_cases h : n < 10
    · rw [TL.numL_lt h] at ha ⊢
      exact ⟨_, [], rfl, ha, fun e => ⟨by omega, rfl⟩⟩
    · obtain ⟨c, s, e1, _, e3⟩ := ih (n / 10) (by omega) fun x hx => of_dg (TL.numL_digits _ x hx)
      rw [TL.numL_step (by omega), e1] at ha ⊢
      refine ⟨c, s ++ [48 + n % 10], rfl, ha, fun e => ?_⟩
      have := (e3 e).1
      omega
theorem tw_dg {s r : List Nat} (h : ∀ c ∈ s, isDg c = true) (hr : NoD r) : (s ++ r).takeWhile isDg = s := by
  induction s with
  | nil =>
    cases r with
    | nil => rfl
    | cons c u =>
      rw [List.nil_append, List.takeWhile_cons, hr c u rfl]
      rfl
  | cons c s ih =>
    rw [List.cons_append, List.takeWhile_cons, h c List.mem_cons_self]
    show c :: _ = _
    rw [ih fun d hd => h d (List.mem_cons_of_mem _ hd)]
theorem num_reads {n : Nat} (hn : n ≤ 999999999) {r : List Nat} (hr : NoD r) (I : List Nat → Rs Vl) : vG I (TL.numL n ++ r) = .ok (.num n) r := by
  obtain ⟨c, s, e1, e2, e3⟩ := numL_head n
  have hl : (TL.numL n).length ≤ 9 := TL.numL_len (by decide) (by omega)
  have hv := TL.numL_val n
  rw [e1] at hl hv ⊢
  have dc := dg_of (e2 c List.mem_cons_self)
  rw [List.length_cons] at hl
  rw [List.cons_append, vG_c, if_neg (by omega), if_neg (by omega), if_neg (by omega), if_neg (by omega)]
  unfold numF
  rw [if_pos (e2 c List.mem_cons_self)]
  by_cases h0 : c = 48
  · obtain ⟨rfl, rfl⟩ := e3 h0
    rw [if_pos h0]
    rfl
  · rw [if_neg h0]
    have ds : dgs (s ++ r) = s := by
      unfold dgs
      rw [tw_dg (fun x hx => e2 x (List.mem_cons_of_mem _ hx)) hr]
      exact List.take_of_length_le (by omega)
    rw [ds, hv, List.drop_left]
theorem tw_pool {s r : List Nat} (h : ∀ c ∈ s, c ∈ pool69) : (s ++ 39 :: r).takeWhile inP = s ∧ (s ++ 39 :: r).dropWhile inP = 39 :: r := by
  induction s with
  | nil => exact ⟨rfl, rfl⟩
  | cons c s ih =>
    obtain ⟨a, b⟩ := ih fun d hd => h d (List.mem_cons_of_mem _ hd)
    have e : inP c = true := decide_eq_true (h c List.mem_cons_self)
    rw [List.cons_append, List.takeWhile_cons, List.dropWhile_cons, e]
    exact ⟨congrArg (c :: ·) a, b⟩
theorem noD_32 (w : List Nat) : NoD (32 :: w) := fun c u e => by injection e with e _; rw [← e]; rfl
theorem noD_41 (w : List Nat) : NoD (41 :: w) := fun c u e => by injection e with e _; rw [← e]; rfl
theorem noD_T (vs : List Vl) (r : List Nat) : NoD (wrT vs ++ 41 :: r) := by
  cases vs with
  | nil => exact noD_41 r
  | cons v vs =>
    simp only [wrT, List.cons_append]
    exact noD_32 _
theorem wr_ne41 {m : Nat} {v : Vl} (h : Gd m v) (w : List Nat) : ∃ c u, wr v ++ w = c :: u ∧ c ≠ 41 := by
  cases h with
  | @bl m b => cases b <;> (simp only [wr]; exact ⟨_, _, rfl, by decide⟩)
  | @num m n hn =>
    obtain ⟨c, s, e1, e2, _⟩ := numL_head n
    simp only [wr]
    rw [e1]
    have := dg_of (e2 c List.mem_cons_self)
    exact ⟨c, _, rfl, by omega⟩
  | str _ => simp only [wr]; exact ⟨_, _, rfl, by decide⟩
  | tup _ => simp only [wr]; exact ⟨_, _, rfl, by decide⟩
theorem itL_T {m : Nat} {V : List Nat → Rs Vl} (hV : ∀ v, Gd m v → ∀ r, NoD r → V (wr v ++ r) = .ok v r) (r : List Nat) : ∀ (vs acc : List Vl), acc ≠ [] → (∀ v ∈ vs, Gd m v) → ∀ i, (wrT vs).length < i → itL V i acc (wrT vs ++ 41 :: r) = .ok (.tup (acc ++ vs)) r
  | [], acc, _, _, i, hi => by
    obtain ⟨i, rfl⟩ : ∃ j, i = j + 1 := ⟨i - 1, by omega⟩
    simp only [wrT, List.nil_append, List.append_nil]
    rw [itL_c, if_pos rfl]
  | v :: vs, acc, ha, hg, i, hi => by
    obtain ⟨i, rfl⟩ : ∃ j, i = j + 1 := ⟨i - 1, by omega⟩
    simp only [wrT, List.length_cons, List.length_append] at hi
    simp only [wrT, List.cons_append, List.append_assoc]
    rw [itL_c, if_neg (by decide), if_neg ha, if_pos rfl, hV v (hg v List.mem_cons_self) _ (noD_T vs r)]
    show itL V i (acc ++ [v]) (wrT vs ++ 41 :: r) = _
    rw [itL_T hV r vs (acc ++ [v]) (by simp) (fun u hu => hg u (List.mem_cons_of_mem _ hu)) i (by omega), List.append_assoc]
    rfl
theorem itL_wr {m : Nat} {V : List Nat → Rs Vl} (hV : ∀ v, Gd m v → ∀ r, NoD r → V (wr v ++ r) = .ok v r) (r : List Nat) {vs : List Vl} (hg : ∀ v ∈ vs, Gd m v) {i : Nat} (hi : (wrs vs).length < i) : itL V i [] (wrs vs ++ 41 :: r) = .ok (.tup vs) r := by
  cases vs with
  | nil =>
    obtain ⟨i, rfl⟩ : ∃ j, i = j + 1 := ⟨i - 1, by omega⟩
    simp only [wrs, List.nil_append]
    rw [itL_c, if_pos rfl]
  | cons v vs =>
    obtain ⟨i, rfl⟩ : ∃ j, i = j + 1 := ⟨i - 1, by omega⟩
    simp only [wrs, List.length_append] at hi
    simp only [wrs, List.append_assoc]
    obtain ⟨c, u, e1, e2⟩ := wr_ne41 (hg v List.mem_cons_self) (wrT vs ++ 41 :: r)
    have hr := hV v (hg v List.mem_cons_self) _ (noD_T vs r)
    have hlen : 0 < (wr v).length := by
      obtain ⟨x, y, e, _⟩ := wr_ne41 (hg v List.mem_cons_self) []
      rw [List.append_nil] at e
      rw [e]
      exact Nat.succ_pos _
    rw [e1] at hr ⊢
    rw [itL_c, if_neg e2, if_pos rfl, hr]
    exact itL_T hV r vs [v] (by simp) (fun u hu => hg u (List.mem_cons_of_mem _ hu)) i (by omega)
theorem vF_wr : ∀ (m : Nat) (v : Vl), Gd m v → ∀ r, NoD r → vF m (wr v ++ r) = .ok v r := by
  have base : ∀ (I : List Nat → Rs Vl) (m : Nat) (v : Vl), Gd m v → (∀ vs, v ≠ .tup vs) → ∀ r, NoD r → vG I (wr v ++ r) = .ok v r := by
    intro I m v h hne r hr
    cases h with
    | @bl m b =>
      cases b with
      | true => simp only [wr]; rfl
      | false => simp only [wr]; rfl
    | num hn => simp only [wr]; exact num_reads hn hr I
    | @str m s hs =>
      simp only [wr, List.cons_append, List.append_assoc, List.nil_append]
      rw [vG_c, if_neg (by decide), if_neg (by decide), if_pos rfl]
      unfold letF
      rw [(tw_pool hs).1, (tw_pool hs).2]
      rfl
    | tup _ => exact absurd rfl (hne _)
  intro m
  induction m with
  | zero =>
    intro v h r hr
    cases h with
    | bl => exact base _ 0 _ .bl (fun _ h => nomatch h) r hr
    | num hn => exact base _ 0 _ (.num hn) (fun _ h => nomatch h) r hr
    | str hs => exact base _ 0 _ (.str hs) (fun _ h => nomatch h) r hr
  | succ m ih =>
    intro v h r hr
    cases h with
    | bl => exact base _ 0 _ .bl (fun _ h => nomatch h) r hr
    | num hn => exact base _ 0 _ (.num hn) (fun _ h => nomatch h) r hr
    | str hs => exact base _ 0 _ (.str hs) (fun _ h => nomatch h) r hr
    | @tup _ vs hg =>
      simp only [wr, List.cons_append, List.append_assoc, List.nil_append]
      show vG (itF (vF m)) (40 :: _) = _
      rw [vG_c, if_neg (by decide), if_neg (by decide), if_neg (by decide), if_pos rfl]
      exact itL_wr ih r hg (by rw [List.length_append]; omega)

--@@SPLIT
/-! ### the places of a text -/
theorem drop_app {t a b : List Nat} {pl : Nat} (h : t.drop pl = a ++ b) : t.drop (pl + a.length) = b := by
  rw [← List.drop_drop, h, List.drop_left]
structure At (t : List Nat) (pl : Nat) (r : List Nat) : Prop where
  dr : t.drop pl = r
  le : pl ≤ t.length
theorem At.len {t r : List Nat} {pl : Nat} (h : At t pl r) : pl + r.length = t.length := by
  have := congrArg List.length h.dr
  rw [List.length_drop] at this
  have := h.le
  omega
theorem At.drop {t a r : List Nat} {pl : Nat} (h : At t pl (a ++ r)) : At t (pl + a.length) r := by
  refine ⟨drop_app h.dr, ?_⟩
  have := h.len
  rw [List.length_append] at this
  omega
theorem At.tl {t r : List Nat} {pl c : Nat} (h : At t pl (c :: r)) : At t (pl + 1) r := At.drop (a := [c]) h
theorem At.c128 {t r : List Nat} {pl c : Nat} (h : At t pl (c :: r)) (a : asc t) : c < 128 := a c (List.mem_of_mem_drop (by rw [h.dr]; exact List.mem_cons_self))
theorem asc_of {t : List Nat} (h : asc t) : (t.all fun x => decide (x < 128)) = true := List.all_eq_true.mpr fun c hc => decide_eq_true (h c hc)
theorem cutLR {α : Type} {xs : List α} {a b : Nat} (h : a ≤ xs.length) : cut xs (some (a : Int)) (some ((a : Int) + (b : Int))) = (xs.drop a).take b := by
  unfold cut HT.sIx
  simp only [if_neg (by omega : ¬ (a : Int) < 0), if_neg (by omega : ¬ (a : Int) + (b : Int) < 0), Int.toNat_natCast, Nat.min_eq_left h]
  rw [show ((a : Int) + (b : Int)).toNat = a + b by omega]
  by_cases hb : a + b ≤ xs.length
  · rw [Nat.min_eq_left hb, Nat.add_sub_cancel_left]
  · rw [Nat.min_eq_right (by omega), List.take_of_length_le (l := xs.drop a) (by rw [List.length_drop]; omega), List.take_of_length_le (l := xs.drop a) (i := b) (by rw [List.length_drop]; omega)]
/-! ### data of values -/
theorem own_vl (v : Vl) : own (vD v) = false := by cases v <;> (simp only [vD]; rfl)
theorem fr_vl (v : Vl) : fr (vD v) = vD v := fr_of (own_vl v)
theorem nz_vl (v : Vl) : nz (vD v) = true := by cases v <;> (simp only [vD]; rfl)
theorem dAt_vl (v : Vl) (k : D → Prop) : dAt (vD v) k = k (vD v) := rfl
/-! ### write_value, _law_written -/
def WrS (n : Nat) : FS := fun args K => ∃ (v : Vl) (m : Nat), args = [vD v] ∧ Gd m v ∧ m < n ∧ (wr v).length ≤ 16000000 ∧ ∀ posts, posts.length = 1 → K (.ok (.str (wr v))) posts
theorem sum_len {v : Vl} : ∀ {vs : List Vl}, v ∈ vs → (wr v).length ≤ (wrT vs).length
  | u :: vs, h => by
    simp only [wrT, List.length_cons, List.length_append]
    rcases List.mem_cons.mp h with rfl | h
    · omega
    · have := sum_len h
      omega
theorem wrs_len : ∀ vs : List Vl, (wrT vs).length ≤ (wrs vs).length + 1
  | [] => by simp only [wrT, wrs]; decide
  | v :: vs => by simp only [wrT, wrs, List.length_cons, List.length_append]; omega
theorem wrs_sum : ∀ vs : List Vl, (vs.map fun v => (wr v).length).sum + vs.length = (wrT vs).length
  | [] => by simp only [wrT]; rfl
  | v :: vs => by
    have := wrs_sum vs
    simp only [wrT, List.map_cons, List.sum_cons, List.length_cons, List.length_append]
    omega
def S_write_value : Nat → FS := WrS
theorem z_write_value : ∀ args K, ¬ S_write_value 0 args K := by
  rintro args K ⟨v, m, _, _, h, _⟩
  omega
def b_write_value (n : Nat) : DS :=
  dSeq (dIfS (dB (dIsi .tuple (dPk 0))) (dRet (dFr (d2 oAdd (dO (d2 oAdd (dO (dC (.str [40]))) (dO (dJoin (dC (.str [32])) (dO (dLc (dItV 0) (dgN 1) (dYes) (dFr (dCall [] 1 (S_write_value n) [] (dCons (dO (dVar 1)) (dNil)))) [1])))))) (dO (dC (.str [41])))))) (dSkip))
  (dSeq (dIfS (dB (dIsi .bool (dPk 0))) (dRet (dFr (dIf (dTru (dPk 0)) (dC (.str [84])) (dC (.str [70]))))) (dSkip))
  (dRet (dFr (dIf (dB (dIsi .str (dPk 0))) (d2 oAdd (dO (d2 oAdd (dO (dC (.str [39]))) (dPk 0))) (dO (dC (.str [39])))) (dBI oStrN (dCons (dPk 0) (dNil)))))))
theorem p_write_value : ∀ n args K', args.length = 1 → S_write_value (n + 1) args K' → b_write_value n (args ++ List.replicate 1 .und) (endK 1 K') := by
  rintro n args K' - ⟨v, m, rfl, hg, hm, hl, kk⟩
  show b_write_value n [vD v, .und] _
  unfold b_write_value
  cases hg with
  | @bl m b =>
    simp only [vD, wr] at *
    simp! only [gt0]
    cases b with
    | true =>
      simp! only [gt0]
      exact kk _ rfl
    | false =>
      simp! only [gt0]
      exact kk _ rfl
  | @num m k hk =>
    simp only [vD, wr] at *
    simp! only [gt0]
    refine ⟨⟨by omega, by omega⟩, ?_⟩
    rw [Int.toNat_natCast]
    exact kk _ rfl
  | @str m s hs =>
    simp only [vD, wr, List.length_cons, List.length_append, List.length_nil] at *
    simp! only [gt0]
    refine ⟨by show 1 + s.length ≤ _; omega, by show s.length + 1 + 1 ≤ _; omega, kk _ rfl⟩
  | @tup m vs hs =>
    simp only [vD, wr, List.length_cons, List.length_append, List.length_nil] at *
    rw [vDs_map] at *
    have hT := wrs_len vs
    have hS := wrs_sum vs
    simp! only [List.length_map]
    refine ⟨by omega, ?_⟩
    refine lc_dn (fun i acc => acc = (vs.take i).map fun v => D.str (wr v)) rfl ?_ ?_
    · rintro i d acc N hd rfl kN
      obtain ⟨v, hv, rfl⟩ := map_get hd
      have hm2 := List.mem_of_getElem? hv
      have := sum_len hm2
      simp! only [own_vl, fr_vl, nz_vl, dAt_vl]
      refine call_step rfl rfl rfl ⟨v, m, by simp only [List.map_cons, List.map_nil, sea_v, fr_vl], hs v hm2, by omega, by omega, fun posts hp => ⟨hp, ?_⟩⟩
      simp! only [own_vl, fr_vl, nz_vl, dAt_vl]
      refine kN _ ?_
      rw [take_get hv, List.map_append]
      rfl
    · rintro acc rfl
      rw [List.length_map, List.take_length]
      simp! only [gt0]
      have hstr : strsD (vs.map fun v => D.str (wr v)) = some (vs.map wr) := by
        have h := strsD_map (vs.map wr)
        rw [List.map_map] at h
        exact h
      have hlen : (TL.joinL [32] (vs.map wr)).length = (wrs vs).length := by rw [joinL_wr]
      refine joinK_l hstr ⟨?_, ?_⟩
      · rw [List.map_map, List.length_map]
        show (vs.map fun v => (wr v).length).sum + vs.length * 1 ≤ _
        omega
      · rw [joinL_wr]
        refine ⟨by show 1 + (wrs vs).length ≤ _; omega, by show (wrs vs).length + 1 + 1 ≤ _; omega, kk _ rfl⟩
def S__law_written : Nat → FS := WrS
theorem z__law_written : ∀ args K, ¬ S__law_written 0 args K := z_write_value
def b__law_written (n : Nat) : DS :=
  dSeq (dIfS (dB (dIsi .tuple (dPk 0))) (dRet (dFr (d2 oAdd (dO (d2 oAdd (dO (dC (.str [40]))) (dO (dJoin (dC (.str [32])) (dO (dLc (dItV 0) (dgN 1) (dYes) (dFr (dCall [] 1 (S__law_written n) [] (dCons (dO (dVar 1)) (dNil)))) [1])))))) (dO (dC (.str [41])))))) (dSkip))
  (dSeq (dIfS (dB (dIsi .bool (dPk 0))) (dRet (dFr (dIf (dTru (dPk 0)) (dC (.str [84])) (dC (.str [70]))))) (dSkip))
  (dSeq (dIfS (dB (dIsi .str (dPk 0))) (dRet (dFr (d2 oAdd (dO (d2 oAdd (dO (dC (.str [39]))) (dPk 0))) (dO (dC (.str [39])))))) (dSkip))
  (dRet (dFr (dBI oStrN (dCons (dPk 0) (dNil)))))))
theorem p__law_written : ∀ n args K', args.length = 1 → S__law_written (n + 1) args K' → b__law_written n (args ++ List.replicate 1 .und) (endK 1 K') := by
  rintro n args K' - ⟨v, m, rfl, hg, hm, hl, kk⟩
  show b__law_written n [vD v, .und] _
  unfold b__law_written
  cases hg with
  | @bl m b =>
    simp only [vD, wr] at *
    simp! only [gt0]
    cases b with
    | true =>
      simp! only [gt0]
      exact kk _ rfl
    | false =>
      simp! only [gt0]
      exact kk _ rfl
  | @num m k hk =>
    simp only [vD, wr] at *
    simp! only [gt0]
    refine ⟨⟨by omega, by omega⟩, ?_⟩
    rw [Int.toNat_natCast]
    exact kk _ rfl
  | @str m s hs =>
    simp only [vD, wr, List.length_cons, List.length_append, List.length_nil] at *
    simp! only [gt0]
    refine ⟨by show 1 + s.length ≤ _; omega, by show s.length + 1 + 1 ≤ _; omega, kk _ rfl⟩
  | @tup m vs hs =>
    simp only [vD, wr, List.length_cons, List.length_append, List.length_nil] at *
    rw [vDs_map] at *
    have hT := wrs_len vs
    have hS := wrs_sum vs
    simp! only [List.length_map]
    refine ⟨by omega, ?_⟩
    refine lc_dn (fun i acc => acc = (vs.take i).map fun v => D.str (wr v)) rfl ?_ ?_
    · rintro i d acc N hd rfl kN
      obtain ⟨v, hv, rfl⟩ := map_get hd
      have hm2 := List.mem_of_getElem? hv
      have := sum_len hm2
      simp! only [own_vl, fr_vl, nz_vl, dAt_vl]
      refine call_step rfl rfl rfl ⟨v, m, by simp only [List.map_cons, List.map_nil, sea_v, fr_vl], hs v hm2, by omega, by omega, fun posts hp => ⟨hp, ?_⟩⟩
      simp! only [own_vl, fr_vl, nz_vl, dAt_vl]
      refine kN _ ?_
      rw [take_get hv, List.map_append]
      rfl
    · rintro acc rfl
      rw [List.length_map, List.take_length]
      simp! only [gt0]
      have hstr : strsD (vs.map fun v => D.str (wr v)) = some (vs.map wr) := by
        have h := strsD_map (vs.map wr)
        rw [List.map_map] at h
        exact h
      have hlen : (TL.joinL [32] (vs.map wr)).length = (wrs vs).length := by rw [joinL_wr]
      refine joinK_l hstr ⟨?_, ?_⟩
      · rw [List.map_map, List.length_map]
        show (vs.map fun v => (wr v).length).sum + vs.length * 1 ≤ _
        omega
      · rw [joinL_wr]
        refine ⟨by show 1 + (wrs vs).length ≤ _; omega, by show (wrs vs).length + 1 + 1 ≤ _; omega, kk _ rfl⟩

--@@SPLIT
/-! ### the reader's methods -/
abbrev rdD (t : List Nat) (pl : Nat) : D := .ins true 6 [.str t, .int pl]
structure Rd (t : List Nat) : Prop where
  len : t.length ≤ 16000000
  at' : asc t
/-- what a method of the reader promises; e: the other arguments -/
def RK (t : List Nat) (K : R D → List D → Prop) (e : Nat) : Rs Vl → Prop
  | .ok v r => ∀ pl, At t pl r → ∀ xs : List D, xs.length = e → K (.ok (vD v)) (rdD t pl :: xs)
  | .bad r => ∀ pl, At t pl r → ∀ (pl2 : Nat) (xs : List D), xs.length = e → K (.exc 5 (.int pl)) (rdD t pl2 :: xs)
def S_ValueReader___init__ : FS := fun args K => ∃ (t : List Nat), args = [.ins true 6 [], .str t] ∧ ∀ a, K (.ok .non) [rdD t 0, a]
def b_ValueReader___init__ : DS :=
  dSeq (dFset 6 0 0 (dVar 1))
  (dFset 6 0 1 (dC (.int 0)))
theorem p_ValueReader___init__ : ∀ args K', args.length = 2 → S_ValueReader___init__ args K' → b_ValueReader___init__ (args ++ List.replicate 0 .und) (endK 2 K') := by
  rintro args K' - ⟨t, rfl, kk⟩
  show b_ValueReader___init__ [.ins true 6 [], .str t] _
  unfold b_ValueReader___init__
  simp! only [gt0]
  exact kk _
def S_ValueReader__next : FS := fun args K => ∃ (t : List Nat) (pl : Nat) (r : List Nat), args = [rdD t pl] ∧ Rd t ∧ At t pl r ∧ K (.ok (.str (r.take 1))) [rdD t pl]
def b_ValueReader__next : DS :=
  dRet (dFr (dSl (dO (dFld 6 0 (dPk 0))) (dPs (dFld 6 1 (dPk 0))) (dPs (d2 oAdd (dO (dFld 6 1 (dPk 0))) (dO (dC (.int 1)))))))
theorem p_ValueReader__next : ∀ args K', args.length = 1 → S_ValueReader__next args K' → b_ValueReader__next (args ++ List.replicate 0 .und) (endK 1 K') := by
  rintro args K' - ⟨t, pl, r, rfl, rd, at', kk⟩
  show b_ValueReader__next [rdD t pl] _
  unfold b_ValueReader__next
  have c1 : cut t (some (pl : Int)) (some ((pl : Int) + 1)) = (t.drop pl).take 1 := cutLR (b := 1) at'.le
  rw [at'.dr] at c1
  have := rd.len
  simp! only [c1]
  exact ⟨by omega, kk⟩
def S_ValueReader__step : FS := fun args K => ∃ (t : List Nat) (pl : Nat) (r : List Nat), args = [rdD t pl] ∧ Rd t ∧ At t pl r ∧ (∀ c w, r = c :: w → K (.ok (.str [c])) [rdD t (pl + 1)]) ∧ (r = [] → K (.exc 5 (.int pl)) [rdD t pl])
def b_ValueReader__step : DS :=
  dSeq (dSet 1 (dMeth 6 [0] 1 S_ValueReader__next [] (dPk 0) (dNil)))
  (dSeq (dIfS (dB (d2 (oEq id) (dPk 1) (dO (dC (.str []))))) (dRaise 5 (dFld 6 1 (dPk 0))) (dSkip))
  (dSeq (dFsetU 6 0 1 (d2 oAdd (dO (dFld 6 1 (dPk 0))) (dO (dC (.int 1)))))
  (dRet (dFr (dVar 1)))))
theorem p_ValueReader__step : ∀ args K', args.length = 1 → S_ValueReader__step args K' → b_ValueReader__step (args ++ List.replicate 1 .und) (endK 1 K') := by
  rintro args K' - ⟨t, pl, r, rfl, rd, at', k1, k2⟩
  show b_ValueReader__step [rdD t pl, .und] _
  unfold b_ValueReader__step
  simp! only [gt0]
  refine call_step rfl rfl rfl ⟨t, pl, r, rfl, rd, at', rfl, ?_⟩
  cases r with
  | nil =>
    simp! only [List.take_nil]
    exact if_rt rfl (k2 rfl)
  | cons c w =>
    simp! only [decide_eq_true (at'.c128 rd.at')]
    exact if_rf rfl ⟨by decide, k1 c w rfl⟩
def S_ValueReader__letters : FS := fun args K => ∃ (t : List Nat) (pl : Nat) (w : List Nat), args = [rdD t pl] ∧ Rd t ∧ At t pl w ∧ RK t K 0 (letF w)
theorem tw_cons {p : Nat → Bool} {c : Nat} {u : List Nat} (h : p c = true) : (c :: u).takeWhile p = c :: u.takeWhile p ∧ (c :: u).dropWhile p = u.dropWhile p := by
  rw [List.takeWhile_cons, List.dropWhile_cons, h]
  exact ⟨rfl, rfl⟩
theorem tw_stop {p : Nat → Bool} {r : List Nat} (h : ∀ c u, r = c :: u → p c = false) : r.takeWhile p = [] ∧ r.dropWhile p = r := by
  cases r with
  | nil => exact ⟨rfl, rfl⟩
  | cons c u =>
    rw [List.takeWhile_cons, List.dropWhile_cons, h c u rfl]
    exact ⟨rfl, rfl⟩
theorem letters_pool : s_LETTERS = pool69 := rfl
def plM (t : List Nat) : Vi.Env → Nat := fun ρ => match ρ with | .ins _ _ (_ :: .int a :: _) :: _ => t.length + 1 - a.toNat | _ => 0
def b_ValueReader__letters_6 : DS :=
  dRet (dFr (dVar 1))
def b_ValueReader__letters_4 : DS :=
  dSeq (dIfS (dB (d2 (oEq not) (dO (dFr (dMeth 6 [0] 1 S_ValueReader__step [] (dPk 0) (dNil)))) (dO (dC (.str [39]))))) (dRaise 5 (d2 (oInt0 gSub) (dO (dFld 6 1 (dPk 0))) (dO (dC (.int 1))))) (dSkip))
  (b_ValueReader__letters_6)
def b_ValueReader__letters_2 : DS :=
  dSeq (dWhile (dAndT (dB (d2 (oEq not) (dO (dFr (dMeth 6 [0] 1 S_ValueReader__next [] (dPk 0) (dNil)))) (dO (dC (.str []))))) (dB (d2 (oInS id) (dO (dFr (dMeth 6 [0] 1 S_ValueReader__next [] (dPk 0) (dNil)))) (dO (dC (.str s_LETTERS)))))) (dSet 1 (dFr (d2 oAdd (dPk 1) (dO (dFr (dMeth 6 [0] 1 S_ValueReader__step [] (dPk 0) (dNil))))))))
  (b_ValueReader__letters_4)
def b_ValueReader__letters : DS :=
  dSeq (dSet 1 (dFr (dC (.str []))))
  (b_ValueReader__letters_2)
theorem p_ValueReader__letters : ∀ args K', args.length = 1 → S_ValueReader__letters args K' → b_ValueReader__letters (args ++ List.replicate 1 .und) (endK 1 K') := by
  rintro args K' - ⟨t, pl, w, rfl, rd, at', kk⟩
  show b_ValueReader__letters [rdD t pl, .und] _
  unfold b_ValueReader__letters
  have tl := rd.len
  simp! only [b_ValueReader__letters_2]
  refine while_dn (fun ρ => ∃ (pl2 : Nat) (s u : List Nat), ρ = [rdD t pl2, .str s] ∧ At t pl2 u ∧ s ++ u.takeWhile inP = w.takeWhile inP ∧ u.dropWhile inP = w.dropWhile inP ∧ s.length ≤ pl2) (plM t) ⟨pl, [], w, rfl, at', rfl, rfl, Nat.zero_le _⟩ ?_
  rintro ρ ⟨pl2, s, u, rfl, at2, e1, e2, hs⟩
  have hl := at2.len
  simp! only [gt0]
  refine call_step rfl rfl rfl ⟨t, pl2, u, rfl, rd, at2, rfl, ?_⟩
  have fin : (∀ c x, u = c :: x → inP c = false) → b_ValueReader__letters_4 [rdD t pl2, .str s] (endK 1 K') := by
    intro hno
    obtain ⟨f1, f2⟩ := tw_stop (p := inP) hno
    rw [f1, List.append_nil] at e1
    rw [f2] at e2
    unfold letF at kk
    rw [← e1, ← e2] at kk
    simp! only [b_ValueReader__letters_4]
    refine call_step rfl rfl rfl ⟨t, pl2, u, rfl, rd, at2, fun c x e => ⟨rfl, ?_⟩, fun e => ⟨rfl, ?_⟩⟩
    · subst e
      have c128 := at2.c128 rd.at'
      simp! only [decide_eq_true c128]
      have kk : RK t K' 0 (if c = 39 then Rs.ok (Vl.str s) x else .bad (c :: x)) := kk
      refine ⟨by decide, if_b (fun h => ?_) fun h => ?_⟩
      · have hc : ¬ c = 39 := by simpa using h
        rw [if_neg hc] at kk
        have e : ((pl2 + 1 : Nat) : Int) - 1 = (pl2 : Int) := by omega
        have z := kk pl2 at2 (pl2 + 1) [] rfl
        rw [← e] at z
        exact z
      · have hc : c = 39 := by simpa using h
        rw [if_pos hc] at kk
        simp! only [b_ValueReader__letters_6]
        exact kk (pl2 + 1) at2.tl [] rfl
    · subst e
      simp! only [gt0]
      exact kk pl2 at2 pl2 [] rfl
  cases u with
  | nil =>
    simp! only [List.take_nil]
    exact if_rf rfl (fin fun _ _ h => nomatch h)
  | cons c x =>
    have c128 := at2.c128 rd.at'
    simp! only [decide_eq_true c128]
    refine if_rt rfl (call_step rfl rfl rfl ⟨t, pl2, c :: x, rfl, rd, at2, rfl, ?_⟩)
    simp! only [letters_pool]
    refine if_d (fun hc => ?_) fun hc => fin fun d y e => by
      injection e with e _
      rw [← e]
      exact decide_eq_false hc
    have hp : inP c = true := decide_eq_true hc
    obtain ⟨f1, f2⟩ := tw_cons (u := x) hp
    refine call_step rfl rfl rfl ⟨t, pl2, c :: x, rfl, rd, at2, fun c2 x2 e => ⟨rfl, ?_⟩, fun e => nomatch e⟩
    injection e with e3 e4
    subst e3 e4
    simp! only [gt0]
    rw [List.length_cons] at hl
    refine ⟨by omega, ⟨pl2 + 1, s ++ [c], x, rfl, at2.tl, ?_, ?_, by rw [List.length_append]; show s.length + 1 ≤ _; omega⟩, ?_⟩
    · rw [← e1, f1, List.append_assoc]
      rfl
    · rw [← e2, f2]
    · show t.length + 1 - ((pl2 + 1 : Nat) : Int).toNat < t.length + 1 - ((pl2 : Nat) : Int).toNat
      omega
def S_ValueReader__number : FS := fun args K => ∃ (t : List Nat) (pl c : Nat) (w : List Nat), args = [rdD t (pl + 1), .str [c]] ∧ Rd t ∧ At t pl (c :: w) ∧ RK t K 1 (numF c w)
def b_ValueReader__number_6 : DS :=
  dRet (dFr (dBI oIntN (dCons (dPk 2) (dNil))))
def b_ValueReader__number_4 : DS :=
  dSeq (dWhile (dAndT (dB (d2 (oEq not) (dPk 1) (dO (dC (.str [48]))))) (dAndT (dB (d2 oLt (dO (dBI oLen (dCons (dPk 2) (dNil)))) (dO (dC (.int 9))))) (dAndT (dB (d2 (oEq not) (dO (dFr (dMeth 6 [0] 1 S_ValueReader__next [] (dPk 0) (dNil)))) (dO (dC (.str []))))) (dB (d2 (oInS id) (dO (dFr (dMeth 6 [0] 1 S_ValueReader__next [] (dPk 0) (dNil)))) (dO (dC (.str [48, 49, 50, 51, 52, 53, 54, 55, 56, 57])))))))) (dSet 2 (dFr (d2 oAdd (dPk 2) (dO (dFr (dMeth 6 [0] 1 S_ValueReader__step [] (dPk 0) (dNil))))))))
  (b_ValueReader__number_6)
def b_ValueReader__number_3 : DS :=
  dSeq (dSet 2 (dFr (dVar 1)))
  (b_ValueReader__number_4)
def b_ValueReader__number : DS :=
  dSeq (dIfS (dB (d2 (oInS not) (dPk 1) (dO (dC (.str [48, 49, 50, 51, 52, 53, 54, 55, 56, 57]))))) (dRaise 5 (d2 (oInt0 gSub) (dO (dFld 6 1 (dPk 0))) (dO (dC (.int 1))))) (dSkip))
  (b_ValueReader__number_3)
theorem dg_mem {c : Nat} : c ∈ [48, 49, 50, 51, 52, 53, 54, 55, 56, 57] ↔ isDg c = true := by
  constructor
  · intro h
    refine of_dg ?_
    simp only [List.mem_cons, List.not_mem_nil, or_false] at h
    omega
  · intro h
    have := dg_of h
    simp only [List.mem_cons, List.not_mem_nil, or_false]
    omega
theorem p_ValueReader__number : ∀ args K', args.length = 2 → S_ValueReader__number args K' → b_ValueReader__number (args ++ List.replicate 1 .und) (endK 2 K') := by
  rintro args K' - ⟨t, pl, c, w, rfl, rd, at', kk⟩
  show b_ValueReader__number [rdD t (pl + 1), .str [c], .und] _
  unfold b_ValueReader__number
  have tl := rd.len
  have c128 := at'.c128 rd.at'
  unfold numF at kk
  simp! only [gt0]
  by_cases hd : isDg c = true
  · rw [if_pos hd] at kk
    refine if_rf (by rw [decide_eq_true (dg_mem.mpr hd)]; rfl) ?_
    simp! only [b_ValueReader__number_3, b_ValueReader__number_4]
    have all1 : ∀ {s : List Nat}, (∀ x ∈ s, isDg x = true) → (s.all fun a => decide (48 ≤ a) && decide (a ≤ 57)) = true := fun h => List.all_eq_true.mpr h
    refine while_dn (fun ρ => ∃ (pl2 : Nat) (s u : List Nat), ρ = [rdD t pl2, .str [c], .str (c :: s)] ∧ At t pl2 u ∧ (c = 48 → s = [] ∧ u = w) ∧ s.length ≤ 8 ∧ (∀ x ∈ s, isDg x = true) ∧ (c ≠ 48 → s ++ (u.takeWhile isDg).take (8 - s.length) = dgs w ∧ u = w.drop s.length)) (plM t) ⟨pl + 1, [], w, rfl, at'.tl, fun _ => ⟨rfl, rfl⟩, Nat.zero_le _, fun _ h => (nomatch h), fun _ => ⟨rfl, rfl⟩⟩ ?_
    rintro ρ ⟨pl2, s, u, rfl, at2, h48, hs8, hsd, hno⟩
    have hl := at2.len
    have fin : (c = 48 ∨ (u.takeWhile isDg).take (8 - s.length) = []) → b_ValueReader__number_6 [rdD t pl2, .str [c], .str (c :: s)] (endK 2 K') := by
      intro hf
      simp! only [b_ValueReader__number_6]
      refine ⟨⟨by rw [show (decide (48 ≤ c) && decide (c ≤ 57)) = true from hd, Bool.true_and]; exact all1 hsd, List.cons_ne_nil _ _, by omega⟩, ?_⟩
      · by_cases hc : c = 48
        · subst hc
          obtain ⟨rfl, rfl⟩ := h48 rfl
          rw [if_pos rfl] at kk
          exact kk pl2 at2 [_] rfl
        · rw [if_neg hc] at kk
          obtain ⟨g1, g2⟩ := hno hc
          rw [hf.resolve_left hc, List.append_nil] at g1
          rw [← g1, ← g2] at kk
          exact kk pl2 at2 [_] rfl
    simp! only [decide_eq_true c128]
    refine ⟨by decide, if_b (fun h => ?_) fun h => fin (.inl ?_)⟩
    rotate_left
    · simpa using h
    have hc : c ≠ 48 := by simpa using h
    obtain ⟨g1, g2⟩ := hno hc
    refine ⟨by omega, ?_⟩
    refine if_d (fun h9 => ?_) fun h9 => fin (.inr (by rw [show 8 - s.length = 0 by omega]; rfl))
    refine call_step rfl rfl rfl ⟨t, pl2, u, rfl, rd, at2, rfl, ?_⟩
    cases u with
    | nil =>
      simp! only [List.take_nil]
      exact if_rf rfl (fin (.inr (by rw [List.takeWhile_nil, List.take_nil])))
    | cons d x =>
      have d128 := at2.c128 rd.at'
      simp! only [decide_eq_true d128]
      refine if_rt rfl (call_step rfl rfl rfl ⟨t, pl2, d :: x, rfl, rd, at2, rfl, ?_⟩)
      simp! only [gt0]
      refine if_d (fun hm => ?_) fun hm => fin (.inr (by
        have e : isDg d = false := Bool.eq_false_iff.mpr fun e => hm (dg_mem.mpr e)
        rw [List.takeWhile_cons, e]
        exact List.take_nil))
      have hp : isDg d = true := dg_mem.mp hm
      obtain ⟨f1, f2⟩ := tw_cons (u := x) hp
      refine call_step rfl rfl rfl ⟨t, pl2, d :: x, rfl, rd, at2, fun c2 x2 e => ⟨rfl, ?_⟩, fun e => nomatch e⟩
      injection e with e3 e4
      subst e3 e4
      simp! only [gt0]
      rw [List.length_cons] at hl
      refine ⟨by omega, ⟨pl2 + 1, s ++ [d], x, rfl, at2.tl, fun e => absurd e hc, by rw [List.length_append]; show s.length + 1 ≤ 8; omega, fun y hy => (List.mem_append.mp hy).elim (hsd y) fun h => by rw [List.mem_singleton.mp h]; exact hp, fun _ => ⟨?_, ?_⟩⟩, ?_⟩
      · rw [← g1, f1, List.append_assoc, List.length_append]
        obtain ⟨j, hj⟩ : ∃ j, 8 - s.length = j + 1 := ⟨7 - s.length, by omega⟩
        rw [hj, show 8 - (s.length + [d].length) = j by show 8 - (s.length + 1) = j; omega]
        rfl
      · have z := congrArg (List.drop 1) g2
        rw [List.drop_drop] at z
        rw [List.length_append]
        exact z
      · show t.length + 1 - ((pl2 + 1 : Nat) : Int).toNat < t.length + 1 - ((pl2 : Nat) : Int).toNat
        omega
  · rw [if_neg hd] at kk
    refine if_rt (by rw [decide_eq_false (fun h => hd (dg_mem.mp h))]; rfl) ?_
    have e : ((pl + 1 : Nat) : Int) - 1 = (pl : Int) := by omega
    have z := kk pl at' (pl + 1) [.str [c]] rfl
    rw [← e] at z
    exact z

--@@SPLIT
/-! ### values and items -/
def iF : Nat → List Nat → Rs Vl
  | 0, w => .bad (40 :: w)
  | m + 1, w => itF (vF m) w
theorem vF_eq : ∀ m, vF m = vG (iF m)
  | 0 => rfl
  | _ + 1 => rfl
def S_ValueReader__value : Nat → FS := fun n args K => ∃ (t : List Nat) (pl d m : Nat) (r : List Nat), args = [rdD t pl, .int d] ∧ Rd t ∧ At t pl r ∧ d + m = 8 ∧ m < n ∧ RK t K 1 (vF m r)
theorem z_ValueReader__value : ∀ args K, ¬ S_ValueReader__value 0 args K := by
  rintro args K ⟨t, pl, d, m, r, _, _, _, _, h, _⟩
  omega
def S_ValueReader__items : Nat → FS := fun n args K => ∃ (t : List Nat) (pl d m : Nat) (w : List Nat), args = [rdD t (pl + 1), .int d] ∧ Rd t ∧ At t pl (40 :: w) ∧ d + m = 8 ∧ m < n ∧ RK t K 1 (iF m w)
theorem lstVl_all (vs : List Vl) : ((vs.map vD).all fun d => !own d) = true := own_all_map own_vl vs
def b_ValueReader__items_7 (n : Nat) : DS :=
  dApp 2 (dMeth 6 [0] 2 (S_ValueReader__value n) [] (dPk 0) (dCons (dO (d2 oAdd (dPk 1) (dO (dC (.int 1))))) (dNil)))
def b_ValueReader__items_9 (n : Nat) : DS :=
  dRet (dFr (dBI oTup (dCons (dPk 2) (dNil))))
def b_ValueReader__items_8 (n : Nat) : DS :=
  dSeq (dExp (dFr (dMeth 6 [0] 1 S_ValueReader__step [] (dPk 0) (dNil))))
  (b_ValueReader__items_9 n)
def b_ValueReader__items_4 (n : Nat) : DS :=
  dSeq (dWhile (dB (d2 (oEq not) (dO (dFr (dMeth 6 [0] 1 S_ValueReader__next [] (dPk 0) (dNil)))) (dO (dC (.str [41]))))) (dSeq (dIfS (dAndT (dTru (dPk 2)) (dB (d2 (oEq not) (dO (dFr (dMeth 6 [0] 1 S_ValueReader__step [] (dPk 0) (dNil)))) (dO (dC (.str [32])))))) (dRaise 5 (d2 (oInt0 gSub) (dO (dFld 6 1 (dPk 0))) (dO (dC (.int 1))))) (dSkip))
  (b_ValueReader__items_7 n)))
  (b_ValueReader__items_8 n)
def b_ValueReader__items_3 (n : Nat) : DS :=
  dSeq (dSet 2 (dOwnL (dNilL)))
  (b_ValueReader__items_4 n)
def b_ValueReader__items (n : Nat) : DS :=
  dSeq (dIfS (dB (d2 (oEq id) (dPk 1) (dO (dC (.int 8))))) (dRaise 5 (d2 (oInt0 gSub) (dO (dFld 6 1 (dPk 0))) (dO (dC (.int 1))))) (dSkip))
  (b_ValueReader__items_3 n)
theorem p_ValueReader__items : ∀ n args K', args.length = 2 → S_ValueReader__items (n + 1) args K' → b_ValueReader__items n (args ++ List.replicate 1 .und) (endK 2 K') := by
  rintro n args K' - ⟨t, pl, d, m, w, rfl, rd, at', hd, hm, kk⟩
  show b_ValueReader__items n [rdD t (pl + 1), .int d, .und] _
  unfold b_ValueReader__items
  have tl := rd.len
  simp! only [gt0]
  cases m with
  | zero =>
    refine if_rt (by simp; omega) ?_
    have e : ((pl + 1 : Nat) : Int) - 1 = (pl : Int) := by omega
    have z := kk pl at' (pl + 1) [.int d] rfl
    rw [← e] at z
    exact z
  | succ m =>
    refine if_rf (by simp; omega) ?_
    simp! only [b_ValueReader__items_3]
    refine ⟨by decide, ?_⟩
    simp! only [b_ValueReader__items_4]
    refine while_dn (fun ρ => ∃ (pl2 : Nat) (acc : List Vl) (u : List Nat) (i : Nat), ρ = [rdD t pl2, .int d, .lst true (acc.map vD)] ∧ At t pl2 u ∧ u.length < i ∧ acc.length ≤ pl2 ∧ RK t K' 1 (itL (vF m) i acc u)) (plM t) ⟨pl + 1, [], w, w.length + 1, rfl, at'.tl, Nat.lt_succ_self _, Nat.zero_le _, kk⟩ ?_
    rintro ρ ⟨pl2, acc, u, i, rfl, at2, hi, ha, kk⟩
    obtain ⟨i, rfl⟩ : ∃ j, i = j + 1 := ⟨i - 1, by omega⟩
    have hl := at2.len
    simp! only [gt0]
    refine call_step rfl rfl rfl ⟨t, pl2, u, rfl, rd, at2, rfl, ?_⟩
    -- a further value
    have more : ∀ (pl3 : Nat) (x : List Nat), At t pl3 x → pl2 ≤ pl3 → x.length < i + 1 → (∀ v r, vF m x = .ok v r → RK t K' 1 (itL (vF m) i (acc ++ [v]) r)) → (∀ q, vF m x = .bad q → RK t K' 1 (.bad q)) → ∀ KK : Fl → Vi.Env → Prop, (∀ C D ρ, KK (.exc C D) ρ = endK 2 K' (.exc C D) ρ) →
        b_ValueReader__items_7 n [rdD t pl3, .int d, .lst true (acc.map vD)] (turnK KK fun ρ2 => (∃ (pl2 : Nat) (acc : List Vl) (u : List Nat) (i : Nat), ρ2 = [rdD t pl2, .int d, .lst true (acc.map vD)] ∧ At t pl2 u ∧ u.length < i ∧ acc.length ≤ pl2 ∧ RK t K' 1 (itL (vF m) i acc u)) ∧ plM t ρ2 < plM t [rdD t pl2, .int d, .lst true (acc.map vD)]) := by
      intro pl3 x at3 hle hx kok kbad KK hKK
      have hl3 := at3.len
      simp! only [b_ValueReader__items_7]
      refine call_step rfl rfl rfl ⟨t, pl3, d + 1, m, x, rfl, rd, at3, by omega, by omega, ?_⟩
      have ag := vF_agree m (by omega) x .value (.inl rfl) fun h => nomatch h
      cases hr : vF m x with
      | bad q =>
        intro pl4 at4 pl5 xs hxs
        refine ⟨by rw [List.length_cons, hxs], ?_⟩
        obtain ⟨y, rfl⟩ : ∃ y, xs = [y] := by
          match xs, hxs with
          | [y], _ => exact ⟨y, rfl⟩
        simp! only [hKK]
        exact kbad q hr pl4 at4 pl5 _ rfl
      | ok v r =>
        rw [hr] at ag
        intro pl4 at4 xs hxs
        refine ⟨by rw [List.length_cons, hxs], ?_⟩
        obtain ⟨y, rfl⟩ : ∃ y, xs = [y] := by
          match xs, hxs with
          | [y], _ => exact ⟨y, rfl⟩
        have hl4 := at4.len
        have h1 := ag.1
        simp! only [own_vl, fr_vl, nz_vl, dAt_vl, List.length_map]
        refine ⟨by omega, ⟨pl4, acc ++ [v], r, i, ?_, at4, by omega, by rw [List.length_append]; show acc.length + 1 ≤ _; omega, kok v r hr⟩, ?_⟩
        · rw [List.map_append]
          rfl
        · show t.length + 1 - ((pl4 : Nat) : Int).toNat < t.length + 1 - ((pl2 : Nat) : Int).toNat
          omega
    cases u with
    | nil =>
      simp! only [List.take_nil]
      refine ⟨by decide, if_rt rfl ?_⟩
      cases acc with
      | nil =>
        simp! only [gt0]
        exact more pl2 [] at2 (Nat.le_refl _) (Nat.succ_pos _) (fun v r h => by cases m <;> cases h) (fun q h => by
          have e : q = [] := by cases m <;> (cases h; rfl)
          subst e
          exact kk) _ fun _ _ _ => rfl
      | cons v0 acc =>
        simp! only [gt0]
        refine call_step rfl rfl rfl ⟨t, pl2, [], rfl, rd, at2, fun _ _ h => (nomatch h), fun _ => ⟨rfl, ?_⟩⟩
        simp! only [gt0]
        exact kk pl2 at2 pl2 [_] rfl
    | cons c x =>
      have c128 := at2.c128 rd.at'
      rw [itL_c] at kk
      rw [List.length_cons] at hi hl
      simp! only [decide_eq_true c128]
      refine ⟨by decide, if_b (fun h => ?_) fun h => ?_⟩
      · have hc : ¬ c = 41 := by simpa using h
        rw [if_neg hc] at kk
        cases acc with
        | nil =>
          rw [if_pos rfl] at kk
          simp! only [gt0]
          refine more pl2 (c :: x) at2 (Nat.le_refl _) (by rw [List.length_cons]; omega) (fun v r h => ?_) (fun q h => ?_) _ fun _ _ _ => rfl
          · rw [h] at kk
            exact kk
          · rw [h] at kk
            exact kk
        | cons v0 acc =>
          rw [if_neg (List.cons_ne_nil _ _)] at kk
          simp! only [gt0]
          refine call_step rfl rfl rfl ⟨t, pl2, c :: x, rfl, rd, at2, fun c2 x2 e => ⟨rfl, ?_⟩, fun h => (nomatch h)⟩
          injection e with e3 e4
          subst e3 e4
          simp! only [decide_eq_true c128]
          refine ⟨by decide, if_b (fun h => ?_) fun h => ?_⟩
          · have h32 : ¬ c = 32 := by simpa using h
            rw [if_neg h32] at kk
            have e : ((pl2 + 1 : Nat) : Int) - 1 = (pl2 : Int) := by omega
            have z := kk pl2 at2 (pl2 + 1) [.int d] rfl
            rw [← e] at z
            exact z
          · have h32 : c = 32 := by simpa using h
            rw [if_pos h32] at kk
            refine more (pl2 + 1) x at2.tl (Nat.le_succ _) (by omega) (fun v r h => ?_) (fun q h => ?_) _ fun _ _ _ => rfl
            · rw [h] at kk
              exact kk
            · rw [h] at kk
              exact kk
      · have hc : c = 41 := by simpa using h
        rw [if_pos hc] at kk
        simp! only [b_ValueReader__items_8]
        refine call_step rfl rfl rfl ⟨t, pl2, c :: x, rfl, rd, at2, fun c2 x2 e => ⟨rfl, ?_⟩, fun h => (nomatch h)⟩
        injection e with e3 e4
        subst e3 e4
        simp! only [b_ValueReader__items_9, lstVl_all, List.length_map]
        have z := kk (pl2 + 1) at2.tl [.int d] rfl
        simp only [vD] at z
        rw [vDs_map] at z
        exact z
def b_ValueReader__value (n : Nat) : DS :=
  dMatch (dFr (dMeth 6 [0] 1 S_ValueReader__step [] (dPk 0) (dNil))) (dcVal [84] (dRet (dFr (dC (.bl true)))) (dcVal [70] (dRet (dFr (dC (.bl false)))) (dcVal [39] (dRet (dMeth 6 [0] 1 S_ValueReader__letters [] (dPk 0) (dNil))) (dcVal [40] (dRet (dMeth 6 [0] 2 (S_ValueReader__items (n + 1)) [] (dPk 0) (dCons (dO (dVar 1)) (dNil)))) (dcCap 2 (dRet (dMeth 6 [0] 2 S_ValueReader__number [] (dPk 0) (dCons (dO (dVar 2)) (dNil)))))))))
theorem p_ValueReader__value : ∀ n args K', args.length = 2 → S_ValueReader__value (n + 1) args K' → b_ValueReader__value n (args ++ List.replicate 1 .und) (endK 2 K') := by
  rintro n args K' - ⟨t, pl, d, m, r, rfl, rd, at', hd, hm, kk⟩
  show b_ValueReader__value n [rdD t pl, .int d, .und] _
  unfold b_ValueReader__value
  rw [vF_eq] at kk
  simp! only [gt0]
  refine call_step rfl rfl rfl ⟨t, pl, r, rfl, rd, at', fun c w e => ⟨rfl, ?_⟩, fun e => ⟨rfl, ?_⟩⟩
  rotate_left
  · subst e
    simp! only [gt0]
    exact kk pl at' pl [_] rfl
  subst e
  rw [vG_c] at kk
  have at1 := at'.tl
  simp! only [gt0]
  have one : ∀ a b : Nat, (decide ([a] = [b])) = decide (a = b) := fun a b => by simp
  rw [one, one, one, one]
  have RKpass : ∀ (x : Rs Vl) (e : Nat), RK t K' 1 x → RK t (fun r posts => posts.length = e + 1 ∧ (∀ p xs, posts = rdD t p :: xs → onFl (endK 2 K') (fun d ρ' => K' (.ok d) (List.take 2 ρ')) r (rdD t p :: [.int d, .und]))) e x := fun x e h => by
    cases x with
    | ok v r =>
      intro p hp xs hxs
      refine ⟨by rw [List.length_cons, hxs], fun p2 ys e => ?_⟩
      injection e with e1 _
      rw [← e1]
      exact h p hp [.int d] rfl
    | bad q =>
      intro p hp p2 xs hxs
      refine ⟨by rw [List.length_cons, hxs], fun p3 ys e => ?_⟩
      injection e with e1 _
      rw [← e1]
      exact h p hp p2 [.int d] rfl
  refine if_d (fun h => ?_) fun h1 => ?_
  · rw [if_pos h] at kk
    exact kk _ at1 [_] rfl
  rw [if_neg h1] at kk
  refine if_d (fun h => ?_) fun h2 => ?_
  · rw [if_pos h] at kk
    exact kk _ at1 [_] rfl
  rw [if_neg h2] at kk
  refine if_d (fun h => ?_) fun h3 => ?_
  · rw [if_pos h] at kk
    refine call_step rfl rfl rfl ⟨t, pl + 1, w, rfl, rd, at1, ?_⟩
    cases hr : letF w with
    | ok v r =>
      rw [hr] at kk
      intro p hp xs hxs
      obtain rfl := List.eq_nil_of_length_eq_zero hxs
      refine ⟨rfl, ?_⟩
      simp! only [own_vl, fr_vl, nz_vl, dAt_vl]
      exact kk p hp [_] rfl
    | bad q =>
      rw [hr] at kk
      intro p hp p2 xs hxs
      obtain rfl := List.eq_nil_of_length_eq_zero hxs
      refine ⟨rfl, ?_⟩
      simp! only [gt0]
      exact kk p hp p2 [_] rfl
  rw [if_neg h3] at kk
  refine if_d (fun h => ?_) fun h4 => ?_
  · rw [if_pos h] at kk
    subst h
    refine call_step rfl rfl rfl ⟨t, pl, d, m, w, rfl, rd, at', hd, hm, ?_⟩
    cases hr : iF m w with
    | ok v r =>
      rw [hr] at kk
      intro p hp xs hxs
      obtain ⟨y, rfl⟩ : ∃ y, xs = [y] := by
        match xs, hxs with
        | [y], _ => exact ⟨y, rfl⟩
      refine ⟨rfl, ?_⟩
      simp! only [own_vl, fr_vl, nz_vl, dAt_vl]
      exact kk p hp [_] rfl
    | bad q =>
      rw [hr] at kk
      intro p hp p2 xs hxs
      obtain ⟨y, rfl⟩ : ∃ y, xs = [y] := by
        match xs, hxs with
        | [y], _ => exact ⟨y, rfl⟩
      refine ⟨rfl, ?_⟩
      simp! only [gt0]
      exact kk p hp p2 [_] rfl
  · rw [if_neg h4] at kk
    refine call_step rfl rfl rfl ⟨t, pl, c, w, rfl, rd, at', ?_⟩
    cases hr : numF c w with
    | ok v r =>
      rw [hr] at kk
      intro p hp xs hxs
      obtain ⟨y, rfl⟩ : ∃ y, xs = [y] := by
        match xs, hxs with
        | [y], _ => exact ⟨y, rfl⟩
      refine ⟨rfl, ?_⟩
      simp! only [own_vl, fr_vl, nz_vl, dAt_vl]
      exact kk p hp [_] rfl
    | bad q =>
      rw [hr] at kk
      intro p hp p2 xs hxs
      obtain ⟨y, rfl⟩ : ∃ y, xs = [y] := by
        match xs, hxs with
        | [y], _ => exact ⟨y, rfl⟩
      refine ⟨rfl, ?_⟩
      simp! only [gt0]
      exact kk p hp p2 [_] rfl
/-! ### the whole -/
def readR (t : List Nat) : R D := match vF 8 t with
  | .ok v [] => .ok (vD v)
  | .ok _ (c :: r) => .exc 5 (.int (t.length - (c :: r).length : Nat))
  | .bad q => .exc 5 (.int (t.length - q.length : Nat))
def S_ValueReader_whole : FS := fun args K => ∃ (t : List Nat), args = [rdD t 0] ∧ Rd t ∧ ∀ posts, posts.length = 1 → K (readR t) posts
def b_ValueReader_whole : DS :=
  dSeq (dSet 1 (dMeth 6 [0] 2 (S_ValueReader__value 10) [] (dPk 0) (dCons (dO (dC (.int 0))) (dNil))))
  (dSeq (dIfS (dB (d2 oLt (dO (dFld 6 1 (dPk 0))) (dO (dBI oLen (dCons (dO (dFld 6 0 (dPk 0))) (dNil)))))) (dRaise 5 (dFld 6 1 (dPk 0))) (dSkip))
  (dRet (dFr (dVar 1))))
theorem p_ValueReader_whole : ∀ args K', args.length = 1 → S_ValueReader_whole args K' → b_ValueReader_whole (args ++ List.replicate 1 .und) (endK 1 K') := by
  rintro args K' - ⟨t, rfl, rd, kk⟩
  show b_ValueReader_whole [rdD t 0, .und] _
  unfold b_ValueReader_whole
  have tl := rd.len
  simp! only [gt0]
  refine call_step rfl rfl rfl ⟨t, 0, 0, 8, t, rfl, rd, ⟨rfl, Nat.zero_le _⟩, rfl, by decide, ?_⟩
  unfold readR at kk
  cases hr : vF 8 t with
  | bad q =>
    rw [hr] at kk
    intro p hp p2 xs hxs
    obtain ⟨y, rfl⟩ : ∃ y, xs = [y] := by
      match xs, hxs with
      | [y], _ => exact ⟨y, rfl⟩
    refine ⟨rfl, ?_⟩
    have hl := hp.len
    have z : K' (.exc 5 (.int (t.length - q.length : Nat))) [rdD t p2] := kk [rdD t p2] rfl
    have e : t.length - q.length = p := by omega
    rw [e] at z
    simp! only [gt0]
    exact z
  | ok v r =>
    rw [hr] at kk
    intro p hp xs hxs
    obtain ⟨y, rfl⟩ : ∃ y, xs = [y] := by
      match xs, hxs with
      | [y], _ => exact ⟨y, rfl⟩
    refine ⟨rfl, ?_⟩
    have hl := hp.len
    simp! only [own_vl, fr_vl, nz_vl, dAt_vl]
    refine ⟨by omega, ?_⟩
    cases r with
    | nil =>
      refine if_rf (by simp at hl ⊢; omega) (kk _ rfl)
    | cons c r =>
      rw [List.length_cons] at hl
      have z : K' (.exc 5 (.int (t.length - (c :: r).length : Nat))) [rdD t p] := kk [rdD t p] rfl
      have e : t.length - (c :: r).length = p := by rw [List.length_cons]; omega
      rw [e] at z
      exact if_rt (by simp; omega) z
def S_read_value : FS := fun args K => ∃ (t : List Nat), args = [.str t] ∧ Rd t ∧ ∀ posts, posts.length = 1 → K (readR t) posts
def b_read_value : DS :=
  dRet (dMethNew 6 S_ValueReader_whole (dMake 6 2 S_ValueReader___init__ [] (dConsL (dVar 0) (dNilL))))
theorem p_read_value : ∀ args K', args.length = 1 → S_read_value args K' → b_read_value (args ++ List.replicate 0 .und) (endK 1 K') := by
  rintro args K' - ⟨t, rfl, rd, kk⟩
  show b_read_value [.str t] _
  unfold b_read_value
  simp! only [gt0]
  refine make_step rfl ⟨t, rfl, fun a => ?_⟩
  refine ⟨_, _, rfl, rfl, rfl, ⟨t, rfl, rd, fun posts hp => ⟨hp, ?_⟩⟩⟩
  have k2 := kk [.str t] rfl
  revert k2
  generalize readR t = x
  intro k2
  cases x with
  | ok d => exact k2
  | exc C w => exact k2

--@@SPLIT
/-! ### _law_due -/
def wdS : Wd → List Nat
  | .value => [118, 97, 108, 117, 101]
  | .item => [105, 116, 101, 109]
  | .more => [109, 111, 114, 101]
  | .fin => [101, 110, 100]
def badD (k : Int) : D := .tup [.str [98, 97, 100], .int k]
def readD : D := .tup [.str [114, 101, 97, 100], .int 0]
def dueD (t : List Nat) : Option (List Nat) → D
  | none => readD
  | some r => badD ((t.length - r.length : Nat) : Int)
def S__law_due : FS := fun args K => ∃ (t : List Nat), args = [.str t] ∧ Rd t ∧ ∀ R, (∀ n, t.length < n → scN n 0 .value t = R) → K (.ok (dueD t R)) [.str t]
theorem wdS_eq (a b : Wd) : (wdS a == wdS b) = decide (a = b) := by cases a <;> cases b <;> rfl
theorem wdS_fin (a : Wd) : (wdS a == [101, 110, 100]) = decide (a = .fin) := wdS_eq a .fin
theorem wdS_more (a : Wd) : (wdS a == [109, 111, 114, 101]) = decide (a = .more) := wdS_eq a .more
theorem wdS_asc (a : Wd) : ((wdS a).all fun x => decide (x < 128)) = true := by cases a <;> rfl
theorem wdS_vi (a : Wd) : decide (wdS a ∈ [[118, 97, 108, 117, 101], [105, 116, 101, 109]]) = decide (a = .value ∨ a = .item) := by cases a <;> rfl
theorem wdS_im (a : Wd) : decide (wdS a ∈ [[105, 116, 101, 109], [109, 111, 114, 101]]) = decide (a = .item ∨ a = .more) := by cases a <;> rfl
theorem At.ix {t w : List Nat} {pl c : Nat} (h : At t pl (c :: w)) : atI t (pl : Int) = some c := by
  have hl := h.len
  rw [List.length_cons] at hl
  obtain ⟨x, e1, e2⟩ := atI_ok (xs := t) (i := (pl : Int)) (Int.natCast_nonneg _) (by omega)
  rw [Int.toNat_natCast] at e2
  have e : t[pl]? = some c := by
    have := congrArg List.head? h.dr
    rw [List.head?_drop] at this
    exact this
  rw [e2] at e
  rw [e1, e]
def b__law_due_19 : DS :=
  dSet 6 (dFr (d2 oAdd (dPk 6) (dO (dC (.int 1)))))
def b__law_due_17 : DS :=
  dSeq (dIfS (dB (d2 (oEq not) (dO (dSl (dPk 0) (dPs (dVar 6)) (dPs (d2 oAdd (dPk 6) (dO (dC (.int 1))))))) (dO (dC (.str [39]))))) (dRet (dFr (dTup (dConsL (dC (.str [98, 97, 100])) (dConsL (dVar 6) (dNilL)))))) (dSkip))
  (b__law_due_19)
def b__law_due_25 : DS :=
  dSet 3 (dFr (dC (.str [105, 116, 101, 109])))
def b__law_due_30 : DS :=
  dSet 3 (dFr (dIf (dB (d2 oGt (dPk 2) (dO (dC (.int 0))))) (dC (.str [109, 111, 114, 101])) (dC (.str [101, 110, 100]))))
def b__law_due_31 : DS :=
  dSet 4 (dFr (dVar 6))
def b__law_due_23 : DS :=
  dSeq (dIfS (dB (d2 (oEq id) (dPk 5) (dO (dC (.str [40]))))) (dSeq (dSet 2 (dFr (d2 oAdd (dPk 2) (dO (dC (.int 1))))))
  (b__law_due_25)) (dIfS (dB (d2 (oEq id) (dPk 5) (dO (dC (.str [32]))))) (dSet 3 (dFr (dC (.str [118, 97, 108, 117, 101])))) (dSeq (dSet 2 (dFr (d2 (oInt0 gSub) (dPk 2) (dO (dBI oInt1 (dCons (dO (d2 (oEq id) (dPk 5) (dO (dC (.str [41]))))) (dNil)))))))
  (b__law_due_30))))
  (b__law_due_31)
def b__law_due_14 : DS :=
  dSeq (dIfS (dB (d2 (oEq id) (dPk 5) (dO (dC (.str [39]))))) (dSeq (dWhile (dAndT (dB (d2 oLt (dPk 6) (dO (dBI oLen (dCons (dPk 0) (dNil)))))) (dB (d2 (oInS id) (dO (d2 oIx (dPk 0) (dPk 6))) (dPk 1)))) (dSet 6 (dFr (d2 oAdd (dPk 6) (dO (dC (.int 1)))))))
  (b__law_due_17)) (dIfS (dB (d2 (oInS id) (dPk 5) (dO (dC (.str [49, 50, 51, 52, 53, 54, 55, 56, 57]))))) (dWhile (dAndT (dB (d2 oLt (dPk 6) (dO (dBI oLen (dCons (dPk 0) (dNil)))))) (dAndT (dB (d2 (oInS id) (dO (d2 oIx (dPk 0) (dPk 6))) (dO (dC (.str [48, 49, 50, 51, 52, 53, 54, 55, 56, 57]))))) (dB (d2 oLt (dO (d2 (oInt0 gSub) (dPk 6) (dPk 4))) (dO (dC (.int 9))))))) (dSet 6 (dFr (d2 oAdd (dPk 6) (dO (dC (.int 1))))))) (dSkip)))
  (b__law_due_23)
def b__law_due_13 : DS :=
  dSeq (dSet 6 (dFr (d2 oAdd (dPk 4) (dO (dC (.int 1))))))
  (b__law_due_14)
def b__law_due_11 : DS :=
  dSeq (dIfS (dOrT (dAndT (dB (d2 (oEq id) (dPk 5) (dO (dC (.str [41]))))) (dB (d2 (oInX not) (dPk 3) (dO (dTup (dConsL (dC (.str [105, 116, 101, 109])) (dConsL (dC (.str [109, 111, 114, 101])) (dNilL)))))))) (dAndT (dB (d2 (oEq id) (dPk 5) (dO (dC (.str [40]))))) (dB (d2 (oEq id) (dPk 2) (dO (dC (.int 8))))))) (dRet (dFr (dTup (dConsL (dC (.str [98, 97, 100])) (dConsL (dVar 4) (dNilL)))))) (dSkip))
  (b__law_due_13)
def b__law_due_9 : DS :=
  dSeq (dIfS (dOrT (dAndT (dB (d2 (oEq id) (dPk 3) (dO (dC (.str [109, 111, 114, 101]))))) (dB (d2 (oInS not) (dPk 5) (dO (dC (.str [32, 41])))))) (dAndT (dB (d2 (oInX id) (dPk 3) (dO (dTup (dConsL (dC (.str [118, 97, 108, 117, 101])) (dConsL (dC (.str [105, 116, 101, 109])) (dNilL))))))) (dB (d2 (oInS not) (dPk 5) (dO (dC (.str [84, 70, 39, 40, 48, 49, 50, 51, 52, 53, 54, 55, 56, 57, 41]))))))) (dRet (dFr (dTup (dConsL (dC (.str [98, 97, 100])) (dConsL (dVar 4) (dNilL)))))) (dSkip))
  (b__law_due_11)
def b__law_due_7 : DS :=
  dSeq (dIfS (dB (d2 (oEq id) (dPk 3) (dO (dC (.str [101, 110, 100]))))) (dRet (dFr (dTup (dConsL (dC (.str [98, 97, 100])) (dConsL (dVar 4) (dNilL)))))) (dSkip))
  (b__law_due_9)
def b__law_due_32 : DS :=
  dRet (dFr (dIf (dB (d2 (oEq id) (dPk 3) (dO (dC (.str [101, 110, 100]))))) (dTup (dConsL (dC (.str [114, 101, 97, 100])) (dConsL (dC (.int 0)) (dNilL)))) (dTup (dConsL (dC (.str [98, 97, 100])) (dConsL (dBI oLen (dCons (dPk 0) (dNil))) (dNilL))))))
def b__law_due_5 : DS :=
  dSeq (dWhile (dB (d2 oLt (dPk 4) (dO (dBI oLen (dCons (dPk 0) (dNil)))))) (dSeq (dSet 5 (dFr (d2 oIx (dPk 0) (dPk 4))))
  (b__law_due_7)))
  (b__law_due_32)
def b__law_due_4 : DS :=
  dSeq (dSet 4 (dFr (dC (.int 0))))
  (b__law_due_5)
def b__law_due_3 : DS :=
  dSeq (dSet 3 (dFr (dC (.str [118, 97, 108, 117, 101]))))
  (b__law_due_4)
def b__law_due_2 : DS :=
  dSeq (dSet 2 (dFr (dC (.int 0))))
  (b__law_due_3)
def b__law_due : DS :=
  dSeq (dSet 1 (dFr (dC (.str [97, 98, 99, 100, 101, 102, 103, 104, 105, 106, 107, 108, 109, 110, 111, 112, 113, 114, 115, 116, 117, 118, 119, 120, 121, 122, 65, 66, 67, 68, 69, 70, 71, 72, 73, 74, 75, 76, 77, 78, 79, 80, 81, 82, 83, 84, 85, 86, 87, 88, 89, 90, 48, 49, 50, 51, 52, 53, 54, 55, 56, 57, 60, 62, 61, 58, 95, 64, 35]))))
  (b__law_due_2)
def nd (c d : Nat) : Nat := if c = 40 then d + 1 else if c = 32 then d else if c = 41 then d - 1 else d
def nw (c d : Nat) : Wd := if c = 40 then .item else if c = 32 then .value else aft (nd c d)
def endF (c : Nat) (w : List Nat) : Rs Nat := if c = 39 then (match w.dropWhile inP with
    | [] => .bad []
    | e :: u => if e = 39 then .ok 0 u else .bad (e :: u))
  else if 49 ≤ c ∧ c ≤ 57 then .ok 0 (w.drop (dgs w).length) else .ok 0 w
theorem scN_end (n d : Nat) (wt : Wd) (c : Nat) (w : List Nat) : scN (n + 1) d wt (c :: w) = if wt = .fin then some (c :: w)
    else if (wt = .more ∧ c ∉ [32, 41]) ∨ ((wt = .value ∨ wt = .item) ∧ c ∉ vch) then some (c :: w)
    else if (c = 41 ∧ wt = .value) ∨ (c = 40 ∧ d = 8) then some (c :: w)
    else match endF c w with
      | .ok _ u => scN n (nd c d) (nw c d) u
      | .bad q => some q := by
  rw [scN_c]
  congr 3
  unfold endF nw nd
  by_cases h39 : c = 39
  · subst h39
    rw [if_pos rfl, if_pos rfl]
    cases w.dropWhile inP with
    | nil => rfl
    | cons e u =>
      show (if e = 39 then _ else _) = (match (if e = 39 then Rs.ok 0 u else .bad (e :: u)) with | .ok _ u => _ | .bad q => _)
      by_cases h : e = 39
      · rw [if_pos h, if_pos h]
        rfl
      · rw [if_neg h, if_neg h]
  rw [if_neg h39, if_neg h39]
  by_cases hd : 49 ≤ c ∧ c ≤ 57
  · rw [if_pos hd, if_pos hd]
    show _ = scN n _ _ _
    rw [if_neg (by omega), if_neg (by omega), if_neg (by omega), if_neg (by omega), if_neg (by omega)]
  rw [if_neg hd, if_neg hd]
  show _ = scN n _ _ _
  by_cases h40 : c = 40
  · rw [if_pos h40, if_pos h40, if_pos h40]
  rw [if_neg h40, if_neg h40, if_neg h40]
  by_cases h32 : c = 32
  · rw [if_pos h32, if_pos h32, if_pos h32]
  rw [if_neg h32, if_neg h32, if_neg h32]
  by_cases h41 : c = 41
  · rw [if_pos h41, if_pos h41]
  · rw [if_neg h41, if_neg h41]
theorem aft_pos {k : Nat} (h : aft k = .item ∨ aft k = .more) : 0 < k := by
  by_cases h0 : 0 < k
  · exact h0
  · unfold aft at h
    rw [if_neg h0] at h
    rcases h with h | h <;> cases h
theorem due_23 {t : List Nat} {pl c e d : Nat} {wt : Wd} {KK : Fl → Vi.Env → Prop} (c128 : c < 128) (h41 : c = 41 → 0 < d) (h : KK .nx [.str t, .str pool69, .int (nd c d), .str (wdS (nw c d)), .int e, .str [c], .int e]) : b__law_due_23 [.str t, .str pool69, .int d, .str (wdS wt), .int pl, .str [c], .int e] KK := by
  have one : ∀ b : Nat, ([c] == [b]) = decide (c = b) := fun b => by rw [Bool.eq_iff_iff]; simp
  unfold nw nd at h
  simp! only [b__law_due_23, decide_eq_true c128, one]
  refine ⟨by decide, if_d (fun h40 => ?_) fun h40 => ⟨by decide, if_d (fun h32 => ?_) fun h32 => ?_⟩⟩
  · rw [if_pos h40, if_pos h40] at h
    simp! only [b__law_due_25, b__law_due_31]
    exact h
  · rw [if_neg h40, if_neg h40, if_pos h32, if_pos h32] at h
    simp! only [b__law_due_31]
    exact h
  · rw [if_neg h40, if_neg h40, if_neg h32, if_neg h32] at h
    refine ⟨by decide, ?_⟩
    have fin : ∀ k : Nat, KK .nx [.str t, .str pool69, .int k, .str (wdS (aft k)), .int e, .str [c], .int e] → b__law_due_30 [.str t, .str pool69, .int k, .str (wdS wt), .int pl, .str [c], .int e] fun f ρ' => match f with
        | Fl.nx => b__law_due_31 ρ' KK
        | g => KK g ρ' := fun k hk => by
      unfold aft at hk
      simp! only [b__law_due_30]
      refine if_d (fun h => ?_) fun h => ?_
      · rw [if_pos (by omega)] at hk
        simp! only [b__law_due_31]
        exact hk
      · rw [if_neg (by omega)] at hk
        simp! only [b__law_due_31]
        exact hk
    by_cases e41 : c = 41
    · rw [if_pos e41] at h
      have := h41 e41
      have ez : (d : Int) - 1 = ((d - 1 : Nat) : Int) := by omega
      simp! only [decide_eq_true e41, Vi.gSub, ez]
      exact fin _ h
    · rw [if_neg e41] at h
      simp! only [decide_eq_false e41, Vi.gSub, Int.sub_zero]
      exact fin _ h
/-- the sign is taken -/
theorem due_14 {t w : List Nat} {pl c d : Nat} {wt : Wd} {KK : Fl → Vi.Env → Prop} (rd : Rd t) (at' : At t pl (c :: w)) (h41 : c = 41 → 0 < d) (h : match endF c w with
      | .ok _ u => ∀ e, At t e u → pl < e → KK .nx [.str t, .str pool69, .int (nd c d), .str (wdS (nw c d)), .int e, .str [c], .int e]
      | .bad q => ∀ e, At t e q → ∀ x3, KK (.rt (badD (e : Nat))) (.str t :: x3)) : b__law_due_14 [.str t, .str pool69, .int d, .str (wdS wt), .int pl, .str [c], .int ((pl : Int) + 1)] KK := by
  have c128 := at'.c128 rd.at'
  have at1 := at'.tl
  have tl := rd.len
  have one : ∀ b : Nat, ([c] == [b]) = decide (c = b) := fun b => by rw [Bool.eq_iff_iff]; simp
  have dm : c ∈ [49, 50, 51, 52, 53, 54, 55, 56, 57] ↔ 49 ≤ c ∧ c ≤ 57 := by
    simp only [List.mem_cons, List.not_mem_nil, or_false]
    omega
  unfold endF at h
  have hpl : (pl : Int) + 1 = ((pl + 1 : Nat) : Int) := by omega
  simp! only [b__law_due_14, decide_eq_true c128, one]
  rw [hpl]
  refine ⟨by decide, if_d (fun h39 => ?_) fun h39 => ?_⟩
  · rw [if_pos h39] at h
    refine while_dn (fun ρ => ∃ (e : Nat) (u : List Nat), ρ = [.str t, .str pool69, .int d, .str (wdS wt), .int pl, .str [c], .int e] ∧ At t e u ∧ pl < e ∧ u.dropWhile inP = w.dropWhile inP) (fun ρ => match ρ with | [_, _, _, _, _, _, .int a] => t.length + 1 - a.toNat | _ => 0) ⟨pl + 1, w, rfl, at1, Nat.lt_succ_self _, rfl⟩ ?_
    rintro ρ ⟨e, u, rfl, ate, hlt, hdw⟩
    have hl := ate.len
    have fin : (∀ c x, u = c :: x → inP c = false) → b__law_due_17 [.str t, .str pool69, .int d, .str (wdS wt), .int pl, .str [c], .int e] (fun f ρ' => match f with
        | Fl.nx => b__law_due_23 ρ' KK
        | g => KK g ρ') := by
      intro hno
      rw [(tw_stop (p := inP) hno).2] at hdw
      rw [← hdw] at h
      have c1 : cut t (some (e : Int)) (some ((e : Int) + 1)) = u.take 1 := by
        have := cutLR (xs := t) (a := e) (b := 1) ate.le
        rw [ate.dr] at this
        exact this
      simp! only [b__law_due_17, c1]
      cases u with
      | nil =>
        simp! only [List.take_nil]
        exact ⟨tl, by decide, if_rt rfl ⟨by decide, h e ate _⟩⟩
      | cons x y =>
        have x128 := ate.c128 rd.at'
        have h : match (if x = 39 then Rs.ok 0 y else Rs.bad (x :: y)) with
          | .ok _ u => ∀ e, At t e u → pl < e → KK .nx [.str t, .str pool69, .int (nd c d), .str (wdS (nw c d)), .int e, .str [c], .int e]
          | .bad q => ∀ e, At t e q → ∀ x3, KK (.rt (badD (e : Nat))) (.str t :: x3) := h
        simp! only [decide_eq_true x128]
        refine ⟨tl, by decide, if_b (fun hx => ?_) fun hx => ?_⟩
        · have hx : ¬ x = 39 := by simpa using hx
          rw [if_neg hx] at h
          exact ⟨by decide, h e ate _⟩
        · have hx : x = 39 := by simpa using hx
          rw [if_pos hx] at h
          have he : (e : Int) + 1 = ((e + 1 : Nat) : Int) := by omega
          simp! only [b__law_due_19]
          rw [he]
          exact due_23 c128 h41 (h (e + 1) ate.tl (by omega))
    simp! only [gt0]
    refine ⟨tl, if_d (fun hlt2 => ?_) fun hlt2 => fin fun c x e2 => by rw [e2, List.length_cons] at hl; omega⟩
    cases u with
    | nil => exact absurd hlt2 (by simp at hl; omega)
    | cons x y =>
      rw [List.length_cons] at hl
      refine ⟨by omega, atS_of ate.ix ?_⟩
      simp! only [gt0]
      refine if_d (fun hx => ?_) fun hx => fin fun c2 x2 e2 => by
        injection e2 with e2 _
        rw [← e2]
        exact decide_eq_false hx
      refine ⟨⟨e + 1, y, rfl, ate.tl, by omega, ?_⟩, ?_⟩
      · rw [← hdw, (tw_cons (u := y) (p := inP) (decide_eq_true hx)).2]
      · show t.length + 1 - ((e + 1 : Nat) : Int).toNat < t.length + 1 - ((e : Nat) : Int).toNat
        omega
  rw [if_neg h39] at h
  refine if_d (fun hd => ?_) fun hd => ?_
  · rw [if_pos (dm.mp hd)] at h
    refine while_dn (fun ρ => ∃ (e : Nat) (u : List Nat), ρ = [.str t, .str pool69, .int d, .str (wdS wt), .int pl, .str [c], .int e] ∧ At t e u ∧ pl < e ∧ e - pl - 1 ≤ 8 ∧ (e - pl - 1) + ((u.takeWhile isDg).take (8 - (e - pl - 1))).length = (dgs w).length ∧ u = w.drop (e - pl - 1)) (fun ρ => match ρ with | [_, _, _, _, _, _, .int a] => t.length + 1 - a.toNat | _ => 0) ⟨pl + 1, w, rfl, at1, Nat.lt_succ_self _, by omega, by rw [show pl + 1 - pl - 1 = 0 by omega, Nat.zero_add]; rfl, by rw [show pl + 1 - pl - 1 = 0 by omega]; rfl⟩ ?_
    rintro ρ ⟨e, u, rfl, ate, hlt, h8, hdg, hu⟩
    have hl := ate.len
    have fin : (u.takeWhile isDg).take (8 - (e - pl - 1)) = [] → b__law_due_23 [.str t, .str pool69, .int d, .str (wdS wt), .int pl, .str [c], .int e] KK := by
      intro hno
      rw [hno, List.length_nil, Nat.add_zero] at hdg
      rw [hdg] at hu
      exact due_23 c128 h41 (h e (hu ▸ ate) hlt)
    simp! only [gt0]
    refine ⟨tl, if_d (fun hlt2 => ?_) fun hlt2 => fin ?_⟩
    rotate_left
    · have e0 : u = [] := List.eq_nil_of_length_eq_zero (by omega)
      rw [e0, List.takeWhile_nil, List.take_nil]
    cases u with
    | nil => exact absurd hlt2 (by simp at hl; omega)
    | cons x y =>
      rw [List.length_cons] at hl
      refine ⟨by omega, atS_of ate.ix ?_⟩
      simp! only [gt0]
      refine if_d (fun hx => ?_) fun hx => fin ?_
      rotate_left
      · have e2 : isDg x = false := Bool.eq_false_iff.mpr fun e2 => hx (dg_mem.mpr e2)
        rw [List.takeWhile_cons, e2]
        exact List.take_nil
      have hp : isDg x = true := dg_mem.mp hx
      obtain ⟨f1, f2⟩ := tw_cons (u := y) hp
      refine if_d (fun h9 => ?_) fun h9 => fin ?_
      rotate_left
      · rw [show 8 - (e - pl - 1) = 0 by omega]
        rfl
      refine ⟨⟨e + 1, y, rfl, ate.tl, by omega, by omega, ?_, ?_⟩, ?_⟩
      · rw [← hdg, f1]
        obtain ⟨j, hj⟩ : ∃ j, 8 - (e - pl - 1) = j + 1 := ⟨7 - (e - pl - 1), by omega⟩
        rw [hj, show 8 - (e + 1 - pl - 1) = j by omega]
        show _ = _ + (x :: (y.takeWhile isDg).take j).length
        rw [List.length_cons]
        omega
      · have z := congrArg (List.drop 1) hu
        rw [List.drop_drop] at z
        rw [show e + 1 - pl - 1 = e - pl - 1 + 1 by omega]
        exact z
      · show t.length + 1 - ((e + 1 : Nat) : Int).toNat < t.length + 1 - ((e : Nat) : Int).toNat
        omega
  · rw [if_neg (fun e => hd (dm.mpr e))] at h
    exact due_23 c128 h41 (h (pl + 1) at1 (Nat.lt_succ_self _))
theorem p__law_due : ∀ args K', args.length = 1 → S__law_due args K' → b__law_due (args ++ List.replicate 6 .und) (endK 1 K') := by
  rintro args K' - ⟨t, rfl, rd, kk⟩
  show b__law_due [.str t, .und, .und, .und, .und, .und, .und] _
  unfold b__law_due
  have tl := rd.len
  obtain ⟨R, hR⟩ : ∃ R, ∀ n, t.length < n → scN n 0 .value t = R := by
    have ag := vF_agree 8 (Nat.le_refl 8) t .value (.inl rfl) fun h => nomatch h
    cases hr : vF 8 t with
    | bad q =>
      rw [hr] at ag
      exact ⟨_, fun n hn => ag n hn⟩
    | ok v r =>
      rw [hr] at ag
      refine ⟨if r = [] then none else some r, fun n hn => ?_⟩
      obtain ⟨n', h1, h2⟩ := ag.2 n hn
      obtain ⟨n', rfl⟩ : ∃ j, n' = j + 1 := ⟨n' - 1, by omega⟩
      rw [h2]
      cases r with
      | nil => rfl
      | cons c r => rfl
  have kk := kk R hR
  simp! only [b__law_due_2, b__law_due_3, b__law_due_4, b__law_due_5]
  refine while_dn (fun ρ => ∃ (d : Nat) (wt : Wd) (pl n : Nat) (r : List Nat) (x5 x6 : D), ρ = [.str t, .str pool69, .int d, .str (wdS wt), .int pl, x5, x6] ∧ At t pl r ∧ r.length < n ∧ scN n d wt r = R ∧ (wt = .item ∨ wt = .more → 0 < d) ∧ d ≤ pl) (fun ρ => match ρ with | _ :: _ :: _ :: _ :: .int a :: _ => t.length + 1 - a.toNat | _ => 0) ⟨0, .value, 0, t.length + 1, t, _, _, rfl, ⟨rfl, Nat.zero_le _⟩, Nat.lt_succ_self _, hR _ (Nat.lt_succ_self _), (fun h => by rcases h with h | h <;> cases h), Nat.zero_le _⟩ ?_
  rintro ρ ⟨d, wt, pl, n, r, x5, x6, rfl, at', hn, hsc, hwd, hd⟩
  have hl := at'.len
  simp! only [gt0]
  refine ⟨tl, if_d (fun h => ?_) fun h => ?_⟩
  rotate_left
  · have er : r = [] := List.eq_nil_of_length_eq_zero (by omega)
    subst er
    obtain ⟨n, rfl⟩ : ∃ j, n = j + 1 := ⟨n - 1, by omega⟩
    have hsc : (if wt = .fin then none else some []) = R := hsc
    simp! only [b__law_due_32, wdS_fin, wdS_asc]
    refine ⟨by decide, if_d (fun h => ?_) fun h => ?_⟩
    · rw [if_pos h] at hsc
      subst hsc
      exact ⟨by decide, kk⟩
    · rw [if_neg h] at hsc
      subst hsc
      exact ⟨tl, by decide, kk⟩
  cases r with
  | nil => exact absurd h (by simp at hl; omega)
  | cons c w =>
    rw [List.length_cons] at hn hl
    obtain ⟨n, rfl⟩ : ∃ j, n = j + 1 := ⟨n - 1, by omega⟩
    have c128 := at'.c128 rd.at'
    have at1 := at'.tl
    refine ⟨by omega, atS_of at'.ix ?_⟩
    simp! only [gt0]
    -- the place is bad
    have bad : R = some (c :: w) → ∀ (x : D), K' (.ok (.tup [.str [98, 97, 100], .int pl])) [.str t] := fun e _ => by
      have e2 : t.length - (c :: w).length = pl := by rw [List.length_cons]; omega
      have z : K' (.ok (badD ((t.length - (c :: w).length : Nat) : Int))) [.str t] := by rw [e] at kk; exact kk
      rw [e2] at z
      exact z
    rw [scN_end] at hsc
    simp! only [b__law_due_7, wdS_fin, wdS_asc]
    refine ⟨by decide, if_d (fun h => ?_) fun h1 => ?_⟩
    · rw [if_pos h] at hsc
      exact ⟨by decide, bad hsc.symm .und⟩
    rw [if_neg h1] at hsc
    have one : ∀ b : Nat, ([c] == [b]) = decide (c = b) := fun b => by rw [Bool.eq_iff_iff]; simp
    have go : ¬ (c = 41 ∧ wt = .value ∨ c = 40 ∧ d = 8) → (c = 41 → 0 < d) → (match endF c w with
        | .ok _ u => scN n (nd c d) (nw c d) u
        | .bad q => some q) = R → ∀ (KK : Fl → Vi.Env → Prop), (∀ D x, K' (.ok D) [.str t] → KK (.rt D) (.str t :: x)) → (∀ (d : Nat) (wt : Wd) (pl2 n : Nat) (r : List Nat) (x5 x6 : D), At t pl2 r → r.length < n → scN n d wt r = R → (wt = .item ∨ wt = .more → 0 < d) → d ≤ pl2 → pl < pl2 → KK .nx [.str t, .str pool69, .int d, .str (wdS wt), .int pl2, x5, x6]) → b__law_due_13 [.str t, .str pool69, .int d, .str (wdS wt), .int pl, .str [c], x6] KK := by
      intro hno h41 hs KK kr kn
      simp! only [b__law_due_13]
      refine due_14 rd at' h41 ?_
      cases he : endF c w with
      | ok z u =>
        rw [he] at hs
        have ul : u.length ≤ w.length := by
          unfold endF at he
          have dl := dw_le w
          split at he
          · cases hdw : w.dropWhile inP with
            | nil => rw [hdw] at he; cases he
            | cons e y =>
              rw [hdw] at he dl
              have he : (if e = 39 then Rs.ok 0 y else Rs.bad (e :: y)) = Rs.ok z u := he
              rw [List.length_cons] at dl
              split at he
              · cases he; omega
              · cases he
          · split at he
            · cases he
              rw [List.length_drop]
              omega
            · cases he
              exact Nat.le_refl _
        intro e ate hlt
        refine kn _ _ e n u _ _ ate (by omega) hs ?_ ?_ hlt
        · intro hw
          unfold nw at hw
          unfold nd at hw ⊢
          split at hw
          · rename_i h40
            rw [if_pos h40]
            omega
          · rename_i h40
            split at hw
            · rcases hw with h | h <;> cases h
            · rename_i h32
              rw [if_neg h40, if_neg h32]
              exact aft_pos hw
        · unfold nd
          split
          · omega
          · split
            · omega
            · split <;> omega
      | bad q =>
        rw [he] at hs
        intro e ate x3
        refine kr _ _ ?_
        have hle := ate.len
        rw [← hs] at kk
        have z : K' (.ok (badD ((t.length - q.length : Nat) : Int))) [.str t] := kk
        rw [show t.length - q.length = e by omega] at z
        exact z
    have c11 : (wt = .more → c ∈ [32, 41]) → (¬ ((c = 41 ∧ wt = .value) ∨ (c = 40 ∧ d = 8)) → (match endF c w with
        | .ok _ u => scN n (nd c d) (nw c d) u
        | .bad q => some q) = R) → ((c = 41 ∧ wt = .value) ∨ (c = 40 ∧ d = 8) → R = some (c :: w)) → ∀ (KK : Fl → Vi.Env → Prop), (∀ D x, K' (.ok D) [.str t] → KK (.rt D) (.str t :: x)) → (∀ (d : Nat) (wt : Wd) (pl2 n : Nat) (r : List Nat) (x5 x6 : D), At t pl2 r → r.length < n → scN n d wt r = R → (wt = .item ∨ wt = .more → 0 < d) → d ≤ pl2 → pl < pl2 → KK .nx [.str t, .str pool69, .int d, .str (wdS wt), .int pl2, x5, x6]) → b__law_due_11 [.str t, .str pool69, .int d, .str (wdS wt), .int pl, .str [c], x6] KK := by
      intro _ hs hb KK kr kn
      have im : ∀ k : D → Prop, k (.bl (!decide (wt = .item ∨ wt = .more))) → oInX not (.str (wdS wt)) (.tup [.str [105, 116, 101, 109], .str [109, 111, 114, 101]]) k := fun k hk => oInX_t (ts := [[105, 116, 101, 109], [109, 111, 114, 101]]) rfl (by rw [wdS_im]; exact hk)
      have wne : ¬ wt = .item ∧ ¬ wt = .more → wt = .value := fun h => by
        cases wt with
        | value => rfl
        | item => exact absurd rfl h.1
        | more => exact absurd rfl h.2
        | fin => exact absurd rfl h1
      simp! only [b__law_due_11, decide_eq_true c128, one]
      refine ⟨by decide, if_d (fun h41 => ⟨by decide, im _ ?_⟩) fun h41 => ⟨by decide, if_d (fun h40 => if_d (fun h8 => ?_) fun h8 => ?_) fun h40 => ?_⟩⟩
      · simp! only [gt0]
        refine if_b (fun hb2 => ?_) fun hb2 => ?_
        · have hb2 : ¬ (wt = .item ∨ wt = .more) := by simpa using hb2
          exact ⟨by decide, kr _ _ (bad (hb (.inl ⟨h41, wne ⟨fun e => hb2 (.inl e), fun e => hb2 (.inr e)⟩⟩)) .und)⟩
        · have hb2 : wt = .item ∨ wt = .more := of_decide_eq_true (by simpa only [Bool.not_eq_false'] using hb2)
          have hno : ¬ ((c = 41 ∧ wt = .value) ∨ (c = 40 ∧ d = 8)) := by
            rintro (⟨_, h⟩ | ⟨h, _⟩)
            · subst h
              rcases hb2 with h | h <;> cases h
            · omega
          refine ⟨by decide, if_rf (by simp; omega) ?_⟩
          exact go hno (fun _ => hwd hb2) (hs hno) KK kr kn
      · exact ⟨by decide, kr _ _ (bad (hb (.inr ⟨h40, by omega⟩)) .und)⟩
      · have hno : ¬ ((c = 41 ∧ wt = .value) ∨ (c = 40 ∧ d = 8)) := by omega
        exact go hno (fun h => absurd h h41) (hs hno) KK kr kn
      · have hno : ¬ ((c = 41 ∧ wt = .value) ∨ (c = 40 ∧ d = 8)) := by omega
        exact go hno (fun h => absurd h h41) (hs hno) KK kr kn
    have vi : ∀ k : D → Prop, k (.bl (decide (wt = .value ∨ wt = .item))) → oInX id (.str (wdS wt)) (.tup [.str [118, 97, 108, 117, 101], .str [105, 116, 101, 109]]) k := fun k hk => oInX_t (ts := [[118, 97, 108, 117, 101], [105, 116, 101, 109]]) rfl (by rw [wdS_vi]; exact hk)
    simp! only [b__law_due_9, wdS_more, wdS_asc]
    refine ⟨by decide, if_d (fun hm => if_b (fun hb2 => ?_) fun hb2 => ⟨by decide, vi _ ?_⟩) fun hm => ⟨by decide, vi _ ?_⟩⟩
    · have hb3 : ¬ c ∈ [32, 41] := fun h => by rw [decide_eq_true h] at hb2; cases hb2
      rw [if_pos (.inl ⟨hm, hb3⟩)] at hsc
      exact ⟨by decide, bad hsc.symm .und⟩
    · have hb3 : c ∈ [32, 41] := of_decide_eq_true (by simpa only [Bool.not_eq_false'] using hb2)
      rw [if_neg (by rintro (⟨_, h⟩ | ⟨h, _⟩) <;> first | exact h hb3 | (subst hm; rcases h with h | h <;> cases h))] at hsc
      simp! only [gt0]
      refine if_d (fun h => by subst hm; rcases h with h | h <;> cases h) fun _ => ?_
      refine c11 (fun _ => hb3) (fun h => by rw [if_neg h] at hsc; exact hsc) (fun h => by rw [if_pos h] at hsc; exact hsc.symm) _ (fun D x h => h) fun d wt pl2 n r x5 x6 a b e f g h => ⟨⟨d, wt, pl2, n, r, x5, x6, rfl, a, b, e, f, g⟩, ?_⟩
      show t.length + 1 - ((pl2 : Nat) : Int).toNat < t.length + 1 - ((pl : Nat) : Int).toNat
      have := a.le
      omega
    · have hw : wt = .value ∨ wt = .item := by
        cases wt with
        | value => exact .inl rfl
        | item => exact .inr rfl
        | more => exact absurd rfl hm
        | fin => exact absurd rfl h1
      simp! only [gt0]
      refine if_d (fun _ => if_b (fun hb2 => ?_) fun hb2 => ?_) fun h => absurd hw h
      · have hb3 : ¬ c ∈ vch := fun h => by
          have e : decide (c ∈ [84, 70, 39, 40, 48, 49, 50, 51, 52, 53, 54, 55, 56, 57, 41]) = true := decide_eq_true h
          rw [e] at hb2
          cases hb2
        rw [if_pos (.inr ⟨hw, hb3⟩)] at hsc
        exact ⟨by decide, bad hsc.symm .und⟩
      · have hb4 : decide (c ∈ [84, 70, 39, 40, 48, 49, 50, 51, 52, 53, 54, 55, 56, 57, 41]) = true := by simpa only [Bool.not_eq_false'] using hb2
        have hb3 : c ∈ vch := of_decide_eq_true (p := c ∈ [84, 70, 39, 40, 48, 49, 50, 51, 52, 53, 54, 55, 56, 57, 41]) hb4
        rw [if_neg (by rintro (⟨h, _⟩ | ⟨_, h⟩) <;> first | exact h hb3 | exact hm h)] at hsc
        refine c11 (fun h => absurd h hm) (fun h => by rw [if_neg h] at hsc; exact hsc) (fun h => by rw [if_pos h] at hsc; exact hsc.symm) _ (fun D x h => h) fun d wt pl2 n r x5 x6 a b e f g h => ⟨⟨d, wt, pl2, n, r, x5, x6, rfl, a, b, e, f, g⟩, ?_⟩
        show t.length + 1 - ((pl2 : Nat) : Int).toNat < t.length + 1 - ((pl : Nat) : Int).toNat
        have := a.le
        omega

--@@SPLIT
/-! ### _law_read -/
def toldV (t : List Nat) : D := match vF 8 t with
  | .ok v [] => .tup [.str [114, 101, 97, 100], vD v]
  | .ok _ (c :: r) => badD ((t.length - (c :: r).length : Nat) : Int)
  | .bad q => badD ((t.length - q.length : Nat) : Int)
theorem told_is (t : List Nat) : (∃ v, Gd 8 v ∧ t = wr v ∧ toldV t = .tup [.str [114, 101, 97, 100], vD v] ∧ readR t = .ok (vD v)) ∨ (∃ k : Nat, toldV t = badD k ∧ readR t = .exc 5 (.int k)) := by
  unfold toldV readR
  cases h : vF 8 t with
  | bad q => exact .inr ⟨_, rfl, rfl⟩
  | ok v r =>
    cases r with
    | nil =>
      obtain ⟨h1, h2⟩ := vF_ok 8 t v [] h
      rw [List.append_nil] at h1
      exact .inl ⟨v, h2, h1, rfl, rfl⟩
    | cons c r => exact .inr ⟨_, rfl, rfl⟩
/-- reading and scanning agree -/
theorem told_due (t : List Nat) (R : Option (List Nat)) (h : ∀ n, t.length < n → scN n 0 .value t = R) : (∃ v, Gd 8 v ∧ t = wr v ∧ toldV t = .tup [.str [114, 101, 97, 100], vD v] ∧ dueD t R = readD) ∨ (∃ k : Nat, toldV t = badD k ∧ dueD t R = badD k) := by
  have ag := vF_agree 8 (Nat.le_refl 8) t .value (.inl rfl) fun h => nomatch h
  have h0 := h (t.length + 1) (Nat.lt_succ_self _)
  unfold toldV
  cases hr : vF 8 t with
  | bad q =>
    rw [hr] at ag
    have e : scN (t.length + 1) 0 .value t = some q := ag (t.length + 1) (Nat.lt_succ_self _)
    rw [e] at h0
    subst h0
    exact .inr ⟨_, rfl, rfl⟩
  | ok v r =>
    rw [hr] at ag
    obtain ⟨n', h1, h2⟩ := ag.2 (t.length + 1) (Nat.lt_succ_self _)
    obtain ⟨n', rfl⟩ : ∃ j, n' = j + 1 := ⟨n' - 1, by omega⟩
    have h2 : scN (t.length + 1) 0 .value t = scN (n' + 1) 0 .fin r := h2
    rw [h2] at h0
    cases r with
    | nil =>
      obtain ⟨h3, h4⟩ := vF_ok 8 t v [] hr
      rw [List.append_nil] at h3
      subst h0
      exact .inl ⟨v, h4, h3, rfl, rfl⟩
    | cons c r =>
      subst h0
      exact .inr ⟨_, rfl, rfl⟩
theorem told_wr {v : Vl} (h : Gd 8 v) : toldV (wr v) = .tup [.str [114, 101, 97, 100], vD v] := by
  have z := vF_wr 8 v h [] fun _ _ e => nomatch e
  rw [List.append_nil] at z
  unfold toldV
  rw [z]
theorem y45 : subE 4 5 = some true := rfl
theorem y55 : subE 5 5 = some true := rfl
theorem ys5 : subsE [3, 1, 2] 5 = some false := rfl
theorem fam5 : fam 5 = true := rfl
def S__law_read : FS := fun args K => ∃ (t : List Nat), args = [.str t] ∧ Rd t ∧ ∀ posts, posts.length = 1 → K (.ok (toldV t)) posts
def b__law_read (cl : Nat → Addr) : DS :=
  dTry (subE 4) 1 cl (dRet (dFr (dTup (dConsL (dC (.str [114, 101, 97, 100])) (dConsL (dFr (dCall [] 1 S_read_value [] (dCons (dO (dVar 0)) (dNil)))) (dNilL)))))) (fun a cls d => dSeq (dIfS (dOrT (dNotT (dB (dIs cl 1 a cls d (subE 5)))) (dB (dIs cl 1 a cls d (subsE [3, 1, 2])))) (dRet (dFr (dTup (dConsL (dC (.str [111, 116, 104, 101, 114])) (dConsL (dC (.int 0)) (dNilL)))))) (dSkip))
  (dRet (dFr (dTup (dConsL (dC (.str [98, 97, 100])) (dConsL (dWhat cl 1 a cls d fam) (dNilL)))))))
theorem p__law_read {cl : Nat → Addr} : ∀ args K', args.length = 1 → S__law_read args K' → b__law_read cl (args ++ List.replicate 1 .und) (endK 1 K') := by
  rintro args K' - ⟨t, rfl, rd, kk⟩
  show b__law_read cl [.str t, .und] _
  unfold b__law_read
  have k2 := kk [.str t] rfl
  simp! only [gt0]
  refine call_step rfl rfl rfl ⟨t, rfl, rd, fun posts hp => ⟨hp, ?_⟩⟩
  rcases told_is t with ⟨v, _, _, ed, e⟩ | ⟨k, ed, e⟩
  · rw [e]
    rw [ed] at k2
    simp! only [own_vl, fr_vl, nz_vl, dAt_vl]
    exact ⟨by decide, k2⟩
  · rw [e]
    rw [ed] at k2
    simp! only [y45, y55, ys5, fam5]
    exact fun a cd => ⟨by decide, k2⟩
/-! ### _law_value -/
def Lb : Nat → Nat
  | 0 => 9
  | d + 1 => 4 * Lb d + 6
def S__law_value : Nat → FS := fun n args K => ∃ (nums : List Int) (p : Int) (d : Nat), args = [stD nums p, .int d] ∧ 0 < nums.length ∧ nums.length ≤ 100000 ∧ d < n ∧ ∀ (p' : Int) (v : Vl) (x : D), Gd d v → (wr v).length ≤ Lb d → K (.ok (vD v)) [stD nums p', x]
theorem z__law_value : ∀ args K, ¬ S__law_value 0 args K := by
  rintro args K ⟨nums, p, d, _, _, _, h, _⟩
  omega
theorem Lb_9 : ∀ d, 9 ≤ Lb d
  | 0 => Nat.le_refl 9
  | d + 1 => by
    have := Lb_9 d
    show 9 ≤ 4 * Lb d + 6
    omega
def b__law_value_8 (n : Nat) : DS :=
  dRet (dFr (dJoin (dC (.str [])) (dO (dLc (dRng1 (dConsL (dFr (dCall [0] 2 S__law_next [] (dCons (dPk 0) (dCons (dO (dC (.int 5))) (dNil))))) (dNilL))) (dgN 4) (dYes) (d2 oIx (dPk 3) (dO (dFr (dCall [0] 2 S__law_next [] (dCons (dPk 0) (dCons (dO (dC (.int 69))) (dNil))))))) [4]))))
def b__law_value_9 (n : Nat) : DS :=
  dRet (dFr (dBI oTup (dCons (dO (dLc (dRng1 (dConsL (dFr (dCall [0] 2 S__law_next [] (dCons (dPk 0) (dCons (dO (dC (.int 5))) (dNil))))) (dNilL))) (dgN 4) (dYes) (dFr (dCall [0] 2 (S__law_value n) [] (dCons (dPk 0) (dCons (dO (d2 (oInt0 gSub) (dPk 1) (dO (dC (.int 1))))) (dNil))))) [4])) (dNil))))
def b__law_value_6 (n : Nat) : DS :=
  dSeq (dIfS (dOrT (dB (d2 (oEq id) (dPk 2) (dO (dC (.int 2))))) (dB (d2 (oEq id) (dPk 1) (dO (dC (.int 0)))))) (dSeq (dSet 3 (dFr (dC (.str [97, 98, 99, 100, 101, 102, 103, 104, 105, 106, 107, 108, 109, 110, 111, 112, 113, 114, 115, 116, 117, 118, 119, 120, 121, 122, 65, 66, 67, 68, 69, 70, 71, 72, 73, 74, 75, 76, 77, 78, 79, 80, 81, 82, 83, 84, 85, 86, 87, 88, 89, 90, 48, 49, 50, 51, 52, 53, 54, 55, 56, 57, 60, 62, 61, 58, 95, 64, 35]))))
  (b__law_value_8 n)) (dSkip))
  (b__law_value_9 n)
def b__law_value_4 (n : Nat) : DS :=
  dSeq (dIfS (dB (d2 (oEq id) (dPk 2) (dO (dC (.int 1))))) (dRet (dFr (d2 oIx (dO (dLst (dConsL (dC (.int 0)) (dConsL (dC (.int 7)) (dConsL (dC (.int 10)) (dConsL (dC (.int 999999999)) (dConsL (d2 oAdd (dO (d2 (oInt CMul gMul) (dO (dFr (dCall [0] 2 S__law_next [] (dCons (dPk 0) (dCons (dO (dC (.int 1000))) (dNil)))))) (dO (dC (.int 1000))))) (dO (dFr (dCall [0] 2 S__law_next [] (dCons (dPk 0) (dCons (dO (dC (.int 1000))) (dNil))))))) (dNilL)))))))) (dO (dFr (dCall [0] 2 S__law_next [] (dCons (dPk 0) (dCons (dO (dC (.int 5))) (dNil))))))))) (dSkip))
  (b__law_value_6 n)
def b__law_value_2 (n : Nat) : DS :=
  dSeq (dIfS (dB (d2 (oEq id) (dPk 2) (dO (dC (.int 0))))) (dRet (dFr (d2 (oEq id) (dO (dFr (dCall [0] 2 S__law_next [] (dCons (dPk 0) (dCons (dO (dC (.int 2))) (dNil)))))) (dO (dC (.int 1)))))) (dSkip))
  (b__law_value_4 n)
def b__law_value (n : Nat) : DS :=
  dSeq (dSet 2 (dCall [0] 2 S__law_next [] (dCons (dPk 0) (dCons (dO (dC (.int 6))) (dNil)))))
  (b__law_value_2 n)
theorem strs_sg (t : List Nat) : strsD (t.map fun c => D.str [c]) = some (t.map fun c => [c]) := by
  have h := strsD_map (t.map fun c => [c])
  rw [List.map_map] at h
  exact h
theorem flat_sg : ∀ t : List Nat, (t.map fun c => [c]).flatten = t
  | [] => rfl
  | c :: t => by
    show c :: (t.map fun c => [c]).flatten = _
    rw [flat_sg t]
theorem sum_sg : ∀ t : List Nat, (t.map fun _ => 1).sum = t.length
  | [] => rfl
  | c :: t => by
    rw [List.map_cons, List.sum_cons, sum_sg t, List.length_cons]
    omega
theorem wrT_le {vs : List Vl} {b : Nat} (h : ∀ v ∈ vs, (wr v).length ≤ b) : (wrT vs).length ≤ vs.length * (b + 1) := by
  induction vs with
  | nil => simp only [wrT]; exact Nat.zero_le _
  | cons v vs ih =>
    have h1 := h v List.mem_cons_self
    have h2 := ih fun u hu => h u (List.mem_cons_of_mem _ hu)
    simp only [wrT, List.length_cons, List.length_append]
    rw [Nat.succ_mul]
    omega
theorem wrs_le {vs : List Vl} {b : Nat} (h : ∀ v ∈ vs, (wr v).length ≤ b) : (wrs vs).length ≤ vs.length * (b + 1) := by
  cases vs with
  | nil => simp only [wrs]; exact Nat.zero_le _
  | cons v vs =>
    have h1 := h v List.mem_cons_self
    have h2 := wrT_le fun u hu => h u (List.mem_cons_of_mem v hu)
    simp only [wrs, List.length_cons, List.length_append]
    rw [Nat.succ_mul]
    omega
theorem p__law_value : ∀ n args K', args.length = 2 → S__law_value (n + 1) args K' → b__law_value n (args ++ List.replicate 3 .und) (endK 2 K') := by
  rintro n args K' - ⟨nums, p, d, rfl, n0, n1, hd, kk⟩
  show b__law_value n [stD nums p, .int d, .und, .und, .und] _
  unfold b__law_value stD
  have l9 := Lb_9 d
  simp! only [gt0]
  refine call_step rfl rfl rfl ⟨nums, p, 6, rfl, n0, n1, by decide, fun v x v0 v1 => ⟨rfl, ?_⟩⟩
  simp! only [b__law_value_2]
  refine if_b (fun _ => ?_) fun _ => ?_
  · refine call_step rfl rfl rfl ⟨nums, _, 2, rfl, n0, n1, by decide, fun u x u0 u1 => ⟨rfl, ?_⟩⟩
    simp! only [gt0]
    exact kk _ (.bl (u == 1)) _ .bl (by simp only [wr]; show 1 ≤ _; omega)
  simp! only [b__law_value_4]
  refine if_b (fun _ => ?_) fun _ => ?_
  · refine call_step rfl rfl rfl ⟨nums, _, 1000, rfl, n0, n1, by decide, fun u x u0 u1 => ⟨rfl, ?_⟩⟩
    simp! only [gt0]
    refine ⟨?_, call_step rfl rfl rfl ⟨nums, _, 1000, rfl, n0, n1, by decide, fun u2 x w0 w1 => ⟨rfl, ?_⟩⟩⟩
    · show CMul u 1000
      unfold CMul
      omega
    simp! only [gt0]
    refine ⟨by decide, call_step rfl rfl rfl ⟨nums, _, 5, rfl, n0, n1, by decide, fun u3 x z0 z1 => ⟨rfl, ?_⟩⟩⟩
    simp! only [gt0]
    have num : ∀ (k : Nat) (p' : Int), k ≤ 999999999 → K' (.ok (.int k)) [stD nums p', .int d] := fun k p' hk => kk p' (.num k) _ (.num hk) (by
      simp only [wr]
      exact Nat.le_trans (TL.numL_len (k := 9) (by decide) (by omega)) l9)
    have hu : u3 = 0 ∨ u3 = 1 ∨ u3 = 2 ∨ u3 = 3 ∨ u3 = 4 := by omega
    rcases hu with rfl | rfl | rfl | rfl | rfl
    · refine atD_of (d := D.int 0) rfl rfl ?_
      simp! only [gt0]
      exact num 0 _ (by decide)
    · refine atD_of (d := D.int 7) rfl rfl ?_
      simp! only [gt0]
      exact num 7 _ (by decide)
    · refine atD_of (d := D.int 10) rfl rfl ?_
      simp! only [gt0]
      exact num 10 _ (by decide)
    · refine atD_of (d := D.int 999999999) rfl rfl ?_
      simp! only [gt0]
      exact num 999999999 _ (by decide)
    · refine atD_of (d := D.int (u * 1000 + u2)) rfl rfl ?_
      simp! only [gt0]
      have e : u * 1000 + u2 = ((u * 1000 + u2).toNat : Int) := by omega
      rw [e]
      exact num _ _ (by omega)
  have txt : ∀ (p' : Int) (k1 : Int) (KK : Fl → Vi.Env → Prop), (∀ D x, K' (.ok D) (List.take 2 x) → KK (.rt D) x) → b__law_value_8 n [stD nums p', .int d, .int k1, .str pool69, .und] KK := by
    intro p' k1 KK kr
    simp! only [b__law_value_8]
    refine call_step rfl rfl rfl ⟨nums, _, 5, rfl, n0, n1, by decide, fun u x u0 u1 => ⟨rfl, ?_⟩⟩
    simp! only [gt0]
    refine ⟨⟨by omega, by omega⟩, by rw [rngD_len]; omega, ?_⟩
    refine lcE_inv (ρ := []) (fun i acc ρ => ∃ (p' : Int) (t : List Nat), ρ = [stD nums p', .int d, .int k1, .str pool69, .und] ∧ acc = t.map (fun c => D.str [c]) ∧ t.length = i ∧ ∀ c ∈ t, c ∈ pool69) _ 0 [] _ ⟨_, [], rfl, rfl, rfl, fun _ h => nomatch h⟩ ?_ ?_
    · rintro i dd acc ρ N hd ⟨p', t, rfl, rfl, hl, hp⟩ kN
      obtain ⟨hi, rfl⟩ := rngD_get hd
      simp! only [gt0]
      refine call_step rfl rfl rfl ⟨nums, p', 69, rfl, n0, n1, by decide, fun v2 x2 w0 w1 => ⟨rfl, ?_⟩⟩
      simp! only [gt0]
      obtain ⟨c, e, hc⟩ := atI_ok (xs := pool69) w0 (by exact w1)
      have hc2 := List.mem_of_getElem? hc
      refine ⟨by decide, atS_of e ?_⟩
      simp! only [gt0]
      refine kN _ _ ⟨_, t ++ [c], rfl, by simp, by simp [hl], fun d hd => (List.mem_append.mp hd).elim (hp d) fun h => by rw [List.mem_singleton.mp h]; exact hc2⟩
    · rintro acc ρ ⟨p', t, rfl, rfl, hl, hp⟩
      rw [rngD_len] at hl
      simp! only [gt0]
      refine joinK_l (strs_sg t) ⟨?_, ?_⟩
      · rw [List.map_map, List.length_map]
        have := sum_sg t
        show (t.map fun _ => 1).sum + t.length * 0 ≤ _
        omega
      · rw [joinL_nil, flat_sg]
        refine kr _ _ (kk p' (.str t) _ (.str hp) ?_)
        simp only [wr, List.length_cons, List.length_append, List.length_nil]
        omega
  simp! only [b__law_value_6]
  refine if_b (fun _ => txt _ _ _ fun D x h => h) fun _ => if_b (fun _ => txt _ _ _ fun D x h => h) fun h0 => ?_
  have d0 : 0 < d := by
    have h0 : ¬ (d : Int) = 0 := by simpa using h0
    omega
  obtain ⟨d, rfl⟩ : ∃ j, d = j + 1 := ⟨d - 1, by omega⟩
  simp! only [b__law_value_9]
  refine call_step rfl rfl rfl ⟨nums, _, 5, rfl, n0, n1, by decide, fun u x u0 u1 => ⟨rfl, ?_⟩⟩
  simp! only [gt0]
  refine ⟨⟨by omega, by omega⟩, by rw [rngD_len]; omega, ?_⟩
  refine lcE_inv (ρ := []) (fun i acc ρ => ∃ (p' : Int) (vs : List Vl), ρ = [stD nums p', .int ((d + 1 : Nat) : Int), .int v, .und, .und] ∧ acc = vs.map vD ∧ vs.length = i ∧ ∀ u ∈ vs, Gd d u ∧ (wr u).length ≤ Lb d) _ 0 [] _ ⟨_, [], rfl, rfl, rfl, fun _ h => nomatch h⟩ ?_ ?_
  · rintro i dd acc ρ N hdd ⟨p', vs, rfl, rfl, hl, hp⟩ kN
    obtain ⟨hi, rfl⟩ := rngD_get hdd
    have ez : ((d + 1 : Nat) : Int) - 1 = (d : Int) := by omega
    simp! only [Vi.gSub, ez]
    refine call_step rfl rfl rfl ⟨nums, p', d, rfl, n0, n1, by omega, fun p2 u x2 hg hlu => ⟨rfl, ?_⟩⟩
    simp! only [own_vl, fr_vl, nz_vl, dAt_vl]
    refine kN _ _ ⟨_, vs ++ [u], rfl, by simp, by simp [hl], fun y hy => (List.mem_append.mp hy).elim (hp y) fun h => by rw [List.mem_singleton.mp h]; exact ⟨hg, hlu⟩⟩
  · rintro acc ρ ⟨p', vs, rfl, rfl, hl, hp⟩
    rw [rngD_len] at hl
    simp! only [lstVl_all, List.length_map]
    have e := wrs_le (vs := vs) fun u hu => (hp u hu).2
    have hv4 : vs.length ≤ 4 := by omega
    have : vs.length * (Lb d + 1) ≤ 4 * (Lb d + 1) := Nat.mul_le_mul_right _ hv4
    have z := kk p' (.tup vs) (.int ((d + 1 : Nat) : Int)) (.tup fun u hu => (hp u hu).1) (by
      simp only [wr, List.length_cons, List.length_append, List.length_nil]
      show _ ≤ 4 * Lb d + 6
      omega)
    simp only [vD] at z
    rw [vDs_map] at z
    exact z
/-! ### _law_spoilt -/
theorem cut_fst {t : List Nat} {k : Nat} (h : k ≤ t.length) : cut t none (some (k : Int)) = t.take k := by
  have z := cut_take h
  rw [Int.zero_add] at z
  exact z
theorem cut_snd {t : List Nat} {k : Nat} : cut t (some (k : Int)) none = t.drop k := by
  unfold cut HT.sIx
  simp only [if_neg (by omega : ¬ (k : Int) < 0), Int.toNat_natCast]
  by_cases h : k ≤ t.length
  · rw [Nat.min_eq_left h]
    refine List.take_of_length_le ?_
    rw [List.length_drop]
    exact Nat.le_refl _
  · rw [Nat.min_eq_right (by omega), List.drop_of_length_le (Nat.le_refl _), List.drop_of_length_le (by omega), List.take_nil]
def S__law_spoilt : FS := fun args K => ∃ (nums : List Int) (p : Int) (t o : List Nat), args = [stD nums p, .str t, .str o] ∧ 0 < nums.length ∧ nums.length ≤ 100000 ∧ asc t ∧ asc o ∧ t.length ≤ 20000 ∧ o.length ≤ 20000 ∧
  ∀ (p' : Int) (s : List Nat) (x y : D), asc s → s.length ≤ 50000 → K (.ok (.str s)) [stD nums p', x, y]
def signS : List Nat := [84, 70, 39, 40, 41, 32, 48, 49, 57, 97, 45, 46, 44, 33, 43, 91, 98, 47]
def b__law_spoilt_15 : DS :=
  dRet (dFr (d2 oAdd (dO (d2 oAdd (dO (d2 oRepS (dO (dC (.str [40]))) (dPk 6))) (dPk 1))) (dO (d2 oRepS (dO (dC (.str [41]))) (dPk 6)))))
def b__law_spoilt_14 : DS :=
  dSeq (dSet 6 (dFr (d2 oAdd (dO (dC (.int 6))) (dO (dFr (dCall [0] 2 S__law_next [] (dCons (dPk 0) (dCons (dO (dC (.int 4))) (dNil)))))))))
  (b__law_spoilt_15)
def b__law_spoilt_12 : DS :=
  dSeq (dIfS (dB (d2 (oEq id) (dPk 5) (dO (dC (.int 4))))) (dRet (dFr (d2 oAdd (dO (d2 oAdd (dPk 1) (dO (d2 oIx (dO (dLst (dConsL (dC (.str [32])) (dConsL (dC (.str [])) (dNilL))))) (dO (dFr (dCall [0] 2 S__law_next [] (dCons (dPk 0) (dCons (dO (dC (.int 2))) (dNil)))))))))) (dPk 2)))) (dSkip))
  (b__law_spoilt_14)
def b__law_spoilt_10 : DS :=
  dSeq (dIfS (dB (d2 (oEq id) (dPk 5) (dO (dC (.int 3))))) (dRet (dFr (dSl (dPk 1) (dPn) (dPs (dVar 3))))) (dSkip))
  (b__law_spoilt_12)
def b__law_spoilt_8 : DS :=
  dSeq (dIfS (dB (d2 (oEq id) (dPk 5) (dO (dC (.int 2))))) (dRet (dFr (d2 oAdd (dO (d2 oAdd (dO (dSl (dPk 1) (dPn) (dPs (dVar 3)))) (dPk 4))) (dO (dSl (dPk 1) (dPs (d2 oAdd (dPk 3) (dO (dC (.int 1))))) (dPn)))))) (dSkip))
  (b__law_spoilt_10)
def b__law_spoilt_6 : DS :=
  dSeq (dIfS (dB (d2 (oEq id) (dPk 5) (dO (dC (.int 1))))) (dRet (dFr (d2 oAdd (dO (dSl (dPk 1) (dPn) (dPs (dVar 3)))) (dO (dSl (dPk 1) (dPs (d2 oAdd (dPk 3) (dO (dC (.int 1))))) (dPn)))))) (dSkip))
  (b__law_spoilt_8)
def b__law_spoilt_4 : DS :=
  dSeq (dIfS (dB (d2 (oEq id) (dPk 5) (dO (dC (.int 0))))) (dRet (dFr (d2 oAdd (dO (d2 oAdd (dO (dSl (dPk 1) (dPn) (dPs (dVar 3)))) (dPk 4))) (dO (dSl (dPk 1) (dPs (dVar 3)) (dPn)))))) (dSkip))
  (b__law_spoilt_6)
def b__law_spoilt_3 : DS :=
  dSeq (dSet 5 (dCall [0] 2 S__law_next [] (dCons (dPk 0) (dCons (dO (dC (.int 6))) (dNil)))))
  (b__law_spoilt_4)
def b__law_spoilt_2 : DS :=
  dSeq (dSet 4 (dFr (d2 oIx (dO (dC (.str [84, 70, 39, 40, 41, 32, 48, 49, 57, 97, 45, 46, 44, 33, 43, 91, 98, 47]))) (dO (dFr (dCall [0] 2 S__law_next [] (dCons (dPk 0) (dCons (dO (dC (.int 18))) (dNil)))))))))
  (b__law_spoilt_3)
def b__law_spoilt : DS :=
  dSeq (dSet 3 (dCall [0] 2 S__law_next [] (dCons (dPk 0) (dCons (dO (d2 oAdd (dO (dBI oLen (dCons (dPk 1) (dNil)))) (dO (dC (.int 1))))) (dNil)))))
  (b__law_spoilt_2)
theorem p__law_spoilt : ∀ args K', args.length = 3 → S__law_spoilt args K' → b__law_spoilt (args ++ List.replicate 4 .und) (endK 3 K') := by
  rintro args K' - ⟨nums, p, t, o, rfl, n0, n1, ht, ho, tl, ol, kk⟩
  show b__law_spoilt [stD nums p, .str t, .str o, .und, .und, .und, .und] _
  unfold b__law_spoilt stD
  simp! only [gt0]
  refine ⟨by omega, call_step rfl rfl rfl ⟨nums, p, ((t.length : Nat) : Int) + 1, rfl, n0, n1, by omega, fun v x v0 v1 => ⟨rfl, ?_⟩⟩⟩
  obtain ⟨k, rfl⟩ : ∃ k : Nat, v = k := ⟨v.toNat, by omega⟩
  have kt : k ≤ t.length := by omega
  simp! only [b__law_spoilt_2]
  refine call_step rfl rfl rfl ⟨nums, _, 18, rfl, n0, n1, by decide, fun u x u0 u1 => ⟨rfl, ?_⟩⟩
  simp! only [gt0]
  obtain ⟨c, e, hc⟩ := atI_ok (xs := signS) u0 (by exact u1)
  have c128 : c < 128 := by
    have : ∀ c ∈ signS, c < 128 := by unfold signS; decide
    exact this c (List.mem_of_getElem? hc)
  refine ⟨by decide, atS_of e ?_⟩
  simp! only [b__law_spoilt_3]
  refine call_step rfl rfl rfl ⟨nums, _, 6, rfl, n0, n1, by decide, fun kd x w0 w1 => ⟨rfl, ?_⟩⟩
  have aT : asc (t.take k) := fun c hc => ht c (List.mem_of_mem_take hc)
  have aD : ∀ j, asc (t.drop j) := fun j c hc => ht c (List.mem_of_mem_drop hc)
  have lT : (t.take k).length = k := by rw [List.length_take]; omega
  have lD : ∀ j, (t.drop j).length ≤ t.length := fun j => by rw [List.length_drop]; omega
  have ac : asc [c] := fun d hd => by rw [List.mem_singleton.mp hd]; exact c128
  have ek : (k : Int) + 1 = ((k + 1 : Nat) : Int) := by omega
  have dk := lD k
  have dk1 := lD (k + 1)
  have done : ∀ (p' : Int) (s : List Nat) (x y : D), asc s → s.length ≤ 50000 → K' (.ok (.str s)) [stD nums p', x, y] := kk
  simp! only [b__law_spoilt_4, cut_fst kt, cut_snd, ek]
  refine if_b (fun _ => ?_) fun _ => ?_
  · refine ⟨by (try simp only [List.length_append, List.length_cons, List.length_nil, lT, List.length_replicate]); omega, by (try simp only [List.length_append, List.length_cons, List.length_nil, lT, List.length_replicate]); omega, by (try simp only [List.length_append, List.length_cons, List.length_nil, lT, List.length_replicate]); omega, by (try simp only [List.length_append, List.length_cons, List.length_nil, lT, List.length_replicate]); omega, done _ _ _ _ (asc_app (asc_app aT ac) (aD k)) (by (try simp only [List.length_append, List.length_cons, List.length_nil, lT, List.length_replicate]); omega)⟩
  simp! only [b__law_spoilt_6, cut_fst kt, cut_snd, ek]
  refine if_b (fun _ => ?_) fun _ => ?_
  · refine ⟨by (try simp only [List.length_append, List.length_cons, List.length_nil, lT, List.length_replicate]); omega, by (try simp only [List.length_append, List.length_cons, List.length_nil, lT, List.length_replicate]); omega, by (try simp only [List.length_append, List.length_cons, List.length_nil, lT, List.length_replicate]); omega, done _ _ _ _ (asc_app aT (aD _)) (by (try simp only [List.length_append, List.length_cons, List.length_nil, lT, List.length_replicate]); omega)⟩
  simp! only [b__law_spoilt_8, cut_fst kt, cut_snd, ek]
  refine if_b (fun _ => ?_) fun _ => ?_
  · refine ⟨by (try simp only [List.length_append, List.length_cons, List.length_nil, lT, List.length_replicate]); omega, by (try simp only [List.length_append, List.length_cons, List.length_nil, lT, List.length_replicate]); omega, by (try simp only [List.length_append, List.length_cons, List.length_nil, lT, List.length_replicate]); omega, by (try simp only [List.length_append, List.length_cons, List.length_nil, lT, List.length_replicate]); omega, done _ _ _ _ (asc_app (asc_app aT ac) (aD _)) (by (try simp only [List.length_append, List.length_cons, List.length_nil, lT, List.length_replicate]); omega)⟩
  simp! only [b__law_spoilt_10, cut_fst kt, cut_snd, ek]
  refine if_b (fun _ => ?_) fun _ => ?_
  · exact ⟨by omega, done _ _ _ _ aT (by omega)⟩
  simp! only [b__law_spoilt_12]
  refine if_b (fun _ => ?_) fun _ => ?_
  · refine ⟨by decide, call_step rfl rfl rfl ⟨nums, _, 2, rfl, n0, n1, by decide, fun z x z0 z1 => ⟨rfl, ?_⟩⟩⟩
    simp! only [gt0]
    have hz : z = 0 ∨ z = 1 := by omega
    rcases hz with rfl | rfl
    · refine atD_of (d := D.str [32]) rfl rfl ?_
      simp! only [gt0]
      exact ⟨by (try simp only [List.length_append, List.length_cons, List.length_nil, lT, List.length_replicate]); omega, by (try simp only [List.length_append, List.length_cons, List.length_nil, lT, List.length_replicate]); omega, done _ _ _ _ (asc_app (asc_app ht (s := t) (t := [32]) (by unfold asc; decide)) ho) (by (try simp only [List.length_append, List.length_cons, List.length_nil, lT, List.length_replicate]); omega)⟩
    · refine atD_of (d := D.str []) rfl rfl ?_
      simp! only [gt0]
      exact ⟨by (try simp only [List.length_append, List.length_cons, List.length_nil, lT, List.length_replicate]); omega, by (try simp only [List.length_append, List.length_cons, List.length_nil, lT, List.length_replicate]); omega, done _ _ _ _ (asc_app (asc_app ht (s := t) (t := []) (by unfold asc; decide)) ho) (by (try simp only [List.length_append, List.length_cons, List.length_nil, lT, List.length_replicate]); omega)⟩
  simp! only [b__law_spoilt_14]
  refine call_step rfl rfl rfl ⟨nums, _, 4, rfl, n0, n1, by decide, fun z x z0 z1 => ⟨rfl, ?_⟩⟩
  have e1 : ∀ (x : Nat) (m : Nat), (List.replicate m [x]).flatten = List.replicate m x := fun x m => by
    induction m with
    | zero => rfl
    | succ m ih => rw [List.replicate_succ, List.flatten_cons, ih, List.replicate_succ]; rfl
  have ar : ∀ (x m : Nat), x < 128 → asc (List.replicate m x) := fun x m h d hd => by rw [(List.mem_replicate.mp hd).2]; exact h
  obtain ⟨m, hm⟩ : ∃ m : Nat, 6 + z = m := ⟨(6 + z).toNat, by omega⟩
  simp! only [b__law_spoilt_15, e1]
  rw [hm, Int.toNat_natCast]
  refine ⟨by (try simp only [List.length_append, List.length_cons, List.length_nil, lT, List.length_replicate]); omega, by (try simp only [List.length_append, List.length_cons, List.length_nil, lT, List.length_replicate]); omega, by (try simp only [List.length_append, List.length_cons, List.length_nil, lT, List.length_replicate]); omega, by (try simp only [List.length_append, List.length_cons, List.length_nil, lT, List.length_replicate]); omega, by (try simp only [List.length_append, List.length_cons, List.length_nil, lT, List.length_replicate]); omega, by (try simp only [List.length_append, List.length_cons, List.length_nil, lT, List.length_replicate]); omega, by (try simp only [List.length_append, List.length_cons, List.length_nil, lT, List.length_replicate]); omega, by (try simp only [List.length_append, List.length_cons, List.length_nil, lT, List.length_replicate]); omega, done _ _ _ _ (asc_app (asc_app (ar _ _ (by decide)) ht) (ar _ _ (by decide))) (by (try simp only [List.length_append, List.length_cons, List.length_nil, lT, List.length_replicate]); omega)⟩

--@@SPLIT
/-! ### what repr shows of a value -/
structure Sh (d : D) (w k : Nat) : Prop where
  ni : nice d = true
  sh : (pdd d).showable = true
  nd : (pdd d).hasDict = false
  dp : (pdd d).depth ≤ k
  lv : (pdd d).leavesShort 13 = true
  wt : (pdd d).weight ≤ w
structure ShL (ds : List D) (w k : Nat) : Prop where
  ni : nices ds = true
  sh : PyData.showableAll (pdds ds) = true
  nd : PyData.hasDictAll (pdds ds) = false
  dp : PyData.depthAll (pdds ds) ≤ k
  lv : PyData.leavesShortAll 13 (pdds ds) = true
  wt : PyData.weightAll (pdds ds) ≤ w
theorem ShL.nil {w k : Nat} : ShL [] w k := ⟨rfl, rfl, rfl, Nat.zero_le _, rfl, Nat.zero_le _⟩
theorem ShL.cons {d : D} {ds : List D} {a b k : Nat} (h : Sh d a k) (g : ShL ds b k) : ShL (d :: ds) (a + 1 + b) k := by
  refine ⟨?_, ?_, ?_, ?_, ?_, ?_⟩
  · simp only [nices, h.ni, g.ni, Bool.and_self]
  · simp only [pdds, PyData.showableAll, h.sh, g.sh, Bool.and_self]
  · simp only [pdds, PyData.hasDictAll, h.nd, g.nd, Bool.or_self]
  · simp only [pdds, PyData.depthAll]
    have := h.dp
    have := g.dp
    omega
  · simp only [pdds, PyData.leavesShortAll, h.lv, g.lv, Bool.and_self]
  · simp only [pdds, PyData.weightAll]
    have := h.wt
    have := g.wt
    omega
theorem Sh.tup {ds : List D} {w k : Nat} (h : ShL ds w k) : Sh (.tup ds) w (k + 1) := by
  refine ⟨?_, ?_, ?_, ?_, ?_, ?_⟩
  · simp only [nice, h.ni]
  · simp only [pdd, PyData.showable, h.sh]
  · simp only [pdd, PyData.hasDict, h.nd]
  · simp only [pdd, PyData.depth]
    have := h.dp
    omega
  · simp only [pdd, PyData.leavesShort, h.lv]
  · simp only [pdd, PyData.weight]
    exact h.wt
theorem Sh.mono {d : D} {w w' k : Nat} (h : Sh d w k) (hw : w ≤ w') : Sh d w' k := ⟨h.ni, h.sh, h.nd, h.dp, h.lv, Nat.le_trans h.wt hw⟩
theorem Sh.bl {b : Bool} {k : Nat} : Sh (.bl b) 0 k := ⟨rfl, rfl, rfl, Nat.zero_le _, rfl, Nat.le_refl _⟩
theorem Sh.num {n k : Nat} (h : n ≤ 999999999) : Sh (.int n) 31 k := by
  have hl : n.log2 < 30 ∨ n = 0 := by
    by_cases h0 : n = 0
    · exact .inr h0
    · exact .inl ((Nat.log2_lt h0).mpr (by omega))
  have l2 : n.log2 ≤ 30 := by
    rcases hl with h | rfl
    · omega
    · decide
  refine ⟨rfl, ?_, rfl, Nat.zero_le _, ?_, ?_⟩
  · simp only [pdd, PyData.showable, Int.natAbs_natCast, decide_eq_true_eq]
    omega
  · simp only [pdd, PyData.leavesShort, PyData.shown]
    refine decide_eq_true ?_
    have e : ((toString (n : Int) : String) : Str).length = (TL.numL n).length := by
      rw [← TL.tl_num n, TL.len_tl]
    show ((toString (n : Int) : String) : Str).length ≤ 13
    rw [e]
    exact Nat.le_trans (TL.numL_len (k := 9) (by decide) (by omega)) (by decide)
  · simp only [pdd, PyData.weight, Int.natAbs_natCast]
    split <;> omega
theorem Sh.str {s : List Nat} {k : Nat} (h : ∀ c ∈ s, c ∈ pool69) : Sh (.str s) s.length k := by
  refine ⟨rfl, rfl, rfl, Nat.zero_le _, ?_, ?_⟩
  · simp only [pdd, PyData.leavesShort, List.all_eq_true, decide_eq_true_eq]
    intro c hc
    have := asc_pool69 c (h c hc)
    exact Nat.lt_of_lt_of_le this (by decide)
  · simp only [pdd, PyData.weight, List.size_toArray]
    exact Nat.le_refl _
theorem ShL.vls {m : Nat} : ∀ {vs : List Vl}, (∀ v ∈ vs, Sh (vD v) (31 * (wr v).length) m) → ShL (vs.map vD) (31 * (wrT vs).length) m
  | [], _ => ShL.nil
  | v :: vs, h => by
    have z := ShL.cons (h v List.mem_cons_self) (ShL.vls (vs := vs) fun u hu => h u (List.mem_cons_of_mem _ hu))
    rw [List.map_cons]
    refine ⟨z.ni, z.sh, z.nd, z.dp, z.lv, Nat.le_trans z.wt ?_⟩
    simp only [wrT, List.length_cons, List.length_append]
    omega
theorem vl_sh {m : Nat} {v : Vl} (h : Gd m v) : Sh (vD v) (31 * (wr v).length) m := by
  induction h with
  | bl => simp only [vD, wr]; exact Sh.bl.mono (Nat.zero_le _)
  | @num m n hn =>
    simp only [vD, wr]
    refine (Sh.num hn).mono ?_
    obtain ⟨c, s, e, _⟩ := numL_head n
    rw [e, List.length_cons]
    omega
  | str hs =>
    simp only [vD, wr, List.length_cons, List.length_append, List.length_nil]
    exact (Sh.str hs).mono (by omega)
  | @tup m vs _ ih =>
    simp only [vD, wr, List.length_cons, List.length_append, List.length_nil]
    rw [vDs_map]
    have := wrs_len vs
    exact (Sh.tup (ShL.vls ih)).mono (by omega)
theorem vl_shows {m : Nat} {v : Vl} (h : Gd m v) (hm : m ≤ 40) (hl : (wr v).length ≤ 30000) : shOkA (vD v) := by
  have s := vl_sh h
  exact ⟨s.ni, s.sh, s.nd, Nat.le_trans s.dp hm, PyData.shown_fits (by decide) (Nat.le_refl 13) s.lv (Nat.le_trans s.wt (Nat.le_trans (Nat.mul_le_mul_left 31 hl) (by decide)))⟩
theorem wr_asc {m : Nat} {v : Vl} (h : Gd m v) : asc (wr v) := by
  induction h with
  | @bl m b => simp only [wr]; cases b <;> (unfold asc; decide)
  | @num m n hn =>
    simp only [wr]
    intro c hc
    have := TL.numL_digits n c hc
    omega
  | str hs =>
    simp only [wr]
    exact asc_app (s := [39]) (by unfold asc; decide) (asc_app (fun c hc => asc_pool69 c (hs c hc)) (by unfold asc; decide))
  | @tup m vs _ ih =>
    simp only [wr]
    have hT : ∀ us : List Vl, (∀ u ∈ us, asc (wr u)) → asc (wrT us) := fun us => by
      induction us with
      | nil => intro _; simp only [wrT]; exact fun _ h => nomatch h
      | cons u us ih2 =>
        intro h
        simp only [wrT]
        exact asc_app (s := [32]) (by unfold asc; decide) (asc_app (h u List.mem_cons_self) (ih2 fun x hx => h x (List.mem_cons_of_mem _ hx)))
    refine asc_app (s := [40]) (by unfold asc; decide) (asc_app ?_ (by unfold asc; decide))
    cases vs with
    | nil => simp only [wrs]; exact fun _ h => nomatch h
    | cons u us =>
      simp only [wrs]
      exact asc_app (ih u List.mem_cons_self) (hT us fun x hx => ih x (List.mem_cons_of_mem _ hx))
/-! ### the law -/
abbrev S_law : FS := S_LAW
def b_law_7 : DS :=
  dApp 2 (dFr (dVar 4))
def b_law_5 : DS :=
  dSeq (dFor (dRng1 (dConsL (dFr (dCall [0] 2 S__law_next [] (dCons (dPk 1) (dCons (dO (dC (.int 4))) (dNil))))) (dNilL))) (dgN 5) (dSet 4 (dFr (dTup (dConsL (dVar 4) (dNilL))))))
  (b_law_7)
def b_law_21 : DS :=
  dIfS (dAndT (dB (d2 (oEq id) (dO (d2 oIx (dPk 9) (dO (dC (.int 0))))) (dO (dC (.str [114, 101, 97, 100]))))) (dB (d2 (oEq not) (dO (dFr (dCall [] 1 (S_write_value 10) [] (dCons (dO (d2 oIx (dPk 7) (dO (dC (.int 1))))) (dNil))))) (dPk 8)))) (dRet (dFr (dC (.bl false)))) (dSkip)
def b_law_19 : DS :=
  dSeq (dIfS (dOrT (dB (d2 (oEq not) (dO (d2 oIx (dPk 7) (dO (dC (.int 0))))) (dO (d2 oIx (dPk 9) (dO (dC (.int 0))))))) (dAndT (dB (d2 (oEq id) (dO (d2 oIx (dPk 9) (dO (dC (.int 0))))) (dO (dC (.str [98, 97, 100]))))) (dB (d2 (oEq not) (dPk 7) (dPk 9))))) (dRet (dFr (dC (.bl false)))) (dSkip))
  (b_law_21)
def b_law_18 : DS :=
  dSeq (dSet 7 (dCall [] 1 S__law_read [] (dCons (dO (dVar 8)) (dNil))))
  (b_law_19)
def b_law_17 : DS :=
  dSeq (dSet 9 (dCall [] 1 S__law_due [] (dCons (dO (dVar 8)) (dNil))))
  (b_law_18)
def b_law_15 : DS :=
  dFor (dRng1 (dConsL (dC (.int 8)) (dNilL))) (dgN 5) (dSeq (dSet 8 (dCall [0] 3 S__law_spoilt [] (dCons (dPk 1) (dCons (dO (d2 oIx (dPk 6) (dPk 3))) (dCons (dO (d2 oIx (dPk 6) (dO (d2 (oInt cMod gMod) (dO (d2 oAdd (dPk 3) (dO (dC (.int 1))))) (dO (dC (.int 3))))))) (dNil))))))
  (b_law_17))
def b_law_13 : DS :=
  dSeq (dIfS (dOrT (dB (d2 (oEq not) (dO (d2 oIx (dPk 7) (dO (dC (.int 0))))) (dO (dC (.str [114, 101, 97, 100]))))) (dB (d2 (oEqS not) (dO (dReprA (d2 oIx (dPk 7) (dO (dC (.int 1)))))) (dO (dReprA (d2 oIx (dPk 2) (dPk 3))))))) (dRet (dFr (dC (.bl false)))) (dSkip))
  (b_law_15)
def b_law_12 : DS :=
  dSeq (dSet 7 (dCall [] 1 S__law_read [] (dCons (dO (d2 oIx (dPk 6) (dPk 3))) (dNil))))
  (b_law_13)
def b_law_23 : DS :=
  dRet (dFr (d2 (oEq id) (dO (dFr (dCall [] 1 S__law_read [] (dCons (dO (dC (.str []))) (dNil))))) (dO (dTup (dConsL (dC (.str [98, 97, 100])) (dConsL (dC (.int 0)) (dNilL)))))))
def b_law_9 : DS :=
  dSeq (dFor (dRng1 (dConsL (dC (.int 3)) (dNilL))) (dgN 3) (dSeq (dIfS (dB (d2 (oEq not) (dO (dFr (dCall [] 1 (S_write_value 10) [] (dCons (dO (d2 oIx (dPk 2) (dPk 3))) (dNil))))) (dO (d2 oIx (dPk 6) (dPk 3))))) (dRet (dFr (dC (.bl false)))) (dSkip))
  (b_law_12)))
  (b_law_23)
def b_law_8 : DS :=
  dSeq (dSet 6 (dFr (dLc (dItV 2) (dgN 4) (dYes) (dFr (dCall [] 1 (S__law_written 10) [] (dCons (dO (dVar 4)) (dNil)))) [4])))
  (b_law_9)
def b_law_3 : DS :=
  dSeq (dFor (dRng1 (dConsL (dC (.int 3)) (dNilL))) (dgN 3) (dSeq (dSet 4 (dCall [0] 2 (S__law_value 6) [] (dCons (dPk 1) (dCons (dO (d2 oAdd (dO (dC (.int 1))) (dO (dFr (dCall [0] 2 S__law_next [] (dCons (dPk 1) (dCons (dO (dC (.int 5))) (dNil)))))))) (dNil)))))
  (b_law_5)))
  (b_law_8)
def b_law_2 : DS :=
  dSeq (dSet 2 (dOwnL (dNilL)))
  (b_law_3)
def b_law : DS :=
  dSeq (dSet 1 (dCall [] 3 S__law_state [] (dCons (dO (dVar 0)) (dCons (dO (dC (.int 0))) (dCons (dO (dC (.int 10))) (dNil))))))
  (b_law_2)
theorem p_law : ∀ args K', args.length = 1 → S_law args K' → b_law (args ++ List.replicate 9 .und) (endK 1 K') := by
  rintro args K' - ⟨ns, rfl, hl, kk⟩
  show b_law [.klst (ns.map .int), .und, .und, .und, .und, .und, .und, .und, .und, .und] _
  unfold b_law
  simp! only [gt0]
  refine call_step rfl rfl rfl ⟨ns, 0, 10, rfl, by decide, by decide, by decide, by decide, fun nums posts hn hp => ⟨hp, ?_⟩⟩
  have n0 : 0 < nums.length := by rw [hn]; decide
  have n1 : nums.length ≤ 100000 := by rw [hn]; decide
  simp! only [b_law_2]
  refine ⟨by decide, ?_⟩
  simp! only [b_law_3]
  refine ⟨⟨by decide, by decide⟩, ?_⟩
  refine for_dn (fun i ρ => ∃ (p' : Int) (vs : List Vl) (x3 x4 x5 x6 x7 x8 x9 : D), ρ = [.klst (ns.map .int), stD nums p', .lst true (vs.map vD), x3, x4, x5, x6, x7, x8, x9] ∧ vs.length = i ∧ own x4 = false ∧ ∀ v ∈ vs, Gd 8 v ∧ (wr v).length ≤ 15000) ⟨_, [], .und, .und, .und, .und, .und, .und, .und, rfl, rfl, rfl, fun _ h => nomatch h⟩ ?_ ?_
  · rintro i d ρ N hd ⟨p', vs, x3, x4, x5, x6, x7, x8, x9, rfl, hr, o4, ok⟩ kN
    obtain ⟨hi, rfl⟩ := rngD_get hd
    simp! only [gt0]
    refine call_step rfl rfl rfl ⟨nums, p', 5, rfl, n0, n1, by decide, fun u x u0 u1 => ⟨rfl, ?_⟩⟩
    obtain ⟨e, rfl⟩ : ∃ e : Nat, u = e := ⟨u.toNat, by omega⟩
    simp! only [gt0]
    refine call_step rfl rfl rfl ⟨nums, _, 1 + e, by rw [show ((1 + e : Nat) : Int) = 1 + (e : Int) by omega]; rfl, n0, n1, by omega, fun p2 v x hg hlv => ⟨rfl, ?_⟩⟩
    simp! only [own_vl, fr_vl, nz_vl, dAt_vl]
    have l5 : Lb (1 + e) ≤ 11262 := by
      have he : e = 0 ∨ e = 1 ∨ e = 2 ∨ e = 3 ∨ e = 4 := by omega
      rcases he with rfl | rfl | rfl | rfl | rfl <;> decide
    simp! only [b_law_5]
    refine call_step rfl rfl rfl ⟨nums, p2, 4, rfl, n0, n1, by decide, fun u x u0 u1 => ⟨rfl, ?_⟩⟩
    simp! only [gt0]
    refine ⟨⟨by omega, by omega⟩, ?_⟩
    refine for_dn (fun j ρ => ∃ (v : Vl) (y5 : D), ρ = [.klst (ns.map .int), stD nums (p2 + 1), .lst true (vs.map vD), .int (0 + (i : Int)), vD v, y5, x6, x7, x8, x9] ∧ Gd (5 + j) v ∧ (wr v).length ≤ 11262 + 2 * j) ⟨v, _, rfl, hg.mono (by omega), by omega⟩ ?_ ?_
    · rintro j d ρ N2 hd ⟨v, y5, rfl, hgv, hlv⟩ kN2
      obtain ⟨hj, rfl⟩ := rngD_get hd
      simp! only [own_vl, fr_vl, nz_vl, dAt_vl]
      refine ⟨by decide, kN2 _ ⟨.tup [v], .int (0 + (j : Int)), ?_, .tup (fun x hx => by rw [List.mem_singleton.mp hx]; exact hgv), ?_⟩⟩
      · simp only [vD, vDs]
      · simp only [wr, wrs, wrT, List.length_cons, List.length_append, List.length_nil]
        omega
    · rintro ρ ⟨v, y5, rfl, hgv, hlv⟩
      rw [rngD_len] at hgv hlv
      simp! only [b_law_7, own_vl, fr_vl, nz_vl, dAt_vl, List.length_map]
      refine ⟨by omega, kN _ ⟨_, vs ++ [v], _, _, _, _, _, _, _, by rw [List.map_append]; rfl, by rw [List.length_append, hr]; rfl, own_vl _, fun w hw => (List.mem_append.mp hw).elim (ok w) fun h => by
        rw [List.mem_singleton.mp h]
        exact ⟨hgv.mono (by omega), by omega⟩⟩⟩
  · rintro ρ ⟨p', vs, x3, x4, x5, x6, x7, x8, x9, rfl, hr, o4, ok⟩
    rw [rngD_len] at hr
    have hr : vs.length = 3 := hr
    simp! only [b_law_8, o4]
    refine ⟨by rw [List.length_map]; omega, ?_⟩
    refine lc_dn (fun i acc => acc = (vs.take i).map fun v => D.str (wr v)) rfl ?_ ?_
    · rintro i d acc N hd rfl kN
      obtain ⟨v, hv, rfl⟩ := map_get hd
      obtain ⟨g1, g2⟩ := ok v (List.mem_of_getElem? hv)
      simp! only [own_vl, fr_vl, nz_vl, dAt_vl]
      refine call_step rfl rfl rfl ⟨v, 8, by simp only [List.map_cons, List.map_nil, sea_v, fr_vl], g1, by decide, by omega, fun posts hp => ⟨hp, ?_⟩⟩
      simp! only [own_vl, fr_vl, nz_vl, dAt_vl]
      refine kN _ ?_
      rw [take_get hv, List.map_append]
      rfl
    · rintro acc rfl
      rw [List.length_map, List.take_length]
      simp! only [b_law_9]
      refine ⟨⟨by decide, by decide⟩, ?_⟩
      have gv : ∀ k : Nat, k < 3 → ∃ v, vs[k]? = some v ∧ Gd 8 v ∧ (wr v).length ≤ 15000 := fun k hk => by
        have hk : k < vs.length := by omega
        exact ⟨vs[k], List.getElem?_eq_getElem hk, ok _ (List.getElem_mem hk)⟩
      have atV : ∀ (k : Nat) (v : Vl), vs[k]? = some v → atI (vs.map vD) (k : Int) = some (vD v) := fun k v h => by
        have hk := (List.getElem?_eq_some_iff.mp h).1
        have z := map_at (f := vD) (l := vs) (i := k) (d := .bl true) hk
        rw [List.getD_eq_getElem?_getD, h] at z
        exact z
      have atT : ∀ (k : Nat) (v : Vl), vs[k]? = some v → atI (vs.map fun v => D.str (wr v)) (k : Int) = some (.str (wr v)) := fun k v h => by
        have hk := (List.getElem?_eq_some_iff.mp h).1
        have z := map_at (f := fun v => D.str (wr v)) (l := vs) (i := k) (d := .bl true) hk
        rw [List.getD_eq_getElem?_getD, h] at z
        exact z
      refine for_dn (fun _ ρ => ∃ (p' : Int) (y3 y5 y7 y8 y9 : D), ρ = [.klst (ns.map .int), stD nums p', .lst false (vs.map vD), y3, x4, y5, .lst false (vs.map fun v => D.str (wr v)), y7, y8, y9]) ⟨_, _, _, _, _, _, rfl⟩ ?_ ?_
      · rintro i d ρ N hd ⟨p', y3, y5, y7, y8, y9, rfl⟩ kN
        obtain ⟨hi, rfl⟩ := rngD_get hd
        have hi3 : i < 3 := hi
        rw [Int.zero_add]
        obtain ⟨v, ev, g1, g2⟩ := gv i hi3
        have aw := asc_of (wr_asc g1)
        simp! only [gt0]
        refine atD_of (atV i v ev) (own_vl v) ?_
        refine call_step rfl rfl rfl ⟨v, 8, by simp only [List.map_cons, List.map_nil, sea_v, fr_vl], g1, by decide, by omega, fun posts hp => ⟨hp, ?_⟩⟩
        simp! only [own_vl, fr_vl, nz_vl, dAt_vl]
        refine atD_of (atT i v ev) rfl ?_
        simp! only [aw, beq_self_eq_true]
        simp! only [b_law_12]
        refine atD_of (atT i v ev) rfl ?_
        try simp! only [gt0]
        refine call_step rfl rfl rfl ⟨wr v, rfl, ⟨by omega, wr_asc g1⟩, fun posts hp => ⟨hp, ?_⟩⟩
        rw [told_wr g1]
        simp! only [own_vl, fr_vl, nz_vl, dAt_vl]
        have j0 : ∀ a b : D, atI [a, b] 0 = some a := fun _ _ => rfl
        have j1 : ∀ a b : D, atI [a, b] 1 = some b := fun _ _ => rfl
        have s1 : shOkA (vD v) := vl_shows g1 (by decide) (by omega)
        simp! only [b_law_13]
        refine atD_of (j0 _ _) rfl ?_
        simp! only [gt0]
        refine ⟨by decide, by decide, if_rf rfl (atD_of (j1 _ _) (own_vl v) ⟨s1, atD_of (atV i v ev) (own_vl v) ⟨s1, if_rf (by rw [decide_eq_true rfl]; rfl) ?_⟩⟩)⟩
        simp! only [b_law_15]
        refine ⟨⟨by decide, by decide⟩, ?_⟩
        refine for_dn (fun _ ρ => ∃ (p' : Int) (y5 y7 y8 y9 : D), ρ = [.klst (ns.map .int), stD nums p', .lst false (vs.map vD), .int (i : Int), x4, y5, .lst false (vs.map fun v => D.str (wr v)), y7, y8, y9]) ⟨_, _, _, _, _, rfl⟩ ?_ ?_
        · rintro i2 d ρ N2 hd2 ⟨p', y5, y7, y8, y9, rfl⟩ kN2
          obtain ⟨hi2, rfl⟩ := rngD_get hd2
          obtain ⟨i3, ei3, hi33⟩ : ∃ i3 : Nat, ((i : Int) + 1) % 3 = i3 ∧ i3 < 3 := ⟨(((i : Int) + 1) % 3).toNat, by omega, by omega⟩
          obtain ⟨u, eu, u1, u2⟩ := gv i3 hi33
          simp! only [gt0]
          refine atD_of (atT i v ev) rfl ?_
          simp! only [ei3]
          refine ⟨by unfold cMod; omega, atD_of (atT i3 u eu) rfl ?_⟩
          refine call_step rfl rfl rfl ⟨nums, p', wr v, wr u, rfl, n0, n1, wr_asc g1, wr_asc u1, by omega, by omega, fun p2 s x y hs hsl => ⟨rfl, ?_⟩⟩
          have rs : Rd s := ⟨by omega, hs⟩
          simp! only [b_law_17]
          refine call_step rfl rfl rfl ⟨s, rfl, rs, fun R hR => ⟨rfl, ?_⟩⟩
          rcases told_due s R hR with ⟨v2, hg2, hw2, et, ed⟩ | ⟨k, et, ed⟩
          · rw [ed]
            simp! only [readD, b_law_18]
            refine call_step rfl rfl rfl ⟨s, rfl, rs, fun posts hp => ⟨hp, ?_⟩⟩
            rw [et]
            simp! only [own_vl, fr_vl, nz_vl, dAt_vl]
            simp! only [b_law_19]
            refine atD_of (j0 _ _) rfl ?_
            try simp! only [gt0]
            refine atD_of (j0 _ _) rfl ?_
            simp! only [gt0]
            refine ⟨by decide, by decide, if_rf rfl ?_⟩
            refine atD_of (j0 _ _) rfl ?_
            simp! only [gt0]
            refine ⟨by decide, by decide, if_rf (by decide) ?_⟩
            simp! only [b_law_21]
            refine atD_of (j0 _ _) rfl ?_
            simp! only [gt0]
            refine ⟨by decide, by decide, if_rt rfl ?_⟩
            refine atD_of (j1 _ _) (own_vl v2) ?_
            try simp! only [own_vl, fr_vl, nz_vl, dAt_vl]
            refine call_step rfl rfl rfl ⟨v2, 8, by simp only [List.map_cons, List.map_nil, sea_v, fr_vl], hg2, by decide, by rw [← hw2]; omega, fun posts hp => ⟨hp, ?_⟩⟩
            simp! only [asc_of hs, ← hw2, beq_self_eq_true]
            exact kN2 _ ⟨_, _, _, _, _, rfl⟩
          · rw [ed]
            simp! only [badD, b_law_18]
            refine call_step rfl rfl rfl ⟨s, rfl, rs, fun posts hp => ⟨hp, ?_⟩⟩
            rw [et]
            simp! only [badD]
            simp! only [b_law_19]
            refine atD_of (j0 _ _) rfl ?_
            try simp! only [gt0]
            refine atD_of (j0 _ _) rfl ?_
            simp! only [beq_self_eq_true]
            refine ⟨by decide, by decide, ?_⟩
            refine atD_of (j0 _ _) rfl ?_
            simp! only [beq_self_eq_true]
            refine ⟨by decide, by decide, by decide, by decide, ?_⟩
            simp! only [b_law_21]
            refine atD_of (j0 _ _) rfl ?_
            simp! only [gt0]
            refine ⟨by decide, by decide, if_rf (by decide) ?_⟩
            exact kN2 _ ⟨_, _, _, _, _, rfl⟩
        · rintro ρ ⟨p', y5, y7, y8, y9, rfl⟩
          exact kN _ ⟨_, _, _, _, _, _, rfl⟩
      · rintro ρ ⟨p', y3, y5, y7, y8, y9, rfl⟩
        simp! only [b_law_23]
        refine call_step rfl rfl rfl ⟨[], rfl, ⟨by decide, fun _ h => nomatch h⟩, fun posts hp => ⟨hp, ?_⟩⟩
        have e : toldV [] = .tup [.str [98, 97, 100], .int 0] := rfl
        rw [e]
        simp! only [beq_self_eq_true]
        exact ⟨by decide, by decide, by decide, kk _ rfl⟩


abbrev ctx (K : PySem.W.Frag) (cls fnA : Nat → Addr) : Ct := ⟨K, cls, fldT, fnA⟩
/-- what the top has written -/
structure Txt (P : Program) (K : PySem.W.Frag) (mg : Str → Option Value) (cls fnA : Nat → Addr) (fd : Nat → FuncData) (D fI : Addr) : Prop where
  z_abs : mg "abs" = none
  z_bool : mg "bool" = none
  z_int : mg "int" = none
  z_isinstance : mg "isinstance" = none
  z_len : mg "len" = none
  z_range : mg "range" = none
  z_repr : mg "repr" = none
  z_str : mg "str" = none
  z_tuple : mg "tuple" = none
  z_super : mg "super" = none
  g_LETTERS : GS mg "LETTERS" s_LETTERS
  g_MOST_DIGITS : GI mg "MOST_DIGITS" 9
  g_MOST_OPEN : GI mg "MOST_OPEN" 8
  base : PySem.AnyX.Base P K D fI
  kinds : ∀ C, fam C = true → PySem.AnyX.Kind K D fI (cls C)
  gc : ∀ j nm, errNm j = some nm → mg nm = some (.ref (cls j))
  exm : ∀ j C b, subE j C = some b → PySem.W.exmOne K (.ref (cls C)) (.ref (cls j)) = some b
  kit : ∀ j C b, subE j C = some b → ExcC K (cls C) ∧ PySem.W.kitOne K (.ref (cls C)) (.ref (cls j)) = some b
  kits : ∀ js C b, subsE js C = some b → (∀ j ∈ js, j < nErr) → ExcC K (cls C) ∧ PySem.W.kitAny K (.ref (cls C)) (js.map fun j => .ref (cls j)) = some b
  kitV : ∀ C b, allE C = some b → ExcC K (cls C) ∧ PySem.W.kitOne K (.ref (cls C)) (.type "ValueError") = some b
  g_ValueReader : mg "ValueReader" = some (.ref (cls 6))
  cl_ValueReader : Cls K (cls 6)
  na_ValueReader__text : NoAttr K (cls 6) "_text"
  na_ValueReader__place : NoAttr K (cls 6) "_place"
  mk_ValueReader : Mk K (cls 6) (fnA 12)
  F_write_value : Fun K "write_value" "write_value" st_write_value (fnA 0) (fd 0)
  g_write_value : mg "write_value" = some (.ref (fnA 0))
  k_write_value : PySem.W.keepIn K (.ref (fnA 0)) = true
  b_write_value : Binds K (fd 0) ["value"] []
  F_ValueReader___init__ : Fun K "__init__" "ValueReader.__init__" st_ValueReader___init__ (fnA 12) (fd 12)
  b_ValueReader___init__ : Binds K (fd 12) ["self", "text"] []
  F_ValueReader__next : Fun K "_next" "ValueReader._next" st_ValueReader__next (fnA 13) (fd 13)
  me_ValueReader__next : Meth K (cls 6) "_next" (fnA 13)
  b_ValueReader__next : Binds K (fd 13) ["self"] []
  F_ValueReader__step : Fun K "_step" "ValueReader._step" st_ValueReader__step (fnA 14) (fd 14)
  me_ValueReader__step : Meth K (cls 6) "_step" (fnA 14)
  b_ValueReader__step : Binds K (fd 14) ["self"] []
  F_ValueReader__letters : Fun K "_letters" "ValueReader._letters" st_ValueReader__letters (fnA 17) (fd 17)
  me_ValueReader__letters : Meth K (cls 6) "_letters" (fnA 17)
  b_ValueReader__letters : Binds K (fd 17) ["self"] []
  F_ValueReader__number : Fun K "_number" "ValueReader._number" st_ValueReader__number (fnA 19) (fd 19)
  me_ValueReader__number : Meth K (cls 6) "_number" (fnA 19)
  b_ValueReader__number : Binds K (fd 19) ["self", "first"] []
  F_ValueReader__items : Fun K "_items" "ValueReader._items" st_ValueReader__items (fnA 18) (fd 18)
  me_ValueReader__items : Meth K (cls 6) "_items" (fnA 18)
  b_ValueReader__items : Binds K (fd 18) ["self", "depth"] []
  F_ValueReader__value : Fun K "_value" "ValueReader._value" st_ValueReader__value (fnA 16) (fd 16)
  me_ValueReader__value : Meth K (cls 6) "_value" (fnA 16)
  b_ValueReader__value : Binds K (fd 16) ["self", "depth"] []
  F_ValueReader_whole : Fun K "whole" "ValueReader.whole" st_ValueReader_whole (fnA 15) (fd 15)
  me_ValueReader_whole : Meth K (cls 6) "whole" (fnA 15)
  b_ValueReader_whole : Binds K (fd 15) ["self"] []
  F_read_value : Fun K "read_value" "read_value" st_read_value (fnA 1) (fd 1)
  g_read_value : mg "read_value" = some (.ref (fnA 1))
  k_read_value : PySem.W.keepIn K (.ref (fnA 1)) = true
  b_read_value : Binds K (fd 1) ["text"] []
  F__law_cell : Fun K "_law_cell" "_law_cell" st__law_cell (fnA 2) (fd 2)
  g__law_cell : mg "_law_cell" = some (.ref (fnA 2))
  k__law_cell : PySem.W.keepIn K (.ref (fnA 2)) = true
  b__law_cell : Binds K (fd 2) ["_law_script", "_law_k"] []
  F__law_numbers : Fun K "_law_numbers" "_law_numbers" st__law_numbers (fnA 3) (fd 3)
  g__law_numbers : mg "_law_numbers" = some (.ref (fnA 3))
  k__law_numbers : PySem.W.keepIn K (.ref (fnA 3)) = true
  b__law_numbers : Binds K (fd 3) ["_law_cell_here", "_law_many"] []
  F__law_state : Fun K "_law_state" "_law_state" st__law_state (fnA 4) (fd 4)
  g__law_state : mg "_law_state" = some (.ref (fnA 4))
  k__law_state : PySem.W.keepIn K (.ref (fnA 4)) = true
  b__law_state : Binds K (fd 4) ["_law_script", "_law_start", "_law_many"] []
  F__law_next : Fun K "_law_next" "_law_next" st__law_next (fnA 5) (fd 5)
  g__law_next : mg "_law_next" = some (.ref (fnA 5))
  k__law_next : PySem.W.keepIn K (.ref (fnA 5)) = true
  b__law_next : Binds K (fd 5) ["_law_state_here", "_law_many"] []
  F__law_value : Fun K "_law_value" "_law_value" st__law_value (fnA 6) (fd 6)
  g__law_value : mg "_law_value" = some (.ref (fnA 6))
  k__law_value : PySem.W.keepIn K (.ref (fnA 6)) = true
  b__law_value : Binds K (fd 6) ["_law_state_here", "_law_deep"] []
  F__law_written : Fun K "_law_written" "_law_written" st__law_written (fnA 7) (fd 7)
  g__law_written : mg "_law_written" = some (.ref (fnA 7))
  k__law_written : PySem.W.keepIn K (.ref (fnA 7)) = true
  b__law_written : Binds K (fd 7) ["_law_value_here"] []
  F__law_read : Fun K "_law_read" "_law_read" st__law_read (fnA 8) (fd 8)
  g__law_read : mg "_law_read" = some (.ref (fnA 8))
  k__law_read : PySem.W.keepIn K (.ref (fnA 8)) = true
  b__law_read : Binds K (fd 8) ["_law_text"] []
  F__law_due : Fun K "_law_due" "_law_due" st__law_due (fnA 9) (fd 9)
  g__law_due : mg "_law_due" = some (.ref (fnA 9))
  k__law_due : PySem.W.keepIn K (.ref (fnA 9)) = true
  b__law_due : Binds K (fd 9) ["_law_text"] []
  F__law_spoilt : Fun K "_law_spoilt" "_law_spoilt" st__law_spoilt (fnA 10) (fd 10)
  g__law_spoilt : mg "_law_spoilt" = some (.ref (fnA 10))
  k__law_spoilt : PySem.W.keepIn K (.ref (fnA 10)) = true
  b__law_spoilt : Binds K (fd 10) ["_law_state_here", "_law_text", "_law_other"] []
  F_law : Fun K "law" "law" st_law (fnA 11) (fd 11)
  g_law : mg "law" = some (.ref (fnA 11))
  k_law : PySem.W.keepIn K (.ref (fnA 11)) = true
  b_law : Binds K (fd 11) ["_law_script"] []
section
variable {P : Program} {w : World} {K : PySem.W.Frag} {mg : Str → Option Value} {base : Heap} {cls fnA : Nat → Addr} {fd : Nat → FuncData} {D fI : Addr}
theorem okr_write_value (T : Txt P K mg cls fnA fd D fI) (n : Nat) (ih : FnOk P w K mg base (L2.CX P w) (lv_write_value n) (fnA 0) (fd 0) ["value"] (spOf (ctx K cls fnA) [] 1 (S_write_value n))) : FnOk P w K mg base (L2.CX P w) (lv_write_value n + 0 + 1) (fnA 0) (fd 0) ["value"] (spOf (ctx K cls fnA) [] 1 (S_write_value (n + 1))) :=
  fn_ok (S := S_write_value (n + 1)) (B := b_write_value n) (k := lv_write_value n + 0) T.F_write_value sc_write_value (fun cdv A outer s H E hr => by
  unfold b_write_value
  exact (SS_cons (S_if (T_val (E_isi .tuple rfl (O_pk 0) (pe_bltn rfl T.z_tuple (by decide +kernel) rfl) rfl T.z_isinstance) (by intro _; rfl)) (SS_one (S_ret (N_of (E_op or_add b2_add (O_of (E_op or_add b2_add (O_of (E_str (l := [40]) (by decide +kernel))) (O_of (E_join rfl (E_str (l := [32]) (by decide +kernel)) (O_of (E_lc (own' := [("item", 1)]) (io := [0]) rfl sc_write_value.nd (show ∀ i, i < 2 → i ∉ ([1] : List Nat) → i ∈ ([0] : List Nat) by decide) (I_var (I_list rfl (E_var 0)) (I_tup rfl (E_var 0)) (I_str (E_var 0))) ⟨⟨rfl, by decide +kernel, (by dsimp only [cxOf, envOfC]; decide +kernel), (by dsimp only [cxOf, envOfC]; decide +kernel), (by dsimp only [cxOf, envOfC]; decide +kernel)⟩, fun _ _ _ _ _ => (G_name (i := 1) sc_write_value.nd rfl (by first | exact Or.inl rfl | exact Or.inr rfl) (show ¬ (1 ∈ ([0] : List Nat)) by decide)), fun _ _ _ _ _ => Ts_nil, fun _ _ _ _ _ => (E_of_N (N_call ih (hr.mono (by have := lvge_write_value n; omega)) takes0 rfl T.g_write_value T.k_write_value T.b_write_value .nil Dft.nil (A_cons (O_of (E_var 1)) A_nil)))⟩)))))) (O_of (E_str (l := [41]) (by decide +kernel))))))) SS_nil)
  (SS_cons (S_if (T_val (E_isi .bool rfl (O_pk 0) (pe_bltn rfl T.z_bool (by decide +kernel) rfl) rfl T.z_isinstance) (by intro _; rfl)) (SS_one (S_ret (N_of (E_if (T_tru rfl (O_pk 0) (by intro _; rfl)) (E_str (l := [84]) (by decide +kernel)) (E_str (l := [70]) (by decide +kernel)))))) SS_nil)
  (SS_one (S_ret (N_of (E_if (T_val (E_isi .str rfl (O_pk 0) (pe_bltn rfl T.z_str (by decide +kernel) rfl) rfl T.z_isinstance) (by intro _; rfl)) (E_op or_add b2_add (O_of (E_op or_add b2_add (O_of (E_str (l := [39]) (by decide +kernel))) (O_pk 0))) (O_of (E_str (l := [39]) (by decide +kernel)))) (E_ty call_str_int ba_strN rfl T.z_str (by decide +kernel) (A_cons (O_pk 0) A_nil))))))))) (by decide) (p_write_value n)
theorem ok_write_value (T : Txt P K mg cls fnA fd D fI) (n : Nat) : FnOk P w K mg base (L2.CX P w) (lv_write_value n) (fnA 0) (fd 0) ["value"] (spOf (ctx K cls fnA) [] 1 (S_write_value n)) := by
  induction n with
  | zero => exact fn_none z_write_value
  | succ n ih => exact okr_write_value T n ih
theorem ok_ValueReader___init__ (T : Txt P K mg cls fnA fd D fI) : FnOk P w K mg base (L2.CX P w) 1 (fnA 12) (fd 12) ["self", "text"] (spOf (ctx K cls fnA) [0] 2 S_ValueReader___init__) :=
  fn_ok (S := S_ValueReader___init__) (B := b_ValueReader___init__) T.F_ValueReader___init__ sc_ValueReader___init__ (fun cdv A outer s H E hr => by
  unfold b_ValueReader___init__
  exact (SS_cons (S_fld (C := 6) (i := 0) (j := 0) T.cl_ValueReader T.na_ValueReader__text rfl (by decide) (show (fldT 6).Nodup by decide) rfl (by first | exact Or.inl rfl | exact Or.inr (Or.inl rfl) | exact Or.inr (Or.inr rfl)) (E_var 1))
  (SS_one (S_fld (C := 6) (i := 0) (j := 1) T.cl_ValueReader T.na_ValueReader__place rfl (by decide) (show (fldT 6).Nodup by decide) rfl (by first | exact Or.inl rfl | exact Or.inr (Or.inl rfl) | exact Or.inr (Or.inr rfl)) E_int)))) (by decide) p_ValueReader___init__
theorem ok_ValueReader__next (T : Txt P K mg cls fnA fd D fI) : FnOk P w K mg base (L2.CX P w) 1 (fnA 13) (fd 13) ["self"] (spOf (ctx K cls fnA) [0] 1 S_ValueReader__next) :=
  fn_ok (S := S_ValueReader__next) (B := b_ValueReader__next) T.F_ValueReader__next sc_ValueReader__next (fun cdv A outer s H E hr => by
  unfold b_ValueReader__next
  exact (SS_one (S_ret (N_of (E_sl rfl (O_of (E_fld (C := 6) (j := 0) T.cl_ValueReader T.na_ValueReader__text rfl (show (fldT 6).Nodup by decide) (O_pk 0))) (P_some (E_fld (C := 6) (j := 1) T.cl_ValueReader T.na_ValueReader__place rfl (show (fldT 6).Nodup by decide) (O_pk 0))) (P_some (E_op or_add b2_add (O_of (E_fld (C := 6) (j := 1) T.cl_ValueReader T.na_ValueReader__place rfl (show (fldT 6).Nodup by decide) (O_pk 0))) (O_of E_int)))))))) (by decide) p_ValueReader__next
theorem ok_ValueReader__step (T : Txt P K mg cls fnA fd D fI) : FnOk P w K mg base (L2.CX P w) 2 (fnA 14) (fd 14) ["self"] (spOf (ctx K cls fnA) [0] 1 S_ValueReader__step) :=
  fn_ok (S := S_ValueReader__step) (B := b_ValueReader__step) T.F_ValueReader__step sc_ValueReader__step (fun cdv A outer s H E hr => by
  unfold b_ValueReader__step
  exact (SS_cons (S_set (i := 1) sc_ValueReader__step.nd rfl (by first | exact Or.inl rfl | exact Or.inr rfl) (show ¬ (1 ∈ ([0] : List Nat)) by decide) (N_meth0 (C := 6) (O_pk 0) T.cl_ValueReader T.me_ValueReader__next (show ¬ (("_next" : Str) ∈ fldT 6) by decide) (ok_ValueReader__next T) (hr.mono (by decide)) (takes_of rfl rfl rfl rfl) T.b_ValueReader__next .nil Dft.nil))
  (SS_cons (S_if (T_cmp (op_eqD (un64 hr)) b2_eqD (O_pk 1) (O_of (E_str (l := []) (by decide +kernel))) (by with_unfolding_all rfl)) (SS_one (S_raise (C := 5) (k := 0) rfl (takes_of rfl rfl rfl rfl) T.base (T.kinds 5 rfl) T.z_super (hr.mono (by decide)) (T.gc 5 "BadRecord" rfl) (E_fld (C := 6) (j := 1) T.cl_ValueReader T.na_ValueReader__place rfl (show (fldT 6).Nodup by decide) (O_pk 0)) rfl)) SS_nil)
  (SS_cons (S_fldU (C := 6) (i := 0) (j := 1) T.cl_ValueReader T.na_ValueReader__place rfl (show (fldT 6).length < 1000 by decide) (show (fldT 6).Nodup by decide) rfl (by first | exact Or.inl rfl | exact Or.inr (Or.inl rfl) | exact Or.inr (Or.inr rfl)) (E_op or_add b2_add (O_of (E_fld (C := 6) (j := 1) T.cl_ValueReader T.na_ValueReader__place rfl (show (fldT 6).Nodup by decide) (O_pk 0))) (O_of E_int)))
  (SS_one (S_ret (N_of (E_var 1)))))))) (by decide) p_ValueReader__step
theorem ok_ValueReader__letters (T : Txt P K mg cls fnA fd D fI) : FnOk P w K mg base (L2.CX P w) 3 (fnA 17) (fd 17) ["self"] (spOf (ctx K cls fnA) [0] 1 S_ValueReader__letters) :=
  fn_ok (S := S_ValueReader__letters) (B := b_ValueReader__letters) T.F_ValueReader__letters sc_ValueReader__letters (fun cdv A outer s H E hr => by
  unfold b_ValueReader__letters
  exact (SS_cons (S_set (i := 1) sc_ValueReader__letters.nd rfl (by first | exact Or.inl rfl | exact Or.inr rfl) (show ¬ (1 ∈ ([0] : List Nat)) by decide) (N_of (E_str (l := []) (by decide +kernel))))
  (SS_cons (S_while (passes_of rfl) (PW.pt (W_and (T_cmp (op_neD (un64 hr)) b2_neD (O_of (E_of_N (N_meth0 (C := 6) (O_pk 0) T.cl_ValueReader T.me_ValueReader__next (show ¬ (("_next" : Str) ∈ fldT 6) by decide) (ok_ValueReader__next T) (hr.mono (by decide)) (takes_of rfl rfl rfl rfl) T.b_ValueReader__next .nil Dft.nil))) (O_of (E_str (l := []) (by decide +kernel))) (by with_unfolding_all rfl)) (W_and1 (T_cmp op_in_sign (b2_inS (g := id)) (O_of (E_of_N (N_meth0 (C := 6) (O_pk 0) T.cl_ValueReader T.me_ValueReader__next (show ¬ (("_next" : Str) ∈ fldT 6) by decide) (ok_ValueReader__next T) (hr.mono (by decide)) (takes_of rfl rfl rfl rfl) T.b_ValueReader__next .nil Dft.nil))) (O_of (E_gS rfl T.g_LETTERS)) (by with_unfolding_all rfl))))) (SS_one (S_set (i := 1) sc_ValueReader__letters.nd rfl (by first | exact Or.inl rfl | exact Or.inr rfl) (show ¬ (1 ∈ ([0] : List Nat)) by decide) (N_of (E_op or_add b2_add (O_pk 1) (O_of (E_of_N (N_meth0 (C := 6) (O_pk 0) T.cl_ValueReader T.me_ValueReader__step (show ¬ (("_step" : Str) ∈ fldT 6) by decide) (ok_ValueReader__step T) (hr.mono (by decide)) (takes_of rfl rfl rfl rfl) T.b_ValueReader__step .nil Dft.nil))))))))
  (SS_cons (S_if (T_cmp (op_neD (un64 hr)) b2_neD (O_of (E_of_N (N_meth0 (C := 6) (O_pk 0) T.cl_ValueReader T.me_ValueReader__step (show ¬ (("_step" : Str) ∈ fldT 6) by decide) (ok_ValueReader__step T) (hr.mono (by decide)) (takes_of rfl rfl rfl rfl) T.b_ValueReader__step .nil Dft.nil))) (O_of (E_str (l := [39]) (by decide +kernel))) (by with_unfolding_all rfl)) (SS_one (S_raise (C := 5) (k := 0) rfl (takes_of rfl rfl rfl rfl) T.base (T.kinds 5 rfl) T.z_super (hr.mono (by decide)) (T.gc 5 "BadRecord" rfl) (E_op op_sub (b2_int0 (g := gSub) fun _ _ _ => fz_int) (O_of (E_fld (C := 6) (j := 1) T.cl_ValueReader T.na_ValueReader__place rfl (show (fldT 6).Nodup by decide) (O_pk 0))) (O_of E_int)) rfl)) SS_nil)
  (SS_one (S_ret (N_of (E_var 1)))))))) (by decide) p_ValueReader__letters
theorem ok_ValueReader__number (T : Txt P K mg cls fnA fd D fI) : FnOk P w K mg base (L2.CX P w) 3 (fnA 19) (fd 19) ["self", "first"] (spOf (ctx K cls fnA) [0] 2 S_ValueReader__number) :=
  fn_ok (S := S_ValueReader__number) (B := b_ValueReader__number) T.F_ValueReader__number sc_ValueReader__number (fun cdv A outer s H E hr => by
  unfold b_ValueReader__number
  exact (SS_cons (S_if (T_cmp op_notIn_sign (b2_inS (g := not)) (O_pk 1) (O_of (E_str (l := [48, 49, 50, 51, 52, 53, 54, 55, 56, 57]) (by decide +kernel))) (by with_unfolding_all rfl)) (SS_one (S_raise (C := 5) (k := 0) rfl (takes_of rfl rfl rfl rfl) T.base (T.kinds 5 rfl) T.z_super (hr.mono (by decide)) (T.gc 5 "BadRecord" rfl) (E_op op_sub (b2_int0 (g := gSub) fun _ _ _ => fz_int) (O_of (E_fld (C := 6) (j := 1) T.cl_ValueReader T.na_ValueReader__place rfl (show (fldT 6).Nodup by decide) (O_pk 0))) (O_of E_int)) rfl)) SS_nil)
  (SS_cons (S_set (i := 2) sc_ValueReader__number.nd rfl (by first | exact Or.inl rfl | exact Or.inr rfl) (show ¬ (2 ∈ ([0] : List Nat)) by decide) (N_of (E_var 1)))
  (SS_cons (S_while (passes_of rfl) (PW.pt (W_and (T_cmp (op_neD (un64 hr)) b2_neD (O_pk 1) (O_of (E_str (l := [48]) (by decide +kernel))) (by with_unfolding_all rfl)) (W_and (T_cmp or_lt b2_ord (O_of (E_bi cr_len ba_len rfl T.z_len (by decide +kernel) (A_cons (O_pk 2) A_nil))) (O_of (E_gI rfl T.g_MOST_DIGITS)) (by with_unfolding_all rfl)) (W_and (T_cmp (op_neD (un64 hr)) b2_neD (O_of (E_of_N (N_meth0 (C := 6) (O_pk 0) T.cl_ValueReader T.me_ValueReader__next (show ¬ (("_next" : Str) ∈ fldT 6) by decide) (ok_ValueReader__next T) (hr.mono (by decide)) (takes_of rfl rfl rfl rfl) T.b_ValueReader__next .nil Dft.nil))) (O_of (E_str (l := []) (by decide +kernel))) (by with_unfolding_all rfl)) (W_and1 (T_cmp op_in_sign (b2_inS (g := id)) (O_of (E_of_N (N_meth0 (C := 6) (O_pk 0) T.cl_ValueReader T.me_ValueReader__next (show ¬ (("_next" : Str) ∈ fldT 6) by decide) (ok_ValueReader__next T) (hr.mono (by decide)) (takes_of rfl rfl rfl rfl) T.b_ValueReader__next .nil Dft.nil))) (O_of (E_str (l := [48, 49, 50, 51, 52, 53, 54, 55, 56, 57]) (by decide +kernel))) (by with_unfolding_all rfl))))))) (SS_one (S_set (i := 2) sc_ValueReader__number.nd rfl (by first | exact Or.inl rfl | exact Or.inr rfl) (show ¬ (2 ∈ ([0] : List Nat)) by decide) (N_of (E_op or_add b2_add (O_pk 2) (O_of (E_of_N (N_meth0 (C := 6) (O_pk 0) T.cl_ValueReader T.me_ValueReader__step (show ¬ (("_step" : Str) ∈ fldT 6) by decide) (ok_ValueReader__step T) (hr.mono (by decide)) (takes_of rfl rfl rfl rfl) T.b_ValueReader__step .nil Dft.nil))))))))
  (SS_one (S_ret (N_of (E_ty call_int_str ba_intN rfl T.z_int (by decide +kernel) (A_cons (O_pk 2) A_nil))))))))) (by decide) p_ValueReader__number
theorem okr_ValueReader__items (T : Txt P K mg cls fnA fd D fI) (n : Nat) (ih : FnOk P w K mg base (L2.CX P w) (lv_ValueReader__value n) (fnA 16) (fd 16) ["self", "depth"] (spOf (ctx K cls fnA) [0] 2 (S_ValueReader__value n))) : FnOk P w K mg base (L2.CX P w) (lv_ValueReader__value n + 0 + 1) (fnA 18) (fd 18) ["self", "depth"] (spOf (ctx K cls fnA) [0] 2 (S_ValueReader__items (n + 1))) :=
  fn_ok (S := S_ValueReader__items (n + 1)) (B := b_ValueReader__items n) (k := lv_ValueReader__value n + 0) T.F_ValueReader__items sc_ValueReader__items (fun cdv A outer s H E hr => by
  unfold b_ValueReader__items
  exact (SS_cons (S_if (T_cmp (op_eqD (un64 hr)) b2_eqD (O_pk 1) (O_of (E_gI rfl T.g_MOST_OPEN)) (by with_unfolding_all rfl)) (SS_one (S_raise (C := 5) (k := 0) rfl (takes_of rfl rfl rfl rfl) T.base (T.kinds 5 rfl) T.z_super (hr.mono (by have := lvge_ValueReader__value n; omega)) (T.gc 5 "BadRecord" rfl) (E_op op_sub (b2_int0 (g := gSub) fun _ _ _ => fz_int) (O_of (E_fld (C := 6) (j := 1) T.cl_ValueReader T.na_ValueReader__place rfl (show (fldT 6).Nodup by decide) (O_pk 0))) (O_of E_int)) rfl)) SS_nil)
  (SS_cons (S_set (i := 2) sc_ValueReader__items.nd rfl (by first | exact Or.inl rfl | exact Or.inr rfl) (show ¬ (2 ∈ ([0] : List Nat)) by decide) (N_lst L_nil))
  (SS_cons (S_while (passes_of rfl) (T_cmp (op_neD (un64 hr)) b2_neD (O_of (E_of_N (N_meth0 (C := 6) (O_pk 0) T.cl_ValueReader T.me_ValueReader__next (show ¬ (("_next" : Str) ∈ fldT 6) by decide) (ok_ValueReader__next T) (hr.mono (by have := lvge_ValueReader__value n; omega)) (takes_of rfl rfl rfl rfl) T.b_ValueReader__next .nil Dft.nil))) (O_of (E_str (l := [41]) (by decide +kernel))) (by with_unfolding_all rfl)) (SS_cons (S_if (PW.pt (W_and (T_tru rfl (O_pk 2) (by intro _; rfl)) (W_and1 (T_cmp (op_neD (un64 hr)) b2_neD (O_of (E_of_N (N_meth0 (C := 6) (O_pk 0) T.cl_ValueReader T.me_ValueReader__step (show ¬ (("_step" : Str) ∈ fldT 6) by decide) (ok_ValueReader__step T) (hr.mono (by have := lvge_ValueReader__value n; omega)) (takes_of rfl rfl rfl rfl) T.b_ValueReader__step .nil Dft.nil))) (O_of (E_str (l := [32]) (by decide +kernel))) (by with_unfolding_all rfl))))) (SS_one (S_raise (C := 5) (k := 0) rfl (takes_of rfl rfl rfl rfl) T.base (T.kinds 5 rfl) T.z_super (hr.mono (by have := lvge_ValueReader__value n; omega)) (T.gc 5 "BadRecord" rfl) (E_op op_sub (b2_int0 (g := gSub) fun _ _ _ => fz_int) (O_of (E_fld (C := 6) (j := 1) T.cl_ValueReader T.na_ValueReader__place rfl (show (fldT 6).Nodup by decide) (O_pk 0))) (O_of E_int)) rfl)) SS_nil)
  (SS_one (S_app (j := 2) rfl (by first | exact Or.inl rfl | exact Or.inr (Or.inl rfl) | exact Or.inr (Or.inr rfl)) (N_meth (C := 6) (O_pk 0) T.cl_ValueReader T.me_ValueReader__value (show ¬ (("_value" : Str) ∈ fldT 6) by decide) ih (hr.mono (by have := lvge_ValueReader__value n; omega)) (takes_of rfl rfl rfl rfl) T.b_ValueReader__value .nil Dft.nil (A_cons (O_of (E_op or_add b2_add (O_pk 1) (O_of E_int))) A_nil))))))
  (SS_cons (S_expr (E_of_N (N_meth0 (C := 6) (O_pk 0) T.cl_ValueReader T.me_ValueReader__step (show ¬ (("_step" : Str) ∈ fldT 6) by decide) (ok_ValueReader__step T) (hr.mono (by have := lvge_ValueReader__value n; omega)) (takes_of rfl rfl rfl rfl) T.b_ValueReader__step .nil Dft.nil)))
  (SS_one (S_ret (N_of (E_ty call_tup ba_tup rfl T.z_tuple (by decide +kernel) (A_cons (O_pk 2) A_nil)))))))))) (by decide) (p_ValueReader__items n)
theorem okr_ValueReader__value (T : Txt P K mg cls fnA fd D fI) (n : Nat) (ih : FnOk P w K mg base (L2.CX P w) (lv_ValueReader__value n) (fnA 16) (fd 16) ["self", "depth"] (spOf (ctx K cls fnA) [0] 2 (S_ValueReader__value n))) : FnOk P w K mg base (L2.CX P w) (lv_ValueReader__value n + 1 + 1) (fnA 16) (fd 16) ["self", "depth"] (spOf (ctx K cls fnA) [0] 2 (S_ValueReader__value (n + 1))) :=
  fn_ok (S := S_ValueReader__value (n + 1)) (B := b_ValueReader__value n) (k := lv_ValueReader__value n + 1) T.F_ValueReader__value sc_ValueReader__value (fun cdv A outer s H E hr => by
  unfold b_ValueReader__value
  exact (SS_one (S_match (E_of_N (N_meth0 (C := 6) (O_pk 0) T.cl_ValueReader T.me_ValueReader__step (show ¬ (("_step" : Str) ∈ fldT 6) by decide) (ok_ValueReader__step T) (hr.mono (by have := lvge_ValueReader__value n; omega)) (takes_of rfl rfl rfl rfl) T.b_ValueReader__step .nil Dft.nil)) (C_val (t := [84]) (by decide +kernel) (SS_one (S_ret (N_of E_bl)))
  (C_val (t := [70]) (by decide +kernel) (SS_one (S_ret (N_of E_bl)))
  (C_val (t := [39]) (by decide +kernel) (SS_one (S_ret (N_meth0 (C := 6) (O_pk 0) T.cl_ValueReader T.me_ValueReader__letters (show ¬ (("_letters" : Str) ∈ fldT 6) by decide) (ok_ValueReader__letters T) (hr.mono (by have := lvge_ValueReader__value n; omega)) (takes_of rfl rfl rfl rfl) T.b_ValueReader__letters .nil Dft.nil)))
  (C_val (t := [40]) (by decide +kernel) (SS_one (S_ret (N_meth (C := 6) (O_pk 0) T.cl_ValueReader T.me_ValueReader__items (show ¬ (("_items" : Str) ∈ fldT 6) by decide) (okr_ValueReader__items T n ih) (hr.mono (by have := lvge_ValueReader__value n; omega)) (takes_of rfl rfl rfl rfl) T.b_ValueReader__items .nil Dft.nil (A_cons (O_of (E_var 1)) A_nil))))
  (C_cap (i := 2) sc_ValueReader__value.nd ⟨rfl, (by first | exact Or.inl rfl | exact Or.inr rfl), (show ¬ (2 ∈ ([0] : List Nat)) by decide), (by first | exact Or.inl rfl | exact Or.inr rfl)⟩ (SS_one (S_ret (N_meth (C := 6) (O_pk 0) T.cl_ValueReader T.me_ValueReader__number (show ¬ (("_number" : Str) ∈ fldT 6) by decide) (ok_ValueReader__number T) (hr.mono (by have := lvge_ValueReader__value n; omega)) (takes_of rfl rfl rfl rfl) T.b_ValueReader__number .nil Dft.nil (A_cons (O_of (E_var 2)) A_nil)))))))))))) (by decide) (p_ValueReader__value n)
theorem ok_ValueReader__value (T : Txt P K mg cls fnA fd D fI) (n : Nat) : FnOk P w K mg base (L2.CX P w) (lv_ValueReader__value n) (fnA 16) (fd 16) ["self", "depth"] (spOf (ctx K cls fnA) [0] 2 (S_ValueReader__value n)) := by
  induction n with
  | zero => exact fn_none z_ValueReader__value
  | succ n ih => exact okr_ValueReader__value T n ih
theorem ok_ValueReader__items (T : Txt P K mg cls fnA fd D fI) (n : Nat) : FnOk P w K mg base (L2.CX P w) (lv_ValueReader__value n + 0 + 1) (fnA 18) (fd 18) ["self", "depth"] (spOf (ctx K cls fnA) [0] 2 (S_ValueReader__items (n + 1))) := okr_ValueReader__items T n (ok_ValueReader__value T n)
theorem ok_ValueReader_whole (T : Txt P K mg cls fnA fd D fI) : FnOk P w K mg base (L2.CX P w) 24 (fnA 15) (fd 15) ["self"] (spOf (ctx K cls fnA) [0] 1 S_ValueReader_whole) :=
  fn_ok (S := S_ValueReader_whole) (B := b_ValueReader_whole) T.F_ValueReader_whole sc_ValueReader_whole (fun cdv A outer s H E hr => by
  unfold b_ValueReader_whole
  exact (SS_cons (S_set (i := 1) sc_ValueReader_whole.nd rfl (by first | exact Or.inl rfl | exact Or.inr rfl) (show ¬ (1 ∈ ([0] : List Nat)) by decide) (N_meth (C := 6) (O_pk 0) T.cl_ValueReader T.me_ValueReader__value (show ¬ (("_value" : Str) ∈ fldT 6) by decide) (ok_ValueReader__value T 10) (hr.mono (by decide)) (takes_of rfl rfl rfl rfl) T.b_ValueReader__value .nil Dft.nil (A_cons (O_of E_int) A_nil)))
  (SS_cons (S_if (T_cmp or_lt b2_ord (O_of (E_fld (C := 6) (j := 1) T.cl_ValueReader T.na_ValueReader__place rfl (show (fldT 6).Nodup by decide) (O_pk 0))) (O_of (E_bi cr_len ba_len rfl T.z_len (by decide +kernel) (A_cons (O_of (E_fld (C := 6) (j := 0) T.cl_ValueReader T.na_ValueReader__text rfl (show (fldT 6).Nodup by decide) (O_pk 0))) A_nil))) (by with_unfolding_all rfl)) (SS_one (S_raise (C := 5) (k := 0) rfl (takes_of rfl rfl rfl rfl) T.base (T.kinds 5 rfl) T.z_super (hr.mono (by decide)) (T.gc 5 "BadRecord" rfl) (E_fld (C := 6) (j := 1) T.cl_ValueReader T.na_ValueReader__place rfl (show (fldT 6).Nodup by decide) (O_pk 0)) rfl)) SS_nil)
  (SS_one (S_ret (N_of (E_var 1))))))) (by decide) p_ValueReader_whole
theorem ok_read_value (T : Txt P K mg cls fnA fd D fI) : FnOk P w K mg base (L2.CX P w) 25 (fnA 1) (fd 1) ["text"] (spOf (ctx K cls fnA) [] 1 S_read_value) :=
  fn_ok (S := S_read_value) (B := b_read_value) T.F_read_value sc_read_value (fun cdv A outer s H E hr => by
  unfold b_read_value
  exact (SS_one (S_ret (N_methNew (C := 6) (N_make (C := 6) T.mk_ValueReader (ok_ValueReader___init__ T) (hr.mono (by decide)) (takes_of rfl rfl rfl rfl) rfl T.g_ValueReader T.b_ValueReader___init__ .nil Dft.nil (L_cons (E_var 0) L_nil)) T.cl_ValueReader T.me_ValueReader_whole (show ¬ (("whole" : Str) ∈ fldT 6) by decide) (ok_ValueReader_whole T) (hr.mono (by decide)) (takes_of rfl rfl rfl rfl) T.b_ValueReader_whole)))) (by decide) p_read_value
theorem ok__law_cell (T : Txt P K mg cls fnA fd D fI) : FnOk P w K mg base (L2.CX P w) 1 (fnA 2) (fd 2) ["_law_script", "_law_k"] (spOf (ctx K cls fnA) [] 2 S__law_cell) :=
  fn_ok (S := S__law_cell) (B := b__law_cell) T.F__law_cell sc__law_cell (fun cdv A outer s H E hr => by
  unfold b__law_cell
  exact (SS_cons (S_if (T_cmp or_lt b2_ord (O_pk 1) (O_of (E_bi cr_len ba_len rfl T.z_len (by decide +kernel) (A_cons (O_pk 0) A_nil))) (by with_unfolding_all rfl)) (SS_one (S_ret (N_of (E_ix ix_all b2_ix (O_pk 0) (O_pk 1) (fun _ _ => rfl))))) SS_nil)
  (SS_one (S_ret (N_of E_int))))) (by decide) p__law_cell
theorem ok__law_numbers (T : Txt P K mg cls fnA fd D fI) : FnOk P w K mg base (L2.CX P w) 1 (fnA 3) (fd 3) ["_law_cell_here", "_law_many"] (spOf (ctx K cls fnA) [] 2 S__law_numbers) :=
  fn_ok (S := S__law_numbers) (B := b__law_numbers) T.F__law_numbers sc__law_numbers (fun cdv A outer s H E hr => by
  unfold b__law_numbers
  exact (SS_cons (S_set (i := 2) sc__law_numbers.nd rfl (by first | exact Or.inl rfl | exact Or.inr rfl) (show ¬ (2 ∈ ([] : List Nat)) by decide) (N_of (E_bi call_abs ba_abs rfl T.z_abs (by decide +kernel) (A_cons (O_pk 0) A_nil))))
  (SS_cons (S_set (i := 3) sc__law_numbers.nd rfl (by first | exact Or.inl rfl | exact Or.inr rfl) (show ¬ (3 ∈ ([] : List Nat)) by decide) (N_of (E_var 2)))
  (SS_cons (S_set (i := 4) sc__law_numbers.nd rfl (by first | exact Or.inl rfl | exact Or.inr rfl) (show ¬ (4 ∈ ([] : List Nat)) by decide) (N_lst L_nil))
  (SS_cons (S_for (passes_of rfl) rfl (I_rng1 rfl T.z_range (L_cons (E_var 1) L_nil)) (G_name (i := 5) sc__law_numbers.nd rfl (by first | exact Or.inl rfl | exact Or.inr rfl) (show ¬ (5 ∈ ([] : List Nat)) by decide)) (SS_one (S_if (PW.pt (W_and (T_cmp or_ge b2_ord (O_pk 3) (O_of (E_op op_pow (b2_int (g := gPow) fun _ _ _ => fz_int) (O_of E_int) (O_of E_int))) (by with_unfolding_all rfl)) (W_and1 (T_cmp or_gt b2_ord (O_pk 2) (O_of E_int) (by with_unfolding_all rfl))))) (SS_cons (S_app (j := 4) rfl (by first | exact Or.inl rfl | exact Or.inr (Or.inl rfl) | exact Or.inr (Or.inr rfl)) (N_of (E_op op_mod (b2_int (g := gMod) fun _ _ _ => fz_int) (O_of (E_ty call_int1 ba_int rfl T.z_int (by decide +kernel) (A_cons (O_pk 2) A_nil))) (O_of E_int))))
  (SS_one (S_set (i := 2) sc__law_numbers.nd rfl (by first | exact Or.inl rfl | exact Or.inr rfl) (show ¬ (2 ∈ ([] : List Nat)) by decide) (N_of (E_op op_fdiv (b2_int (g := gDiv) fun _ _ _ => fz_int) (O_pk 2) (O_of E_int)))))) (SS_cons (S_set (i := 6) sc__law_numbers.nd rfl (by first | exact Or.inl rfl | exact Or.inr rfl) (show ¬ (6 ∈ ([] : List Nat)) by decide) (N_of (E_op op_mod (b2_int (g := gMod) fun _ _ _ => fz_int) (O_of (E_ty call_int1 ba_int rfl T.z_int (by decide +kernel) (A_cons (O_of (E_op or_add b2_add (O_of (E_op or_add b2_add (O_of (E_op op_mul (b2_int (g := gMul) fun _ _ _ => fz_int) (O_pk 3) (O_of E_int))) (O_of (E_op op_mul (b2_int (g := gMul) fun _ _ _ => fz_int) (O_pk 5) (O_of E_int))))) (O_of E_int))) A_nil))) (O_of E_int))))
  (SS_cons (S_set (i := 6) sc__law_numbers.nd rfl (by first | exact Or.inl rfl | exact Or.inr rfl) (show ¬ (6 ∈ ([] : List Nat)) by decide) (N_of (E_op op_mod (b2_int (g := gMod) fun _ _ _ => fz_int) (O_of (E_ty call_int1 ba_int rfl T.z_int (by decide +kernel) (A_cons (O_of (E_op or_add b2_add (O_of (E_op or_add b2_add (O_of (E_op op_mul (b2_int (g := gMul) fun _ _ _ => fz_int) (O_pk 6) (O_pk 6))) (O_of (E_op op_mul (b2_int (g := gMul) fun _ _ _ => fz_int) (O_of E_int) (O_pk 5))))) (O_of E_int))) A_nil))) (O_of E_int))))
  (SS_one (S_app (j := 4) rfl (by first | exact Or.inl rfl | exact Or.inr (Or.inl rfl) | exact Or.inr (Or.inr rfl)) (N_of (E_op op_mod (b2_int (g := gMod) fun _ _ _ => fz_int) (O_of (E_ty call_int1 ba_int rfl T.z_int (by decide +kernel) (A_cons (O_of (E_op op_fdiv (b2_int (g := gDiv) fun _ _ _ => fz_int) (O_pk 6) (O_of E_int))) A_nil))) (O_of E_int))))))))))
  (SS_one (S_ret (N_of (E_var 4))))))))) (by decide) p__law_numbers
theorem ok__law_state (T : Txt P K mg cls fnA fd D fI) : FnOk P w K mg base (L2.CX P w) 2 (fnA 4) (fd 4) ["_law_script", "_law_start", "_law_many"] (spOf (ctx K cls fnA) [] 3 S__law_state) :=
  fn_ok (S := S__law_state) (B := b__law_state) T.F__law_state sc__law_state (fun cdv A outer s H E hr => by
  unfold b__law_state
  exact (SS_cons (S_set (i := 3) sc__law_state.nd rfl (by first | exact Or.inl rfl | exact Or.inr rfl) (show ¬ (3 ∈ ([] : List Nat)) by decide) (N_lst L_nil))
  (SS_cons (S_for (passes_of rfl) rfl (I_rng2 rfl T.z_range (L_cons (E_var 1) (L_cons (E_op or_add b2_add (O_pk 1) (O_pk 2)) L_nil))) (G_name (i := 4) sc__law_state.nd rfl (by first | exact Or.inl rfl | exact Or.inr rfl) (show ¬ (4 ∈ ([] : List Nat)) by decide)) (SS_cons (S_set (i := 5) sc__law_state.nd rfl (by first | exact Or.inl rfl | exact Or.inr rfl) (show ¬ (5 ∈ ([] : List Nat)) by decide) (N_call (ok__law_cell T) (hr.mono (by decide)) (takes_of rfl rfl rfl rfl) rfl T.g__law_cell T.k__law_cell T.b__law_cell .nil Dft.nil (A_cons (O_of (E_var 0)) (A_cons (O_of (E_var 4)) A_nil))))
  (SS_cons (S_if (T_cmp or_lt b2_ord (O_of (E_bi call_abs ba_abs rfl T.z_abs (by decide +kernel) (A_cons (O_pk 5) A_nil))) (O_of (E_op op_pow (b2_int (g := gPow) fun _ _ _ => fz_int) (O_of E_int) (O_of E_int))) (by with_unfolding_all rfl)) (SS_one (S_set (i := 5) sc__law_state.nd rfl (by first | exact Or.inl rfl | exact Or.inr rfl) (show ¬ (5 ∈ ([] : List Nat)) by decide) (N_of (E_op or_add b2_add (O_of (E_op op_mul (b2_int (g := gMul) fun _ _ _ => fz_int) (O_pk 5) (O_of E_int))) (O_pk 4))))) SS_nil)
  (SS_one (S_set (i := 3) sc__law_state.nd rfl (by first | exact Or.inl rfl | exact Or.inr rfl) (show ¬ (3 ∈ ([] : List Nat)) by decide) (N_of (E_op or_add b2_add (O_pk 3) (O_of (E_of_N (N_call (ok__law_numbers T) (hr.mono (by decide)) (takes_of rfl rfl rfl rfl) rfl T.g__law_numbers T.k__law_numbers T.b__law_numbers .nil Dft.nil (A_cons (O_of (E_var 5)) (A_cons (O_of E_int) A_nil))))))))))))
  (SS_one (S_ret (N_lst (L_cons (E_var 3) (L_cons E_int L_nil)))))))) (by decide) p__law_state
theorem ok__law_next (T : Txt P K mg cls fnA fd D fI) : FnOk P w K mg base (L2.CX P w) 1 (fnA 5) (fd 5) ["_law_state_here", "_law_many"] (spOf (ctx K cls fnA) [0] 2 S__law_next) :=
  fn_ok (S := S__law_next) (B := b__law_next) T.F__law_next sc__law_next (fun cdv A outer s H E hr => by
  unfold b__law_next
  exact (SS_cons (S_set (i := 2) sc__law_next.nd rfl (by first | exact Or.inl rfl | exact Or.inr rfl) (show ¬ (2 ∈ ([0] : List Nat)) by decide) (N_of (E_ix ix_all b2_ix (O_pk 0) (O_of E_int) (fun _ _ => rfl))))
  (SS_cons (S_set (i := 3) sc__law_next.nd rfl (by first | exact Or.inl rfl | exact Or.inr rfl) (show ¬ (3 ∈ ([0] : List Nat)) by decide) (N_of (E_ix ix_all b2_ix (O_pk 0) (O_of E_int) (fun _ _ => rfl))))
  (SS_cons (S_put (j := 0) rfl (by first | exact Or.inl rfl | exact Or.inr (Or.inl rfl) | exact Or.inr (Or.inr rfl)) E_int (E_op or_add b2_add (O_pk 3) (O_of E_int)))
  (SS_one (S_ret (N_of (E_op op_mod (b2_int (g := gMod) fun _ _ _ => fz_int) (O_of (E_ty call_int1 ba_int rfl T.z_int (by decide +kernel) (A_cons (O_of (E_op or_add b2_add (O_of (E_ix ix_all b2_ix (O_pk 2) (O_of (E_op op_mod (b2_int (g := gMod) fun _ _ _ => fz_int) (O_pk 3) (O_of (E_bi cr_len ba_len rfl T.z_len (by decide +kernel) (A_cons (O_pk 2) A_nil))))) (fun _ _ => rfl))) (O_of (E_op op_mul (b2_int (g := gMul) fun _ _ _ => fz_int) (O_of (E_op op_fdiv (b2_int (g := gDiv) fun _ _ _ => fz_int) (O_pk 3) (O_of (E_bi cr_len ba_len rfl T.z_len (by decide +kernel) (A_cons (O_pk 2) A_nil))))) (O_of E_int))))) A_nil))) (O_pk 1))))))))) (by decide) p__law_next
theorem okr__law_value (T : Txt P K mg cls fnA fd D fI) (n : Nat) (ih : FnOk P w K mg base (L2.CX P w) (lv__law_value n) (fnA 6) (fd 6) ["_law_state_here", "_law_deep"] (spOf (ctx K cls fnA) [0] 2 (S__law_value n))) : FnOk P w K mg base (L2.CX P w) (lv__law_value n + 0 + 1) (fnA 6) (fd 6) ["_law_state_here", "_law_deep"] (spOf (ctx K cls fnA) [0] 2 (S__law_value (n + 1))) :=
  fn_ok (S := S__law_value (n + 1)) (B := b__law_value n) (k := lv__law_value n + 0) T.F__law_value sc__law_value (fun cdv A outer s H E hr => by
  unfold b__law_value
  exact (SS_cons (S_set (i := 2) sc__law_value.nd rfl (by first | exact Or.inl rfl | exact Or.inr rfl) (show ¬ (2 ∈ ([0] : List Nat)) by decide) (N_call (ok__law_next T) (hr.mono (by have := lvge__law_value n; omega)) (takes_of rfl rfl rfl rfl) rfl T.g__law_next T.k__law_next T.b__law_next .nil Dft.nil (A_cons (O_pk 0) (A_cons (O_of E_int) A_nil))))
  (SS_cons (S_if (T_cmp (op_eqD (un64 hr)) b2_eqD (O_pk 2) (O_of E_int) (by with_unfolding_all rfl)) (SS_one (S_ret (N_of (E_cmp (op_eqD (un64 hr)) b2_eqD (O_of (E_of_N (N_call (ok__law_next T) (hr.mono (by have := lvge__law_value n; omega)) (takes_of rfl rfl rfl rfl) rfl T.g__law_next T.k__law_next T.b__law_next .nil Dft.nil (A_cons (O_pk 0) (A_cons (O_of E_int) A_nil))))) (O_of E_int) (by with_unfolding_all rfl))))) SS_nil)
  (SS_cons (S_if (T_cmp (op_eqD (un64 hr)) b2_eqD (O_pk 2) (O_of E_int) (by with_unfolding_all rfl)) (SS_one (S_ret (N_of (E_ix ix_all b2_ix (O_of (E_lst (L_cons E_int (L_cons E_int (L_cons E_int (L_cons E_int (L_cons (E_op or_add b2_add (O_of (E_op op_mul (b2_int (g := gMul) fun _ _ _ => fz_int) (O_of (E_of_N (N_call (ok__law_next T) (hr.mono (by have := lvge__law_value n; omega)) (takes_of rfl rfl rfl rfl) rfl T.g__law_next T.k__law_next T.b__law_next .nil Dft.nil (A_cons (O_pk 0) (A_cons (O_of E_int) A_nil))))) (O_of E_int))) (O_of (E_of_N (N_call (ok__law_next T) (hr.mono (by have := lvge__law_value n; omega)) (takes_of rfl rfl rfl rfl) rfl T.g__law_next T.k__law_next T.b__law_next .nil Dft.nil (A_cons (O_pk 0) (A_cons (O_of E_int) A_nil)))))) L_nil))))))) (O_of (E_of_N (N_call (ok__law_next T) (hr.mono (by have := lvge__law_value n; omega)) (takes_of rfl rfl rfl rfl) rfl T.g__law_next T.k__law_next T.b__law_next .nil Dft.nil (A_cons (O_pk 0) (A_cons (O_of E_int) A_nil))))) (fun _ _ => rfl))))) SS_nil)
  (SS_cons (S_if (PW.pt (W_or (T_cmp (op_eqD (un64 hr)) b2_eqD (O_pk 2) (O_of E_int) (by with_unfolding_all rfl)) (W_or1 (T_cmp (op_eqD (un64 hr)) b2_eqD (O_pk 1) (O_of E_int) (by with_unfolding_all rfl))))) (SS_cons (S_set (i := 3) sc__law_value.nd rfl (by first | exact Or.inl rfl | exact Or.inr rfl) (show ¬ (3 ∈ ([0] : List Nat)) by decide) (N_of (E_str (l := [97, 98, 99, 100, 101, 102, 103, 104, 105, 106, 107, 108, 109, 110, 111, 112, 113, 114, 115, 116, 117, 118, 119, 120, 121, 122, 65, 66, 67, 68, 69, 70, 71, 72, 73, 74, 75, 76, 77, 78, 79, 80, 81, 82, 83, 84, 85, 86, 87, 88, 89, 90, 48, 49, 50, 51, 52, 53, 54, 55, 56, 57, 60, 62, 61, 58, 95, 64, 35]) (by decide +kernel))))
  (SS_one (S_ret (N_of (E_join rfl (E_str (l := []) (by decide +kernel)) (O_of (E_lc (own' := [("_law_k", 4)]) (io := [0, 1, 2, 3]) rfl sc__law_value.nd (show ∀ i, i < 5 → i ∉ ([4] : List Nat) → i ∈ ([0, 1, 2, 3] : List Nat) by decide) (I_rng1 rfl T.z_range (L_cons (E_of_N (N_call (ok__law_next T) (hr.mono (by have := lvge__law_value n; omega)) (takes_of rfl rfl rfl rfl) rfl T.g__law_next T.k__law_next T.b__law_next .nil Dft.nil (A_cons (O_pk 0) (A_cons (O_of E_int) A_nil)))) L_nil)) ⟨⟨rfl, by decide +kernel, (by dsimp only [cxOf, envOfC]; decide +kernel), (by dsimp only [cxOf, envOfC]; decide +kernel), (by dsimp only [cxOf, envOfC]; decide +kernel)⟩, fun _ _ _ _ _ => (G_name (i := 4) sc__law_value.nd rfl (by first | exact Or.inl rfl | exact Or.inr rfl) (show ¬ (4 ∈ ([0, 1, 2, 3] : List Nat)) by decide)), fun _ _ _ _ _ => Ts_nil, fun _ _ _ _ _ => (E_ix ix_all b2_ix (O_pk 3) (O_of (E_of_N (N_call (ok__law_next T) (hr.mono (by have := lvge__law_value n; omega)) takes0 rfl T.g__law_next T.k__law_next T.b__law_next .nil Dft.nil (A_cons (O_pk 0) (A_cons (O_of E_int) A_nil))))) (fun _ _ => rfl))⟩))))))) SS_nil)
  (SS_one (S_ret (N_of (E_ty call_tup ba_tup rfl T.z_tuple (by decide +kernel) (A_cons (O_of (E_lc (own' := [("_law_k", 4)]) (io := [0, 1, 2, 3]) rfl sc__law_value.nd (show ∀ i, i < 5 → i ∉ ([4] : List Nat) → i ∈ ([0, 1, 2, 3] : List Nat) by decide) (I_rng1 rfl T.z_range (L_cons (E_of_N (N_call (ok__law_next T) (hr.mono (by have := lvge__law_value n; omega)) (takes_of rfl rfl rfl rfl) rfl T.g__law_next T.k__law_next T.b__law_next .nil Dft.nil (A_cons (O_pk 0) (A_cons (O_of E_int) A_nil)))) L_nil)) ⟨⟨rfl, by decide +kernel, (by dsimp only [cxOf, envOfC]; decide +kernel), (by dsimp only [cxOf, envOfC]; decide +kernel), (by dsimp only [cxOf, envOfC]; decide +kernel)⟩, fun _ _ _ _ _ => (G_name (i := 4) sc__law_value.nd rfl (by first | exact Or.inl rfl | exact Or.inr rfl) (show ¬ (4 ∈ ([0, 1, 2, 3] : List Nat)) by decide)), fun _ _ _ _ _ => Ts_nil, fun _ _ _ _ _ => (E_of_N (N_call ih (hr.mono (by have := lvge__law_value n; omega)) takes0 rfl T.g__law_value T.k__law_value T.b__law_value .nil Dft.nil (A_cons (O_pk 0) (A_cons (O_of (E_op op_sub (b2_int0 (g := gSub) fun _ _ _ => fz_int) (O_pk 1) (O_of E_int))) A_nil))))⟩)) A_nil)))))))))) (by decide) (p__law_value n)
theorem ok__law_value (T : Txt P K mg cls fnA fd D fI) (n : Nat) : FnOk P w K mg base (L2.CX P w) (lv__law_value n) (fnA 6) (fd 6) ["_law_state_here", "_law_deep"] (spOf (ctx K cls fnA) [0] 2 (S__law_value n)) := by
  induction n with
  | zero => exact fn_none z__law_value
  | succ n ih => exact okr__law_value T n ih
theorem okr__law_written (T : Txt P K mg cls fnA fd D fI) (n : Nat) (ih : FnOk P w K mg base (L2.CX P w) (lv__law_written n) (fnA 7) (fd 7) ["_law_value_here"] (spOf (ctx K cls fnA) [] 1 (S__law_written n))) : FnOk P w K mg base (L2.CX P w) (lv__law_written n + 0 + 1) (fnA 7) (fd 7) ["_law_value_here"] (spOf (ctx K cls fnA) [] 1 (S__law_written (n + 1))) :=
  fn_ok (S := S__law_written (n + 1)) (B := b__law_written n) (k := lv__law_written n + 0) T.F__law_written sc__law_written (fun cdv A outer s H E hr => by
  unfold b__law_written
  exact (SS_cons (S_if (T_val (E_isi .tuple rfl (O_pk 0) (pe_bltn rfl T.z_tuple (by decide +kernel) rfl) rfl T.z_isinstance) (by intro _; rfl)) (SS_one (S_ret (N_of (E_op or_add b2_add (O_of (E_op or_add b2_add (O_of (E_str (l := [40]) (by decide +kernel))) (O_of (E_join rfl (E_str (l := [32]) (by decide +kernel)) (O_of (E_lc (own' := [("_law_item", 1)]) (io := [0]) rfl sc__law_written.nd (show ∀ i, i < 2 → i ∉ ([1] : List Nat) → i ∈ ([0] : List Nat) by decide) (I_var (I_list rfl (E_var 0)) (I_tup rfl (E_var 0)) (I_str (E_var 0))) ⟨⟨rfl, by decide +kernel, (by dsimp only [cxOf, envOfC]; decide +kernel), (by dsimp only [cxOf, envOfC]; decide +kernel), (by dsimp only [cxOf, envOfC]; decide +kernel)⟩, fun _ _ _ _ _ => (G_name (i := 1) sc__law_written.nd rfl (by first | exact Or.inl rfl | exact Or.inr rfl) (show ¬ (1 ∈ ([0] : List Nat)) by decide)), fun _ _ _ _ _ => Ts_nil, fun _ _ _ _ _ => (E_of_N (N_call ih (hr.mono (by have := lvge__law_written n; omega)) takes0 rfl T.g__law_written T.k__law_written T.b__law_written .nil Dft.nil (A_cons (O_of (E_var 1)) A_nil)))⟩)))))) (O_of (E_str (l := [41]) (by decide +kernel))))))) SS_nil)
  (SS_cons (S_if (T_val (E_isi .bool rfl (O_pk 0) (pe_bltn rfl T.z_bool (by decide +kernel) rfl) rfl T.z_isinstance) (by intro _; rfl)) (SS_one (S_ret (N_of (E_if (T_tru rfl (O_pk 0) (by intro _; rfl)) (E_str (l := [84]) (by decide +kernel)) (E_str (l := [70]) (by decide +kernel)))))) SS_nil)
  (SS_cons (S_if (T_val (E_isi .str rfl (O_pk 0) (pe_bltn rfl T.z_str (by decide +kernel) rfl) rfl T.z_isinstance) (by intro _; rfl)) (SS_one (S_ret (N_of (E_op or_add b2_add (O_of (E_op or_add b2_add (O_of (E_str (l := [39]) (by decide +kernel))) (O_pk 0))) (O_of (E_str (l := [39]) (by decide +kernel))))))) SS_nil)
  (SS_one (S_ret (N_of (E_ty call_str_int ba_strN rfl T.z_str (by decide +kernel) (A_cons (O_pk 0) A_nil))))))))) (by decide) (p__law_written n)
theorem ok__law_written (T : Txt P K mg cls fnA fd D fI) (n : Nat) : FnOk P w K mg base (L2.CX P w) (lv__law_written n) (fnA 7) (fd 7) ["_law_value_here"] (spOf (ctx K cls fnA) [] 1 (S__law_written n)) := by
  induction n with
  | zero => exact fn_none z__law_written
  | succ n ih => exact okr__law_written T n ih
theorem ok__law_read (T : Txt P K mg cls fnA fd D fI) : FnOk P w K mg base (L2.CX P w) 26 (fnA 8) (fd 8) ["_law_text"] (spOf (ctx K cls fnA) [] 1 S__law_read) :=
  fn_ok (S := S__law_read) (B := b__law_read cls) T.F__law_read sc__law_read (fun cdv A outer s H E hr => by
  unfold b__law_read
  exact (SS_one (S_try (i := 1) rfl rfl sc__law_read.nd rfl rfl ⟨rfl, by decide, Or.inl (T.gc 4 "RecordError" rfl)⟩ (takes_of rfl rfl rfl rfl) (T.exm 4) (show ¬ (1 ∈ ([] : List Nat)) by decide) (fun W pn xe tk2 hp2 => (SS_one (S_ret (N_of (E_tup (L_cons (E_str (l := [114, 101, 97, 100]) (by decide +kernel)) (L_cons (E_of_N (N_call (ok_read_value T) (hr.mono (by decide)) tk2 rfl T.g_read_value T.k_read_value T.b_read_value .nil Dft.nil (A_cons (O_of (E_var 0)) A_nil))) L_nil))))))) (fun a oe cls d pn hz hf => (SS_cons (S_if (PW.pt (W_or (T_not (T_val (E_is (i := 1) hz hf (T.kit 5) (pe_glob rfl (T.gc 5 "BadRecord" rfl) (v := .ref _) rfl) (fun _ r => r) rfl T.z_isinstance) (by intro _; rfl))) (W_or1 (T_val (E_isT (i := 1) hz hf (fun C b e => T.kits [3, 1, 2] C b e (by decide)) (ClsL.cons ⟨pe_glob rfl (T.gc 3 "BadLine" rfl) (v := .ref _) rfl, fun _ r => r⟩ (ClsL.cons ⟨pe_glob rfl (T.gc 1 "PatternError" rfl) (v := .ref _) rfl, fun _ r => r⟩ (ClsL.cons ⟨pe_glob rfl (T.gc 2 "ProgramError" rfl) (v := .ref _) rfl, fun _ r => r⟩ ClsL.nil rfl) rfl) rfl) (by simp) rfl T.z_isinstance) (by intro _; rfl))))) (SS_one (S_ret (N_of (E_tup (L_cons (E_str (l := [111, 116, 104, 101, 114]) (by decide +kernel)) (L_cons E_int L_nil)))))) SS_nil)
  (SS_one (S_ret (N_of (E_tup (L_cons (E_str (l := [98, 97, 100]) (by decide +kernel)) (L_cons (E_what (i := 1) hz hf T.kinds) L_nil))))))))))) (by decide) p__law_read
theorem ok__law_due (T : Txt P K mg cls fnA fd D fI) : FnOk P w K mg base (L2.CX P w) 1 (fnA 9) (fd 9) ["_law_text"] (spOf (ctx K cls fnA) [] 1 S__law_due) :=
  fn_ok (S := S__law_due) (B := b__law_due) T.F__law_due sc__law_due (fun cdv A outer s H E hr => by
  unfold b__law_due
  exact (SS_cons (S_set (i := 1) sc__law_due.nd rfl (by first | exact Or.inl rfl | exact Or.inr rfl) (show ¬ (1 ∈ ([] : List Nat)) by decide) (N_of (E_str (l := [97, 98, 99, 100, 101, 102, 103, 104, 105, 106, 107, 108, 109, 110, 111, 112, 113, 114, 115, 116, 117, 118, 119, 120, 121, 122, 65, 66, 67, 68, 69, 70, 71, 72, 73, 74, 75, 76, 77, 78, 79, 80, 81, 82, 83, 84, 85, 86, 87, 88, 89, 90, 48, 49, 50, 51, 52, 53, 54, 55, 56, 57, 60, 62, 61, 58, 95, 64, 35]) (by decide +kernel))))
  (SS_cons (S_set (i := 2) sc__law_due.nd rfl (by first | exact Or.inl rfl | exact Or.inr rfl) (show ¬ (2 ∈ ([] : List Nat)) by decide) (N_of E_int))
  (SS_cons (S_set (i := 3) sc__law_due.nd rfl (by first | exact Or.inl rfl | exact Or.inr rfl) (show ¬ (3 ∈ ([] : List Nat)) by decide) (N_of (E_str (l := [118, 97, 108, 117, 101]) (by decide +kernel))))
  (SS_cons (S_set (i := 4) sc__law_due.nd rfl (by first | exact Or.inl rfl | exact Or.inr rfl) (show ¬ (4 ∈ ([] : List Nat)) by decide) (N_of E_int))
  (SS_cons (S_while (passes_of rfl) (T_cmp or_lt b2_ord (O_pk 4) (O_of (E_bi cr_len ba_len rfl T.z_len (by decide +kernel) (A_cons (O_pk 0) A_nil))) (by with_unfolding_all rfl)) (SS_cons (S_set (i := 5) sc__law_due.nd rfl (by first | exact Or.inl rfl | exact Or.inr rfl) (show ¬ (5 ∈ ([] : List Nat)) by decide) (N_of (E_ix ix_all b2_ix (O_pk 0) (O_pk 4) (fun _ _ => rfl))))
  (SS_cons (S_if (T_cmp (op_eqD (un64 hr)) b2_eqD (O_pk 3) (O_of (E_str (l := [101, 110, 100]) (by decide +kernel))) (by with_unfolding_all rfl)) (SS_one (S_ret (N_of (E_tup (L_cons (E_str (l := [98, 97, 100]) (by decide +kernel)) (L_cons (E_var 4) L_nil)))))) SS_nil)
  (SS_cons (S_if (PW.pt (W_or (PW.pt (W_and (T_cmp (op_eqD (un64 hr)) b2_eqD (O_pk 3) (O_of (E_str (l := [109, 111, 114, 101]) (by decide +kernel))) (by with_unfolding_all rfl)) (W_and1 (T_cmp op_notIn_sign (b2_inS (g := not)) (O_pk 5) (O_of (E_str (l := [32, 41]) (by decide +kernel))) (by with_unfolding_all rfl))))) (W_or1 (PW.pt (W_and (T_cmp op_in_seq b2_inX (O_pk 3) (O_of (E_tup (L_cons (E_str (l := [118, 97, 108, 117, 101]) (by decide +kernel)) (L_cons (E_str (l := [105, 116, 101, 109]) (by decide +kernel)) L_nil)))) (by with_unfolding_all rfl)) (W_and1 (T_cmp op_notIn_sign (b2_inS (g := not)) (O_pk 5) (O_of (E_str (l := [84, 70, 39, 40, 48, 49, 50, 51, 52, 53, 54, 55, 56, 57, 41]) (by decide +kernel))) (by with_unfolding_all rfl)))))))) (SS_one (S_ret (N_of (E_tup (L_cons (E_str (l := [98, 97, 100]) (by decide +kernel)) (L_cons (E_var 4) L_nil)))))) SS_nil)
  (SS_cons (S_if (PW.pt (W_or (PW.pt (W_and (T_cmp (op_eqD (un64 hr)) b2_eqD (O_pk 5) (O_of (E_str (l := [41]) (by decide +kernel))) (by with_unfolding_all rfl)) (W_and1 (T_cmp op_notIn_seq b2_ninX (O_pk 3) (O_of (E_tup (L_cons (E_str (l := [105, 116, 101, 109]) (by decide +kernel)) (L_cons (E_str (l := [109, 111, 114, 101]) (by decide +kernel)) L_nil)))) (by with_unfolding_all rfl))))) (W_or1 (PW.pt (W_and (T_cmp (op_eqD (un64 hr)) b2_eqD (O_pk 5) (O_of (E_str (l := [40]) (by decide +kernel))) (by with_unfolding_all rfl)) (W_and1 (T_cmp (op_eqD (un64 hr)) b2_eqD (O_pk 2) (O_of E_int) (by with_unfolding_all rfl)))))))) (SS_one (S_ret (N_of (E_tup (L_cons (E_str (l := [98, 97, 100]) (by decide +kernel)) (L_cons (E_var 4) L_nil)))))) SS_nil)
  (SS_cons (S_set (i := 6) sc__law_due.nd rfl (by first | exact Or.inl rfl | exact Or.inr rfl) (show ¬ (6 ∈ ([] : List Nat)) by decide) (N_of (E_op or_add b2_add (O_pk 4) (O_of E_int))))
  (SS_cons (S_if (T_cmp (op_eqD (un64 hr)) b2_eqD (O_pk 5) (O_of (E_str (l := [39]) (by decide +kernel))) (by with_unfolding_all rfl)) (SS_cons (S_while (passes_of rfl) (PW.pt (W_and (T_cmp or_lt b2_ord (O_pk 6) (O_of (E_bi cr_len ba_len rfl T.z_len (by decide +kernel) (A_cons (O_pk 0) A_nil))) (by with_unfolding_all rfl)) (W_and1 (T_cmp op_in_sign (b2_inS (g := id)) (O_of (E_ix ix_all b2_ix (O_pk 0) (O_pk 6) (fun _ _ => rfl))) (O_pk 1) (by with_unfolding_all rfl))))) (SS_one (S_set (i := 6) sc__law_due.nd rfl (by first | exact Or.inl rfl | exact Or.inr rfl) (show ¬ (6 ∈ ([] : List Nat)) by decide) (N_of (E_op or_add b2_add (O_pk 6) (O_of E_int))))))
  (SS_cons (S_if (T_cmp (op_neD (un64 hr)) b2_neD (O_of (E_sl rfl (O_pk 0) (P_some (E_var 6)) (P_some (E_op or_add b2_add (O_pk 6) (O_of E_int))))) (O_of (E_str (l := [39]) (by decide +kernel))) (by with_unfolding_all rfl)) (SS_one (S_ret (N_of (E_tup (L_cons (E_str (l := [98, 97, 100]) (by decide +kernel)) (L_cons (E_var 6) L_nil)))))) SS_nil)
  (SS_one (S_set (i := 6) sc__law_due.nd rfl (by first | exact Or.inl rfl | exact Or.inr rfl) (show ¬ (6 ∈ ([] : List Nat)) by decide) (N_of (E_op or_add b2_add (O_pk 6) (O_of E_int))))))) (SS_one (S_if (T_cmp op_in_sign (b2_inS (g := id)) (O_pk 5) (O_of (E_str (l := [49, 50, 51, 52, 53, 54, 55, 56, 57]) (by decide +kernel))) (by with_unfolding_all rfl)) (SS_one (S_while (passes_of rfl) (PW.pt (W_and (T_cmp or_lt b2_ord (O_pk 6) (O_of (E_bi cr_len ba_len rfl T.z_len (by decide +kernel) (A_cons (O_pk 0) A_nil))) (by with_unfolding_all rfl)) (W_and (T_cmp op_in_sign (b2_inS (g := id)) (O_of (E_ix ix_all b2_ix (O_pk 0) (O_pk 6) (fun _ _ => rfl))) (O_of (E_str (l := [48, 49, 50, 51, 52, 53, 54, 55, 56, 57]) (by decide +kernel))) (by with_unfolding_all rfl)) (W_and1 (T_cmp or_lt b2_ord (O_of (E_op op_sub (b2_int0 (g := gSub) fun _ _ _ => fz_int) (O_pk 6) (O_pk 4))) (O_of E_int) (by with_unfolding_all rfl)))))) (SS_one (S_set (i := 6) sc__law_due.nd rfl (by first | exact Or.inl rfl | exact Or.inr rfl) (show ¬ (6 ∈ ([] : List Nat)) by decide) (N_of (E_op or_add b2_add (O_pk 6) (O_of E_int))))))) SS_nil)))
  (SS_cons (S_if (T_cmp (op_eqD (un64 hr)) b2_eqD (O_pk 5) (O_of (E_str (l := [40]) (by decide +kernel))) (by with_unfolding_all rfl)) (SS_cons (S_set (i := 2) sc__law_due.nd rfl (by first | exact Or.inl rfl | exact Or.inr rfl) (show ¬ (2 ∈ ([] : List Nat)) by decide) (N_of (E_op or_add b2_add (O_pk 2) (O_of E_int))))
  (SS_one (S_set (i := 3) sc__law_due.nd rfl (by first | exact Or.inl rfl | exact Or.inr rfl) (show ¬ (3 ∈ ([] : List Nat)) by decide) (N_of (E_str (l := [105, 116, 101, 109]) (by decide +kernel)))))) (SS_one (S_if (T_cmp (op_eqD (un64 hr)) b2_eqD (O_pk 5) (O_of (E_str (l := [32]) (by decide +kernel))) (by with_unfolding_all rfl)) (SS_one (S_set (i := 3) sc__law_due.nd rfl (by first | exact Or.inl rfl | exact Or.inr rfl) (show ¬ (3 ∈ ([] : List Nat)) by decide) (N_of (E_str (l := [118, 97, 108, 117, 101]) (by decide +kernel))))) (SS_cons (S_set (i := 2) sc__law_due.nd rfl (by first | exact Or.inl rfl | exact Or.inr rfl) (show ¬ (2 ∈ ([] : List Nat)) by decide) (N_of (E_op op_sub (b2_int0 (g := gSub) fun _ _ _ => fz_int) (O_pk 2) (O_of (E_ty call_int1 ba_int rfl T.z_int (by decide +kernel) (A_cons (O_of (E_cmp (op_eqD (un64 hr)) b2_eqD (O_pk 5) (O_of (E_str (l := [41]) (by decide +kernel))) (by with_unfolding_all rfl))) A_nil))))))
  (SS_one (S_set (i := 3) sc__law_due.nd rfl (by first | exact Or.inl rfl | exact Or.inr rfl) (show ¬ (3 ∈ ([] : List Nat)) by decide) (N_of (E_if (T_cmp or_gt b2_ord (O_pk 2) (O_of E_int) (by with_unfolding_all rfl)) (E_str (l := [109, 111, 114, 101]) (by decide +kernel)) (E_str (l := [101, 110, 100]) (by decide +kernel))))))))))
  (SS_one (S_set (i := 4) sc__law_due.nd rfl (by first | exact Or.inl rfl | exact Or.inr rfl) (show ¬ (4 ∈ ([] : List Nat)) by decide) (N_of (E_var 6))))))))))))
  (SS_one (S_ret (N_of (E_if (T_cmp (op_eqD (un64 hr)) b2_eqD (O_pk 3) (O_of (E_str (l := [101, 110, 100]) (by decide +kernel))) (by with_unfolding_all rfl)) (E_tup (L_cons (E_str (l := [114, 101, 97, 100]) (by decide +kernel)) (L_cons E_int L_nil))) (E_tup (L_cons (E_str (l := [98, 97, 100]) (by decide +kernel)) (L_cons (E_bi cr_len ba_len rfl T.z_len (by decide +kernel) (A_cons (O_pk 0) A_nil)) L_nil))))))))))))) (by decide) p__law_due
theorem ok__law_spoilt (T : Txt P K mg cls fnA fd D fI) : FnOk P w K mg base (L2.CX P w) 2 (fnA 10) (fd 10) ["_law_state_here", "_law_text", "_law_other"] (spOf (ctx K cls fnA) [0] 3 S__law_spoilt) :=
  fn_ok (S := S__law_spoilt) (B := b__law_spoilt) T.F__law_spoilt sc__law_spoilt (fun cdv A outer s H E hr => by
  unfold b__law_spoilt
  exact (SS_cons (S_set (i := 3) sc__law_spoilt.nd rfl (by first | exact Or.inl rfl | exact Or.inr rfl) (show ¬ (3 ∈ ([0] : List Nat)) by decide) (N_call (ok__law_next T) (hr.mono (by decide)) (takes_of rfl rfl rfl rfl) rfl T.g__law_next T.k__law_next T.b__law_next .nil Dft.nil (A_cons (O_pk 0) (A_cons (O_of (E_op or_add b2_add (O_of (E_bi cr_len ba_len rfl T.z_len (by decide +kernel) (A_cons (O_pk 1) A_nil))) (O_of E_int))) A_nil))))
  (SS_cons (S_set (i := 4) sc__law_spoilt.nd rfl (by first | exact Or.inl rfl | exact Or.inr rfl) (show ¬ (4 ∈ ([0] : List Nat)) by decide) (N_of (E_ix ix_all b2_ix (O_of (E_str (l := [84, 70, 39, 40, 41, 32, 48, 49, 57, 97, 45, 46, 44, 33, 43, 91, 98, 47]) (by decide +kernel))) (O_of (E_of_N (N_call (ok__law_next T) (hr.mono (by decide)) (takes_of rfl rfl rfl rfl) rfl T.g__law_next T.k__law_next T.b__law_next .nil Dft.nil (A_cons (O_pk 0) (A_cons (O_of E_int) A_nil))))) (fun _ _ => rfl))))
  (SS_cons (S_set (i := 5) sc__law_spoilt.nd rfl (by first | exact Or.inl rfl | exact Or.inr rfl) (show ¬ (5 ∈ ([0] : List Nat)) by decide) (N_call (ok__law_next T) (hr.mono (by decide)) (takes_of rfl rfl rfl rfl) rfl T.g__law_next T.k__law_next T.b__law_next .nil Dft.nil (A_cons (O_pk 0) (A_cons (O_of E_int) A_nil))))
  (SS_cons (S_if (T_cmp (op_eqD (un64 hr)) b2_eqD (O_pk 5) (O_of E_int) (by with_unfolding_all rfl)) (SS_one (S_ret (N_of (E_op or_add b2_add (O_of (E_op or_add b2_add (O_of (E_sl rfl (O_pk 1) P_none (P_some (E_var 3)))) (O_pk 4))) (O_of (E_sl rfl (O_pk 1) (P_some (E_var 3)) P_none)))))) SS_nil)
  (SS_cons (S_if (T_cmp (op_eqD (un64 hr)) b2_eqD (O_pk 5) (O_of E_int) (by with_unfolding_all rfl)) (SS_one (S_ret (N_of (E_op or_add b2_add (O_of (E_sl rfl (O_pk 1) P_none (P_some (E_var 3)))) (O_of (E_sl rfl (O_pk 1) (P_some (E_op or_add b2_add (O_pk 3) (O_of E_int))) P_none)))))) SS_nil)
  (SS_cons (S_if (T_cmp (op_eqD (un64 hr)) b2_eqD (O_pk 5) (O_of E_int) (by with_unfolding_all rfl)) (SS_one (S_ret (N_of (E_op or_add b2_add (O_of (E_op or_add b2_add (O_of (E_sl rfl (O_pk 1) P_none (P_some (E_var 3)))) (O_pk 4))) (O_of (E_sl rfl (O_pk 1) (P_some (E_op or_add b2_add (O_pk 3) (O_of E_int))) P_none)))))) SS_nil)
  (SS_cons (S_if (T_cmp (op_eqD (un64 hr)) b2_eqD (O_pk 5) (O_of E_int) (by with_unfolding_all rfl)) (SS_one (S_ret (N_of (E_sl rfl (O_pk 1) P_none (P_some (E_var 3)))))) SS_nil)
  (SS_cons (S_if (T_cmp (op_eqD (un64 hr)) b2_eqD (O_pk 5) (O_of E_int) (by with_unfolding_all rfl)) (SS_one (S_ret (N_of (E_op or_add b2_add (O_of (E_op or_add b2_add (O_pk 1) (O_of (E_ix ix_all b2_ix (O_of (E_lst (L_cons (E_str (l := [32]) (by decide +kernel)) (L_cons (E_str (l := []) (by decide +kernel)) L_nil)))) (O_of (E_of_N (N_call (ok__law_next T) (hr.mono (by decide)) (takes_of rfl rfl rfl rfl) rfl T.g__law_next T.k__law_next T.b__law_next .nil Dft.nil (A_cons (O_pk 0) (A_cons (O_of E_int) A_nil))))) (fun _ _ => rfl))))) (O_pk 2))))) SS_nil)
  (SS_cons (S_set (i := 6) sc__law_spoilt.nd rfl (by first | exact Or.inl rfl | exact Or.inr rfl) (show ¬ (6 ∈ ([0] : List Nat)) by decide) (N_of (E_op or_add b2_add (O_of E_int) (O_of (E_of_N (N_call (ok__law_next T) (hr.mono (by decide)) (takes_of rfl rfl rfl rfl) rfl T.g__law_next T.k__law_next T.b__law_next .nil Dft.nil (A_cons (O_pk 0) (A_cons (O_of E_int) A_nil))))))))
  (SS_one (S_ret (N_of (E_op or_add b2_add (O_of (E_op or_add b2_add (O_of (E_op op_repS b2_repS (O_of (E_str (l := [40]) (by decide +kernel))) (O_pk 6))) (O_pk 1))) (O_of (E_op op_repS b2_repS (O_of (E_str (l := [41]) (by decide +kernel))) (O_pk 6))))))))))))))))) (by decide) p__law_spoilt
theorem ok_law (T : Txt P K mg cls fnA fd D fI) : TopOk P w K mg base (fnA 11) (fd 11) ["_law_script"] (spOf (ctx K cls fnA) [] 1 S_law) :=
  fn_top (S := S_law) (B := b_law) (k := 26) T.F_law sc_law ⟨rfl, by decide, by decide⟩ (fun cdv s H E hr hgd => by
  unfold b_law
  exact (SS_cons (S_set (i := 1) sc_law.nd rfl (by first | exact Or.inl rfl | exact Or.inr rfl) (show ¬ (1 ∈ ([] : List Nat)) by decide) (N_call (ok__law_state T) (hr.mono (by decide)) (takes_of rfl rfl rfl rfl) rfl T.g__law_state T.k__law_state T.b__law_state .nil Dft.nil (A_cons (O_of (E_var 0)) (A_cons (O_of E_int) (A_cons (O_of E_int) A_nil)))))
  (SS_cons (S_set (i := 2) sc_law.nd rfl (by first | exact Or.inl rfl | exact Or.inr rfl) (show ¬ (2 ∈ ([] : List Nat)) by decide) (N_lst L_nil))
  (SS_cons (S_for (passes_of rfl) rfl (I_rng1 rfl T.z_range (L_cons E_int L_nil)) (G_name (i := 3) sc_law.nd rfl (by first | exact Or.inl rfl | exact Or.inr rfl) (show ¬ (3 ∈ ([] : List Nat)) by decide)) (SS_cons (S_set (i := 4) sc_law.nd rfl (by first | exact Or.inl rfl | exact Or.inr rfl) (show ¬ (4 ∈ ([] : List Nat)) by decide) (N_call (ok__law_value T 6) (hr.mono (by decide)) (takes_of rfl rfl rfl rfl) rfl T.g__law_value T.k__law_value T.b__law_value .nil Dft.nil (A_cons (O_pk 1) (A_cons (O_of (E_op or_add b2_add (O_of E_int) (O_of (E_of_N (N_call (ok__law_next T) (hr.mono (by decide)) (takes_of rfl rfl rfl rfl) rfl T.g__law_next T.k__law_next T.b__law_next .nil Dft.nil (A_cons (O_pk 1) (A_cons (O_of E_int) A_nil))))))) A_nil))))
  (SS_cons (S_for (passes_of rfl) rfl (I_rng1 rfl T.z_range (L_cons (E_of_N (N_call (ok__law_next T) (hr.mono (by decide)) (takes_of rfl rfl rfl rfl) rfl T.g__law_next T.k__law_next T.b__law_next .nil Dft.nil (A_cons (O_pk 1) (A_cons (O_of E_int) A_nil)))) L_nil)) (G_name (i := 5) sc_law.nd rfl (by first | exact Or.inl rfl | exact Or.inr rfl) (show ¬ (5 ∈ ([] : List Nat)) by decide)) (SS_one (S_set (i := 4) sc_law.nd rfl (by first | exact Or.inl rfl | exact Or.inr rfl) (show ¬ (4 ∈ ([] : List Nat)) by decide) (N_of (E_tup (L_cons (E_var 4) L_nil))))))
  (SS_one (S_app (j := 2) rfl (by first | exact Or.inl rfl | exact Or.inr (Or.inl rfl) | exact Or.inr (Or.inr rfl)) (N_of (E_var 4)))))))
  (SS_cons (S_setLc (i := 6) (own' := [("_law_value_here", 4)]) (io := [0, 1, 2, 3, 5, 6, 7, 8, 9]) rfl sc_law.nd rfl rfl (show ¬ (6 ∈ ([] : List Nat)) by decide) rfl (show ∀ i, i < 10 → i ∉ ([4] : List Nat) → i ∈ ([0, 1, 2, 3, 5, 6, 7, 8, 9] : List Nat) by decide) (I_var (I_list rfl (E_var 2)) (I_tup rfl (E_var 2)) (I_str (E_var 2))) ⟨⟨rfl, by decide +kernel, (by dsimp only [cxOf, envOfC]; decide +kernel), (by dsimp only [cxOf, envOfC]; decide +kernel), (by dsimp only [cxOf, envOfC]; decide +kernel)⟩, fun _ _ _ _ _ => (G_name (i := 4) sc_law.nd rfl (by first | exact Or.inl rfl | exact Or.inr rfl) (show ¬ (4 ∈ ([0, 1, 2, 3, 5, 6, 7, 8, 9] : List Nat)) by decide)), fun _ _ _ _ _ => Ts_nil, fun _ _ _ _ _ => (E_of_N (N_call (ok__law_written T 10) (hr.mono (by decide)) takes0 rfl T.g__law_written T.k__law_written T.b__law_written .nil Dft.nil (A_cons (O_of (E_var 4)) A_nil)))⟩)
  (SS_cons (S_for (passes_of rfl) rfl (I_rng1 rfl T.z_range (L_cons E_int L_nil)) (G_name (i := 3) sc_law.nd rfl (by first | exact Or.inl rfl | exact Or.inr rfl) (show ¬ (3 ∈ ([] : List Nat)) by decide)) (SS_cons (S_if (T_cmp (op_neD (un64 hr)) b2_neD (O_of (E_of_N (N_call (ok_write_value T 10) (hr.mono (by decide)) (takes_of rfl rfl rfl rfl) rfl T.g_write_value T.k_write_value T.b_write_value .nil Dft.nil (A_cons (O_of (E_ix ix_all b2_ix (O_pk 2) (O_pk 3) (fun _ _ => rfl))) A_nil)))) (O_of (E_ix ix_all b2_ix (O_pk 6) (O_pk 3) (fun _ _ => rfl))) (by with_unfolding_all rfl)) (SS_one (S_ret (N_of E_bl))) SS_nil)
  (SS_cons (S_set (i := 7) sc_law.nd rfl (by first | exact Or.inl rfl | exact Or.inr rfl) (show ¬ (7 ∈ ([] : List Nat)) by decide) (N_call (ok__law_read T) (hr.mono (by decide)) (takes_of rfl rfl rfl rfl) rfl T.g__law_read T.k__law_read T.b__law_read .nil Dft.nil (A_cons (O_of (E_ix ix_all b2_ix (O_pk 6) (O_pk 3) (fun _ _ => rfl))) A_nil)))
  (SS_cons (S_if (PW.pt (W_or (T_cmp (op_neD (un64 hr)) b2_neD (O_of (E_ix ix_all b2_ix (O_pk 7) (O_of E_int) (fun _ _ => rfl))) (O_of (E_str (l := [114, 101, 97, 100]) (by decide +kernel))) (by with_unfolding_all rfl)) (W_or1 (T_cmp op_ne b2_neS (O_of (E_reprA hgd hr.units (E_ix ix_all b2_ix (O_pk 7) (O_of E_int) (fun _ _ => rfl)) rfl T.z_repr)) (O_of (E_reprA hgd hr.units (E_ix ix_all b2_ix (O_pk 2) (O_pk 3) (fun _ _ => rfl)) rfl T.z_repr)) (by with_unfolding_all rfl))))) (SS_one (S_ret (N_of E_bl))) SS_nil)
  (SS_one (S_for (passes_of rfl) rfl (I_rng1 rfl T.z_range (L_cons E_int L_nil)) (G_name (i := 5) sc_law.nd rfl (by first | exact Or.inl rfl | exact Or.inr rfl) (show ¬ (5 ∈ ([] : List Nat)) by decide)) (SS_cons (S_set (i := 8) sc_law.nd rfl (by first | exact Or.inl rfl | exact Or.inr rfl) (show ¬ (8 ∈ ([] : List Nat)) by decide) (N_call (ok__law_spoilt T) (hr.mono (by decide)) (takes_of rfl rfl rfl rfl) rfl T.g__law_spoilt T.k__law_spoilt T.b__law_spoilt .nil Dft.nil (A_cons (O_pk 1) (A_cons (O_of (E_ix ix_all b2_ix (O_pk 6) (O_pk 3) (fun _ _ => rfl))) (A_cons (O_of (E_ix ix_all b2_ix (O_pk 6) (O_of (E_op op_mod (b2_int (g := gMod) fun _ _ _ => fz_int) (O_of (E_op or_add b2_add (O_pk 3) (O_of E_int))) (O_of E_int))) (fun _ _ => rfl))) A_nil)))))
  (SS_cons (S_set (i := 9) sc_law.nd rfl (by first | exact Or.inl rfl | exact Or.inr rfl) (show ¬ (9 ∈ ([] : List Nat)) by decide) (N_call (ok__law_due T) (hr.mono (by decide)) (takes_of rfl rfl rfl rfl) rfl T.g__law_due T.k__law_due T.b__law_due .nil Dft.nil (A_cons (O_of (E_var 8)) A_nil)))
  (SS_cons (S_set (i := 7) sc_law.nd rfl (by first | exact Or.inl rfl | exact Or.inr rfl) (show ¬ (7 ∈ ([] : List Nat)) by decide) (N_call (ok__law_read T) (hr.mono (by decide)) (takes_of rfl rfl rfl rfl) rfl T.g__law_read T.k__law_read T.b__law_read .nil Dft.nil (A_cons (O_of (E_var 8)) A_nil)))
  (SS_cons (S_if (PW.pt (W_or (T_cmp (op_neD (un64 hr)) b2_neD (O_of (E_ix ix_all b2_ix (O_pk 7) (O_of E_int) (fun _ _ => rfl))) (O_of (E_ix ix_all b2_ix (O_pk 9) (O_of E_int) (fun _ _ => rfl))) (by with_unfolding_all rfl)) (W_or1 (PW.pt (W_and (T_cmp (op_eqD (un64 hr)) b2_eqD (O_of (E_ix ix_all b2_ix (O_pk 9) (O_of E_int) (fun _ _ => rfl))) (O_of (E_str (l := [98, 97, 100]) (by decide +kernel))) (by with_unfolding_all rfl)) (W_and1 (T_cmp (op_neD (un64 hr)) b2_neD (O_pk 7) (O_pk 9) (by with_unfolding_all rfl)))))))) (SS_one (S_ret (N_of E_bl))) SS_nil)
  (SS_one (S_if (PW.pt (W_and (T_cmp (op_eqD (un64 hr)) b2_eqD (O_of (E_ix ix_all b2_ix (O_pk 9) (O_of E_int) (fun _ _ => rfl))) (O_of (E_str (l := [114, 101, 97, 100]) (by decide +kernel))) (by with_unfolding_all rfl)) (W_and1 (T_cmp (op_neD (un64 hr)) b2_neD (O_of (E_of_N (N_call (ok_write_value T 10) (hr.mono (by decide)) (takes_of rfl rfl rfl rfl) rfl T.g_write_value T.k_write_value T.b_write_value .nil Dft.nil (A_cons (O_of (E_ix ix_all b2_ix (O_pk 7) (O_of E_int) (fun _ _ => rfl))) A_nil)))) (O_pk 8) (by with_unfolding_all rfl))))) (SS_one (S_ret (N_of E_bl))) SS_nil))))))))))))
  (SS_one (S_ret (N_of (E_cmp (op_eqD (un64 hr)) b2_eqD (O_of (E_of_N (N_call (ok__law_read T) (hr.mono (by decide)) (takes_of rfl rfl rfl rfl) rfl T.g__law_read T.k__law_read T.b__law_read .nil Dft.nil (A_cons (O_of (E_str (l := []) (by decide +kernel))) A_nil)))) (O_of (E_tup (L_cons (E_str (l := [98, 97, 100]) (by decide +kernel)) (L_cons E_int L_nil)))) (by with_unfolding_all rfl))))))))))) p_law
end
theorem all_mk {P : Program} {w : World} {K : PySem.W.Frag} {h : Heap} {mg : Str → Option Value} {fa : Addr}
    {C0 C1 C2 C3 C4 C5 C6 f0 f1 f2 f3 f4 f5 f6 f7 f8 f9 f10 f11 f12 f13 f14 f15 f16 f17 f18 f19 fI : Addr}
    {nm0 q0 : Str} {N0 : Addr} {bs0 bm0 : List Value} {sn0 : List Str} {sub0 : List Value} {ab0 : Bool} {col0 : Option Bool} {dd0 : Option Addr} {ka0 kb0 kc0 kd0 ke0 : Option Value}
    {nm1 q1 : Str} {N1 : Addr} {bs1 bm1 : List Value} {sn1 : List Str} {sub1 : List Value} {ab1 : Bool} {col1 : Option Bool} {dd1 : Option Addr} {ka1 kb1 kc1 kd1 ke1 : Option Value}
    {nm2 q2 : Str} {N2 : Addr} {bs2 bm2 : List Value} {sn2 : List Str} {sub2 : List Value} {ab2 : Bool} {col2 : Option Bool} {dd2 : Option Addr} {ka2 kb2 kc2 kd2 ke2 : Option Value}
    {nm3 q3 : Str} {N3 : Addr} {bs3 bm3 : List Value} {sn3 : List Str} {sub3 : List Value} {ab3 : Bool} {col3 : Option Bool} {dd3 : Option Addr} {ka3 kb3 kc3 kd3 ke3 : Option Value}
    {nm4 q4 : Str} {N4 : Addr} {bs4 bm4 : List Value} {sn4 : List Str} {sub4 : List Value} {ab4 : Bool} {col4 : Option Bool} {dd4 : Option Addr} {ka4 kb4 kc4 kd4 ke4 : Option Value}
    {nm5 q5 : Str} {N5 : Addr} {bs5 bm5 : List Value} {sn5 : List Str} {sub5 : List Value} {ab5 : Bool} {col5 : Option Bool} {dd5 : Option Addr} {ka5 kb5 kc5 kd5 ke5 : Option Value}
    {oc : Value} {od : Option Addr} {dT : Addr} {kV doc pm : Value} {an : Option Addr} {cda cc : Addr} {ct : Value} {osl : Array (Option Value)} {p1 p2 p3 q1_ q2_ q3_ q4_ q5_ q6_ r1 r2 r3 r4 : Pos}
    {oT : Obj} {nT : Nat}
    {cl : Value} {cld : Option Addr} {csl : Array (Option Value)} {ccl : Value} {cdd : Option Addr} {vs : Array Value} {ccs : Array (Option Value)} {file : Str} {tf : Tok}
    {s_LETTERS_ : Str} {t_LETTERS_ : Tok}
    {t_MOST_DIGITS_ : Tok}
    {t_MOST_OPEN_ : Tok}
    {oc0 kV0 dc0 pm0 cd0 ct0 : Value} {od0 an0 : Option Addr} {sl0 : Array (Option Value)}
    {oc1 kV1 dc1 pm1 cd1 ct1 : Value} {od1 an1 : Option Addr} {sl1 : Array (Option Value)}
    {oc2 kV2 dc2 pm2 cd2 ct2 : Value} {od2 an2 : Option Addr} {sl2 : Array (Option Value)}
    {oc3 kV3 dc3 pm3 cd3 ct3 : Value} {od3 an3 : Option Addr} {sl3 : Array (Option Value)}
    {oc4 kV4 dc4 pm4 cd4 ct4 : Value} {od4 an4 : Option Addr} {sl4 : Array (Option Value)}
    {oc5 kV5 dc5 pm5 cd5 ct5 : Value} {od5 an5 : Option Addr} {sl5 : Array (Option Value)}
    {oc6 kV6 dc6 pm6 cd6 ct6 : Value} {od6 an6 : Option Addr} {sl6 : Array (Option Value)}
    {oc7 kV7 dc7 pm7 cd7 ct7 : Value} {od7 an7 : Option Addr} {sl7 : Array (Option Value)}
    {oc8 kV8 dc8 pm8 cd8 ct8 : Value} {od8 an8 : Option Addr} {sl8 : Array (Option Value)}
    {oc9 kV9 dc9 pm9 cd9 ct9 : Value} {od9 an9 : Option Addr} {sl9 : Array (Option Value)}
    {oc10 kV10 dc10 pm10 cd10 ct10 : Value} {od10 an10 : Option Addr} {sl10 : Array (Option Value)}
    {oc11 kV11 dc11 pm11 cd11 ct11 : Value} {od11 an11 : Option Addr} {sl11 : Array (Option Value)}
    {oc12 kV12 dc12 pm12 cd12 ct12 : Value} {od12 an12 : Option Addr} {sl12 : Array (Option Value)}
    {oc13 kV13 dc13 pm13 cd13 ct13 : Value} {od13 an13 : Option Addr} {sl13 : Array (Option Value)}
    {oc14 kV14 dc14 pm14 cd14 ct14 : Value} {od14 an14 : Option Addr} {sl14 : Array (Option Value)}
    {oc15 kV15 dc15 pm15 cd15 ct15 : Value} {od15 an15 : Option Addr} {sl15 : Array (Option Value)}
    {oc16 kV16 dc16 pm16 cd16 ct16 : Value} {od16 an16 : Option Addr} {sl16 : Array (Option Value)}
    {oc17 kV17 dc17 pm17 cd17 ct17 : Value} {od17 an17 : Option Addr} {sl17 : Array (Option Value)}
    {oc18 kV18 dc18 pm18 cd18 ct18 : Value} {od18 an18 : Option Addr} {sl18 : Array (Option Value)}
    {oc19 kV19 dc19 pm19 cd19 ct19 : Value} {od19 an19 : Option Addr} {sl19 : Array (Option Value)}
    (X : K.In h) (G : h.Ns mainGlobals mg) (hfa : mg "law" = some (.ref fa))
    (aC0 : PySem.W.nsIn K mainGlobals "AnytextError" = some (some (.ref C0)))
    (xC0 : K.lookup C0 = some (excClassObj nm0 q0 C0 N0 bs0 bm0 true sn0 sub0 ab0 col0 dd0 ka0 kb0 kc0 kd0 ke0 "ValueError.__new__"))
    (aC1 : PySem.W.nsIn K mainGlobals "PatternError" = some (some (.ref C1)))
    (xC1 : K.lookup C1 = some (excClassObj nm1 q1 C1 N1 bs1 bm1 true sn1 sub1 ab1 col1 dd1 ka1 kb1 kc1 kd1 ke1 "ValueError.__new__"))
    (aC2 : PySem.W.nsIn K mainGlobals "ProgramError" = some (some (.ref C2)))
    (xC2 : K.lookup C2 = some (excClassObj nm2 q2 C2 N2 bs2 bm2 true sn2 sub2 ab2 col2 dd2 ka2 kb2 kc2 kd2 ke2 "ValueError.__new__"))
    (aC3 : PySem.W.nsIn K mainGlobals "BadLine" = some (some (.ref C3)))
    (xC3 : K.lookup C3 = some (excClassObj nm3 q3 C3 N3 bs3 bm3 true sn3 sub3 ab3 col3 dd3 ka3 kb3 kc3 kd3 ke3 "ValueError.__new__"))
    (aC4 : PySem.W.nsIn K mainGlobals "RecordError" = some (some (.ref C4)))
    (xC4 : K.lookup C4 = some (excClassObj nm4 q4 C4 N4 bs4 bm4 true sn4 sub4 ab4 col4 dd4 ka4 kb4 kc4 kd4 ke4 "ValueError.__new__"))
    (aC5 : PySem.W.nsIn K mainGlobals "BadRecord" = some (some (.ref C5)))
    (xC5 : K.lookup C5 = some (excClassObj nm5 q5 C5 N5 bs5 bm5 true sn5 sub5 ab5 col5 dd5 ka5 kb5 kc5 kd5 ke5 "ValueError.__new__"))
    (aI : PySem.W.findIn K (.ref C0) "__init__" = some (some (.ref fI)))
    (lI : K.lookup fI = some ⟨oc, od, .func (PySem.W.ksFn "__init__" "AnytextError.__init__" (PySem.AnyX.aArgs p1 p2 p3) (PySem.AnyX.aBody q1_ q2_ q3_ q4_ q5_ q6_ r1 r2 r3 r4) PySem.AnyX.aScope (.ref dT) kV doc pm an (.ref cda) ct cc), osl⟩)
    (cI : PySem.W.codeIn K (.ref cda) "AnytextError.__init__" = true)
    (lT : K.lookup dT = some oT)
    (sT : oT.data = .seq #[.none] nT)
    (lc : K.lookup cc = some ⟨cl, cld, .cell (some (.ref C0)), csl⟩)
    (ld : K.lookup cda = some ⟨ccl, cdd, .fields vs, ccs⟩)
    (hvs : vs[2]? = some (.str file tf))
    (hfile : ((P.main.file : Str) == file) = true)
    (hln : (q3_.endLine == q5_.line) = true)
    (htop : (P.main.scope.names.lookup ("super" : Str)).isSome = false)
    (hany : PySem.W.nsIn K PySem.cStatics "thirdparty.any" = some none)
    (tI : PySem.W.typeIn K (.ref fI) = some (.type "function"))
    (kb_0 : kindB K C0 fI C0 bm0 = true)
    (kb_1 : kindB K C0 fI C1 bm1 = true)
    (kb_2 : kindB K C0 fI C2 bm2 = true)
    (kb_3 : kindB K C0 fI C3 bm3 = true)
    (kb_4 : kindB K C0 fI C4 bm4 = true)
    (kb_5 : kindB K C0 fI C5 bm5 = true)
    (tb : tabB K (fun i => [C0, C1, C2, C3, C4, C5, C6].getD i 0) nErr subE = true)
    (z_abs : PySem.W.nsIn K mainGlobals "abs" = some none)
    (z_bool : PySem.W.nsIn K mainGlobals "bool" = some none)
    (z_int : PySem.W.nsIn K mainGlobals "int" = some none)
    (z_isinstance : PySem.W.nsIn K mainGlobals "isinstance" = some none)
    (z_len : PySem.W.nsIn K mainGlobals "len" = some none)
    (z_range : PySem.W.nsIn K mainGlobals "range" = some none)
    (z_repr : PySem.W.nsIn K mainGlobals "repr" = some none)
    (z_str : PySem.W.nsIn K mainGlobals "str" = some none)
    (z_tuple : PySem.W.nsIn K mainGlobals "tuple" = some none)
    (z_super : PySem.W.nsIn K mainGlobals "super" = some none)
    (g_LETTERS : PySem.W.nsIn K mainGlobals "LETTERS" = some (some (.str s_LETTERS_ t_LETTERS_)))
    (e_LETTERS : s_LETTERS_.cps.toList = s_LETTERS)
    (g_MOST_DIGITS : PySem.W.nsIn K mainGlobals "MOST_DIGITS" = some (some (.int 9 t_MOST_DIGITS_)))
    (g_MOST_OPEN : PySem.W.nsIn K mainGlobals "MOST_OPEN" = some (some (.int 8 t_MOST_OPEN_)))
    (aC6 : PySem.W.nsIn K mainGlobals "ValueReader" = some (some (.ref C6)))
    (pg6 : PySem.W.plainGet K C6 Str.empty = true)
    (hd6 : PySem.W.hasDictIn K C6 = true)
    (po6 : PySem.W.plainOver K C6 = true)
    (sa6 : PySem.W.findIn K (.ref C6) "__setattr__" = some (some (.builtin "object.__setattr__")))
    (mk6 : PySem.W.makesIn K C6 = true)
    (kc6 : PySem.W.keepIn K (.ref C6) = true)
    (na6__text : PySem.W.findIn K (.ref C6) "_text" = some none)
    (na6__place : PySem.W.findIn K (.ref C6) "_place" = some none)
    (a0 : PySem.W.nsIn K mainGlobals "write_value" = some (some (.ref f0)))
    (l0 : K.lookup f0 = some ⟨oc0, od0, .func (PySem.W.fnOf "write_value" "write_value" (defArgs st_write_value) (defBody st_write_value) (defScope st_write_value) .none kV0 dc0 pm0 an0 cd0 ct0), sl0⟩)
    (c0 : PySem.W.codeIn K cd0 "write_value" = true)
    (k0 : PySem.W.keepIn K (.ref f0) = true)
    (a1 : PySem.W.nsIn K mainGlobals "read_value" = some (some (.ref f1)))
    (l1 : K.lookup f1 = some ⟨oc1, od1, .func (PySem.W.fnOf "read_value" "read_value" (defArgs st_read_value) (defBody st_read_value) (defScope st_read_value) .none kV1 dc1 pm1 an1 cd1 ct1), sl1⟩)
    (c1 : PySem.W.codeIn K cd1 "read_value" = true)
    (k1 : PySem.W.keepIn K (.ref f1) = true)
    (a2 : PySem.W.nsIn K mainGlobals "_law_cell" = some (some (.ref f2)))
    (l2 : K.lookup f2 = some ⟨oc2, od2, .func (PySem.W.fnOf "_law_cell" "_law_cell" (defArgs st__law_cell) (defBody st__law_cell) (defScope st__law_cell) .none kV2 dc2 pm2 an2 cd2 ct2), sl2⟩)
    (c2 : PySem.W.codeIn K cd2 "_law_cell" = true)
    (k2 : PySem.W.keepIn K (.ref f2) = true)
    (a3 : PySem.W.nsIn K mainGlobals "_law_numbers" = some (some (.ref f3)))
    (l3 : K.lookup f3 = some ⟨oc3, od3, .func (PySem.W.fnOf "_law_numbers" "_law_numbers" (defArgs st__law_numbers) (defBody st__law_numbers) (defScope st__law_numbers) .none kV3 dc3 pm3 an3 cd3 ct3), sl3⟩)
    (c3 : PySem.W.codeIn K cd3 "_law_numbers" = true)
    (k3 : PySem.W.keepIn K (.ref f3) = true)
    (a4 : PySem.W.nsIn K mainGlobals "_law_state" = some (some (.ref f4)))
    (l4 : K.lookup f4 = some ⟨oc4, od4, .func (PySem.W.fnOf "_law_state" "_law_state" (defArgs st__law_state) (defBody st__law_state) (defScope st__law_state) .none kV4 dc4 pm4 an4 cd4 ct4), sl4⟩)
    (c4 : PySem.W.codeIn K cd4 "_law_state" = true)
    (k4 : PySem.W.keepIn K (.ref f4) = true)
    (a5 : PySem.W.nsIn K mainGlobals "_law_next" = some (some (.ref f5)))
    (l5 : K.lookup f5 = some ⟨oc5, od5, .func (PySem.W.fnOf "_law_next" "_law_next" (defArgs st__law_next) (defBody st__law_next) (defScope st__law_next) .none kV5 dc5 pm5 an5 cd5 ct5), sl5⟩)
    (c5 : PySem.W.codeIn K cd5 "_law_next" = true)
    (k5 : PySem.W.keepIn K (.ref f5) = true)
    (a6 : PySem.W.nsIn K mainGlobals "_law_value" = some (some (.ref f6)))
    (l6 : K.lookup f6 = some ⟨oc6, od6, .func (PySem.W.fnOf "_law_value" "_law_value" (defArgs st__law_value) (defBody st__law_value) (defScope st__law_value) .none kV6 dc6 pm6 an6 cd6 ct6), sl6⟩)
    (c6 : PySem.W.codeIn K cd6 "_law_value" = true)
    (k6 : PySem.W.keepIn K (.ref f6) = true)
    (a7 : PySem.W.nsIn K mainGlobals "_law_written" = some (some (.ref f7)))
    (l7 : K.lookup f7 = some ⟨oc7, od7, .func (PySem.W.fnOf "_law_written" "_law_written" (defArgs st__law_written) (defBody st__law_written) (defScope st__law_written) .none kV7 dc7 pm7 an7 cd7 ct7), sl7⟩)
    (c7 : PySem.W.codeIn K cd7 "_law_written" = true)
    (k7 : PySem.W.keepIn K (.ref f7) = true)
    (a8 : PySem.W.nsIn K mainGlobals "_law_read" = some (some (.ref f8)))
    (l8 : K.lookup f8 = some ⟨oc8, od8, .func (PySem.W.fnOf "_law_read" "_law_read" (defArgs st__law_read) (defBody st__law_read) (defScope st__law_read) .none kV8 dc8 pm8 an8 cd8 ct8), sl8⟩)
    (c8 : PySem.W.codeIn K cd8 "_law_read" = true)
    (k8 : PySem.W.keepIn K (.ref f8) = true)
    (a9 : PySem.W.nsIn K mainGlobals "_law_due" = some (some (.ref f9)))
    (l9 : K.lookup f9 = some ⟨oc9, od9, .func (PySem.W.fnOf "_law_due" "_law_due" (defArgs st__law_due) (defBody st__law_due) (defScope st__law_due) .none kV9 dc9 pm9 an9 cd9 ct9), sl9⟩)
    (c9 : PySem.W.codeIn K cd9 "_law_due" = true)
    (k9 : PySem.W.keepIn K (.ref f9) = true)
    (a10 : PySem.W.nsIn K mainGlobals "_law_spoilt" = some (some (.ref f10)))
    (l10 : K.lookup f10 = some ⟨oc10, od10, .func (PySem.W.fnOf "_law_spoilt" "_law_spoilt" (defArgs st__law_spoilt) (defBody st__law_spoilt) (defScope st__law_spoilt) .none kV10 dc10 pm10 an10 cd10 ct10), sl10⟩)
    (c10 : PySem.W.codeIn K cd10 "_law_spoilt" = true)
    (k10 : PySem.W.keepIn K (.ref f10) = true)
    (a11 : PySem.W.nsIn K mainGlobals "law" = some (some (.ref f11)))
    (l11 : K.lookup f11 = some ⟨oc11, od11, .func (PySem.W.fnOf "law" "law" (defArgs st_law) (defBody st_law) (defScope st_law) .none kV11 dc11 pm11 an11 cd11 ct11), sl11⟩)
    (c11 : PySem.W.codeIn K cd11 "law" = true)
    (k11 : PySem.W.keepIn K (.ref f11) = true)
    (a12 : PySem.W.findIn K (.ref C6) "__init__" = some (some (.ref f12)))
    (i12 : PySem.W.isFn K (.ref f12) = true)
    (l12 : K.lookup f12 = some ⟨oc12, od12, .func (PySem.W.fnOf "__init__" "ValueReader.__init__" (defArgs st_ValueReader___init__) (defBody st_ValueReader___init__) (defScope st_ValueReader___init__) .none kV12 dc12 pm12 an12 cd12 ct12), sl12⟩)
    (c12 : PySem.W.codeIn K cd12 "ValueReader.__init__" = true)
    (k12 : PySem.W.keepIn K (.ref f12) = true)
    (a13 : PySem.W.findIn K (.ref C6) "_next" = some (some (.ref f13)))
    (i13 : PySem.W.isFn K (.ref f13) = true)
    (l13 : K.lookup f13 = some ⟨oc13, od13, .func (PySem.W.fnOf "_next" "ValueReader._next" (defArgs st_ValueReader__next) (defBody st_ValueReader__next) (defScope st_ValueReader__next) .none kV13 dc13 pm13 an13 cd13 ct13), sl13⟩)
    (c13 : PySem.W.codeIn K cd13 "ValueReader._next" = true)
    (k13 : PySem.W.keepIn K (.ref f13) = true)
    (a14 : PySem.W.findIn K (.ref C6) "_step" = some (some (.ref f14)))
    (i14 : PySem.W.isFn K (.ref f14) = true)
    (l14 : K.lookup f14 = some ⟨oc14, od14, .func (PySem.W.fnOf "_step" "ValueReader._step" (defArgs st_ValueReader__step) (defBody st_ValueReader__step) (defScope st_ValueReader__step) .none kV14 dc14 pm14 an14 cd14 ct14), sl14⟩)
    (c14 : PySem.W.codeIn K cd14 "ValueReader._step" = true)
    (k14 : PySem.W.keepIn K (.ref f14) = true)
    (a15 : PySem.W.findIn K (.ref C6) "whole" = some (some (.ref f15)))
    (i15 : PySem.W.isFn K (.ref f15) = true)
    (l15 : K.lookup f15 = some ⟨oc15, od15, .func (PySem.W.fnOf "whole" "ValueReader.whole" (defArgs st_ValueReader_whole) (defBody st_ValueReader_whole) (defScope st_ValueReader_whole) .none kV15 dc15 pm15 an15 cd15 ct15), sl15⟩)
    (c15 : PySem.W.codeIn K cd15 "ValueReader.whole" = true)
    (k15 : PySem.W.keepIn K (.ref f15) = true)
    (a16 : PySem.W.findIn K (.ref C6) "_value" = some (some (.ref f16)))
    (i16 : PySem.W.isFn K (.ref f16) = true)
    (l16 : K.lookup f16 = some ⟨oc16, od16, .func (PySem.W.fnOf "_value" "ValueReader._value" (defArgs st_ValueReader__value) (defBody st_ValueReader__value) (defScope st_ValueReader__value) .none kV16 dc16 pm16 an16 cd16 ct16), sl16⟩)
    (c16 : PySem.W.codeIn K cd16 "ValueReader._value" = true)
    (k16 : PySem.W.keepIn K (.ref f16) = true)
    (a17 : PySem.W.findIn K (.ref C6) "_letters" = some (some (.ref f17)))
    (i17 : PySem.W.isFn K (.ref f17) = true)
    (l17 : K.lookup f17 = some ⟨oc17, od17, .func (PySem.W.fnOf "_letters" "ValueReader._letters" (defArgs st_ValueReader__letters) (defBody st_ValueReader__letters) (defScope st_ValueReader__letters) .none kV17 dc17 pm17 an17 cd17 ct17), sl17⟩)
    (c17 : PySem.W.codeIn K cd17 "ValueReader._letters" = true)
    (k17 : PySem.W.keepIn K (.ref f17) = true)
    (a18 : PySem.W.findIn K (.ref C6) "_items" = some (some (.ref f18)))
    (i18 : PySem.W.isFn K (.ref f18) = true)
    (l18 : K.lookup f18 = some ⟨oc18, od18, .func (PySem.W.fnOf "_items" "ValueReader._items" (defArgs st_ValueReader__items) (defBody st_ValueReader__items) (defScope st_ValueReader__items) .none kV18 dc18 pm18 an18 cd18 ct18), sl18⟩)
    (c18 : PySem.W.codeIn K cd18 "ValueReader._items" = true)
    (k18 : PySem.W.keepIn K (.ref f18) = true)
    (a19 : PySem.W.findIn K (.ref C6) "_number" = some (some (.ref f19)))
    (i19 : PySem.W.isFn K (.ref f19) = true)
    (l19 : K.lookup f19 = some ⟨oc19, od19, .func (PySem.W.fnOf "_number" "ValueReader._number" (defArgs st_ValueReader__number) (defBody st_ValueReader__number) (defScope st_ValueReader__number) .none kV19 dc19 pm19 an19 cd19 ct19), sl19⟩)
    (c19 : PySem.W.codeIn K cd19 "ValueReader._number" = true)
    (k19 : PySem.W.keepIn K (.ref f19) = true) :
    ∃ fd : FuncData, (∀ (s : Shared) (u : Value), BindsTo s fd ⟨[u], []⟩ [("_law_script", u)]) ∧ ∀ base : Heap, K.In base → base.Ns mainGlobals mg → TopOk P w K mg base fa fd ["_law_script"] (spLaw K) := by
  have e : some (Value.ref fa) = some (Value.ref f11) := hfa.symm.trans (PySem.W.mg_of X G a11)
  have e2 : f11 = fa := by
    injection e with e1
    injection e1 with e3
    exact e3.symm
  subst e2
  have K0 := kind_of xC0 kb_0
  have K1 := kind_of xC1 kb_1
  have K2 := kind_of xC2 kb_2
  have K3 := kind_of xC3 kb_3
  have K4 := kind_of xC4 kb_4
  have K5 := kind_of xC5 kb_5
  have kd : ∀ C, C < nErr → PySem.AnyX.Kind K C0 fI ((fun i => [C0, C1, C2, C3, C4, C5, C6].getD i 0) C) ∧ ExcC K ((fun i => [C0, C1, C2, C3, C4, C5, C6].getD i 0) C) := by
    intro C hC
    match C, hC with
    | 0, _ => exact K0
    | 1, _ => exact K1
    | 2, _ => exact K2
    | 3, _ => exact K3
    | 4, _ => exact K4
    | 5, _ => exact K5
    | C + 6, hC => exact absurd hC (by unfold nErr; omega)
  have gc : ∀ j nm, errNm j = some nm → mg nm = some (.ref ((fun i => [C0, C1, C2, C3, C4, C5, C6].getD i 0) j)) := by
    intro j nm hj
    match j, hj with
    | 0, hj => cases hj; exact PySem.W.mg_of X G aC0
    | 1, hj => cases hj; exact PySem.W.mg_of X G aC1
    | 2, hj => cases hj; exact PySem.W.mg_of X G aC2
    | 3, hj => cases hj; exact PySem.W.mg_of X G aC3
    | 4, hj => cases hj; exact PySem.W.mg_of X G aC4
    | 5, hj => cases hj; exact PySem.W.mg_of X G aC5
    | j + 6, hj => exact absurd hj (by unfold errNm; simp)
  have lt1 : ∀ {j C : Nat} {b : Bool}, subE j C = some b → C < nErr ∧ j < nErr := by
    intro j C b e
    unfold subE at e
    obtain ⟨r, h1, h2⟩ := Option.bind_eq_some_iff.mp e
    have l1 := (List.getElem?_eq_some_iff.mp h1).1
    have l2 := (List.getElem?_eq_some_iff.mp h2).1
    have l3 : ∀ r ∈ subTab, r.length = nErr := by decide
    exact ⟨by rw [← l3 r (List.mem_of_getElem? h1)]; exact l2, l1⟩
  have base : PySem.AnyX.Base P K C0 fI := ⟨⟨oc, od, dT, oT, nT, kV, doc, pm, an, cda, cc, ct, osl, p1, p2, p3, q1_, q2_, q3_, q4_, q5_, q6_, r1, r2, r3, r4, cl, cld, csl, ccl, cdd, vs, ccs, file, tf, lI, lT, sT, cI, lc, ld, hvs, hfile, hln⟩, by
    unfold PySem.W.clsIn
    rw [xC0]
    exact ⟨_, rfl⟩, htop, hany, tI⟩
  have kits : ∀ js C b, subsE js C = some b → (∀ j ∈ js, j < nErr) → ExcC K ((fun i => [C0, C1, C2, C3, C4, C5, C6].getD i 0) C) ∧ PySem.W.kitAny K (.ref ((fun i => [C0, C1, C2, C3, C4, C5, C6].getD i 0) C)) (js.map fun j => .ref ((fun i => [C0, C1, C2, C3, C4, C5, C6].getD i 0) j)) = some b := by
    intro js C b e hjs
    unfold subsE at e
    split at e
    · rename_i hC
      cases e
      refine ⟨(kd C hC).2, kitAny_of (g := fun j => subE j C == some true) fun j hj => ?_⟩
      obtain ⟨h1, _, h3⟩ := (tab_of tb C hC).2 j (hjs j hj)
      rw [h3]
      cases h4 : subE j C with
      | none => rw [h4] at h1; cases h1
      | some v => cases v <;> rfl
    · cases e
  have kitV : ∀ C b, allE C = some b → ExcC K ((fun i => [C0, C1, C2, C3, C4, C5, C6].getD i 0) C) ∧ PySem.W.kitOne K (.ref ((fun i => [C0, C1, C2, C3, C4, C5, C6].getD i 0) C)) (.type "ValueError") = some b := by
    intro C b e
    unfold allE at e
    split at e
    · rename_i hC
      cases e
      exact ⟨(kd C hC).2, (tab_of tb C hC).1⟩
    · cases e
  have T : Txt P K mg (fun i => [C0, C1, C2, C3, C4, C5, C6].getD i 0) (fun i => [f0, f1, f2, f3, f4, f5, f6, f7, f8, f9, f10, f11, f12, f13, f14, f15, f16, f17, f18, f19].getD i 0) (fun i => [PySem.W.fnOf "write_value" "write_value" (defArgs st_write_value) (defBody st_write_value) (defScope st_write_value) .none kV0 dc0 pm0 an0 cd0 ct0, PySem.W.fnOf "read_value" "read_value" (defArgs st_read_value) (defBody st_read_value) (defScope st_read_value) .none kV1 dc1 pm1 an1 cd1 ct1, PySem.W.fnOf "_law_cell" "_law_cell" (defArgs st__law_cell) (defBody st__law_cell) (defScope st__law_cell) .none kV2 dc2 pm2 an2 cd2 ct2, PySem.W.fnOf "_law_numbers" "_law_numbers" (defArgs st__law_numbers) (defBody st__law_numbers) (defScope st__law_numbers) .none kV3 dc3 pm3 an3 cd3 ct3, PySem.W.fnOf "_law_state" "_law_state" (defArgs st__law_state) (defBody st__law_state) (defScope st__law_state) .none kV4 dc4 pm4 an4 cd4 ct4, PySem.W.fnOf "_law_next" "_law_next" (defArgs st__law_next) (defBody st__law_next) (defScope st__law_next) .none kV5 dc5 pm5 an5 cd5 ct5, PySem.W.fnOf "_law_value" "_law_value" (defArgs st__law_value) (defBody st__law_value) (defScope st__law_value) .none kV6 dc6 pm6 an6 cd6 ct6, PySem.W.fnOf "_law_written" "_law_written" (defArgs st__law_written) (defBody st__law_written) (defScope st__law_written) .none kV7 dc7 pm7 an7 cd7 ct7, PySem.W.fnOf "_law_read" "_law_read" (defArgs st__law_read) (defBody st__law_read) (defScope st__law_read) .none kV8 dc8 pm8 an8 cd8 ct8, PySem.W.fnOf "_law_due" "_law_due" (defArgs st__law_due) (defBody st__law_due) (defScope st__law_due) .none kV9 dc9 pm9 an9 cd9 ct9, PySem.W.fnOf "_law_spoilt" "_law_spoilt" (defArgs st__law_spoilt) (defBody st__law_spoilt) (defScope st__law_spoilt) .none kV10 dc10 pm10 an10 cd10 ct10, PySem.W.fnOf "law" "law" (defArgs st_law) (defBody st_law) (defScope st_law) .none kV11 dc11 pm11 an11 cd11 ct11, PySem.W.fnOf "__init__" "ValueReader.__init__" (defArgs st_ValueReader___init__) (defBody st_ValueReader___init__) (defScope st_ValueReader___init__) .none kV12 dc12 pm12 an12 cd12 ct12, PySem.W.fnOf "_next" "ValueReader._next" (defArgs st_ValueReader__next) (defBody st_ValueReader__next) (defScope st_ValueReader__next) .none kV13 dc13 pm13 an13 cd13 ct13, PySem.W.fnOf "_step" "ValueReader._step" (defArgs st_ValueReader__step) (defBody st_ValueReader__step) (defScope st_ValueReader__step) .none kV14 dc14 pm14 an14 cd14 ct14, PySem.W.fnOf "whole" "ValueReader.whole" (defArgs st_ValueReader_whole) (defBody st_ValueReader_whole) (defScope st_ValueReader_whole) .none kV15 dc15 pm15 an15 cd15 ct15, PySem.W.fnOf "_value" "ValueReader._value" (defArgs st_ValueReader__value) (defBody st_ValueReader__value) (defScope st_ValueReader__value) .none kV16 dc16 pm16 an16 cd16 ct16, PySem.W.fnOf "_letters" "ValueReader._letters" (defArgs st_ValueReader__letters) (defBody st_ValueReader__letters) (defScope st_ValueReader__letters) .none kV17 dc17 pm17 an17 cd17 ct17, PySem.W.fnOf "_items" "ValueReader._items" (defArgs st_ValueReader__items) (defBody st_ValueReader__items) (defScope st_ValueReader__items) .none kV18 dc18 pm18 an18 cd18 ct18, PySem.W.fnOf "_number" "ValueReader._number" (defArgs st_ValueReader__number) (defBody st_ValueReader__number) (defScope st_ValueReader__number) .none kV19 dc19 pm19 an19 cd19 ct19].getD i (PySem.W.fnOf "law" "law" (defArgs st_law) (defBody st_law) (defScope st_law) .none kV11 dc11 pm11 an11 cd11 ct11)) C0 fI :=
    { z_abs := PySem.W.mg_none_of X G z_abs
      z_bool := PySem.W.mg_none_of X G z_bool
      z_int := PySem.W.mg_none_of X G z_int
      z_isinstance := PySem.W.mg_none_of X G z_isinstance
      z_len := PySem.W.mg_none_of X G z_len
      z_range := PySem.W.mg_none_of X G z_range
      z_repr := PySem.W.mg_none_of X G z_repr
      z_str := PySem.W.mg_none_of X G z_str
      z_tuple := PySem.W.mg_none_of X G z_tuple
      z_super := PySem.W.mg_none_of X G z_super
      g_LETTERS := ⟨_, _, PySem.W.mg_of X G g_LETTERS, e_LETTERS⟩
      g_MOST_DIGITS := ⟨_, PySem.W.mg_of X G g_MOST_DIGITS⟩
      g_MOST_OPEN := ⟨_, PySem.W.mg_of X G g_MOST_OPEN⟩
      base := base
      kinds := fun C hC => (kd C (of_decide_eq_true hC)).1
      gc := gc
      exm := fun j C b e => ((tab_of tb C (lt1 e).1).2 j (lt1 e).2).2.1.trans e
      kit := fun j C b e => ⟨(kd C (lt1 e).1).2, ((tab_of tb C (lt1 e).1).2 j (lt1 e).2).2.2.trans e⟩
      kits := kits
      kitV := kitV
      g_ValueReader := PySem.W.mg_of X G aC6
      cl_ValueReader := ⟨pg6, hd6, po6, sa6⟩
      mk_ValueReader := ⟨mk6, a12, i12, kc6⟩
      na_ValueReader__text := na6__text
      na_ValueReader__place := na6__place
      F_write_value := fun_mk (st := st_write_value) l0 c0 k0
      g_write_value := PySem.W.mg_of X G a0
      k_write_value := k0
      b_write_value := (fun_mk (st := st_write_value) l0 c0 k0).binds (ps := ["value"]) fun _ _ _ _ _ _ us hl => match us, hl with | [_], _ => rfl
      F_read_value := fun_mk (st := st_read_value) l1 c1 k1
      g_read_value := PySem.W.mg_of X G a1
      k_read_value := k1
      b_read_value := (fun_mk (st := st_read_value) l1 c1 k1).binds (ps := ["text"]) fun _ _ _ _ _ _ us hl => match us, hl with | [_], _ => rfl
      F__law_cell := fun_mk (st := st__law_cell) l2 c2 k2
      g__law_cell := PySem.W.mg_of X G a2
      k__law_cell := k2
      b__law_cell := (fun_mk (st := st__law_cell) l2 c2 k2).binds (ps := ["_law_script", "_law_k"]) fun _ _ _ _ _ _ us hl => match us, hl with | [_, _], _ => rfl
      F__law_numbers := fun_mk (st := st__law_numbers) l3 c3 k3
      g__law_numbers := PySem.W.mg_of X G a3
      k__law_numbers := k3
      b__law_numbers := (fun_mk (st := st__law_numbers) l3 c3 k3).binds (ps := ["_law_cell_here", "_law_many"]) fun _ _ _ _ _ _ us hl => match us, hl with | [_, _], _ => rfl
      F__law_state := fun_mk (st := st__law_state) l4 c4 k4
      g__law_state := PySem.W.mg_of X G a4
      k__law_state := k4
      b__law_state := (fun_mk (st := st__law_state) l4 c4 k4).binds (ps := ["_law_script", "_law_start", "_law_many"]) fun _ _ _ _ _ _ us hl => match us, hl with | [_, _, _], _ => rfl
      F__law_next := fun_mk (st := st__law_next) l5 c5 k5
      g__law_next := PySem.W.mg_of X G a5
      k__law_next := k5
      b__law_next := (fun_mk (st := st__law_next) l5 c5 k5).binds (ps := ["_law_state_here", "_law_many"]) fun _ _ _ _ _ _ us hl => match us, hl with | [_, _], _ => rfl
      F__law_value := fun_mk (st := st__law_value) l6 c6 k6
      g__law_value := PySem.W.mg_of X G a6
      k__law_value := k6
      b__law_value := (fun_mk (st := st__law_value) l6 c6 k6).binds (ps := ["_law_state_here", "_law_deep"]) fun _ _ _ _ _ _ us hl => match us, hl with | [_, _], _ => rfl
      F__law_written := fun_mk (st := st__law_written) l7 c7 k7
      g__law_written := PySem.W.mg_of X G a7
      k__law_written := k7
      b__law_written := (fun_mk (st := st__law_written) l7 c7 k7).binds (ps := ["_law_value_here"]) fun _ _ _ _ _ _ us hl => match us, hl with | [_], _ => rfl
      F__law_read := fun_mk (st := st__law_read) l8 c8 k8
      g__law_read := PySem.W.mg_of X G a8
      k__law_read := k8
      b__law_read := (fun_mk (st := st__law_read) l8 c8 k8).binds (ps := ["_law_text"]) fun _ _ _ _ _ _ us hl => match us, hl with | [_], _ => rfl
      F__law_due := fun_mk (st := st__law_due) l9 c9 k9
      g__law_due := PySem.W.mg_of X G a9
      k__law_due := k9
      b__law_due := (fun_mk (st := st__law_due) l9 c9 k9).binds (ps := ["_law_text"]) fun _ _ _ _ _ _ us hl => match us, hl with | [_], _ => rfl
      F__law_spoilt := fun_mk (st := st__law_spoilt) l10 c10 k10
      g__law_spoilt := PySem.W.mg_of X G a10
      k__law_spoilt := k10
      b__law_spoilt := (fun_mk (st := st__law_spoilt) l10 c10 k10).binds (ps := ["_law_state_here", "_law_text", "_law_other"]) fun _ _ _ _ _ _ us hl => match us, hl with | [_, _, _], _ => rfl
      F_law := fun_mk (st := st_law) l11 c11 k11
      g_law := PySem.W.mg_of X G a11
      k_law := k11
      b_law := (fun_mk (st := st_law) l11 c11 k11).binds (ps := ["_law_script"]) fun _ _ _ _ _ _ us hl => match us, hl with | [_], _ => rfl
      F_ValueReader___init__ := fun_mk (st := st_ValueReader___init__) l12 c12 k12
      b_ValueReader___init__ := (fun_mk (st := st_ValueReader___init__) l12 c12 k12).binds (ps := ["self", "text"]) fun _ _ _ _ _ _ us hl => match us, hl with | [_, _], _ => rfl
      F_ValueReader__next := fun_mk (st := st_ValueReader__next) l13 c13 k13
      me_ValueReader__next := ⟨a13, i13, k13⟩
      b_ValueReader__next := (fun_mk (st := st_ValueReader__next) l13 c13 k13).binds (ps := ["self"]) fun _ _ _ _ _ _ us hl => match us, hl with | [_], _ => rfl
      F_ValueReader__step := fun_mk (st := st_ValueReader__step) l14 c14 k14
      me_ValueReader__step := ⟨a14, i14, k14⟩
      b_ValueReader__step := (fun_mk (st := st_ValueReader__step) l14 c14 k14).binds (ps := ["self"]) fun _ _ _ _ _ _ us hl => match us, hl with | [_], _ => rfl
      F_ValueReader_whole := fun_mk (st := st_ValueReader_whole) l15 c15 k15
      me_ValueReader_whole := ⟨a15, i15, k15⟩
      b_ValueReader_whole := (fun_mk (st := st_ValueReader_whole) l15 c15 k15).binds (ps := ["self"]) fun _ _ _ _ _ _ us hl => match us, hl with | [_], _ => rfl
      F_ValueReader__value := fun_mk (st := st_ValueReader__value) l16 c16 k16
      me_ValueReader__value := ⟨a16, i16, k16⟩
      b_ValueReader__value := (fun_mk (st := st_ValueReader__value) l16 c16 k16).binds (ps := ["self", "depth"]) fun _ _ _ _ _ _ us hl => match us, hl with | [_, _], _ => rfl
      F_ValueReader__letters := fun_mk (st := st_ValueReader__letters) l17 c17 k17
      me_ValueReader__letters := ⟨a17, i17, k17⟩
      b_ValueReader__letters := (fun_mk (st := st_ValueReader__letters) l17 c17 k17).binds (ps := ["self"]) fun _ _ _ _ _ _ us hl => match us, hl with | [_], _ => rfl
      F_ValueReader__items := fun_mk (st := st_ValueReader__items) l18 c18 k18
      me_ValueReader__items := ⟨a18, i18, k18⟩
      b_ValueReader__items := (fun_mk (st := st_ValueReader__items) l18 c18 k18).binds (ps := ["self", "depth"]) fun _ _ _ _ _ _ us hl => match us, hl with | [_, _], _ => rfl
      F_ValueReader__number := fun_mk (st := st_ValueReader__number) l19 c19 k19
      me_ValueReader__number := ⟨a19, i19, k19⟩
      b_ValueReader__number := (fun_mk (st := st_ValueReader__number) l19 c19 k19).binds (ps := ["self", "first"]) fun _ _ _ _ _ _ us hl => match us, hl with | [_, _], _ => rfl }
  exact ⟨_, fun s u => .of_eq rfl, fun base _ _ => (ok_law (w := w) (base := base) T).imp fun vs H Q E q => law_sp q⟩

end K48
open PySem PySem.W PyProof.Rows
set_option maxRecDepth 100000 in
set_option maxHeartbeats 0 in
theorem PySem.Challenge.cw_anytext_k48_values_written_holds : PySem.Challenge.rw_anytext_k48_values_written.Holds := by
  w_on; o_law; k_head; (case hw => w_witness2)
  k_fill
  refine Vi.walkG (l := PySem.Challenge.rw_anytext_k48_values_written) rfl rfl (fun w h Y => PySem.W.kIn_of Y) ?F
  case F =>
    intro w mg fa h KX G hmg
    refine' K48.all_mk KX G hmg ?aC0 ?xC0 ?aC1 ?xC1 ?aC2 ?xC2 ?aC3 ?xC3 ?aC4 ?xC4 ?aC5 ?xC5 ?aI ?lI ?cI ?lT ?sT ?lc ?ld ?hvs ?hfile ?hln ?htop ?hany ?tI ?kb_0 ?kb_1 ?kb_2 ?kb_3 ?kb_4 ?kb_5 ?tb ?z_abs ?z_bool ?z_int ?z_isinstance ?z_len ?z_range ?z_repr ?z_str ?z_tuple ?z_super ?g_LETTERS ?e_LETTERS ?g_MOST_DIGITS ?g_MOST_OPEN ?aC6 ?pg6 ?hd6 ?po6 ?sa6 ?mk6 ?kc6 ?na6__text ?na6__place ?a0 ?l0 ?c0 ?k0 ?a1 ?l1 ?c1 ?k1 ?a2 ?l2 ?c2 ?k2 ?a3 ?l3 ?c3 ?k3 ?a4 ?l4 ?c4 ?k4 ?a5 ?l5 ?c5 ?k5 ?a6 ?l6 ?c6 ?k6 ?a7 ?l7 ?c7 ?k7 ?a8 ?l8 ?c8 ?k8 ?a9 ?l9 ?c9 ?k9 ?a10 ?l10 ?c10 ?k10 ?a11 ?l11 ?c11 ?k11 ?a12 ?i12 ?l12 ?c12 ?k12 ?a13 ?i13 ?l13 ?c13 ?k13 ?a14 ?i14 ?l14 ?c14 ?k14 ?a15 ?i15 ?l15 ?c15 ?k15 ?a16 ?i16 ?l16 ?c16 ?k16 ?a17 ?i17 ?l17 ?c17 ?k17 ?a18 ?i18 ?l18 ?c18 ?k18 ?a19 ?i19 ?l19 ?c19 ?k19
    (case aC0 => k_is)
    (case xC0 => k_is)
    (case aC1 => k_is)
    (case xC1 => k_is)
    (case aC2 => k_is)
    (case xC2 => k_is)
    (case aC3 => k_is)
    (case xC3 => k_is)
    (case aC4 => k_is)
    (case xC4 => k_is)
    (case aC5 => k_is)
    (case xC5 => k_is)
    (case aI => k_is)
    (case lI => k_is)
    (case cI => k_is)
    (case lT => k_is)
    (case sT => exact rfl)
    (case lc => k_is)
    (case ld => k_is)
    (case hvs => exact rfl)
    (case hfile => first | rfl | decide +kernel | kernel_rfl)
    (case hln => first | rfl | decide +kernel)
    (case htop => first | decide +kernel | kernel_rfl)
    (case hany => k_is)
    (case tI => k_is)
    (case kb_0 => kernel_rfl)
    (case kb_1 => kernel_rfl)
    (case kb_2 => kernel_rfl)
    (case kb_3 => kernel_rfl)
    (case kb_4 => kernel_rfl)
    (case kb_5 => kernel_rfl)
    (case tb => kernel_rfl)
    (case z_abs => k_is)
    (case z_bool => k_is)
    (case z_int => k_is)
    (case z_isinstance => k_is)
    (case z_len => k_is)
    (case z_range => k_is)
    (case z_repr => k_is)
    (case z_str => k_is)
    (case z_tuple => k_is)
    (case z_super => k_is)
    (case g_LETTERS => k_is)
    (case e_LETTERS => first | rfl | decide +kernel)
    (case g_MOST_DIGITS => k_is)
    (case g_MOST_OPEN => k_is)
    (case aC6 => k_is)
    (case pg6 => k_is)
    (case hd6 => k_is)
    (case po6 => k_is)
    (case sa6 => k_is)
    (case mk6 => k_is)
    (case kc6 => k_is)
    (case na6__text => k_is)
    (case na6__place => k_is)
    (case a0 => k_is)
    (case l0 => k_is)
    (case c0 => k_is)
    (case k0 => k_is)
    (case a1 => k_is)
    (case l1 => k_is)
    (case c1 => k_is)
    (case k1 => k_is)
    (case a2 => k_is)
    (case l2 => k_is)
    (case c2 => k_is)
    (case k2 => k_is)
    (case a3 => k_is)
    (case l3 => k_is)
    (case c3 => k_is)
    (case k3 => k_is)
    (case a4 => k_is)
    (case l4 => k_is)
    (case c4 => k_is)
    (case k4 => k_is)
    (case a5 => k_is)
    (case l5 => k_is)
    (case c5 => k_is)
    (case k5 => k_is)
    (case a6 => k_is)
    (case l6 => k_is)
    (case c6 => k_is)
    (case k6 => k_is)
    (case a7 => k_is)
    (case l7 => k_is)
    (case c7 => k_is)
    (case k7 => k_is)
    (case a8 => k_is)
    (case l8 => k_is)
    (case c8 => k_is)
    (case k8 => k_is)
    (case a9 => k_is)
    (case l9 => k_is)
    (case c9 => k_is)
    (case k9 => k_is)
    (case a10 => k_is)
    (case l10 => k_is)
    (case c10 => k_is)
    (case k10 => k_is)
    (case a11 => k_is)
    (case l11 => k_is)
    (case c11 => k_is)
    (case k11 => k_is)
    (case a12 => k_is)
    (case i12 => k_is)
    (case l12 => k_is)
    (case c12 => k_is)
    (case k12 => k_is)
    (case a13 => k_is)
    (case i13 => k_is)
    (case l13 => k_is)
    (case c13 => k_is)
    (case k13 => k_is)
    (case a14 => k_is)
    (case i14 => k_is)
    (case l14 => k_is)
    (case c14 => k_is)
    (case k14 => k_is)
    (case a15 => k_is)
    (case i15 => k_is)
    (case l15 => k_is)
    (case c15 => k_is)
    (case k15 => k_is)
    (case a16 => k_is)
    (case i16 => k_is)
    (case l16 => k_is)
    (case c16 => k_is)
    (case k16 => k_is)
    (case a17 => k_is)
    (case i17 => k_is)
    (case l17 => k_is)
    (case c17 => k_is)
    (case k17 => k_is)
    (case a18 => k_is)
    (case i18 => k_is)
    (case l18 => k_is)
    (case c18 => k_is)
    (case k18 => k_is)
    (case a19 => k_is)
    (case i19 => k_is)
    (case l19 => k_is)
    (case c19 => k_is)
    (case k19 => k_is)
