import PyProof.Rows.All
import Wide.All
import OpenK.AllK
import Wide.FinOn
import KE.KStateDown
import HandS.ForMost
import HandS.Exc
import HandS.Defaults
import HandS.Wide
import HandS.IsInst
import HandS.TupAny
import HandS.TupMul
import HandS.Style
import HandS.RaiseMore
import HandS.Head0
import HandS.Head1
import HandS.Head2
import HandS.HeadEnd
import HandS.HeadHook1
import HandS.HeadHook2
import KE.GoesEnum
import PySem.Challenge.RW_undoneall_k34_straight_texts_judged
set_option Elab.async false
set_option linter.all false
set_option maxRecDepth 100000
set_option maxHeartbeats 0
/-! BV, part A: values as data, what stands for them in the heap, the state of a def's body by values. -/
namespace BV
open PySem PySem.Spec PyProof.Rows L2

/-- a value as data: tuples and lists by what they hold; own: a list that one place alone owns and that may be changed -/
inductive D where
  | non | bl (b : Bool) | int (i : Int) | str (x : Str) | tup (xs : List D) | lst (xs : List D) | frl (xs : List D) | own (xs : List D)

abbrev AS := Addr → Prop
abbrev AS0 : AS := fun _ => False
abbrev Fg := PySem.W.Frag
abbrev Sts := L2.St

/-- a list of the written part -/
def SqK (K : Fg) (a : Addr) (xs : List V) : Prop :=
  ∃ (o : Obj) (its : Array Value) (n : Nat), K.lookup a = some o ∧ o.cls = .type "list" ∧ o.dict = none ∧ o.data = .seq its n ∧ its.size ≤ sizeLine ∧ Vals xs its.toList
/-- a list that nobody will change -/
def SqN (K : Fg) (N : AS) (H : Hp) (a : Addr) (xs : List V) : Prop := (Rd H a (.lst xs) ∧ ¬ N a) ∨ SqK K a xs
theorem SqN.sq {K : Fg} {N : AS} {H : Hp} {a : Addr} {xs : List V} (h : SqN K N H a xs) : SqL K H a xs := by
  rcases h with ⟨h, _⟩ | h
  · exact .inl h
  · exact .inr h

mutual
/-- d stands at v; what d owns lies in A -/
def Rp (K : Fg) (N : AS) (H : Hp) : D → V → AS → Prop
  | .non, v, _ => v = .non
  | .bl b, v, _ => v = .bl b
  | .int i, v, _ => v = .int i
  | .str x, v, _ => v = .str x
  | .tup ds, v, _ => ∃ a vs, v = .ref a ∧ SqT K H a vs ∧ Rps K N H ds vs AS0
  | .lst ds, v, _ => ∃ a vs, v = .ref a ∧ H a = some (.lst vs) ∧ ¬ N a ∧ Rps K N H ds vs AS0
  | .frl ds, v, _ => ∃ a vs, v = .ref a ∧ SqN K N H a vs ∧ Rps K N H ds vs AS0
  | .own ds, v, A => ∃ a vs B, v = .ref a ∧ H a = some (.lst vs) ∧ A a ∧ (∀ x, B x → A x ∧ x ≠ a) ∧ Rps K N H ds vs B
def Rps (K : Fg) (N : AS) (H : Hp) : List D → List V → AS → Prop
  | [], vs, _ => vs = []
  | d :: ds, vs, A => ∃ v vr A1 A2, vs = v :: vr ∧ Rp K N H d v A1 ∧ Rps K N H ds vr A2 ∧ (∀ x, A1 x → A x) ∧ (∀ x, A2 x → A x) ∧ (∀ x, A1 x → ¬ A2 x)
end
/-- not a list that is owned -/
def D.sh : D → Bool
  | .own _ => false
  | _ => true

section
variable {K : Fg} {N N' : AS} {H H' : Hp}
theorem Rp.up : ∀ {d : D} {v : V} {A A' : AS}, Rp K N H d v A → (∀ x, A x → A' x) → Rp K N H d v A' := by
  intro d v A A' h s
  cases d with
  | own ds =>
    obtain ⟨a, vs, B, e, ha, hA, hB, r⟩ := h
    exact ⟨a, vs, B, e, ha, s _ hA, fun x hx => ⟨s _ (hB x hx).1, (hB x hx).2⟩, r⟩
  | _ => exact h
theorem Rps.up : ∀ {ds : List D} {vs : List V} {A A' : AS}, Rps K N H ds vs A → (∀ x, A x → A' x) → Rps K N H ds vs A'
  | [], _, _, _, h, _ => h
  | _ :: _, _, _, _, h, s => by
    obtain ⟨v, vr, A1, A2, e, h1, h2, s1, s2, dj⟩ := h
    exact ⟨v, vr, A1, A2, e, h1, h2, fun x q => s x (s1 x q), fun x q => s x (s2 x q), dj⟩
theorem Rp.share {d : D} {v : V} {A : AS} (h : Rp K N H d v A) (s : d.sh = true) : Rp K N H d v AS0 := by
  cases d with
  | own ds => cases s
  | _ => exact h
theorem Rps.share : ∀ {ds : List D} {vs : List V} {A : AS}, Rps K N H ds vs A → ds.all D.sh = true → Rps K N H ds vs AS0
  | [], _, _, h, _ => h
  | d :: ds, _, _, h, s => by
    obtain ⟨v, vr, A1, A2, e, h1, h2, _⟩ := h
    rw [List.all_cons, Bool.and_eq_true] at s
    exact ⟨v, vr, AS0, AS0, e, h1.share s.1, Rps.share h2 s.2, fun _ q => q, fun _ q => q, fun _ q => q.elim⟩
theorem Rps.length : ∀ {ds : List D} {vs : List V} {A : AS}, Rps K N H ds vs A → ds.length = vs.length
  | [], _, _, h => by
    have e : _ = [] := h
    rw [e]
    rfl
  | _ :: ds, _, _, h => by
    obtain ⟨v, vr, A1, A2, rfl, h1, h2, _⟩ := h
    rw [List.length_cons, List.length_cons, Rps.length h2]
/-- tuples and lists that nobody changes stay -/
structure Ext (K : Fg) (N : AS) (H : Hp) (N' : AS) (H' : Hp) : Prop where
  tp : ∀ a vs, SqT K H a vs → SqT K H' a vs
  ls : ∀ a vs, SqN K N H a vs → SqN K N' H' a vs
  st : ∀ a vs, H a = some (.lst vs) → ¬ N a → H' a = some (.lst vs) ∧ ¬ N' a
theorem Ext.refl : Ext K N H N H := ⟨fun _ _ h => h, fun _ _ h => h, fun _ _ h n => ⟨h, n⟩⟩
theorem Ext.trans {N1 N2 : AS} {H1 H2 : Hp} (a : Ext K N H N1 H1) (b : Ext K N1 H1 N2 H2) : Ext K N H N2 H2 := ⟨fun p vs h => b.tp p vs (a.tp p vs h), fun p vs h => b.ls p vs (a.ls p vs h), fun p vs h n => b.st p vs (a.st p vs h n).1 (a.st p vs h n).2⟩
theorem Ext.less (s : ∀ x, N' x → N x) : Ext K N H N' H := ⟨fun _ _ h => h, fun _ _ h => by
  rcases h with ⟨h, n⟩ | h
  · exact .inl ⟨h, fun z => n (s _ z)⟩
  · exact .inr h, fun _ _ h n => ⟨h, fun z => n (s _ z)⟩⟩
theorem Rd.keep {a : Addr} {u : HO} (k : ∀ o, H a = some o → H' a = some o) (h : Rd H a u) : Rd H' a u := by
  rcases h with h | ⟨o, h⟩
  · exact .inl (k _ h)
  · exact .inr ⟨o, k _ h⟩
theorem Ext.alloc {p : Addr} {o : HO} (np : H p = none) (s : ∀ x, N' x → N x ∨ x = p) : Ext K N H N' (upd H p o) := by
  have k : ∀ a u, H a = some u → upd H p o a = some u := fun a u e => by
    rw [upd_ne (ne_of_none e np)]
    exact e
  refine ⟨fun a vs h => ?_, fun a vs h => ?_, fun a vs h n => ⟨k a _ h, fun z => (s a z).elim n fun w => by rw [w, np] at h; cases h⟩⟩
  · rcases h with h | h
    · exact .inl (Rd.keep (k a) h)
    · exact .inr h
  · rcases h with ⟨h, n⟩ | h
    · refine .inl ⟨Rd.keep (k a) h, fun z => ?_⟩
      rcases s a z with z | z
      · exact n z
      · rcases h with h | ⟨o', h⟩
        · rw [z, np] at h; cases h
        · rw [z, np] at h; cases h
    · exact .inr h
theorem Ext.write {a : Addr} {xs : List V} {o : HO} (ha : H a = some (.lst xs)) (n : N a) : Ext K N H N (upd H a o) := by
  refine ⟨fun b vs h => ?_, fun b vs h => ?_, fun b vs h nb => ⟨by rw [upd_ne (show b ≠ a from fun z => nb (z ▸ n))]; exact h, nb⟩⟩
  · rcases h with h | h
    · refine .inl ?_
      rcases h with h | ⟨o', h⟩
      · exact .inl (by rw [upd_ne (ne_of h ha (fun z => by cases z))]; exact h)
      · exact .inr ⟨o', by rw [upd_ne (ne_of h ha (fun z => by cases z))]; exact h⟩
    · exact .inr h
  · rcases h with ⟨h, nb⟩ | h
    · have hb : b ≠ a := fun z => nb (z ▸ n)
      refine .inl ⟨?_, nb⟩
      rcases h with h | ⟨o', h⟩
      · exact .inl (by rw [upd_ne hb]; exact h)
      · exact .inr ⟨o', by rw [upd_ne hb]; exact h⟩
    · exact .inr h
mutual
theorem Rp.keep (x : Ext K N H N' H') : ∀ (d : D) {v : V} {A : AS}, Rp K N H d v A → (∀ b, A b → H' b = H b) → Rp K N' H' d v A
  | .non, _, _, h, _ => h
  | .bl _, _, _, h, _ => h
  | .int _, _, _, h, _ => h
  | .str _, _, _, h, _ => h
  | .tup ds, _, _, h, _ => by
    obtain ⟨a, vs, e, hs, r⟩ := h
    exact ⟨a, vs, e, x.tp _ _ hs, Rps.keep x ds r fun _ q => q.elim⟩
  | .lst ds, _, _, h, _ => by
    obtain ⟨a, vs, e, hs, hn, r⟩ := h
    exact ⟨a, vs, e, (x.st _ _ hs hn).1, (x.st _ _ hs hn).2, Rps.keep x ds r fun _ q => q.elim⟩
  | .frl ds, _, _, h, _ => by
    obtain ⟨a, vs, e, hs, r⟩ := h
    exact ⟨a, vs, e, x.ls _ _ hs, Rps.keep x ds r fun _ q => q.elim⟩
  | .own ds, _, _, h, k => by
    obtain ⟨a, vs, B, e, ha, hA, hB, r⟩ := h
    exact ⟨a, vs, B, e, by rw [k a hA]; exact ha, hA, hB, Rps.keep x ds r fun b q => k b (hB b q).1⟩
theorem Rps.keep (x : Ext K N H N' H') : ∀ (ds : List D) {vs : List V} {A : AS}, Rps K N H ds vs A → (∀ b, A b → H' b = H b) → Rps K N' H' ds vs A
  | [], _, _, h, _ => h
  | d :: ds, _, _, h, k => by
    obtain ⟨v, vr, A1, A2, e, h1, h2, s1, s2, dj⟩ := h
    exact ⟨v, vr, A1, A2, e, Rp.keep x d h1 fun b q => k b (s1 b q), Rps.keep x ds h2 fun b q => k b (s2 b q), s1, s2, dj⟩
end
theorem Rp.keep0 (x : Ext K N H N' H') {d : D} {v : V} (h : Rp K N H d v AS0) : Rp K N' H' d v AS0 := h.keep x d fun _ q => q.elim
theorem Rps.keep0 (x : Ext K N H N' H') {ds : List D} {vs : List V} (h : Rps K N H ds vs AS0) : Rps K N' H' ds vs AS0 := h.keep x ds fun _ q => q.elim
theorem Rps.get0 : ∀ {ds : List D} {vs : List V} {A : AS} {i : Nat} {d : D}, Rps K N H ds vs A → ds[i]? = some d → ∃ v A1, vs[i]? = some v ∧ Rp K N H d v A1 ∧ ∀ x, A1 x → A x
  | [], _, _, _, _, _, e => by simp at e
  | d :: ds, _, A, 0, _, h, e => by
    obtain ⟨v, vr, A1, A2, rfl, h1, h2, s1, s2, dj⟩ := h
    cases (show some d = some _ from e)
    exact ⟨v, A1, rfl, h1, s1⟩
  | d :: ds, _, A, i + 1, d', h, e => by
    obtain ⟨v, vr, A1, A2, rfl, h1, h2, s1, s2, dj⟩ := h
    obtain ⟨v', A3, e3, r3, s3⟩ := Rps.get0 (i := i) (d := d') h2 (by simpa using e)
    exact ⟨v', A3, by simpa using e3, r3, fun x q => s2 x (s3 x q)⟩
theorem Rps.append0 : ∀ {ds es : List D} {vs us : List V}, Rps K N H ds vs AS0 → Rps K N H es us AS0 → Rps K N H (ds ++ es) (vs ++ us) AS0
  | [], _, _, _, h, q => by
    have e : _ = [] := h
    rw [e]
    exact q
  | _ :: _, _, _, _, h, q => by
    obtain ⟨v, vr, A1, A2, rfl, h1, h2, s1, s2, dj⟩ := h
    have e1 : A1 = AS0 := funext fun x => propext ⟨s1 x, fun z => z.elim⟩
    have e2 : A2 = AS0 := funext fun x => propext ⟨s2 x, fun z => z.elim⟩
    subst e1 e2
    exact ⟨v, _, AS0, AS0, rfl, h1, Rps.append0 h2 q, fun _ z => z, fun _ z => z, fun _ z => z.elim⟩
theorem Rps.cons0 {d : D} {v : V} {ds : List D} {vs : List V} (h : Rp K N H d v AS0) (t : Rps K N H ds vs AS0) : Rps K N H (d :: ds) (v :: vs) AS0 := ⟨v, vs, AS0, AS0, rfl, h, t, fun _ z => z, fun _ z => z, fun _ z => z.elim⟩
theorem Rps.uncons0 {d : D} {ds : List D} {vs : List V} (h : Rps K N H (d :: ds) vs AS0) : ∃ v vr, vs = v :: vr ∧ Rp K N H d v AS0 ∧ Rps K N H ds vr AS0 := by
  obtain ⟨v, vr, A1, A2, e, h1, h2, s1, s2, dj⟩ := h
  exact ⟨v, vr, e, h1.up s1, h2.up s2⟩
theorem Rps.all0 : ∀ {ds : List D} {vs : List V}, Rps K N H ds vs AS0 → ds.all D.sh = true
  | [], _, _ => rfl
  | d :: ds, _, h => by
    obtain ⟨v, vr, rfl, h1, h2⟩ := h.uncons0
    rw [List.all_cons, Rps.all0 h2, Bool.and_true]
    cases d with
    | own ds => obtain ⟨a, _, _, _, _, z, _⟩ := h1; exact z.elim
    | _ => rfl
theorem Rps.take0 : ∀ {ds : List D} {vs : List V} (n : Nat), Rps K N H ds vs AS0 → Rps K N H (ds.take n) (vs.take n) AS0
  | _, _, 0, _ => rfl
  | [], _, n + 1, h => by
    have e : _ = [] := h
    rw [e]
    rfl
  | d :: ds, _, n + 1, h => by
    obtain ⟨v, vr, rfl, h1, h2⟩ := h.uncons0
    exact .cons0 h1 (Rps.take0 n h2)
theorem Rps.drop0 : ∀ {ds : List D} {vs : List V} (n : Nat), Rps K N H ds vs AS0 → Rps K N H (ds.drop n) (vs.drop n) AS0
  | _, _, 0, h => h
  | [], _, n + 1, h => by
    have e : _ = [] := h
    rw [e]
    rfl
  | d :: ds, _, n + 1, h => by
    obtain ⟨v, vr, rfl, h1, h2⟩ := h.uncons0
    exact Rps.drop0 n h2
theorem Rps.reverse0 : ∀ {ds : List D} {vs : List V}, Rps K N H ds vs AS0 → Rps K N H ds.reverse vs.reverse AS0
  | [], _, h => by
    have e : _ = [] := h
    rw [e]
    rfl
  | d :: ds, _, h => by
    obtain ⟨v, vr, rfl, h1, h2⟩ := h.uncons0
    rw [List.reverse_cons, List.reverse_cons]
    exact Rps.append0 (Rps.reverse0 h2) (.cons0 h1 rfl)
theorem Rps.rep0 {d : D} {v : V} (h : Rp K N H d v AS0) : ∀ n : Nat, Rps K N H (List.replicate n d) (List.replicate n v) AS0
  | 0 => rfl
  | n + 1 => .cons0 h (Rps.rep0 h n)
theorem Rps.reps0 {ds : List D} {vs : List V} (h : Rps K N H ds vs AS0) : ∀ n : Nat, Rps K N H (List.replicate n ds).flatten (List.replicate n vs).flatten AS0
  | 0 => rfl
  | n + 1 => by
    rw [List.replicate_succ, List.replicate_succ, List.flatten_cons, List.flatten_cons]
    exact Rps.append0 h (Rps.reps0 h n)
theorem Rps.snoc0 {d : D} {v : V} {ds : List D} {vs : List V} (t : Rps K N H ds vs AS0) (h : Rp K N H d v AS0) : Rps K N H (ds ++ [d]) (vs ++ [v]) AS0 := Rps.append0 t (.cons0 h rfl)
end

/-! ### the slots -/
abbrev Ev := List (Option D)
def Sl (K : Fg) (N : AS) (H : Hp) : Ev → Sts → AS → Prop
  | [], σ, _ => σ = []
  | none :: ρ, σ, A => ∃ s σ', σ = s :: σ' ∧ Sl K N H ρ σ' A
  | some d :: ρ, σ, A => ∃ v σ' A1 A2, σ = some v :: σ' ∧ Rp K N H d v A1 ∧ Sl K N H ρ σ' A2 ∧ (∀ x, A1 x → A x) ∧ (∀ x, A2 x → A x) ∧ (∀ x, A1 x → ¬ A2 x)
section
variable {K : Fg} {N N' : AS} {H H' : Hp}
theorem Sl.up : ∀ {ρ : Ev} {σ : Sts} {A A' : AS}, Sl K N H ρ σ A → (∀ x, A x → A' x) → Sl K N H ρ σ A'
  | [], _, _, _, h, _ => h
  | none :: _, _, _, _, h, s => let ⟨x, σ', e, h⟩ := h; ⟨x, σ', e, Sl.up h s⟩
  | some _ :: _, _, _, _, h, s => by
    obtain ⟨v, vr, A1, A2, e, h1, h2, s1, s2, dj⟩ := h
    exact ⟨v, vr, A1, A2, e, h1, h2, fun x q => s x (s1 x q), fun x q => s x (s2 x q), dj⟩
theorem Sl.keep (x : Ext K N H N' H') : ∀ {ρ : Ev} {σ : Sts} {A : AS}, Sl K N H ρ σ A → (∀ b, A b → H' b = H b) → Sl K N' H' ρ σ A
  | [], _, _, h, _ => h
  | none :: _, _, _, h, k => let ⟨y, σ', e, h⟩ := h; ⟨y, σ', e, Sl.keep x h k⟩
  | some d :: _, _, _, h, k => by
    obtain ⟨v, vr, A1, A2, e, h1, h2, s1, s2, dj⟩ := h
    exact ⟨v, vr, A1, A2, e, h1.keep x d fun b q => k b (s1 b q), Sl.keep x h2 fun b q => k b (s2 b q), s1, s2, dj⟩
theorem Sl.length : ∀ {ρ : Ev} {σ : Sts} {A : AS}, Sl K N H ρ σ A → ρ.length = σ.length
  | [], _, _, h => by
    have e : _ = [] := h
    rw [e]
    rfl
  | none :: _, _, _, h => by
    obtain ⟨x, σ', rfl, h⟩ := h
    rw [List.length_cons, List.length_cons, Sl.length h]
  | some _ :: _, _, _, h => by
    obtain ⟨v, vr, A1, A2, rfl, h1, h2, s1, s2, dj⟩ := h
    rw [List.length_cons, List.length_cons, Sl.length h2]
/-- what stands in a slot, and the slots without it -/
theorem Sl.get : ∀ {ρ : Ev} {σ : Sts} {A : AS} {i : Nat} {d : D}, Sl K N H ρ σ A → ρ[i]? = some (some d) →
    ∃ v A1 A2, σ[i]? = some (some v) ∧ Rp K N H d v A1 ∧ Sl K N H (ρ.set i none) σ A2 ∧ (∀ x, A1 x → A x) ∧ (∀ x, A2 x → A x) ∧ (∀ x, A1 x → ¬ A2 x)
  | [], _, _, _, _, _, e => by simp at e
  | none :: _, _, _, 0, _, _, e => by simp at e
  | some d :: ρ, _, A, 0, d', h, e => by
    obtain ⟨v, vr, A1, A2, rfl, h1, h2, s1, s2, dj⟩ := h
    cases (show some (some d) = some (some d') from e)
    exact ⟨v, A1, A2, rfl, h1, ⟨some v, vr, rfl, h2⟩, s1, s2, dj⟩
  | none :: ρ, _, A, i + 1, d', h, e => by
    obtain ⟨x, σ', rfl, h⟩ := h
    obtain ⟨v', A3, A4, e3, r3, r4, s3, s4, dj3⟩ := Sl.get (i := i) (d := d') h (by simpa using e)
    exact ⟨v', A3, A4, by simpa using e3, r3, ⟨x, σ', rfl, r4⟩, s3, s4, dj3⟩
  | some d :: ρ, _, A, i + 1, d', h, e => by
    obtain ⟨v, vr, A1, A2, rfl, h1, h2, s1, s2, dj⟩ := h
    obtain ⟨v', A3, A4, e3, r3, r4, s3, s4, dj3⟩ := Sl.get (i := i) (d := d') h2 (by simpa using e)
    refine ⟨v', A3, fun x => A1 x ∨ A4 x, by simpa using e3, r3, ⟨v, vr, A1, A4, rfl, h1, r4, fun x q => .inl q, fun x q => .inr q, fun x q z => dj x q (s4 x z)⟩, fun x q => s2 x (s3 x q), fun x q => ?_, fun x q z => ?_⟩
    · rcases q with q | q
      · exact s1 x q
      · exact s2 x (s4 x q)
    · rcases z with z | z
      · exact dj x z (s3 x q)
      · exact dj3 x q z
/-- a slot emptied -/
theorem Sl.drop : ∀ {ρ : Ev} {σ : Sts} {A : AS} (i : Nat) (s : Option V), Sl K N H ρ σ A → Sl K N H (ρ.set i none) (σ.set i s) A
  | [], _, _, _, _, h => by
    have e : _ = [] := h
    rw [e]
    rfl
  | none :: _, _, _, 0, s, h => by
    obtain ⟨x, σ', rfl, h⟩ := h
    exact ⟨s, σ', rfl, h⟩
  | some _ :: _, _, _, 0, s, h => by
    obtain ⟨v, vr, A1, A2, rfl, h1, h2, s1, s2, dj⟩ := h
    exact ⟨s, vr, rfl, h2.up s2⟩
  | none :: _, _, _, i + 1, s, h => by
    obtain ⟨x, σ', rfl, h⟩ := h
    exact ⟨x, _, rfl, Sl.drop i s h⟩
  | some _ :: _, _, _, i + 1, s, h => by
    obtain ⟨v, vr, A1, A2, rfl, h1, h2, s1, s2, dj⟩ := h
    exact ⟨v, _, A1, A2, rfl, h1, Sl.drop i s h2, s1, s2, dj⟩
/-- a slot filled -/
theorem Sl.put : ∀ {ρ : Ev} {σ : Sts} {A A1 : AS} {i : Nat} {d : D} {v : V}, Sl K N H (ρ.set i none) σ A → i < ρ.length → σ[i]? = some (some v) → Rp K N H d v A1 → (∀ x, A1 x → ¬ A x) → Sl K N H (ρ.set i (some d)) σ (fun x => A x ∨ A1 x)
  | [], _, _, _, _, _, _, _, l, _, _, _ => by simp at l
  | x :: ρ, _, A, A1, 0, d, v, h, _, e, r, dj => by
    obtain ⟨y, σ', rfl, h'⟩ := (show Sl K N H (none :: ρ) _ A from h)
    cases (show some y = some (some v) from e)
    exact ⟨v, σ', A1, A, rfl, r, h', fun _ q => .inr q, fun _ q => .inl q, dj⟩
  | none :: ρ, _, A, A1, i + 1, d, v, h, l, e, r, dj => by
    obtain ⟨y, σ', rfl, h'⟩ := (show Sl K N H (none :: ρ.set i none) _ A from h)
    exact ⟨y, σ', rfl, Sl.put (i := i) h' (by simpa using l) (by simpa using e) r dj⟩
  | some x :: ρ, _, A, A1, i + 1, d, v, h, l, e, r, dj => by
    obtain ⟨u, σ', B1, B2, rfl, h1, h2, s1, s2, dj'⟩ := (show Sl K N H (some x :: ρ.set i none) _ A from h)
    refine ⟨u, σ', B1, fun z => B2 z ∨ A1 z, rfl, h1, Sl.put (i := i) h2 (by simpa using l) (by simpa using e) r fun z q w => dj z q (s2 z w), fun z q => .inl (s1 z q), fun z q => ?_, fun z q w => ?_⟩
    · rcases q with q | q
      · exact .inl (s2 z q)
      · exact .inr q
    · rcases w with w | w
      · exact dj' z q w
      · exact dj z w (s1 z q)
end
end BV

/-! BV, part B: the state by values. -/
namespace BV
open PySem PySem.Spec PyProof.Rows L2

/-- a def's run: the heap and what is owned at its entry, what it may change, the slots that stand fixed -/
structure Ct where
  H0 : Hp
  N0 : AS
  A0 : AS
  prot : List (Nat × V)

/-- es at xs: what was just reckoned; ds at vs: what waits ahead of it -/
structure Rl (K : Fg) (C : Ct) (N : AS) (σ : Sts) (ρ : Ev) (H : Hp) (xs : List V) (es : List D) (vs : List V) (ds : List D) : Prop where
  ex : ∃ A B1 B2, Sl K N H ρ σ A ∧ Rps K N H es xs B1 ∧ Rps K N H ds vs B2 ∧ (∀ x, A x → ¬ B1 x ∧ ¬ B2 x) ∧ (∀ x, B1 x → ¬ B2 x) ∧ (∀ x, A x ∨ B1 x ∨ B2 x → N x ∧ (C.A0 x ∨ C.H0 x = none))
  nh : ∀ x, N x → H x ≠ none
  h0 : ∀ x, C.N0 x → C.H0 x ≠ none
  n0 : ∀ x, C.N0 x → ¬ C.A0 x → N x
  fr : ∀ x, C.N0 x → ¬ C.A0 x → H x = C.H0 x
  xt : Ext K C.N0 C.H0 N H
  pr : ∀ p ∈ C.prot, σ[p.1]? = some (some p.2)
  dm : ∀ x, C.H0 x ≠ none → H x ≠ none

mutual
def D.frz : D → D
  | .own xs => .lst (D.frzs xs)
  | .non => .non
  | .bl b => .bl b
  | .int i => .int i
  | .str x => .str x
  | .tup xs => .tup xs
  | .lst xs => .lst xs
  | .frl xs => .frl xs
def D.frzs : List D → List D
  | [] => []
  | d :: ds => d.frz :: D.frzs ds
end
theorem D.frz_sh {d : D} (h : d.sh = true) : d.frz = d := by
  cases d with
  | own xs => cases h
  | _ => rfl
theorem D.frzs_sh : ∀ {ds : List D}, ds.all D.sh = true → D.frzs ds = ds
  | [], _ => rfl
  | d :: ds, h => by
    rw [List.all_cons, Bool.and_eq_true] at h
    show d.frz :: D.frzs ds = d :: ds
    rw [D.frz_sh h.1, D.frzs_sh h.2]

section
variable {K : Fg} {C : Ct} {N N' : AS} {σ : Sts} {ρ : Ev} {H H' : Hp} {xs vs : List V} {es ds : List D} {v : V} {d : D}
mutual
theorem Rp.frz (s : ∀ x, N' x → N x) : ∀ (d : D) {v : V} {A : AS}, Rp K N H d v A → (∀ x, A x → ¬ N' x) → Rp K N' H d.frz v AS0
  | .non, _, _, h, _ => h
  | .bl _, _, _, h, _ => h
  | .int _, _, _, h, _ => h
  | .str _, _, _, h, _ => h
  | .tup ds, _, _, h, _ => Rp.keep0 (.less s) (d := .tup ds) h
  | .lst ds, _, _, h, _ => Rp.keep0 (.less s) (d := .lst ds) h
  | .frl ds, _, _, h, _ => Rp.keep0 (.less s) (d := .frl ds) h
  | .own ds, _, _, h, k => by
    obtain ⟨a, vs, B, e, ha, hA, hB, r⟩ := h
    exact ⟨a, vs, e, ha, k a hA, Rps.frz s ds r fun x q => k x (hB x q).1⟩
theorem Rps.frz (s : ∀ x, N' x → N x) : ∀ (ds : List D) {vs : List V} {A : AS}, Rps K N H ds vs A → (∀ x, A x → ¬ N' x) → Rps K N' H (D.frzs ds) vs AS0
  | [], _, _, h, _ => h
  | d :: ds, _, _, h, k => by
    obtain ⟨v, vr, A1, A2, e, h1, h2, s1, s2, dj⟩ := h
    rw [e]
    exact .cons0 (Rp.frz s d h1 fun x q => k x (s1 x q)) (Rps.frz s ds h2 fun x q => k x (s2 x q))
end
theorem Rl.park (R : Rl K C N σ ρ H [v] [d] vs ds) : Rl K C N σ ρ H [] [] (v :: vs) (d :: ds) := by
  obtain ⟨A, B1, B2, hA, h1, h2, d1, d2, ow⟩ := R.ex
  obtain ⟨v', vr, A1, A2, e, r1, r2, s1, s2, dj⟩ := h1
  have e2 : vr = [] := r2
  rw [e2] at e
  cases e
  refine ⟨⟨A, AS0, fun x => B1 x ∨ B2 x, hA, rfl, ⟨v, vs, B1, B2, rfl, r1.up s1, h2, fun _ q => .inl q, fun _ q => .inr q, d2⟩, fun x q => ⟨fun z => z, fun z => ?_⟩, fun _ q => q.elim, fun x q => ow x ?_⟩, R.nh, R.h0, R.n0, R.fr, R.xt, R.pr, R.dm⟩
  · rcases z with z | z
    · exact (d1 x q).1 z
    · exact (d1 x q).2 z
  · rcases q with q | q | q
    · exact .inl q
    · exact q.elim
    · exact .inr q
theorem Rl.cons (R : Rl K C N σ ρ H xs es (v :: vs) (d :: ds)) : Rl K C N σ ρ H (v :: xs) (d :: es) vs ds := by
  obtain ⟨A, B1, B2, hA, h1, h2, d1, d2, ow⟩ := R.ex
  obtain ⟨v', vr, A1, A2, e, r1, r2, s1, s2, dj⟩ := h2
  cases e
  refine ⟨⟨A, fun x => A1 x ∨ B1 x, A2, hA, ⟨v, xs, A1, B1, rfl, r1, h1, fun _ q => .inl q, fun _ q => .inr q, fun x q z => d2 x z (s1 x q)⟩, r2, fun x q => ⟨fun z => ?_, fun z => (d1 x q).2 (s2 x z)⟩, fun x q z => ?_, fun x q => ow x ?_⟩, R.nh, R.h0, R.n0, R.fr, R.xt, R.pr, R.dm⟩
  · rcases z with z | z
    · exact (d1 x q).2 (s1 x z)
    · exact (d1 x q).1 z
  · rcases q with q | q
    · exact dj x q z
    · exact d2 x q (s2 x z)
  · rcases q with q | (q | q) | q
    · exact .inl q
    · exact .inr (.inr (s1 x q))
    · exact .inr (.inl q)
    · exact .inr (.inr (s2 x q))
/-- what was reckoned is dropped; a value that owns nothing comes in its place -/
theorem Rl.res (R : Rl K C N σ ρ H xs es vs ds) (r : Rp K N H d v AS0) : Rl K C N σ ρ H [v] [d] vs ds := by
  obtain ⟨A, B1, B2, hA, h1, h2, d1, d2, ow⟩ := R.ex
  refine ⟨⟨A, AS0, B2, hA, .cons0 r rfl, h2, fun x q => ⟨fun z => z, (d1 x q).2⟩, fun _ q => q.elim, fun x q => ow x ?_⟩, R.nh, R.h0, R.n0, R.fr, R.xt, R.pr, R.dm⟩
  rcases q with q | q | q
  · exact .inl q
  · exact q.elim
  · exact .inr (.inr q)
theorem Rl.drop (R : Rl K C N σ ρ H xs es vs ds) : Rl K C N σ ρ H [] [] vs ds := by
  obtain ⟨A, B1, B2, hA, h1, h2, d1, d2, ow⟩ := R.ex
  refine ⟨⟨A, AS0, B2, hA, rfl, h2, fun x q => ⟨fun z => z, (d1 x q).2⟩, fun _ q => q.elim, fun x q => ow x ?_⟩, R.nh, R.h0, R.n0, R.fr, R.xt, R.pr, R.dm⟩
  rcases q with q | q | q
  · exact .inl q
  · exact q.elim
  · exact .inr (.inr q)
theorem Rl.top (R : Rl K C N σ ρ H xs es vs ds) : ∃ A, Rps K N H es xs A := by
  obtain ⟨A, B1, B2, hA, h1, h2, d1, d2, ow⟩ := R.ex
  exact ⟨_, h1⟩
theorem Rl.top1 (R : Rl K C N σ ρ H [v] [d] vs ds) : ∃ A, Rp K N H d v A := by
  obtain ⟨A, h⟩ := R.top
  obtain ⟨v', vr, A1, A2, e, r1, r2, s1, s2, dj⟩ := h
  cases e
  exact ⟨_, r1⟩
/-- a new object at p -/
theorem Rl.alloc {p : Addr} {o : HO} (R : Rl K C N σ ρ H xs es vs ds) (np : H p = none) : Rl K C N σ ρ (upd H p o) xs es vs ds := by
  obtain ⟨A, B1, B2, hA, h1, h2, d1, d2, ow⟩ := R.ex
  have x : Ext K N H N (upd H p o) := .alloc np fun _ q => .inl q
  have ne : ∀ y, N y → upd H p o y = H y := fun y q => upd_ne fun z => R.nh y q (z ▸ np)
  have nz : ∀ y, H y ≠ none → upd H p o y ≠ none := fun y q => by
    by_cases z : y = p
    · exact absurd (z ▸ np) q
    · rw [upd_ne z]; exact q
  exact ⟨⟨A, B1, B2, hA.keep x fun b q => ne b (ow b (.inl q)).1, h1.keep x es fun b q => ne b (ow b (.inr (.inl q))).1, h2.keep x ds fun b q => ne b (ow b (.inr (.inr q))).1, d1, d2, ow⟩,
    fun y q => nz y (R.nh y q), R.h0, R.n0, fun y q n => (ne y (R.n0 y q n)).trans (R.fr y q n), R.xt.trans x, R.pr, fun y q => nz y (R.dm y q)⟩
/-- a new list at p, owned -/
theorem Rl.allocN {p : Addr} {zs : List V} {fs : List D} (R : Rl K C N σ ρ H xs es vs ds) (np : H p = none) (hz : Rps K N H fs zs AS0) : Rl K C (fun y => N y ∨ y = p) σ ρ (upd H p (.lst zs)) [.ref p] [.own fs] vs ds := by
  have R1 := R.drop
  obtain ⟨A, B1, B2, hA, h1, h2, d1, d2, ow⟩ := R1.ex
  have x : Ext K N H (fun y => N y ∨ y = p) (upd H p (.lst zs)) := .alloc np fun _ q => q
  have ne : ∀ y, N y → upd H p (.lst zs) y = H y := fun y q => upd_ne fun z => R.nh y q (z ▸ np)
  have nz : ∀ y, H y ≠ none → upd H p (.lst zs) y ≠ none := fun y q => by
    by_cases z : y = p
    · exact absurd (z ▸ np) q
    · rw [upd_ne z]; exact q
  have nN : ¬ N p := fun z => R.nh p z np
  have h0 : C.H0 p = none := by
    cases e : C.H0 p with
    | none => rfl
    | some o => exact absurd np (R.dm p (by rw [e]; exact fun z => by cases z))
  refine ⟨⟨A, fun y => y = p, B2, hA.keep x fun b q => ne b (ow b (.inl q)).1, ⟨.ref p, [], fun y => y = p, AS0, rfl, ⟨p, zs, AS0, rfl, upd_same, rfl, fun _ q => q.elim, hz.keep0 x⟩, rfl, fun _ q => q, fun _ q => q.elim, fun _ _ q => q⟩, h2.keep x ds fun b q => ne b (ow b (.inr (.inr q))).1, fun y q => ⟨fun z => ?_, (d1 y q).2⟩, fun y q z => ?_, fun y q => ?_⟩,
    fun y q => ?_, R.h0, fun y q n => .inl (R.n0 y q n), fun y q n => (ne y (R.n0 y q n)).trans (R.fr y q n), R.xt.trans x, R.pr, fun y q => nz y (R.dm y q)⟩
  · exact nN (z ▸ (ow y (.inl q)).1)
  · exact nN (q ▸ (ow y (.inr (.inr z))).1)
  · rcases q with q | q | q
    · exact ⟨.inl (ow y (.inl q)).1, (ow y (.inl q)).2⟩
    · exact ⟨.inr q, .inr (q ▸ h0)⟩
    · exact ⟨.inl (ow y (.inr (.inr q))).1, (ow y (.inr (.inr q))).2⟩
  · rcases q with q | q
    · exact nz y (R.nh y q)
    · rw [q, upd_same]; exact fun z => by cases z
/-- a display: a new list of what was just reckoned, what it owns with it -/
theorem Rl.display {p : Addr} (R : Rl K C N σ ρ H xs es vs ds) (np : H p = none) : Rl K C (fun y => N y ∨ y = p) σ ρ (upd H p (.lst xs)) [.ref p] [.own es] vs ds := by
  obtain ⟨A, B1, B2, hA, h1, h2, d1, d2, ow⟩ := R.ex
  have x : Ext K N H (fun y => N y ∨ y = p) (upd H p (.lst xs)) := .alloc np fun _ q => q
  have ne : ∀ y, N y → upd H p (.lst xs) y = H y := fun y q => upd_ne fun z => R.nh y q (z ▸ np)
  have nz : ∀ y, H y ≠ none → upd H p (.lst xs) y ≠ none := fun y q => by
    by_cases z : y = p
    · exact absurd (z ▸ np) q
    · rw [upd_ne z]; exact q
  have nN : ¬ N p := fun z => R.nh p z np
  have h0 : C.H0 p = none := by
    cases e : C.H0 p with
    | none => rfl
    | some o => exact absurd np (R.dm p (by rw [e]; exact fun z => by cases z))
  refine ⟨⟨A, fun y => B1 y ∨ y = p, B2, hA.keep x fun b q => ne b (ow b (.inl q)).1, ⟨.ref p, [], fun y => B1 y ∨ y = p, AS0, rfl, ⟨p, xs, B1, rfl, upd_same, .inr rfl, fun y q => ⟨.inl q, fun z => nN (z ▸ (ow y (.inr (.inl q))).1)⟩, h1.keep x es fun b q => ne b (ow b (.inr (.inl q))).1⟩, rfl, fun _ q => q, fun _ q => q.elim, fun _ _ q => q⟩, h2.keep x ds fun b q => ne b (ow b (.inr (.inr q))).1, fun y q => ⟨fun z => ?_, (d1 y q).2⟩, fun y q z => ?_, fun y q => ?_⟩,
    fun y q => ?_, R.h0, fun y q n => .inl (R.n0 y q n), fun y q n => (ne y (R.n0 y q n)).trans (R.fr y q n), R.xt.trans x, R.pr, fun y q => nz y (R.dm y q)⟩
  · rcases z with z | z
    · exact (d1 y q).1 z
    · exact nN (z ▸ (ow y (.inl q)).1)
  · rcases q with q | q
    · exact d2 y q z
    · exact nN (q ▸ (ow y (.inr (.inr z))).1)
  · rcases q with q | (q | q) | q
    · exact ⟨.inl (ow y (.inl q)).1, (ow y (.inl q)).2⟩
    · exact ⟨.inl (ow y (.inr (.inl q))).1, (ow y (.inr (.inl q))).2⟩
    · exact ⟨.inr q, .inr (q ▸ h0)⟩
    · exact ⟨.inl (ow y (.inr (.inr q))).1, (ow y (.inr (.inr q))).2⟩
  · rcases q with q | q
    · exact nz y (R.nh y q)
    · rw [q, upd_same]; exact fun z => by cases z
/-- a new tuple of what was just reckoned -/
theorem Rl.newTup {p : Addr} {zs : List V} {fs : List D} (R : Rl K C N σ ρ H xs es vs ds) (np : H p = none) (hz : Rps K N H fs zs AS0) : Rl K C N σ ρ (upd H p (.tup zs)) [.ref p] [.tup fs] vs ds := by
  refine (R.alloc (o := .tup zs) np).res ⟨p, zs, rfl, .inl (.inl upd_same), hz.keep0 (.alloc np fun _ q => .inl q)⟩
/-- an owned value becomes one that nobody changes -/
theorem Rl.frz (R : Rl K C N σ ρ H [v] [d] vs ds) : ∃ N', Rl K C N' σ ρ H [v] [d.frz] vs ds := by
  by_cases hs : d.sh = true
  · exact ⟨N, by rw [D.frz_sh hs]; exact R⟩
  obtain ⟨A, B1, B2, hA, h1, h2, d1, d2, ow⟩ := R.ex
  obtain ⟨v', vr, A1, A2, e, r1, r2, s1, s2, dj⟩ := h1
  have e2 : vr = [] := r2
  rw [e2] at e
  cases e
  refine ⟨fun y => N y ∧ ¬ A1 y, ⟨A, AS0, B2, hA.keep (.less fun _ q => q.1) fun _ _ => rfl, .cons0 (Rp.frz (fun _ q => q.1) d r1 fun y q z => z.2 q) rfl, h2.keep (.less fun _ q => q.1) ds fun _ _ => rfl, fun y q => ⟨fun z => z, (d1 y q).2⟩, fun _ q => q.elim, fun y q => ?_⟩,
    fun y q => R.nh y q.1, R.h0, fun y q n => ⟨R.n0 y q n, fun z => ?_⟩, R.fr, R.xt.trans (.less fun _ q => q.1), R.pr, R.dm⟩
  · rcases q with q | q | q
    · exact ⟨⟨(ow y (.inl q)).1, fun z => (d1 y q).1 (s1 y z)⟩, (ow y (.inl q)).2⟩
    · exact q.elim
    · exact ⟨⟨(ow y (.inr (.inr q))).1, fun z => d2 y (s1 y z) q⟩, (ow y (.inr (.inr q))).2⟩
  · rcases (ow y (.inr (.inl (s1 y z)))).2 with w | w
    · exact n w
    · exact R.h0 y q w
/-- what a slot holds, if it owns nothing -/
theorem Rl.get {i : Nat} (R : Rl K C N σ ρ H xs es vs ds) (e : ρ[i]? = some (some d)) (s : d.sh = true) : ∃ v, σ[i]? = some (some v) ∧ Rp K N H d v AS0 := by
  obtain ⟨A, B1, B2, hA, h1, h2, d1, d2, ow⟩ := R.ex
  obtain ⟨v, A1, A2, e1, r1, r2, _⟩ := hA.get e
  exact ⟨v, e1, r1.share s⟩
theorem Rl.any {i : Nat} (R : Rl K C N σ ρ H xs es vs ds) (e : ρ[i]? = some (some d)) : ∃ v A, σ[i]? = some (some v) ∧ Rp K N H d v A := by
  obtain ⟨A, B1, B2, hA, h1, h2, d1, d2, ow⟩ := R.ex
  obtain ⟨v, A1, A2, e1, r1, r2, _⟩ := hA.get e
  exact ⟨v, A1, e1, r1⟩
/-- what a slot holds is taken out of it -/
theorem Rl.lend {i : Nat} (R : Rl K C N σ ρ H [] [] vs ds) (e : ρ[i]? = some (some d)) : ∃ v, σ[i]? = some (some v) ∧ Rl K C N σ (ρ.set i none) H [v] [d] vs ds := by
  obtain ⟨A, B1, B2, hA, h1, h2, d1, d2, ow⟩ := R.ex
  obtain ⟨v, A1, A2, e1, r1, r2, s1, s2, dj⟩ := hA.get e
  refine ⟨v, e1, ⟨A2, A1, B2, r2, ⟨v, [], A1, AS0, rfl, r1, rfl, fun _ q => q, fun _ q => q.elim, fun _ _ q => q⟩, h2, fun x q => ⟨fun z => dj x z q, (d1 x (s2 x q)).2⟩, fun x q => (d1 x (s1 x q)).2, fun x q => ?_⟩, R.nh, R.h0, R.n0, R.fr, R.xt, R.pr, R.dm⟩
  rcases q with q | q | q
  · exact ow x (.inl (s2 x q))
  · exact ow x (.inl (s1 x q))
  · exact ow x (.inr (.inr q))
/-- it is put back -/
theorem Rl.give {i : Nat} (R : Rl K C N σ ρ H (v :: xs) (d :: es) vs ds) (e : σ[i]? = some (some v)) : Rl K C N σ (ρ.set i (some d)) H xs es vs ds := by
  obtain ⟨A, B1, B2, hA, h1, h2, d1, d2, ow⟩ := R.ex
  obtain ⟨v', vr, A1, A2, ev, r1, r2, s1, s2, dj⟩ := h1
  cases ev
  have hl : i < ρ.length := by
    rw [hA.length]
    exact (List.getElem?_eq_some_iff.mp e).1
  have hs : σ.set i (some v) = σ := by
    apply List.ext_getElem?
    intro j
    by_cases hj : i = j
    · subst hj
      rw [List.getElem?_set_self (List.getElem?_eq_some_iff.mp e).1, e]
    · rw [List.getElem?_set_ne hj]
  have h0 : Sl K N H (ρ.set i none) σ A := by
    have q := hA.drop i (some v)
    rw [hs] at q
    exact q
  refine ⟨⟨fun x => A x ∨ A1 x, A2, B2, Sl.put h0 hl e r1 fun x q z => (d1 x z).1 (s1 x q), r2, h2, fun x q => ?_, fun x q => d2 x (s2 x q), fun x q => ?_⟩, R.nh, R.h0, R.n0, R.fr, R.xt, R.pr, R.dm⟩
  · rcases q with q | q
    · exact ⟨fun z => (d1 x q).1 (s2 x z), (d1 x q).2⟩
    · exact ⟨dj x q, d2 x (s1 x q)⟩
  · rcases q with (q | q) | q | q
    · exact ow x (.inl q)
    · exact ow x (.inr (.inl (s1 x q)))
    · exact ow x (.inr (.inl (s2 x q)))
    · exact ow x (.inr (.inr q))
theorem Rl.tail (R : Rl K C N σ ρ H (v :: xs) (d :: es) vs ds) : Rl K C N σ ρ H xs es vs ds := by
  obtain ⟨A, B1, B2, hA, h1, h2, d1, d2, ow⟩ := R.ex
  obtain ⟨v', vr, A1, A2, ev, r1, r2, s1, s2, dj⟩ := h1
  cases ev
  refine ⟨⟨A, A2, B2, hA, r2, h2, fun x q => ⟨fun z => (d1 x q).1 (s2 x z), (d1 x q).2⟩, fun x q => d2 x (s2 x q), fun x q => ow x ?_⟩, R.nh, R.h0, R.n0, R.fr, R.xt, R.pr, R.dm⟩
  rcases q with q | q | q
  · exact .inl q
  · exact .inr (.inl (s2 x q))
  · exact .inr (.inr q)
/-- a slot is stored -/
theorem Rl.store {i : Nat} (R : Rl K C N σ ρ H (v :: xs) (d :: es) vs ds) (hl : i < ρ.length) (hp : ∀ p ∈ C.prot, p.1 ≠ i) : Rl K C N (σ.set i (some v)) (ρ.set i (some d)) H xs es vs ds := by
  obtain ⟨A, B1, B2, hA, h1, h2, d1, d2, ow⟩ := R.ex
  have hs : i < σ.length := by rw [← hA.length]; exact hl
  have R2 : Rl K C N (σ.set i (some v)) (ρ.set i none) H (v :: xs) (d :: es) vs ds := by
    refine ⟨⟨A, B1, B2, hA.drop i (some v), h1, h2, d1, d2, ow⟩, R.nh, R.h0, R.n0, R.fr, R.xt, fun p hp' => ?_, R.dm⟩
    rw [List.getElem?_set_ne (Ne.symm (hp p hp'))]
    exact R.pr p hp'
  have R3 := R2.give (i := i) (by rw [List.getElem?_set_self hs])
  rw [List.set_set] at R3
  exact R3
/-- a slot is forgotten -/
theorem Rl.forget {i : Nat} (R : Rl K C N σ ρ H xs es vs ds) (s : Option V) (hp : ∀ p ∈ C.prot, p.1 ≠ i) : Rl K C N (σ.set i s) (ρ.set i none) H xs es vs ds := by
  obtain ⟨A, B1, B2, hA, h1, h2, d1, d2, ow⟩ := R.ex
  refine ⟨⟨A, B1, B2, hA.drop i s, h1, h2, d1, d2, ow⟩, R.nh, R.h0, R.n0, R.fr, R.xt, fun p hp' => ?_, R.dm⟩
  rw [List.getElem?_set_ne (Ne.symm (hp p hp'))]
  exact R.pr p hp'
theorem Rl.len (R : Rl K C N σ ρ H xs es vs ds) : ρ.length = σ.length := by
  obtain ⟨A, B1, B2, hA, _⟩ := R.ex
  exact hA.length
/-- an owned list that was just reckoned is changed; what was reckoned behind it goes into it or is dropped -/
theorem Rl.write {a : Addr} {zs : List V} {us : List V} {fs : List D} (R : Rl K C N σ ρ H (.ref a :: xs) (.own fs :: es) vs ds) (ha : H a = some (.lst us)) {gs : List D}
    (hz : ∀ B1 B2, Rps K N H fs us B1 → Rps K N H es xs B2 → (∀ x, B1 x → ¬ B2 x) → ∃ B3, Rps K N H gs zs B3 ∧ ∀ x, B3 x → B1 x ∨ B2 x) : Rl K C N σ ρ (upd H a (.lst zs)) [.ref a] [.own gs] vs ds := by
  obtain ⟨A, B1, B2, hA, h1, h2, d1, d2, ow⟩ := R.ex
  obtain ⟨v', vr, A1, A2, ev, r1, r2, s1, s2, dj⟩ := h1
  cases ev
  obtain ⟨a', us', B, e', ha', hAa, hB, rB⟩ := r1
  cases e'
  rw [ha] at ha'
  cases ha'
  obtain ⟨B3, g1, g2⟩ := hz B A2 rB r2 fun x q => dj x (hB x q).1
  have Na : N a := (ow a (.inr (.inl (s1 a hAa)))).1
  have x : Ext K N H N (upd H a (.lst zs)) := .write ha Na
  have ne : ∀ y, y ≠ a → upd H a (.lst zs) y = H y := fun y q => upd_ne q
  have nz : ∀ y, H y ≠ none → upd H a (.lst zs) y ≠ none := fun y q => by
    by_cases z : y = a
    · rw [z, upd_same]; exact fun z => by cases z
    · rw [ne y z]; exact q
  have a2 : ¬ A2 a := dj a hAa
  have g3 : ∀ y, B3 y → B1 y ∧ y ≠ a := fun y q => by
    rcases g2 y q with z | z
    · exact ⟨s1 y (hB y z).1, (hB y z).2⟩
    · exact ⟨s2 y z, fun w => a2 (w ▸ z)⟩
  refine ⟨⟨A, fun y => B3 y ∨ y = a, B2, hA.keep x fun b q => ne b fun z => (d1 b q).1 (z ▸ s1 a hAa), ⟨.ref a, [], fun y => B3 y ∨ y = a, AS0, rfl, ⟨a, zs, B3, rfl, upd_same, .inr rfl, fun y q => ⟨.inl q, (g3 y q).2⟩, g1.keep x gs fun b q => ne b (g3 b q).2⟩, rfl, fun _ q => q, fun _ q => q.elim, fun _ _ q => q⟩,
    h2.keep x ds fun b q => ne b fun z => d2 a (s1 a hAa) (z ▸ q), fun y q => ⟨fun z => ?_, (d1 y q).2⟩, fun y q => ?_, fun y q => ?_⟩, fun y q => nz y (R.nh y q), R.h0, R.n0, fun y q n => ?_, R.xt.trans x, R.pr, fun y q => nz y (R.dm y q)⟩
  · rcases z with z | z
    · exact (d1 y q).1 (g3 y z).1
    · exact (d1 y q).1 (z ▸ s1 a hAa)
  · rcases q with q | q
    · exact d2 y (g3 y q).1
    · exact d2 y (q ▸ s1 a hAa)
  · rcases q with q | (q | q) | q
    · exact ow y (.inl q)
    · exact ow y (.inr (.inl (g3 y q).1))
    · exact ow y (.inr (.inl (q ▸ s1 a hAa)))
    · exact ow y (.inr (.inr q))
  · rw [ne y fun z => ?_]
    · exact R.fr y q n
    · rcases (ow a (.inr (.inl (s1 a hAa)))).2 with w | w
      · exact n (z ▸ w)
      · exact R.h0 y q (z ▸ w)
end
end BV

/-! BV, part C: what operators do to data. -/
namespace BV
open PySem PySem.Spec PyProof.Rows L2

/-! ### data as the library's data -/
mutual
def D.py : D → PyData
  | .non => .none
  | .bl b => .bool b
  | .int i => .int i
  | .str x => .str x
  | .tup xs => .tuple (D.pys xs)
  | .lst xs => .list (D.pys xs)
  | .frl xs => .list (D.pys xs)
  | .own xs => .list (D.pys xs)
def D.pys : List D → List PyData
  | [] => []
  | d :: ds => d.py :: D.pys ds
end
section
variable {K : Fg} {N : AS} {H : Hp}
mutual
theorem Rp.dp : ∀ (d : D) {v : V} {A : AS}, Rp K N H d v A → Dp K H v d.py
  | .non, _, _, h => by
    cases (show _ = V.non from h)
    exact .non
  | .bl b, _, _, h => by
    cases (show _ = V.bl b from h)
    exact .bl b
  | .int i, _, _, h => by
    cases (show _ = V.int i from h)
    exact .int i
  | .str x, _, _, h => by
    cases (show _ = V.str x from h)
    exact .str x
  | .tup ds, _, _, h => by
    obtain ⟨a, vs, rfl, hs, r⟩ := h
    exact .tup hs (Rps.dp ds r)
  | .lst ds, _, _, h => by
    obtain ⟨a, vs, rfl, hs, _, r⟩ := h
    exact .lst (.inl (.inl hs)) (Rps.dp ds r)
  | .frl ds, _, _, h => by
    obtain ⟨a, vs, rfl, hs, r⟩ := h
    exact .lst hs.sq (Rps.dp ds r)
  | .own ds, _, _, h => by
    obtain ⟨a, vs, B, rfl, hs, _, _, r⟩ := h
    exact .lst (.inl (.inl hs)) (Rps.dp ds r)
theorem Rps.dp : ∀ (ds : List D) {vs : List V} {A : AS}, Rps K N H ds vs A → DpAll K H vs (D.pys ds)
  | [], _, _, h => by
    cases (show _ = [] from h)
    exact .nil
  | d :: ds, _, _, h => by
    obtain ⟨v, vr, A1, A2, rfl, h1, h2, s1, s2, dj⟩ := h
    exact .cons (Rp.dp d h1) (Rps.dp ds h2)
end
end
/-- the items of a list or a tuple -/
def D.seq : D → Option (List D)
  | .tup xs => some xs
  | .lst xs => some xs
  | .frl xs => some xs
  | .own xs => some xs
  | _ => none
/-- what may be compared by ==: no text with a sign beyond the line; one of both not too deep -/
def D.lay (d : D) : Bool := d.py.canLay0
def D.dep (d : D) : Nat := d.py.depth
def eqD : D → D → Option Bool
  | .str x, .str y => some (decide (x = y))
  | d, e => if d.lay = true ∧ e.lay = true ∧ min d.dep e.dep ≤ 64 then some (PyData.eqv d.py e.py) else none
def rEqX (K : Fg) : R2 := fun x y H Q => ∃ d e, Dp K H x d ∧ Dp K H y e ∧ ((d.canLay0 = true ∧ e.canLay0 = true ∧ min d.depth e.depth ≤ 64 ∧ Q (.bl (PyData.eqv d e)) H) ∨ ∃ a b, x = .str a ∧ y = .str b ∧ Q (.bl (decide (a = b))) H)
def rNeX (K : Fg) : R2 := fun x y H Q => ∃ d e, Dp K H x d ∧ Dp K H y e ∧ ((d.canLay0 = true ∧ e.canLay0 = true ∧ min d.depth e.depth ≤ 64 ∧ Q (.bl (!PyData.eqv d e)) H) ∨ ∃ a b, x = .str a ∧ y = .str b ∧ Q (.bl (!decide (a = b))) H)
section
variable {X : Cx}
theorem op_eqX (hu : X.A.units + 64 < cLine) : OpR X (compareOp .Eq) (rEqX X.K) := by
  intro pins s σ H x y v u Q I rx ry h
  obtain ⟨d, e, hd, he, h⟩ := h
  rcases h with ⟨sd, se, z, q⟩ | ⟨a, b, rfl, rfl, q⟩
  · obtain ⟨as, r1⟩ := Dp.reads I d x v hd rx
    obtain ⟨bs, r2⟩ := Dp.reads I e y u he ry
    exact SeqAt.compareEq_reads r1 r2 sd se (by omega) ⟨.bl _, H, I, rfl, q⟩
  · exact op_eq pins s σ H _ _ v u Q I rx ry ⟨rfl, by rw [dec_str, Bool.beq_eq_decide_eq]; exact q⟩
theorem op_neX (hu : X.A.units + 64 < cLine) : OpR X (compareOp .NotEq) (rNeX X.K) := by
  intro pins s σ H x y v u Q I rx ry h
  obtain ⟨d, e, hd, he, h⟩ := h
  rcases h with ⟨sd, se, z, q⟩ | ⟨a, b, rfl, rfl, q⟩
  · obtain ⟨as, r1⟩ := Dp.reads I d x v hd rx
    obtain ⟨bs, r2⟩ := Dp.reads I e y u he ry
    exact SeqAt.compareNe_reads r1 r2 sd se (by omega) ⟨.bl _, H, I, rfl, q⟩
  · exact op_ne pins s σ H _ _ v u Q I rx ry ⟨rfl, by rw [dec_str, Bool.beq_eq_decide_eq]; exact q⟩
end

/-! ### operators by values -/
/-- r does to two values what g does to data -/
def BopR (K : Fg) (r : R2) (g : D → D → Option D) : Prop := ∀ {C : Ct} {N : AS} {σ : Sts} {ρ : Ev} {H : Hp} {x y : V} {vs : List V} {d e : D} {ds : List D} {z : D} {Q : VK}, Rl K C N σ ρ H [x, y] [d, e] vs ds → g d e = some z → (∀ v N' H', Rl K C N' σ ρ H' [v] [z] vs ds → Q v H') → r x y H Q
def UopR (K : Fg) (r : V → Hp → VK → Prop) (g : D → Option D) : Prop := ∀ {C : Ct} {N : AS} {σ : Sts} {ρ : Ev} {H : Hp} {x : V} {vs : List V} {d : D} {ds : List D} {z : D} {Q : VK}, Rl K C N σ ρ H [x] [d] vs ds → g d = some z → (∀ v N' H', Rl K C N' σ ρ H' [v] [z] vs ds → Q v H') → r x H Q
section
variable {K : Fg} {C : Ct} {N : AS} {σ : Sts} {ρ : Ev} {H : Hp} {x y : V} {vs : List V} {d e : D} {ds : List D}
theorem Rl.two (R : Rl K C N σ ρ H [x, y] [d, e] vs ds) : ∃ A B, Rp K N H d x A ∧ Rp K N H e y B := by
  obtain ⟨A, h⟩ := R.top
  obtain ⟨v, vr, A1, A2, e1, r1, r2, s1, s2, dj⟩ := h
  cases e1
  obtain ⟨v, vr, A3, A4, e1, r3, _⟩ := r2
  cases e1
  exact ⟨A1, A3, r1, r3⟩
def okOr (K : Fg) (r r' : R2) : R2 := fun x y H Q => r x y H Q ∨ r' x y H Q

theorem bop_eq : BopR K (rEqX K) fun d e => (eqD d e).map D.bl := by
  intro C N σ ρ H x y vs d e ds z Q R g q
  obtain ⟨A, B, hd, he⟩ := R.two
  refine ⟨d.py, e.py, Rp.dp d hd, Rp.dp e he, ?_⟩
  have dflt : (if d.lay = true ∧ e.lay = true ∧ min d.dep e.dep ≤ 64 then some (PyData.eqv d.py e.py) else none).map D.bl = some z → d.py.canLay0 = true ∧ e.py.canLay0 = true ∧ min d.py.depth e.py.depth ≤ 64 ∧ Q (.bl (PyData.eqv d.py e.py)) H := fun g => by
    by_cases c : d.lay = true ∧ e.lay = true ∧ min d.dep e.dep ≤ 64
    · rw [if_pos c] at g
      cases g
      exact ⟨c.1, c.2.1, c.2.2, q _ N H (R.res rfl)⟩
    · rw [if_neg c] at g
      cases g
  cases d with
  | str a =>
    cases e with
    | str b =>
      cases (show x = .str a from hd)
      cases (show y = .str b from he)
      cases g
      exact .inr ⟨a, b, rfl, rfl, q _ N H (R.res rfl)⟩
    | _ => exact .inl (dflt g)
  | _ => exact .inl (dflt g)
theorem bop_ne : BopR K (rNeX K) fun d e => (eqD d e).map fun b => D.bl (!b) := by
  intro C N σ ρ H x y vs d e ds z Q R g q
  obtain ⟨A, B, hd, he⟩ := R.two
  refine ⟨d.py, e.py, Rp.dp d hd, Rp.dp e he, ?_⟩
  have dflt : (if d.lay = true ∧ e.lay = true ∧ min d.dep e.dep ≤ 64 then some (PyData.eqv d.py e.py) else none).map (fun b => D.bl (!b)) = some z → d.py.canLay0 = true ∧ e.py.canLay0 = true ∧ min d.py.depth e.py.depth ≤ 64 ∧ Q (.bl (!PyData.eqv d.py e.py)) H := fun g => by
    by_cases c : d.lay = true ∧ e.lay = true ∧ min d.dep e.dep ≤ 64
    · rw [if_pos c] at g
      cases g
      exact ⟨c.1, c.2.1, c.2.2, q _ N H (R.res rfl)⟩
    · rw [if_neg c] at g
      cases g
  cases d with
  | str a =>
    cases e with
    | str b =>
      cases (show x = .str a from hd)
      cases (show y = .str b from he)
      cases g
      exact .inr ⟨a, b, rfl, rfl, q _ N H (R.res rfl)⟩
    | _ => exact .inl (dflt g)
  | _ => exact .inl (dflt g)

/-- two whole numbers -/
def int2 (c : Int → Int → Bool) (g : Int → Int → D) : D → D → Option D
  | .int i, .int j => if c i j = true then some (g i j) else none
  | _, _ => none
theorem int2_of {c : Int → Int → Bool} {g : Int → Int → D} {d e z : D} (h : int2 c g d e = some z) : ∃ i j, d = .int i ∧ e = .int j ∧ c i j = true ∧ z = g i j := by
  unfold int2 at h
  split at h
  · split at h
    · cases h
      exact ⟨_, _, rfl, rfl, by assumption, rfl⟩
    · cases h
  · cases h
theorem bop_int {Cd : Int → Int → Prop} {gv : Int → Int → V} {c : Int → Int → Bool} {g : Int → Int → D} (hc : ∀ i j, c i j = true → Cd i j) (hg : ∀ i j N H, Rp K N H (g i j) (gv i j) AS0) : BopR K (rI Cd gv) (int2 c g) := by
  intro C N σ ρ H x y vs d e ds z Q R h q
  obtain ⟨A, B, hd, he⟩ := R.two
  obtain ⟨i, j, rfl, rfl, h1, rfl⟩ := int2_of h
  exact ⟨i, j, hd, he, hc i j h1, q _ N H (R.res (hg i j N H))⟩
theorem bop_int0 {gv : Int → Int → V} {g : Int → Int → D} (hg : ∀ i j N H, Rp K N H (g i j) (gv i j) AS0) : BopR K (rI0 gv) (int2 (fun _ _ => true) g) := by
  intro C N σ ρ H x y vs d e ds z Q R h q
  obtain ⟨A, B, hd, he⟩ := R.two
  obtain ⟨i, j, rfl, rfl, h1, rfl⟩ := int2_of h
  exact ⟨i, j, hd, he, q _ N H (R.res (hg i j N H))⟩
def subD : D → D → Option D := int2 (fun _ _ => true) fun i j => .int (i - j)
def ltD : D → D → Option D := int2 (fun _ _ => true) fun i j => .bl (decide (i < j))
def leD : D → D → Option D := int2 (fun _ _ => true) fun i j => .bl (decide (i ≤ j))
def gtD : D → D → Option D := int2 (fun _ _ => true) fun i j => .bl (decide (j < i))
def geD : D → D → Option D := int2 (fun _ _ => true) fun i j => .bl (decide (j ≤ i))
def modD : D → D → Option D := int2 (fun _ j => decide (0 < j)) fun i j => .int (i % j)
def divD : D → D → Option D := int2 (fun _ j => decide (0 < j) && decide (j.natAbs.log2 < 9000)) fun i j => .int (i / j)
def mulI (i j : Int) : Bool := decide (i.natAbs.log2 + j.natAbs.log2 < 1000000)
def powD : D → D → Option D := int2 (fun i j => decide (0 ≤ j) && decide (j ≤ 1000000) && decide (i.natAbs < 2 ^ 64)) fun i j => .int (i ^ j.toNat)
theorem bop_sub : BopR K (rI0 fun i j => .int (i - j)) subD := bop_int0 fun _ _ _ _ => by rfl
theorem bop_lt : BopR K (rI0 fun i j => .bl (decide (i < j))) ltD := bop_int0 fun _ _ _ _ => by rfl
theorem bop_le : BopR K (rI0 fun i j => .bl (decide (i ≤ j))) leD := bop_int0 fun _ _ _ _ => by rfl
theorem bop_gt : BopR K (rI0 fun i j => .bl (decide (j < i))) gtD := bop_int0 fun _ _ _ _ => by rfl
theorem bop_ge : BopR K (rI0 fun i j => .bl (decide (j ≤ i))) geD := bop_int0 fun _ _ _ _ => by rfl
theorem bop_mod : BopR K (rI (fun _ j => 0 < j) fun i j => .int (i % j)) modD := bop_int (fun _ _ h => of_decide_eq_true h) fun _ _ _ _ => by rfl
theorem bop_div : BopR K (rI CDivW fun i j => .int (i / j)) divD := bop_int (fun _ _ h => by
  rw [Bool.and_eq_true, decide_eq_true_eq, decide_eq_true_eq] at h
  exact h) fun _ _ _ _ => by rfl
theorem bop_pow : BopR K (rI CPow fun i j => .int (i ^ j.toNat)) powD := bop_int (fun _ _ h => by
  rw [Bool.and_eq_true, Bool.and_eq_true, decide_eq_true_eq, decide_eq_true_eq, decide_eq_true_eq] at h
  exact ⟨h.1.1, h.1.2, h.2⟩) fun _ _ _ _ => by rfl

/-- + : whole numbers, texts, tuples, lists -/
def addD : D → D → Option D
  | .int i, .int j => some (.int (i + j))
  | .str a, .str b => if a.length + b.length ≤ sizeLine then some (.str (a ++ b)) else none
  | .tup xs, .tup ys => if xs.length + ys.length ≤ sizeLine then some (.tup (xs ++ ys)) else none
  | .lst xs, .lst ys => if xs.length + ys.length ≤ sizeLine then some (.own (xs ++ ys)) else none
  | .lst xs, .own ys => if xs.length + ys.length ≤ sizeLine ∧ ys.all D.sh = true then some (.own (xs ++ ys)) else none
  | .own xs, .lst ys => if xs.length + ys.length ≤ sizeLine ∧ xs.all D.sh = true then some (.own (xs ++ ys)) else none
  | .own xs, .own ys => if xs.length + ys.length ≤ sizeLine ∧ xs.all D.sh = true ∧ ys.all D.sh = true then some (.own (xs ++ ys)) else none
  | _, _ => none
def rAddX (K : Fg) : R2 := fun x y H Q => ((rI0 fun i j => .int (i + j)) x y H Q) ∨ ((fun x y H Q => ∃ i j, x = .str i ∧ y = .str j ∧ i.length + j.length ≤ sizeLine ∧ Q (.str (i ++ j)) H) x y H Q) ∨ rCatA K x y H Q ∨ rCat x y H Q
theorem op_addX {X : Cx} : OpR X (binaryOp .Add) (rAddX X.K) := op_add.or (op_add_str.or (op_catA.or op_cat))
theorem bop_cat {xs ys : List D} {d e z : D} {x y : V} {vs : List V} {ds : List D} {a b : Addr} {us ws : List V} {Q : VK} (R : Rl K C N σ ρ H [x, y] [d, e] vs ds) (ex : x = .ref a) (ey : y = .ref b) (ha : H a = some (.lst us)) (hb : H b = some (.lst ws)) (r1 : Rps K N H xs us AS0) (r2 : Rps K N H ys ws AS0)
    (hz : xs.length + ys.length ≤ sizeLine) (ez : z = .own (xs ++ ys)) (q : ∀ v N' H', Rl K C N' σ ρ H' [v] [z] vs ds → Q v H') : rCat x y H Q := by
  subst ez
  refine ⟨a, b, us, ws, ex, ey, ha, hb, by rw [← r1.length, ← r2.length]; exact hz, fun p np => ?_⟩
  exact q _ _ _ (R.allocN np (r1.append0 r2))
theorem bop_add : BopR K (rAddX K) addD := by
  intro C N σ ρ H x y vs d e ds z Q R h q
  obtain ⟨A, B, hd, he⟩ := R.two
  unfold addD at h
  split at h
  · cases h
    exact .inl ⟨_, _, hd, he, q _ N H (R.res rfl)⟩
  · split at h
    · cases h
      exact .inr (.inl ⟨_, _, hd, he, by assumption, q _ N H (R.res rfl)⟩)
    · cases h
  · rename_i xs ys
    split at h
    · rename_i hz
      cases h
      obtain ⟨a, us, rfl, ha, r1⟩ := hd
      obtain ⟨b, ws, rfl, hb, r2⟩ := he
      refine .inr (.inr (.inl ⟨a, b, us, ws, rfl, rfl, ha, hb, by rw [← r1.length, ← r2.length]; exact hz, fun e0 => ?_, fun _ e0 => ?_, fun _ _ p np => ?_⟩))
      · have ex : xs = [] := List.eq_nil_of_length_eq_zero (by rw [r1.length, e0]; rfl)
        subst ex
        exact q _ N H (R.res ⟨b, ws, rfl, hb, r2⟩)
      · have ex : ys = [] := List.eq_nil_of_length_eq_zero (by rw [r2.length, e0]; rfl)
        subst ex
        rw [List.append_nil] at q
        exact q _ N H (R.res ⟨a, us, rfl, ha, r1⟩)
      · exact q _ _ _ (R.newTup np (r1.append0 r2))
    · cases h
  · split at h
    · rename_i hz
      cases h
      obtain ⟨a, us, ex, ha, _, r1⟩ := hd
      obtain ⟨b, ws, ey, hb, _, r2⟩ := he
      exact .inr (.inr (.inr (bop_cat R ex ey ha hb r1 r2 hz rfl q)))
    · cases h
  · split at h
    · rename_i hz
      cases h
      obtain ⟨a, us, ex, ha, _, r1⟩ := hd
      obtain ⟨b, ws, B, ey, hb, _, _, r2⟩ := he
      exact .inr (.inr (.inr (bop_cat R ex ey ha hb r1 (r2.share hz.2) hz.1 rfl q)))
    · cases h
  · split at h
    · rename_i hz
      cases h
      obtain ⟨a, us, B, ex, ha, _, _, r1⟩ := hd
      obtain ⟨b, ws, ey, hb, _, r2⟩ := he
      exact .inr (.inr (.inr (bop_cat R ex ey ha hb (r1.share hz.2) r2 hz.1 rfl q)))
    · cases h
  · split at h
    · rename_i hz
      cases h
      obtain ⟨a, us, B, ex, ha, _, _, r1⟩ := hd
      obtain ⟨b, ws, B', ey, hb, _, _, r2⟩ := he
      exact .inr (.inr (.inr (bop_cat R ex ey ha hb (r1.share hz.2.1) (r2.share hz.2.2) hz.1 rfl q)))
    · cases h
  · cases h
end
end BV

/-! BV, part D: the judgements by values; names, constants, operators, displays, calls. -/
namespace BV
open PySem PySem.Spec PyProof.Rows L2

/-! ### readings by values -/
structure XE where
  f : Ev → (D → Ev → Prop) → Prop
  mono : ∀ {ρ : Ev} {Q Q' : D → Ev → Prop}, (∀ d ρ', Q d ρ' → Q' d ρ') → f ρ Q → f ρ Q'
structure XT where
  f : Ev → (Bool → Ev → Prop) → Prop
  mono : ∀ {ρ : Ev} {Q Q' : Bool → Ev → Prop}, (∀ d ρ', Q d ρ' → Q' d ρ') → f ρ Q → f ρ Q'
structure XA where
  f : Ev → (List D → Ev → Prop) → Prop
  mono : ∀ {ρ : Ev} {Q Q' : List D → Ev → Prop}, (∀ d ρ', Q d ρ' → Q' d ρ') → f ρ Q → f ρ Q'
structure DE where
  nx : Ev → Prop
  rt : D → Ev → Prop
  bk : Ev → Prop
  ct : Ev → Prop
structure DE.le (G G' : DE) : Prop where
  nx : ∀ ρ, G.nx ρ → G'.nx ρ
  rt : ∀ d ρ, G.rt d ρ → G'.rt d ρ
  bk : ∀ ρ, G.bk ρ → G'.bk ρ
  ct : ∀ ρ, G.ct ρ → G'.ct ρ
structure XS where
  f : DE → Ev → Prop
  mono : ∀ {G G' : DE} {ρ : Ev}, G.le G' → f G ρ → f G' ρ

structure VE (X : Cx) (C : Ct) (e : Expr) (t : TE) (T : XE) : Prop where
  pe : PE X e t
  se : ∀ {N : AS} {σ : Sts} {ρ : Ev} {H : Hp} {vs : List V} {ds : List D} {Q : VK}, Rl X.K C N σ ρ H [] [] vs ds → T.f ρ (fun d ρ' => ∀ v N' H', Rl X.K C N' σ ρ' H' [v] [d] vs ds → Q v H') → t σ H Q
structure VT (X : Cx) (C : Ct) (e : Expr) (t : TT) (T : XT) : Prop where
  pt : PT X e t
  st : ∀ {N : AS} {σ : Sts} {ρ : Ev} {H : Hp} {vs : List V} {ds : List D} {Q : Bool → Hp → Prop}, Rl X.K C N σ ρ H [] [] vs ds → T.f ρ (fun b ρ' => ∀ N' H', Rl X.K C N' σ ρ' H' [] [] vs ds → Q b H') → t σ H Q
structure VW (X : Cx) (C : Ct) (e : Expr) (t : TT) (T : XT) : Prop where
  pw : PW X e t
  st : ∀ {N : AS} {σ : Sts} {ρ : Ev} {H : Hp} {vs : List V} {ds : List D} {Q : Bool → Hp → Prop}, Rl X.K C N σ ρ H [] [] vs ds → T.f ρ (fun b ρ' => ∀ N' H', Rl X.K C N' σ ρ' H' [] [] vs ds → Q b H') → t σ H Q
/-- the places of arguments that were lent out of slots -/
structure Lent (σ : Sts) (sl : List (Option Nat)) (xs : List V) : Prop where
  len : xs.length = sl.length
  at_ : ∀ (k i : Nat), sl[k]? = some (some i) → ∃ x, xs[k]? = some x ∧ σ[i]? = some (some x)
structure VA (X : Cx) (C : Ct) (es : List Expr) (sl : List (Option Nat)) (t : TA) (T : XA) : Prop where
  pa : PA X es t
  sa : ∀ {N : AS} {σ : Sts} {ρ : Ev} {H : Hp} {vs : List V} {ds : List D} {Q : List V → Hp → Prop}, Rl X.K C N σ ρ H [] [] vs ds → T.f ρ (fun fs ρ' => ∀ xs N' H', Rl X.K C N' σ ρ' H' xs fs vs ds → Lent σ sl xs → Q xs H') → t σ H Q
structure Leads (K : Fg) (C : Ct) (vs : List V) (ds : List D) (G : DE) (E : Ends) : Prop where
  nx : ∀ σ ρ H N, Rl K C N σ ρ H [] [] vs ds → G.nx ρ → E.nx σ H
  rt : ∀ v d σ ρ H N, Rl K C N σ ρ H [v] [d] vs ds → G.rt d ρ → E.rt v H
  bk : ∀ σ ρ H N, Rl K C N σ ρ H [] [] vs ds → G.bk ρ → E.bk σ H
  ct : ∀ σ ρ H N, Rl K C N σ ρ H [] [] vs ds → G.ct ρ → E.ct σ H
structure VS (X : Cx) (C : Ct) (s : Stmt) (t : TS) (T : XS) : Prop where
  ps : PS X s t
  ss : ∀ {N : AS} {σ : Sts} {ρ : Ev} {H : Hp} {vs : List V} {ds : List D} {E : Ends} {G : DE}, Rl X.K C N σ ρ H [] [] vs ds → T.f G ρ → Leads X.K C vs ds G E → t E σ H
structure VB (X : Cx) (C : Ct) (ss : List Stmt) (t : TS) (T : XS) : Prop where
  ps : PSs X ss t
  ss : ∀ {N : AS} {σ : Sts} {ρ : Ev} {H : Hp} {vs : List V} {ds : List D} {E : Ends} {G : DE}, Rl X.K C N σ ρ H [] [] vs ds → T.f G ρ → Leads X.K C vs ds G E → t E σ H

section
variable {X : Cx} {C : Ct} {a b c e : Expr} {es : List Expr} {ta tb tc te : TE} {Ta Tb Tc Te : XE} {pos p : Pos}

/-! ### names, constants -/
def xName (i : Nat) : XE := ⟨fun ρ Q => ∃ d, ρ[i]? = some (some d) ∧ d.sh = true ∧ Q d ρ, fun m ⟨d, h1, h2, q⟩ => ⟨d, h1, h2, m _ _ q⟩⟩
theorem ve_name (i : Nat) (h : PE X e (tVar i)) : VE X C e (tVar i) (xName i) := by
  refine ⟨h, fun R q => ?_⟩
  obtain ⟨d, h1, h2, q⟩ := q
  obtain ⟨v, e1, r⟩ := R.get h1 h2
  exact ⟨v, e1, q v _ _ (R.res r)⟩
def xC (d : D) : XE := ⟨fun ρ Q => Q d ρ, fun m q => m _ _ q⟩
theorem ve_of_c {v : V} {d : D} (h : PE X e (tC v)) (r : ∀ N H, Rp X.K N H d v AS0) : VE X C e (tC v) (xC d) := ⟨h, fun R q => q v _ _ (R.res (r _ _))⟩
theorem ve_int {i j} : VE X C (.Constant (.int i) j pos) (tC (.int i)) (xC (.int i)) := ve_of_c pe_int fun _ _ => rfl
theorem ve_bl {i j} : VE X C (.Constant (.bool i) j pos) (tC (.bl i)) (xC (.bl i)) := ve_of_c pe_bl fun _ _ => rfl
theorem ve_str {i j} : VE X C (.Constant (.str i) j pos) (tC (.str i)) (xC (.str i)) := ve_of_c pe_str fun _ _ => rfl
theorem ve_non {j} : VE X C (.Constant .none j pos) (tC .non) (xC .non) := ve_of_c pe_non fun _ _ => rfl
/-- a whole number of the module -/
theorem ve_globI {x : Str} {i : Int} (hg : Gl X x) (hm : ∃ t, X.mg x = some (.int i t)) (hd : (x == ("__debug__" : Str)) = false := by decide) : VE X C (.Name x pos) (tC (.int i)) (xC (.int i)) := by
  obtain ⟨t, e⟩ := hm
  exact ve_of_c (pe_glob hg e ⟨t, rfl⟩ hd) fun _ _ => rfl
theorem ve_globS {x z : Str} (hg : Gl X x) (hm : ∃ t, X.mg x = some (.str z t)) (hd : (x == ("__debug__" : Str)) = false := by decide) : VE X C (.Name x pos) (tC (.str z)) (xC (.str z)) := by
  obtain ⟨t, e⟩ := hm
  exact ve_of_c (pe_glob hg e ⟨t, rfl⟩ hd) fun _ _ => rfl

/-! ### two operands -/
def xBin (g : D → D → Option D) (Ta Tb : XE) : XE := ⟨fun ρ Q => Ta.f ρ fun d ρ1 => Tb.f ρ1 fun e ρ2 => ∃ z, g d e = some z ∧ Q z ρ2,
  fun m q => Ta.mono (fun _ _ q => Tb.mono (fun _ _ ⟨z, h, q⟩ => ⟨z, h, m _ _ q⟩) q) q⟩
theorem se_bin {r : R2} {g : D → D → Option D} (hg : BopR X.K r g) (ha : VE X C a ta Ta) (hb : VE X C b tb Tb) {N : AS} {σ : Sts} {ρ : Ev} {H : Hp} {vs : List V} {ds : List D} {Q : VK} (R : Rl X.K C N σ ρ H [] [] vs ds)
    (q : (xBin g Ta Tb).f ρ (fun d ρ' => ∀ v N' H', Rl X.K C N' σ ρ' H' [v] [d] vs ds → Q v H')) : tOp r ta tb σ H Q := by
  refine ha.se R (Ta.mono (fun d ρ1 q v N1 H1 R1 => ?_) q)
  refine hb.se R1.park (Tb.mono (fun e ρ2 q w N2 H2 R2 => ?_) q)
  obtain ⟨z, hz, q⟩ := q
  exact hg R2.cons hz q
theorem ve_bin {op : Operator} {r : R2} {g : D → D → Option D} (ho : OpR X (binaryOp op) r) (hg : BopR X.K r g) (ha : VE X C a ta Ta) (hb : VE X C b tb Tb) : VE X C (.BinOp a op b pos) (tOp r ta tb) (xBin g Ta Tb) :=
  ⟨pe_op ho ha.pe hb.pe, fun R q => se_bin hg ha hb R q⟩
theorem ve_cmp {op : CmpOp} {r : R2} {g : D → D → Option D} (ho : OpR X (compareOp op) r) (hg : BopR X.K r g) (ha : VE X C a ta Ta) (hb : VE X C b tb Tb) (hm : behindInMarks op b = false) : VE X C (.Compare a [op] [b] pos) (tOp r ta tb) (xBin g Ta Tb) :=
  ⟨pe_cmpR ho ha.pe hb.pe hm, fun R q => se_bin hg ha hb R q⟩
/-- as a test -/
def xTst (T : XE) : XT := ⟨fun ρ Q => T.f ρ fun d ρ' => ∃ k, d = .bl k ∧ Q k ρ', fun m q => T.mono (fun _ _ ⟨k, e, q⟩ => ⟨k, e, m _ _ q⟩) q⟩
theorem tst_lift {K : Fg} {T : XE} {σ : Sts} {ρ : Ev} {vs : List V} {ds : List D} {Q : Bool → Hp → Prop} (q : (xTst T).f ρ (fun b ρ' => ∀ N' H', Rl K C N' σ ρ' H' [] [] vs ds → Q b H')) :
    T.f ρ (fun d ρ' => ∀ v N' H', Rl K C N' σ ρ' H' [v] [d] vs ds → ∃ k, v = .bl k ∧ Q k H') :=
  T.mono (Q := fun d ρ' => ∃ k, d = .bl k ∧ ∀ N' H', Rl K C N' σ ρ' H' [] [] vs ds → Q k H') (fun d ρ' h v N' H' R' => by
    obtain ⟨k, e, q⟩ := h
    subst e
    obtain ⟨A, h⟩ := R'.top1
    exact ⟨k, h, q N' H' R'.drop⟩) q
theorem vt_cmp {op : CmpOp} {r : R2} {g : D → D → Option D} (ho : OpR X (compareOp op) r) (hg : BopR X.K r g) (ha : VE X C a ta Ta) (hb : VE X C b tb Tb) (hm : behindInMarks op b = false) : VT X C (.Compare a [op] [b] pos) (tTest (tOp r ta tb)) (xTst (xBin g Ta Tb)) :=
  ⟨pt_cmpR ho ha.pe hb.pe hm, fun R q => se_bin hg ha hb R (tst_lift q)⟩
/-- a < b < c, of whole numbers -/
def xChain (g g' : Int → Int → Bool) (Ta Tb Tc : XE) : XE := ⟨fun ρ Q => Ta.f ρ fun d ρ1 => Tb.f ρ1 fun e ρ2 => ∃ i j, d = .int i ∧ e = .int j ∧ (g i j = true → Tc.f ρ2 fun f ρ3 => ∃ k, f = .int k ∧ Q (.bl (g' j k)) ρ3) ∧ (g i j = false → Q (.bl false) ρ2),
  fun m q => Ta.mono (fun _ _ q => Tb.mono (fun _ _ ⟨i, j, h1, h2, q1, q2⟩ => ⟨i, j, h1, h2, fun z => Tc.mono (fun _ _ ⟨k, h, q⟩ => ⟨k, h, m _ _ q⟩) (q1 z), fun z => m _ _ (q2 z)⟩) q) q⟩
theorem se_chain {g g' : Int → Int → Bool} (ha : VE X C a ta Ta) (hb : VE X C b tb Tb) (hc : VE X C c tc Tc) {N : AS} {σ : Sts} {ρ : Ev} {H : Hp} {vs : List V} {ds : List D} {Q : VK} (R : Rl X.K C N σ ρ H [] [] vs ds)
    (q : (xChain g g' Ta Tb Tc).f ρ (fun d ρ' => ∀ v N' H', Rl X.K C N' σ ρ' H' [v] [d] vs ds → Q v H')) : tChain (rI0 fun i j => .bl (g i j)) (rI0 fun i j => .bl (g' i j)) ta tb tc σ H Q := by
  refine ha.se R (Ta.mono (fun d ρ1 q v N1 H1 R1 => ?_) q)
  refine hb.se R1.park (Tb.mono (fun e ρ2 q w N2 H2 R2 => ?_) q)
  obtain ⟨i, j, rfl, rfl, q1, q2⟩ := q
  obtain ⟨A, B, hv, hw⟩ := R2.cons.two
  refine ⟨i, j, hv, hw, _, rfl, ?_⟩
  cases e : g i j with
  | false => exact iteF (q2 e _ _ _ (R2.cons.res rfl))
  | true =>
    refine iteT (hc.se R2.cons.drop (Tc.mono (fun f ρ3 q u N3 H3 R3 => ?_) (q1 e)))
    obtain ⟨k, rfl, q⟩ := q
    obtain ⟨A3, h3⟩ := R3.top1
    exact ⟨j, k, hw, h3, q _ _ _ (R3.res rfl)⟩
theorem ve_chain {op op' : CmpOp} {g g' : Int → Int → Bool} (ho : OpR X (compareOp op) (rI0 fun i j => .bl (g i j))) (ho' : OpR X (compareOp op') (rI0 fun i j => .bl (g' i j))) (ha : VE X C a ta Ta) (hb : VE X C b tb Tb) (hc : VE X C c tc Tc)
    (hm : lastMarks [op, op'] [b, c] = false := by with_unfolding_all rfl) : VE X C (.Compare a [op, op'] [b, c] pos) (tChain (rI0 fun i j => .bl (g i j)) (rI0 fun i j => .bl (g' i j)) ta tb tc) (xChain g g' Ta Tb Tc) :=
  ⟨pe_chain ho ho' ha.pe hb.pe hc.pe hm, fun R q => se_chain ha hb hc R q⟩
theorem vt_chain {op op' : CmpOp} {g g' : Int → Int → Bool} (ho : OpR X (compareOp op) (rI0 fun i j => .bl (g i j))) (ho' : OpR X (compareOp op') (rI0 fun i j => .bl (g' i j))) (ha : VE X C a ta Ta) (hb : VE X C b tb Tb) (hc : VE X C c tc Tc)
    (hm : lastMarks [op, op'] [b, c] = false := by with_unfolding_all rfl) : VT X C (.Compare a [op, op'] [b, c] pos) (tTest (tChain (rI0 fun i j => .bl (g i j)) (rI0 fun i j => .bl (g' i j)) ta tb tc)) (xTst (xChain g g' Ta Tb Tc)) :=
  ⟨pt_chain ho ho' ha.pe hb.pe hc.pe hm, fun R q => se_chain ha hb hc R (tst_lift q)⟩

/-! ### tests -/
/-- truth -/
def D.tru : D → Option Bool
  | .non => some false
  | .bl b => some b
  | .int i => some (decide (i ≠ 0))
  | .str x => if x.length ≤ sizeLine then some (decide (x.length ≠ 0)) else none
  | .tup xs => some (!xs.isEmpty)
  | .lst xs => some (!xs.isEmpty)
  | .frl xs => some (!xs.isEmpty)
  | .own xs => some (!xs.isEmpty)
theorem Rps.isEmpty {K : Fg} {N : AS} {H : Hp} {ds : List D} {vs : List V} {A : AS} (h : Rps K N H ds vs A) : ds.isEmpty = vs.isEmpty := by
  have e := h.length
  cases ds <;> cases vs <;> first | rfl | simp at e
theorem D.tru_ok {K : Fg} {N : AS} {H : Hp} {d : D} {v : V} {A : AS} {k : Bool} (h : Rp K N H d v A) (e : d.tru = some k) : TruV K v H k := by
  cases d with
  | non => cases (show v = .non from h); cases e; exact rfl
  | bl b => cases (show v = .bl b from h); cases e; exact rfl
  | int i =>
    cases (show v = .int i from h)
    cases e
    show decide (i ≠ 0) = (i != 0)
    by_cases z : i = 0
    · subst z; rfl
    · rw [decide_eq_true z]
      exact (bne_iff_ne.mpr z).symm
  | str x =>
    cases (show v = .str x from h)
    have e' : (if x.length ≤ sizeLine then some (decide (x.length ≠ 0)) else none) = some k := e
    split at e'
    · rename_i hl
      cases e'
      refine ⟨hl, ?_⟩
      by_cases z : x.length = 0
      · rw [z]; rfl
      · rw [decide_eq_true z]
        exact (bne_iff_ne.mpr (by omega)).symm
    · cases e'
  | tup xs =>
    obtain ⟨a, vs, rfl, hs, r⟩ := h
    cases e
    exact .inr (.inl ⟨vs, hs, by rw [r.isEmpty]⟩)
  | lst xs =>
    obtain ⟨a, vs, rfl, hs, _, r⟩ := h
    cases e
    exact .inl ⟨vs, .inl (.inl hs), by rw [r.isEmpty]⟩
  | frl xs =>
    obtain ⟨a, vs, rfl, hs, r⟩ := h
    cases e
    exact .inl ⟨vs, hs.sq, by rw [r.isEmpty]⟩
  | own xs =>
    obtain ⟨a, vs, B, rfl, hs, _, _, r⟩ := h
    cases e
    exact .inl ⟨vs, .inl (.inl hs), by rw [r.isEmpty]⟩
def xTru (T : XE) : XT := ⟨fun ρ Q => T.f ρ fun d ρ' => ∃ k, d.tru = some k ∧ Q k ρ', fun m q => T.mono (fun _ _ ⟨k, e, q⟩ => ⟨k, e, m _ _ q⟩) q⟩
theorem vt_truth {X : Cx} {a : Expr} {ta : TE} {Ta : XE} (ha : VE X C a ta Ta) (he : ∀ whole, isTrue a X.env whole = (do let v ← whole; standAt a.pos; holding [v] (truthy v)) := by intro _; rfl) : VT X C a (fun σ H Q => ta σ H fun x H1 => ∃ k, TruV X.K x H1 k ∧ Q k H1) (xTru Ta) :=
  ⟨pt_truth ha.pe he, fun R q => ha.se R (Ta.mono (fun d ρ' h v N' H' R' => by
    obtain ⟨k, e, q⟩ := h
    obtain ⟨A, h⟩ := R'.top1
    exact ⟨k, D.tru_ok h e, q _ _ R'.drop⟩) q)⟩
end
end BV

/-! BV, part E: and, or, not; arguments, displays, calls of built-ins, subscripts. -/
namespace BV
open PySem PySem.Spec PyProof.Rows L2
section
variable {X : Cx} {C : Ct} {a b c e : Expr} {es rest : List Expr} {ta tb tc te : TE} {Ta Tb Tc Te : XE} {tA tB' : TT} {UA UB : XT} {pos p : Pos}
def xAnd (A B : XT) : XT := ⟨fun ρ Q => A.f ρ fun k ρ1 => (k = true → B.f ρ1 Q) ∧ (k = false → Q false ρ1), fun m q => A.mono (fun _ _ h => ⟨fun z => B.mono m (h.1 z), fun z => m _ _ (h.2 z)⟩) q⟩
def xOr (A B : XT) : XT := ⟨fun ρ Q => A.f ρ fun k ρ1 => (k = true → Q true ρ1) ∧ (k = false → B.f ρ1 Q), fun m q => A.mono (fun _ _ h => ⟨fun z => m _ _ (h.1 z), fun z => B.mono m (h.2 z)⟩) q⟩
def xNot (A : XT) : XT := ⟨fun ρ Q => A.f ρ fun k ρ1 => Q (!k) ρ1, fun m q => A.mono (fun _ _ h => m _ _ h) q⟩
theorem VW.vt (h : VW X C e tA UA) : VT X C e tA UA := ⟨h.pw.pt, h.st⟩
theorem vw_and1 (ha : VT X C a tA UA) : VW X C (.BoolOp .And [a] pos) tA UA := ⟨pw_and1 ha.pt, ha.st⟩
theorem vw_or1 (ha : VT X C a tA UA) : VW X C (.BoolOp .Or [a] pos) tA UA := ⟨pw_or1 ha.pt, ha.st⟩
theorem vw_and (ha : VT X C a tA UA) (hb : VW X C (.BoolOp .And (b :: rest) pos) tB' UB) : VW X C (.BoolOp .And (a :: b :: rest) pos) (tAnd tA tB') (xAnd UA UB) := by
  refine ⟨pw_and ha.pt hb.pw, fun R q => ha.st R (UA.mono (fun k ρ1 h N1 H1 R1 => ?_) q)⟩
  cases k with
  | true => exact iteT (hb.st R1 (h.1 rfl))
  | false => exact iteF (h.2 rfl _ _ R1)
theorem vw_or (ha : VT X C a tA UA) (hb : VW X C (.BoolOp .Or (b :: rest) pos) tB' UB) : VW X C (.BoolOp .Or (a :: b :: rest) pos) (tOr tA tB') (xOr UA UB) := by
  refine ⟨pw_or ha.pt hb.pw, fun R q => ha.st R (UA.mono (fun k ρ1 h N1 H1 R1 => ?_) q)⟩
  cases k with
  | true => exact iteT (h.1 rfl _ _ R1)
  | false => exact iteF (hb.st R1 (h.2 rfl))
theorem vt_not (ha : VT X C a tA UA) : VT X C (.UnaryOp .Not a pos) (tNot tA) (xNot UA) := ⟨pt_not ha.pt, fun R q => ha.st R q⟩
/-- as values: all but the last True or False -/
def xAndV (A B : XE) : XE := ⟨fun ρ Q => A.f ρ fun d ρ1 => ∃ k, d = .bl k ∧ (k = true → B.f ρ1 Q) ∧ (k = false → Q (.bl false) ρ1), fun m q => A.mono (fun _ _ ⟨k, e, h1, h2⟩ => ⟨k, e, fun z => B.mono m (h1 z), fun z => m _ _ (h2 z)⟩) q⟩
def xOrV (A B : XE) : XE := ⟨fun ρ Q => A.f ρ fun d ρ1 => ∃ k, d = .bl k ∧ (k = true → Q (.bl true) ρ1) ∧ (k = false → B.f ρ1 Q), fun m q => A.mono (fun _ _ ⟨k, e, h1, h2⟩ => ⟨k, e, fun z => m _ _ (h1 z), fun z => B.mono m (h2 z)⟩) q⟩
def xNotV (A : XE) : XE := ⟨fun ρ Q => A.f ρ fun d ρ1 => ∃ k, d = .bl k ∧ Q (.bl (!k)) ρ1, fun m q => A.mono (fun _ _ ⟨k, e, h⟩ => ⟨k, e, m _ _ h⟩) q⟩
theorem ve_one {op} (h : VE X C a ta Ta) : VE X C (.BoolOp op [a] pos) ta Ta := ⟨pe_one h.pe, h.se⟩
theorem ve_and (ha : VE X C a ta Ta) (hb : VE X C (.BoolOp .And (b :: rest) pos) tb Tb) : VE X C (.BoolOp .And (a :: b :: rest) pos) (tAndV ta tb) (xAndV Ta Tb) := by
  refine ⟨pe_and ha.pe hb.pe, fun R q => ha.se R (Ta.mono (fun d ρ1 h v N1 H1 R1 => ?_) q)⟩
  obtain ⟨k, rfl, h1, h2⟩ := h
  obtain ⟨A, hv⟩ := R1.top1
  refine ⟨k, hv, ?_⟩
  cases k with
  | true => exact iteT (hb.se R1.drop (h1 rfl))
  | false => exact iteF (h2 rfl _ _ _ (R1.res rfl))
theorem ve_or (ha : VE X C a ta Ta) (hb : VE X C (.BoolOp .Or (b :: rest) pos) tb Tb) : VE X C (.BoolOp .Or (a :: b :: rest) pos) (tOrV ta tb) (xOrV Ta Tb) := by
  refine ⟨pe_or ha.pe hb.pe, fun R q => ha.se R (Ta.mono (fun d ρ1 h v N1 H1 R1 => ?_) q)⟩
  obtain ⟨k, rfl, h1, h2⟩ := h
  obtain ⟨A, hv⟩ := R1.top1
  refine ⟨k, hv, ?_⟩
  cases k with
  | true => exact iteT (h1 rfl _ _ _ (R1.res rfl))
  | false => exact iteF (hb.se R1.drop (h2 rfl))
theorem ve_not (ha : VE X C a ta Ta) : VE X C (.UnaryOp .Not a pos) (tNotV ta) (xNotV Ta) := by
  refine ⟨pe_not ha.pe, fun R q => ha.se R (Ta.mono (fun d ρ1 h v N1 H1 R1 => ?_) q)⟩
  obtain ⟨k, rfl, h⟩ := h
  obtain ⟨A, hv⟩ := R1.top1
  exact ⟨k, hv, h _ _ _ (R1.res rfl)⟩
def xIf (U : XT) (A B : XE) : XE := ⟨fun ρ Q => U.f ρ fun k ρ1 => (k = true → A.f ρ1 Q) ∧ (k = false → B.f ρ1 Q), fun m q => U.mono (fun _ _ h => ⟨fun z => A.mono m (h.1 z), fun z => B.mono m (h.2 z)⟩) q⟩
theorem ve_if (hc : VT X C c tA UA) (ha : VE X C a ta Ta) (hb : VE X C b tb Tb) : VE X C (.IfExp c a b pos) (tIf tA ta tb) (xIf UA Ta Tb) := by
  refine ⟨pe_ifExp hc.pt ha.pe hb.pe, fun R q => hc.st R (UA.mono (fun k ρ1 h N1 H1 R1 => ?_) q)⟩
  cases k with
  | true => exact iteT (ha.se R1 (h.1 rfl))
  | false => exact iteF (hb.se R1 (h.2 rfl))
def xUn (g : D → Option D) (A : XE) : XE := ⟨fun ρ Q => A.f ρ fun d ρ1 => ∃ z, g d = some z ∧ Q z ρ1, fun m q => A.mono (fun _ _ ⟨z, e, h⟩ => ⟨z, e, m _ _ h⟩) q⟩
theorem ve_un {op : UnaryOp} {r : V → Hp → VK → Prop} {g : D → Option D} (ho : UnR X (unaryOp op) r) (hg : UopR X.K r g) (ha : VE X C a ta Ta) : VE X C (.UnaryOp op a pos) (tUn r ta) (xUn g Ta) :=
  ⟨pe_un ho ha.pe, fun R q => ha.se R (Ta.mono (fun d ρ1 h v N1 H1 R1 => by
    obtain ⟨z, e, h⟩ := h
    exact hg R1 e h) q)⟩
def negD : D → Option D
  | .int i => some (.int (-i))
  | _ => none
theorem uop_neg {K : Fg} : UopR K (rU fun i => .int (-i)) negD := by
  intro C N σ ρ H x vs d ds z Q R h q
  obtain ⟨A, hd⟩ := R.top1
  unfold negD at h
  split at h
  · cases h
    exact ⟨_, hd, q _ _ _ (R.res rfl)⟩
  · cases h
/-- is None -/
def D.isNon : D → Bool
  | .non => true
  | _ => false
theorem D.isNon_ok {K : Fg} {N : AS} {H : Hp} {d : D} {v : V} {A : AS} (h : Rp K N H d v A) : decide (v = .non) = d.isNon := by
  cases d with
  | non => cases (show v = .non from h); rfl
  | bl b => cases (show v = .bl b from h); rfl
  | int b => cases (show v = .int b from h); rfl
  | str b => cases (show v = .str b from h); rfl
  | tup b => obtain ⟨a, vs, rfl, _⟩ := h; rfl
  | lst b => obtain ⟨a, vs, rfl, _⟩ := h; rfl
  | frl b => obtain ⟨a, vs, rfl, _⟩ := h; rfl
  | own b => obtain ⟨a, vs, B, rfl, _⟩ := h; rfl
def xFn (g : D → D) (A : XE) : XE := ⟨fun ρ Q => A.f ρ fun d ρ1 => Q (g d) ρ1, fun m q => A.mono (fun _ _ h => m _ _ h) q⟩
theorem ve_isN {j p2} (ha : VE X C a ta Ta) : VE X C (.Compare a [.Is] [.Constant .none j p2] pos) (tIsN ta) (xFn (fun d => .bl d.isNon) Ta) :=
  ⟨pe_cmp (pc_isN ha.pe), fun R q => ha.se R (Ta.mono (fun d ρ1 h v N1 H1 R1 => by
    obtain ⟨A, hv⟩ := R1.top1
    rw [D.isNon_ok hv]
    exact h _ _ _ (R1.res rfl)) q)⟩
theorem ve_notN {j p2} (ha : VE X C a ta Ta) : VE X C (.Compare a [.IsNot] [.Constant .none j p2] pos) (tNotN ta) (xFn (fun d => .bl (!d.isNon)) Ta) :=
  ⟨pe_cmp (pc_notN ha.pe), fun R q => ha.se R (Ta.mono (fun d ρ1 h v N1 H1 R1 => by
    obtain ⟨A, hv⟩ := R1.top1
    rw [D.isNon_ok hv]
    exact h _ _ _ (R1.res rfl)) q)⟩
theorem vt_isN {j p2} (ha : VE X C a ta Ta) : VT X C (.Compare a [.Is] [.Constant .none j p2] pos) (tB (tIsN ta)) (xTst (xFn (fun d => .bl d.isNon) Ta)) :=
  ⟨pt_cmp (pc_isN ha.pe), fun R q => ha.se R (Ta.mono (fun d ρ1 h v N1 H1 R1 => by
    obtain ⟨A, hv⟩ := R1.top1
    obtain ⟨k, e, h⟩ := h
    cases e
    rw [D.isNon_ok hv]
    exact ⟨_, rfl, h _ _ R1.drop⟩) q)⟩
theorem vt_notN {j p2} (ha : VE X C a ta Ta) : VT X C (.Compare a [.IsNot] [.Constant .none j p2] pos) (tB (tNotN ta)) (xTst (xFn (fun d => .bl (!d.isNon)) Ta)) :=
  ⟨pt_cmp (pc_notN ha.pe), fun R q => ha.se R (Ta.mono (fun d ρ1 h v N1 H1 R1 => by
    obtain ⟨A, hv⟩ := R1.top1
    obtain ⟨k, e, h⟩ := h
    cases e
    rw [D.isNon_ok hv]
    exact ⟨_, rfl, h _ _ R1.drop⟩) q)⟩
/-- a fresh list becomes one that nobody changes -/
def xFrz (A : XE) : XE := ⟨fun ρ Q => A.f ρ fun d ρ1 => (∀ ds, d = .own ds → ds.all D.sh = true ∧ Q (.lst ds) ρ1) ∧ (d.sh = true → Q d ρ1), fun m q => A.mono (fun _ _ h => ⟨fun ds e => ⟨(h.1 ds e).1, m _ _ (h.1 ds e).2⟩, fun e => m _ _ (h.2 e)⟩) q⟩
theorem ve_frz (ha : VE X C a ta Ta) : VE X C a ta (xFrz Ta) := ⟨ha.pe, fun R q => ha.se R (Ta.mono (fun d ρ1 h v N1 H1 R1 => by
    obtain ⟨N2, R2⟩ := R1.frz
    by_cases hs : d.sh = true
    · rw [D.frz_sh hs] at R2
      exact h.2 hs _ _ _ R2
    · cases d with
      | own ds =>
        obtain ⟨h1, h2⟩ := h.1 ds rfl
        have e : (D.own ds).frz = .lst ds := by
          show D.lst (D.frzs ds) = _
          rw [D.frzs_sh h1]
        rw [e] at R2
        exact h2 _ _ _ R2
      | _ => exact absurd rfl hs) q)⟩

/-! ### arguments -/
def xNil : XA := ⟨fun ρ Q => Q [] ρ, fun m q => m _ _ q⟩
def xCons (A : XE) (B : XA) : XA := ⟨fun ρ Q => A.f ρ fun d ρ1 => B.f ρ1 fun fs ρ2 => Q (d :: fs) ρ2, fun m q => A.mono (fun _ _ h => B.mono (fun _ _ h => m _ _ h) h) q⟩
/-- a slot lent to the call -/
def xLend (i : Nat) (B : XA) : XA := ⟨fun ρ Q => ∃ d, ρ[i]? = some (some d) ∧ B.f (ρ.set i none) fun fs ρ2 => Q (d :: fs) ρ2, fun m ⟨d, e, q⟩ => ⟨d, e, B.mono (fun _ _ h => m _ _ h) q⟩⟩
variable {tr : TA} {Tr : XA} {sl : List (Option Nat)}
theorem va_nil : VA X C [] [] tNil xNil := ⟨pa_nil, fun R q => q _ _ _ R ⟨rfl, fun k i h => by simp at h⟩⟩
theorem va_cons (ha : VE X C e te Te) (hr : VA X C es sl tr Tr) (hs : starEach (e :: es) X.env = (false, eval e X.env) :: starEach es X.env := by rfl) : VA X C (e :: es) (none :: sl) (tCons te tr) (xCons Te Tr) := by
  refine ⟨pa_cons ha.pe hr.pa hs, fun R q => ha.se R (Te.mono (fun d ρ1 h v N1 H1 R1 => ?_) q)⟩
  refine hr.sa R1.park (Tr.mono (fun fs ρ2 h xs N2 H2 R2 L => ?_) h)
  refine h _ _ _ R2.cons ⟨congrArg (· + 1) L.len, fun k i hk => ?_⟩
  cases k with
  | zero => cases (show some (none : Option Nat) = some (some i) from hk)
  | succ k => exact L.at_ k i hk
theorem va_lend (i : Nat) (h : PE X e (tVar i)) (hr : VA X C es sl tr Tr) (hs : starEach (e :: es) X.env = (false, eval e X.env) :: starEach es X.env := by rfl) : VA X C (e :: es) (some i :: sl) (tCons (tVar i) tr) (xLend i Tr) := by
  refine ⟨pa_cons h hr.pa hs, fun R q => ?_⟩
  obtain ⟨d, e1, q⟩ := q
  obtain ⟨v, e2, R1⟩ := R.lend e1
  refine ⟨v, e2, ?_⟩
  refine hr.sa R1.park (Tr.mono (fun fs ρ2 h xs N2 H2 R2 L => ?_) q)
  refine h _ _ _ R2.cons ⟨congrArg (· + 1) L.len, fun k j hk => ?_⟩
  cases k with
  | zero =>
    cases (show some (some i) = some (some j) from hk)
    exact ⟨v, rfl, e2⟩
  | succ k => exact L.at_ k j hk

/-! ### displays -/
def xTup (A : XA) : XE := ⟨fun ρ Q => A.f ρ fun fs ρ1 => fs.length ≤ sizeLine ∧ fs.all D.sh = true ∧ Q (.tup fs) ρ1, fun m q => A.mono (fun _ _ ⟨h1, h2, h⟩ => ⟨h1, h2, m _ _ h⟩) q⟩
def xLst (A : XA) : XE := ⟨fun ρ Q => A.f ρ fun fs ρ1 => fs.length ≤ sizeLine ∧ Q (.own fs) ρ1, fun m q => A.mono (fun _ _ ⟨h1, h⟩ => ⟨h1, m _ _ h⟩) q⟩
theorem ve_tup {x1} (h : VA X C es sl tr Tr) : VE X C (.Tuple es x1 pos) (tTup tr) (xTup Tr) := by
  refine ⟨pe_tup h.pa, fun R q => h.sa R (Tr.mono (fun fs ρ1 h xs N1 H1 R1 L => ?_) q)⟩
  obtain ⟨h1, h2, h⟩ := h
  obtain ⟨A, r⟩ := R1.top
  exact ⟨by rw [← r.length]; exact h1, fun p np => h _ _ _ (R1.newTup np (r.share h2))⟩
theorem ve_lst (h : VA X C es sl tr Tr) : VE X C (.List es pos) (tLst tr) (xLst Tr) := by
  refine ⟨pe_lst h.pa, fun R q => h.sa R (Tr.mono (fun fs ρ1 h xs N1 H1 R1 L => ?_) q)⟩
  obtain ⟨h1, h⟩ := h
  obtain ⟨A, r⟩ := R1.top
  exact ⟨by rw [← r.length]; exact h1, fun p np => h _ _ _ (R1.display np)⟩

/-! ### calls of built-ins -/
/-- a built-in called with data -/
def CalD (K : Fg) (r : List V → Hp → VK → Prop) (g : List D → Option D) : Prop := ∀ {C : Ct} {N : AS} {σ : Sts} {ρ : Ev} {H : Hp} {xs vs : List V} {fs ds : List D} {z : D} {Q : VK}, Rl K C N σ ρ H xs fs vs ds → g fs = some z → (∀ v N' H', Rl K C N' σ ρ H' [v] [z] vs ds → Q v H') → r xs H Q
def xCal (g : List D → Option D) (A : XA) : XE := ⟨fun ρ Q => A.f ρ fun fs ρ1 => ∃ z, g fs = some z ∧ Q z ρ1, fun m q => A.mono (fun _ _ ⟨z, e, h⟩ => ⟨z, e, m _ _ h⟩) q⟩
theorem ve_callB {id : String} {x : Str} {r : List V → Hp → VK → Prop} {g : List D → Option D} (hc : CallR X (.builtin id) r) (hd : CalD X.K r g) (hg : Gl X x) (hm : X.mg x = none) (hv : bootBuiltins x = some (.builtin id)) (ha : VA X C (e :: es) sl tr Tr) (hn : x ≠ "__name__" := by decide) (hdb : (x == ("__debug__" : Str)) = false := by decide)
    (he : starEach (e :: es) X.env = (false, eval e X.env) :: starEach es X.env := by rfl) (hpl : (backTo pos (starEach es X.env)).any (·.1) = false := by rfl) : VE X C (.Call (.Name x p) (e :: es) [] pos) (tCB r tr) (xCal g Tr) :=
  ⟨pe_callB hc hg hm hv ha.pa hn hdb he hpl, fun R q => ha.sa R (Tr.mono (fun fs ρ1 h xs N1 H1 R1 L => by
    obtain ⟨z, e, h⟩ := h
    exact hd R1 e h) q)⟩
theorem ve_callTy {T : String} {x : Str} {r : List V → Hp → VK → Prop} {g : List D → Option D} (hc : CallR X (.type T) r) (hd : CalD X.K r g) (hg : Gl X x) (hm : X.mg x = none) (hv : bootBuiltins x = some (.type T)) (ha : VA X C (e :: es) sl tr Tr) (hn : x ≠ "__name__" := by decide) (hdb : (x == ("__debug__" : Str)) = false := by decide)
    (he : starEach (e :: es) X.env = (false, eval e X.env) :: starEach es X.env := by rfl) (hpl : (backTo pos (starEach es X.env)).any (·.1) = false := by rfl) : VE X C (.Call (.Name x p) (e :: es) [] pos) (tCB r tr) (xCal g Tr) :=
  ⟨pe_callTy hc hg hm hv ha.pa hn hdb he hpl, fun R q => ha.sa R (Tr.mono (fun fs ρ1 h xs N1 H1 R1 L => by
    obtain ⟨z, e, h⟩ := h
    exact hd R1 e h) q)⟩
end
end BV

/-! BV, part F: built-ins one by one, subscripts, slices. -/
namespace BV
open PySem PySem.Spec PyProof.Rows L2
section
variable {K : Fg} {C : Ct} {N : AS} {σ : Sts} {ρ : Ev} {H : Hp} {x y : V} {vs xs : List V} {d e : D} {ds fs : List D}
theorem Rl.fst {x : V} {d : D} (R : Rl K C N σ ρ H (x :: xs) (d :: fs) vs ds) : ∃ A, Rp K N H d x A := by
  obtain ⟨A, h⟩ := R.top
  obtain ⟨v, vr, A1, A2, e1, r1, r2, s1, s2, dj⟩ := h
  cases e1
  exact ⟨_, r1⟩
theorem Rl.one (R : Rl K C N σ ρ H xs [d] vs ds) : ∃ x A, xs = [x] ∧ Rp K N H d x A := by
  obtain ⟨A, h⟩ := R.top
  obtain ⟨v, vr, A1, A2, e1, r1, r2, s1, s2, dj⟩ := h
  have e2 : vr = [] := r2
  rw [e2] at e1
  exact ⟨v, A1, e1, r1⟩
theorem Rl.twoL (R : Rl K C N σ ρ H xs [d, e] vs ds) : ∃ x y A B, xs = [x, y] ∧ Rp K N H d x A ∧ Rp K N H e y B := by
  obtain ⟨A, h⟩ := R.top
  obtain ⟨v, vr, A1, A2, e1, r1, r2, s1, s2, dj⟩ := h
  obtain ⟨v', vr', A3, A4, e3, r3, r4, _⟩ := r2
  have e2 : vr' = [] := r4
  rw [e2] at e3
  rw [e3] at e1
  exact ⟨v, v', A1, A3, e1, r1, r3⟩
/-- an item's place for items that own nothing: a list or a tuple as it stands -/
theorem Rp.seqs {A : AS} {zs : List D} (h : Rp K N H d x A) (e : d.seq = some zs) : ∃ a us B, x = .ref a ∧ (SqL K H a us ∨ SqT K H a us) ∧ Rps K N H zs us B := by
  cases d with
  | tup ds => obtain ⟨a, us, ex, hs, r⟩ := h; cases e; exact ⟨a, us, _, ex, .inr hs, r⟩
  | lst ds => obtain ⟨a, us, ex, hs, _, r⟩ := h; cases e; exact ⟨a, us, _, ex, .inl (.inl (.inl hs)), r⟩
  | frl ds => obtain ⟨a, us, ex, hs, r⟩ := h; cases e; exact ⟨a, us, _, ex, .inl hs.sq, r⟩
  | own ds => obtain ⟨a, us, B, ex, hs, _, _, r⟩ := h; cases e; exact ⟨a, us, _, ex, .inl (.inl (.inl hs)), r⟩
  | _ => cases e

/-! ### len, int, abs, str, max, min, list, tuple, all, any -/
def lenD : D → Option Nat
  | .str z => if z.length ≤ sizeLine then some z.length else none
  | d => d.seq.map List.length
theorem lenD_ok {A : AS} {n : Nat} (h : Rp K N H d x A) (e : lenD d = some n) : LenV K x H n := by
  have sq : ∀ {zs : List D}, d.seq = some zs → zs.length = n → LenV K x H n := fun {zs} e1 e2 => by
    obtain ⟨a, us, B, ex, hs, r⟩ := h.seqs e1
    subst ex
    rcases hs with hs | hs
    · exact .inl ⟨us, hs, by rw [← r.length, e2]⟩
    · exact .inr ⟨us, hs, by rw [← r.length, e2]⟩
  cases d with
  | str z =>
    cases (show x = .str z from h)
    have e' : (if z.length ≤ sizeLine then some z.length else none) = some n := e
    split at e'
    · rename_i hz
      cases e'
      exact ⟨hz, rfl⟩
    · cases e'
  | tup zs => cases e; exact sq rfl rfl
  | lst zs => cases e; exact sq rfl rfl
  | frl zs => cases e; exact sq rfl rfl
  | own zs => cases e; exact sq rfl rfl
  | _ => cases e
def len1 : List D → Option D
  | [d] => (lenD d).map fun n => .int n
  | _ => none
theorem cal_len : CalD K (fun xs H Q => ∃ x n, xs = [x] ∧ LenV K x H n ∧ Q (.int n) H) len1 := by
  intro C N σ ρ H xs vs fs ds z Q R g q
  unfold len1 at g
  split at g
  · rename_i d
    obtain ⟨x, A, ex, h⟩ := R.one
    cases e : lenD d with
    | none => rw [e] at g; cases g
    | some n =>
      rw [e] at g
      cases g
      exact ⟨x, n, ex, lenD_ok h e, q _ _ _ (R.res rfl)⟩
  · cases g
def int1 : List D → Option D
  | [.int i] => some (.int i)
  | [.bl k] => some (.int (if k then 1 else 0))
  | _ => none
theorem cal_int : CalD K (fun xs H Q => (∃ i, xs = [.int i] ∧ Q (.int i) H) ∨ ∃ k, xs = [.bl k] ∧ Q (.int (if k then 1 else 0)) H) int1 := by
  intro C N σ ρ H xs vs fs ds z Q R g q
  unfold int1 at g
  split at g
  · cases g
    obtain ⟨x, A, ex, h⟩ := R.one
    cases (show x = .int _ from h)
    exact .inl ⟨_, ex, q _ _ _ (R.res rfl)⟩
  · cases g
    obtain ⟨x, A, ex, h⟩ := R.one
    cases (show x = .bl _ from h)
    exact .inr ⟨_, ex, q _ _ _ (R.res rfl)⟩
  · cases g
def abs1 : List D → Option D
  | [.int i] => some (.int (if i < 0 then -i else i))
  | _ => none
theorem cal_abs : CalD K (fun xs H Q => ∃ i, xs = [.int i] ∧ Q (.int (if i < 0 then -i else i)) H) abs1 := by
  intro C N σ ρ H xs vs fs ds z Q R g q
  unfold abs1 at g
  split at g
  · cases g
    obtain ⟨x, A, ex, h⟩ := R.one
    cases (show x = .int _ from h)
    exact ⟨_, ex, q _ _ _ (R.res rfl)⟩
  · cases g
def str1 : List D → Option D
  | [.int i] => if i.natAbs.log2 < 1920 then some (.str (toString i)) else none
  | [.str x] => some (.str x)
  | _ => none
theorem cal_str : CalD K (fun xs H Q => (∃ i, xs = [.int i] ∧ i.natAbs.log2 < 1920 ∧ Q (.str (toString i)) H) ∨ ∃ a, xs = [.str a] ∧ Q (.str a) H) str1 := by
  intro C N σ ρ H xs vs fs ds z Q R g q
  unfold str1 at g
  split at g
  · split at g
    · cases g
      obtain ⟨x, A, ex, h⟩ := R.one
      cases (show x = .int _ from h)
      exact .inl ⟨_, ex, by assumption, q _ _ _ (R.res rfl)⟩
    · cases g
  · cases g
    obtain ⟨x, A, ex, h⟩ := R.one
    cases (show x = .str _ from h)
    exact .inr ⟨_, ex, q _ _ _ (R.res rfl)⟩
  · cases g
theorem cr_str {X : Cx} : CallR X (.type "str") (fun xs H Q => (∃ i, xs = [.int i] ∧ i.natAbs.log2 < 1920 ∧ Q (.str (toString i)) H) ∨ ∃ a, xs = [.str a] ∧ Q (.str a) H) := call_str_int.or SkE.call_str_str
def ints2 (g : Int → Int → Int) : List D → Option D
  | [.int i, .int j] => some (.int (g i j))
  | _ => none
theorem cal_ints2 {g : Int → Int → Int} : CalD K (fun xs H Q => ∃ i j, xs = [.int i, .int j] ∧ Q (.int (g i j)) H) (ints2 g) := by
  intro C N σ ρ H xs vs fs ds z Q R h q
  unfold ints2 at h
  split at h
  · cases h
    obtain ⟨x, y, A, B, ex, h1, h2⟩ := R.twoL
    cases (show x = .int _ from h1)
    cases (show y = .int _ from h2)
    exact ⟨_, _, ex, q _ _ _ (R.res rfl)⟩
  · cases h
def list1 : List D → Option D
  | [d] => d.seq.bind fun zs => if zs.all D.sh = true then some (.own zs) else none
  | _ => none
theorem cal_list : CalD K (fun xs H Q => ∃ p ys, xs = [.ref p] ∧ (SqL K H p ys ∨ SqT K H p ys) ∧ ∀ l, H l = none → Q (.ref l) (upd H l (.lst ys))) list1 := by
  intro C N σ ρ H xs vs fs ds z Q R g q
  unfold list1 at g
  split at g
  · rename_i d
    obtain ⟨x, A, ex, h⟩ := R.one
    cases e : d.seq with
    | none => rw [e] at g; cases g
    | some zs =>
      rw [e] at g
      have g' : (if zs.all D.sh = true then some (D.own zs) else none) = some z := g
      split at g'
      · rename_i hz
        cases g'
        obtain ⟨a, us, B, e2, hs, r⟩ := h.seqs e
        subst e2
        exact ⟨a, us, ex, hs, fun l nl => q _ _ _ (R.allocN nl (r.share hz))⟩
      · cases g'
  · cases g
def tuple1 : List D → Option D
  | [d] => d.seq.bind fun zs => if zs.all D.sh = true then some (.tup zs) else none
  | _ => none
theorem cal_tuple : CalD K (fun xs H Q => ∃ p ys, xs = [.ref p] ∧ ((SqL K H p ys ∧ ∀ l, H l = none → Q (.ref l) (upd H l (.tup ys))) ∨ (SqT K H p ys ∧ Q (.ref p) H))) tuple1 := by
  intro C N σ ρ H xs vs fs ds z Q R g q
  unfold tuple1 at g
  split at g
  · rename_i d
    obtain ⟨x, A, ex, h⟩ := R.one
    cases e : d.seq with
    | none => rw [e] at g; cases g
    | some zs =>
      rw [e] at g
      have g' : (if zs.all D.sh = true then some (D.tup zs) else none) = some z := g
      split at g'
      · rename_i hz
        cases g'
        obtain ⟨a, us, B, e2, hs, r⟩ := h.seqs e
        subst e2
        rcases hs with hs | hs
        · exact ⟨a, us, ex, .inl ⟨hs, fun l nl => q _ _ _ (R.newTup nl (r.share hz))⟩⟩
        · exact ⟨a, us, ex, .inr ⟨hs, q _ _ _ (R.res ⟨a, us, rfl, hs, r.share hz⟩)⟩⟩
      · cases g'
  · cases g
/-- a list of truths -/
def D.bls : List D → Option (List Bool)
  | [] => some []
  | .bl b :: r => (D.bls r).map (b :: ·)
  | _ => none
theorem D.bls_ok {A : AS} : ∀ {zs : List D} {us : List V} {A : AS} {bs : List Bool}, Rps K N H zs us A → D.bls zs = some bs → us = bs.map V.bl
  | [], us, _, bs, h, e => by
    cases e
    exact h
  | z :: r, us, _, bs, h, e => by
    obtain ⟨v, vr, A1, A2, rfl, h1, h2, _⟩ := h
    cases z with
    | bl b =>
      cases q : D.bls r with
      | none => rw [show D.bls (.bl b :: r) = (D.bls r).map (b :: ·) from rfl, q] at e; cases e
      | some cs =>
        rw [show D.bls (.bl b :: r) = (D.bls r).map (b :: ·) from rfl, q] at e
        cases e
        cases (show v = .bl b from h1)
        rw [D.bls_ok (A := AS0) h2 q]
        rfl
    | _ => cases e
def allB (f : List Bool → Bool) : List D → Option D
  | [.own zs] => (D.bls zs).map fun bs => .bl (f bs)
  | [.lst zs] => (D.bls zs).map fun bs => .bl (f bs)
  | _ => none
theorem cal_all {f : List Bool → Bool} : CalD K (fun xs H Q => ∃ (a : Addr) (bs : List Bool), xs = [V.ref a] ∧ SqL K H a (bs.map V.bl) ∧ Q (.bl (f bs)) H) (allB f) := by
  intro C N σ ρ H xs vs fs ds z Q R g q
  unfold allB at g
  split at g
  · rename_i zs
    obtain ⟨x, A, ex, h⟩ := R.one
    cases e : D.bls zs with
    | none => rw [e] at g; cases g
    | some bs =>
      rw [e] at g
      cases g
      obtain ⟨a, us, B, e2, hs, _, _, r⟩ := h
      subst e2
      rw [D.bls_ok (A := AS0) r e] at hs
      exact ⟨a, bs, ex, .inl (.inl hs), q _ _ _ (R.res rfl)⟩
  · rename_i zs
    obtain ⟨x, A, ex, h⟩ := R.one
    cases e : D.bls zs with
    | none => rw [e] at g; cases g
    | some bs =>
      rw [e] at g
      cases g
      obtain ⟨a, us, e2, hs, _, r⟩ := h
      subst e2
      rw [D.bls_ok (A := AS0) r e] at hs
      exact ⟨a, bs, ex, .inl (.inl hs), q _ _ _ (R.res rfl)⟩
  · cases g

/-! ### subscripts -/
theorem atI_rel {A : AS} {zs : List D} {us : List V} {i : Int} {z : D} (r : Rps K N H zs us A) (e : atI zs i = some z) : ∃ v A1, atI us i = some v ∧ Rp K N H z v A1 := by
  unfold atI at e ⊢
  rw [r.length] at e
  cases q : ixN us.length i with
  | none => rw [q] at e; cases e
  | some j =>
    rw [q] at e
    obtain ⟨v, A1, h1, h2, _⟩ := r.get0 (show zs[j]? = some z from e)
    exact ⟨v, A1, h1, h2⟩
def ixD : D → D → Option D
  | .str w, .int i => if w.length ≤ sizeLine then (atI w.cps.toList i).map fun c => .str ⟨#[c]⟩ else none
  | d, .int i => d.seq.bind fun zs => (atI zs i).bind fun z => if z.sh = true then some z else none
  | _, _ => none
theorem bop_ix : BopR K (rIx K) ixD := by
  intro C N σ ρ H x y vs d e ds z Q R g q
  obtain ⟨A, B, hd, he⟩ := R.two
  have sq : ∀ i, e = .int i → (d.seq.bind fun zs => (atI zs i).bind fun z => if z.sh = true then some z else none) = some z → rIx K x y H Q := fun i ei g0 => by
    subst ei
    cases e1 : d.seq with
    | none => rw [e1] at g0; cases g0
    | some zs =>
      rw [e1] at g0
      have g' : ((atI zs i).bind fun z => if z.sh = true then some z else none) = some z := g0
      cases e2 : atI zs i with
      | none => rw [e2] at g'; cases g'
      | some z' =>
        rw [e2] at g'
        have g2 : (if z'.sh = true then some z' else none) = some z := g'
        split at g2
        · rename_i hz
          cases g2
          obtain ⟨a, us, B', ex, hs, r⟩ := hd.seqs e1
          obtain ⟨v, A1, h1, h2⟩ := atI_rel r e2
          have fin : Q v H := q _ _ _ (R.res (h2.share hz))
          rcases hs with hs | hs
          · exact .inl ⟨a, us, i, v, ex, he, hs, h1, fin⟩
          · exact .inr (.inl ⟨a, us, i, v, ex, he, hs, h1, fin⟩)
        · cases g2
  unfold ixD at g
  split at g
  · rename_i w i
    split at g
    · rename_i hw
      cases e3 : atI w.cps.toList i with
      | none => rw [e3] at g; cases g
      | some c =>
        rw [e3] at g
        cases g
        exact .inr (.inr ⟨w, i, c, hd, he, hw, e3, q _ _ _ (R.res rfl)⟩)
    · cases g
  · exact sq _ rfl g
  · cases g
end
section
variable {X : Cx} {C : Ct} {a b c e : Expr} {es rest : List Expr} {ta tb tc te : TE} {Ta Tb Tc Te : XE} {pos p p2 : Pos}
theorem ve_ix (ha : VE X C a ta Ta) (hb : VE X C b tb Tb) (hs : PlainIx b := by exact fun _ _ => rfl) : VE X C (.Subscript a b pos) (tOp (rIx X.K) ta tb) (xBin ixD Ta Tb) :=
  ⟨pe_ix ix_seq ha.pe hb.pe hs, fun R q => se_bin bop_ix ha hb R q⟩
/-- an item of what a slot holds, the slot read when the index is known -/
def xIxS (i : Nat) (T : XE) : XE := ⟨fun ρ Q => (∃ d, ρ[i]? = some (some d)) ∧ T.f ρ fun k ρ' => ∃ d z, ρ'[i]? = some (some d) ∧ ixD d k = some z ∧ Q z ρ', fun m ⟨h, q⟩ => ⟨h, T.mono (fun _ _ ⟨d, z, h1, h2, q⟩ => ⟨d, z, h1, h2, m _ _ q⟩) q⟩⟩
theorem ve_ixS (i : Nat) (ha : PE X a (tVar i)) (hb : VE X C b tb Tb) (hs : PlainIx b := by exact fun _ _ => rfl) : VE X C (.Subscript a b pos) (tOp (rIx X.K) (tVar i) tb) (xIxS i Tb) := by
  refine ⟨pe_ix ix_seq ha hb.pe hs, fun R q => ?_⟩
  obtain ⟨⟨d, hd⟩, q⟩ := q
  obtain ⟨v, A, e1, _⟩ := R.any hd
  refine ⟨v, e1, hb.se R (Tb.mono (fun k ρ' h w N1 H1 R1 => ?_) q)⟩
  obtain ⟨d', z, h1, h2, h⟩ := h
  obtain ⟨v', A', e2, r'⟩ := R1.any h1
  have ev : v' = v := by
    rw [e1] at e2
    cases e2
    rfl
  subst ev
  obtain ⟨Aw, hw⟩ := R1.top1
  -- the same as bop_ix, the list standing in its slot
  have sq : ∀ i, k = .int i → (d'.seq.bind fun zs => (atI zs i).bind fun z => if z.sh = true then some z else none) = some z → rIx X.K v' w H1 _ := fun i ei g => by
    subst ei
    cases e1 : d'.seq with
    | none => rw [e1] at g; cases g
    | some zs =>
      rw [e1] at g
      have g' : ((atI zs i).bind fun z => if z.sh = true then some z else none) = some z := g
      cases e2 : atI zs i with
      | none => rw [e2] at g'; cases g'
      | some z' =>
        rw [e2] at g'
        have g2 : (if z'.sh = true then some z' else none) = some z := g'
        split at g2
        · rename_i hz
          cases g2
          obtain ⟨a, us, B', ex, hs, r⟩ := r'.seqs e1
          obtain ⟨v, A1, h1, h2⟩ := atI_rel r e2
          have fin := h v _ _ (R1.res (h2.share hz))
          rcases hs with hs | hs
          · exact .inl ⟨a, us, i, v, ex, hw, hs, h1, fin⟩
          · exact .inr (.inl ⟨a, us, i, v, ex, hw, hs, h1, fin⟩)
        · cases g2
  unfold ixD at h2
  split at h2
  · rename_i u i
    split at h2
    · rename_i hu
      cases e3 : atI u.cps.toList i with
      | none => rw [e3] at h2; cases h2
      | some c =>
        rw [e3] at h2
        cases h2
        exact .inr (.inr ⟨u, i, c, r', hw, hu, e3, h _ _ _ (R1.res rfl)⟩)
    · cases h2
  · exact sq _ rfl h2
  · cases h2
/-- what a slot holds, to be looked at at once: its length -/
def xLenS (i : Nat) : XE := ⟨fun ρ Q => ∃ d n, ρ[i]? = some (some d) ∧ lenD d = some n ∧ Q (.int n) ρ, fun m ⟨d, n, h1, h2, q⟩ => ⟨d, n, h1, h2, m _ _ q⟩⟩
theorem ve_lenS (i : Nat) (ha : PE X a (tVar i)) {x : Str} (hg : Gl X x) (hm : X.mg x = none) (hv : bootBuiltins x = some (.builtin "len")) (hn : x ≠ "__name__" := by decide) (hdb : (x == ("__debug__" : Str)) = false := by decide)
    (he : starEach [a] X.env = (false, eval a X.env) :: starEach [] X.env := by rfl) (hpl : (backTo pos (starEach [] X.env)).any (·.1) = false := by rfl) : VE X C (.Call (.Name x p) [a] [] pos) (tCB (fun xs H Q => ∃ x n, xs = [x] ∧ LenV X.K x H n ∧ Q (.int n) H) (tCons (tVar i) tNil)) (xLenS i) := by
  refine ⟨pe_callB call_len hg hm hv (pa_cons ha pa_nil he) hn hdb he hpl, fun R q => ?_⟩
  obtain ⟨d, n, h1, h2, q⟩ := q
  obtain ⟨v, A, e1, r⟩ := R.any h1
  exact ⟨v, e1, v, n, rfl, lenD_ok r h2, q _ _ _ (R.res rfl)⟩
/-- its truth -/
def xTruS (i : Nat) : XT := ⟨fun ρ Q => ∃ d k, ρ[i]? = some (some d) ∧ d.tru = some k ∧ Q k ρ, fun m ⟨d, n, h1, h2, q⟩ => ⟨d, n, h1, h2, m _ _ q⟩⟩
theorem vt_truS (i : Nat) (ha : PE X a (tVar i)) (he : ∀ whole, isTrue a X.env whole = (do let v ← whole; standAt a.pos; holding [v] (truthy v)) := by intro _; rfl) : VT X C a (fun σ H Q => tVar i σ H fun x H1 => ∃ k, TruV X.K x H1 k ∧ Q k H1) (xTruS i) := by
  refine ⟨pt_truth ha he, fun R q => ?_⟩
  obtain ⟨d, n, h1, h2, q⟩ := q
  obtain ⟨v, A, e1, r⟩ := R.any h1
  exact ⟨v, e1, n, D.tru_ok r h2, q _ _ R⟩
/-- it is compared with a value that is reckoned behind it -/
def xEqS (i : Nat) (neg : Bool) (T : XE) : XE := ⟨fun ρ Q => (∃ d, ρ[i]? = some (some d)) ∧ T.f ρ fun k ρ' => ∃ d b, ρ'[i]? = some (some d) ∧ eqD d k = some b ∧ Q (.bl (if neg then !b else b)) ρ', fun m ⟨h, q⟩ => ⟨h, T.mono (fun _ _ ⟨d, z, h1, h2, q⟩ => ⟨d, z, h1, h2, m _ _ q⟩) q⟩⟩
theorem eqX_of {K : Fg} {N : AS} {H : Hp} {d e : D} {x y : V} {A B : AS} {b : Bool} {Q : VK} (hd : Rp K N H d x A) (he : Rp K N H e y B) (g : eqD d e = some b) (q : Q (.bl b) H) : rEqX K x y H Q := by
  refine ⟨d.py, e.py, Rp.dp d hd, Rp.dp e he, ?_⟩
  have dflt : (if d.lay = true ∧ e.lay = true ∧ min d.dep e.dep ≤ 64 then some (PyData.eqv d.py e.py) else none) = some b → d.py.canLay0 = true ∧ e.py.canLay0 = true ∧ min d.py.depth e.py.depth ≤ 64 ∧ Q (.bl (PyData.eqv d.py e.py)) H := fun g => by
    by_cases c : d.lay = true ∧ e.lay = true ∧ min d.dep e.dep ≤ 64
    · rw [if_pos c] at g
      cases g
      exact ⟨c.1, c.2.1, c.2.2, q⟩
    · rw [if_neg c] at g
      cases g
  cases d with
  | str a =>
    cases e with
    | str b =>
      cases (show x = .str a from hd)
      cases (show y = .str b from he)
      cases g
      exact .inr ⟨a, b, rfl, rfl, q⟩
    | _ => exact .inl (dflt g)
  | _ => exact .inl (dflt g)
theorem neX_of {K : Fg} {N : AS} {H : Hp} {d e : D} {x y : V} {A B : AS} {b : Bool} {Q : VK} (hd : Rp K N H d x A) (he : Rp K N H e y B) (g : eqD d e = some b) (q : Q (.bl (!b)) H) : rNeX K x y H Q := by
  refine ⟨d.py, e.py, Rp.dp d hd, Rp.dp e he, ?_⟩
  have dflt : (if d.lay = true ∧ e.lay = true ∧ min d.dep e.dep ≤ 64 then some (PyData.eqv d.py e.py) else none) = some b → d.py.canLay0 = true ∧ e.py.canLay0 = true ∧ min d.py.depth e.py.depth ≤ 64 ∧ Q (.bl (!PyData.eqv d.py e.py)) H := fun g => by
    by_cases c : d.lay = true ∧ e.lay = true ∧ min d.dep e.dep ≤ 64
    · rw [if_pos c] at g
      cases g
      exact ⟨c.1, c.2.1, c.2.2, q⟩
    · rw [if_neg c] at g
      cases g
  cases d with
  | str a =>
    cases e with
    | str b =>
      cases (show x = .str a from hd)
      cases (show y = .str b from he)
      cases g
      exact .inr ⟨a, b, rfl, rfl, q⟩
    | _ => exact .inl (dflt g)
  | _ => exact .inl (dflt g)
theorem ve_eqS (i : Nat) (hu : X.A.units + 64 < cLine) (ha : PE X a (tVar i)) (hb : VE X C b tb Tb) (hm : behindInMarks .Eq b = false) : VE X C (.Compare a [.Eq] [b] pos) (tOp (rEqX X.K) (tVar i) tb) (xEqS i false Tb) := by
  refine ⟨pe_cmpR (op_eqX hu) ha hb.pe hm, fun R q => ?_⟩
  obtain ⟨⟨d, hd⟩, q⟩ := q
  obtain ⟨v, A, e1, _⟩ := R.any hd
  refine ⟨v, e1, hb.se R (Tb.mono (fun k ρ' h w N1 H1 R1 => ?_) q)⟩
  obtain ⟨d', z, h1, h2, h⟩ := h
  obtain ⟨v', A', e2, r'⟩ := R1.any h1
  rw [e1] at e2
  cases e2
  obtain ⟨Aw, hw⟩ := R1.top1
  exact eqX_of r' hw h2 (h _ _ _ (R1.res rfl))
theorem ve_neS (i : Nat) (hu : X.A.units + 64 < cLine) (ha : PE X a (tVar i)) (hb : VE X C b tb Tb) (hm : behindInMarks .NotEq b = false) : VE X C (.Compare a [.NotEq] [b] pos) (tOp (rNeX X.K) (tVar i) tb) (xEqS i true Tb) := by
  refine ⟨pe_cmpR (op_neX hu) ha hb.pe hm, fun R q => ?_⟩
  obtain ⟨⟨d, hd⟩, q⟩ := q
  obtain ⟨v, A, e1, _⟩ := R.any hd
  refine ⟨v, e1, hb.se R (Tb.mono (fun k ρ' h w N1 H1 R1 => ?_) q)⟩
  obtain ⟨d', z, h1, h2, h⟩ := h
  obtain ⟨v', A', e2, r'⟩ := R1.any h1
  rw [e1] at e2
  cases e2
  obtain ⟨Aw, hw⟩ := R1.top1
  exact neX_of r' hw h2 (h _ _ _ (R1.res rfl))
/-- a comparison's value as a test -/
theorem vt_of {op : CmpOp} {r : R2} {t1 t2 : TE} {T : XE} (h : VE X C (.Compare a [op] [b] pos) (tOp r t1 t2) T) (hp : PT X (.Compare a [op] [b] pos) (tTest (tOp r t1 t2))) : VT X C (.Compare a [op] [b] pos) (tTest (tOp r t1 t2)) (xTst T) :=
  ⟨hp, fun R q => h.se R (tst_lift q)⟩
end
end BV

/-! BV, part G: defs, their promises by values; statements; loops. -/
namespace BV
open PySem PySem.Spec PyProof.Rows L2

/-! ### what a def promises, by values: its arguments, then the value and what the lent arguments are -/
structure FS where
  f : List D → (D → List D → Prop) → Prop
  mono : ∀ {ds : List D} {Q Q' : D → List D → Prop}, (∀ d o, Q d o → Q' d o) → f ds Q → f ds Q'
/-- a promise by what holds ahead and behind -/
def FS.of (pre : List D → Prop) (post : List D → D → List D → Prop) : FS := ⟨fun ds Q => pre ds ∧ ∀ d o, post ds d o → Q d o, fun m ⟨h, q⟩ => ⟨h, fun d o z => m _ _ (q d o z)⟩⟩
/-- a promise by a function -/
def FS.fn (pre : List D → Prop) (f : List D → D) : FS := ⟨fun ds Q => pre ds ∧ Q (f ds) [], fun m ⟨h, q⟩ => ⟨h, m _ _ q⟩⟩
/-- the lent arguments behind the call: ios their places -/
def Outs (K : Fg) (N : AS) (H : Hp) (ios : List Nat) (vs : List V) (outs : List D) (A : AS) : Prop := ∃ us, ios.map (vs[·]?) = us.map some ∧ Rps K N H outs us A
def spOf (K : Fg) (n : Nat) (ios : List Nat) (F : FS) : Sp := fun vs H Q E => vs.length = n ∧ ∃ N A ds, Rps K N H ds vs A ∧ (∀ x, A x → N x) ∧ (∀ x, N x → H x ≠ none) ∧ F.f ds fun r outs => ∀ v N' H',
  (∃ A1 A2, Rp K N' H' r v A1 ∧ Outs K N' H' ios vs outs A2 ∧ (∀ x, A1 x → ¬ A2 x) ∧ (∀ x, A1 x ∨ A2 x → N' x ∧ (A x ∨ H x = none))) →
  (∀ x, N' x → H' x ≠ none) → (∀ x, N x → ¬ A x → N' x) → (∀ x, N x → ¬ A x → H' x = H x) → Ext K N H N' H' → (∀ x, H x ≠ none → H' x ≠ none) → Q v H'
/-- slots get back what was lent -/
def giveB : List (Option Nat) → List D → Ev → Ev
  | [], _, ρ => ρ
  | _ :: _, [], ρ => ρ
  | some i :: s, d :: ds, ρ => giveB s ds (ρ.set i (some d))
  | none :: s, _ :: ds, ρ => giveB s ds ρ
section
variable {K : Fg} {C : Ct} {σ : Sts}
theorem Rl.giveB : ∀ {s : List (Option Nat)} {outs : List D} {us : List V} {N : AS} {ρ : Ev} {H : Hp} {vs : List V} {ds : List D}, Rl K C N σ ρ H us outs vs ds → s.length = outs.length →
    (∀ (k i : Nat), s[k]? = some (some i) → ∃ x, us[k]? = some x ∧ σ[i]? = some (some x)) → Rl K C N σ (BV.giveB s outs ρ) H [] [] vs ds
  | [], [], us, N, ρ, H, vs, ds, R, _, _ => R.drop
  | [], _ :: _, _, _, _, _, _, _, _, e, _ => by simp at e
  | _ :: _, [], _, _, _, _, _, _, _, e, _ => by simp at e
  | o :: s, d :: outs, us, N, ρ, H, vs, ds, R, e, h => by
    obtain ⟨A, r⟩ := R.top
    obtain ⟨v, vr, A1, A2, rfl, _⟩ := r
    have hr : ∀ (k i : Nat), s[k]? = some (some i) → ∃ x, vr[k]? = some x ∧ σ[i]? = some (some x) := fun k i q => by
      obtain ⟨x, h1, h2⟩ := h (k + 1) i (by simpa using q)
      exact ⟨x, by simpa using h1, h2⟩
    cases o with
    | none => exact Rl.giveB (s := s) R.tail (by simpa using e) hr
    | some i =>
      obtain ⟨x, h1, h2⟩ := h 0 i rfl
      cases (show some v = some x from h1)
      exact Rl.giveB (s := s) (R.give h2) (by simpa using e) hr
end
def xCall (F : FS) (s : List (Option Nat)) (T : XA) : XE := ⟨fun ρ Q => T.f ρ fun fs ρ1 => F.f fs fun r outs => outs.length = s.length ∧ Q r (giveB s outs ρ1), fun m q => T.mono (fun _ _ h => F.mono (fun _ _ h => ⟨h.1, m _ _ h.2⟩) h) q⟩
section
variable {X : Cx} {C : Ct} {a b c e : Expr} {es rest : List Expr} {ta tb tc te : TE} {Ta Tb Tc Te : XE} {pos p p2 : Pos} {tr : TA} {Tr : XA} {sl : List (Option Nat)}
/-- what the callee's promise asks, from the caller's state -/
theorem call_ok {n : Nat} {ios : List Nat} {F : FS} {N : AS} {σ : Sts} {ρ : Ev} {H : Hp} {xs vs : List V} {fs ds : List D} {Q : VK} {E : XK} {K : Fg} (R : Rl K C N σ ρ H xs fs vs ds) (L : Lent σ sl xs) (hn : sl.length = n)
    (hi : ∀ i ∈ ios, i < n) (h : F.f fs fun r outs => outs.length = (ios.map fun k => (sl[k]?).getD none).length ∧ ∀ v N' H', Rl K C N' σ (giveB (ios.map fun k => (sl[k]?).getD none) outs ρ) H' [v] [r] vs ds → Q v H') : spOf K n ios F xs H Q E := by
  obtain ⟨A, B1, B2, hA, h1, h2, d1, d2, ow⟩ := id R.ex
  refine ⟨L.len.trans hn, N, B1, fs, h1, fun x q => (ow x (.inr (.inl q))).1, R.nh, F.mono (fun r outs ⟨ho, q⟩ v N' H' ⟨A1, A2, r1, ⟨us, hu, r2⟩, dj, own⟩ nh nk fr xt dm => ?_) h⟩
  have kA : ∀ y, A y → H' y = H y := fun y z => fr y (ow y (.inl z)).1 (d1 y z).1
  have kB : ∀ y, B2 y → H' y = H y := fun y z => fr y (ow y (.inr (.inr z))).1 (fun w => d2 y w z)
  have nA : ∀ y, A y → N' y := fun y z => nk y (ow y (.inl z)).1 (d1 y z).1
  have nB : ∀ y, B2 y → N' y := fun y z => nk y (ow y (.inr (.inr z))).1 (fun w => d2 y w z)
  have notA : ∀ y, (A1 y ∨ A2 y) → ¬ A y ∧ ¬ B2 y := fun y z => by
    rcases (own y z).2 with w | w
    · exact ⟨fun u => (d1 y u).1 w, d2 y w⟩
    · exact ⟨fun u => R.nh y (ow y (.inl u)).1 w, fun u => R.nh y (ow y (.inr (.inr u))).1 w⟩
  have frA : ∀ y, (A1 y ∨ A2 y) → C.A0 y ∨ C.H0 y = none := fun y z => by
    rcases (own y z).2 with w | w
    · exact (ow y (.inr (.inl w))).2
    · refine .inr ?_
      cases e0 : C.H0 y with
      | none => rfl
      | some o => exact absurd w (R.dm y (by rw [e0]; exact fun z => by cases z))
  -- the state with the value parked, the outs in hand
  have R2 : Rl K C N' σ ρ H' us outs (v :: vs) (r :: ds) := by
    refine ⟨⟨A, A2, fun y => A1 y ∨ B2 y, hA.keep xt kA, r2, ⟨v, vs, A1, B2, rfl, r1, h2.keep xt ds kB, fun _ z => .inl z, fun _ z => .inr z, fun y z => (notA y (.inl z)).2⟩, fun y z => ⟨fun w => (notA y (.inr w)).1 z, fun w => ?_⟩, fun y z w => ?_, fun y z => ?_⟩,
      nh, R.h0, fun y z n => ?_, fun y z n => ?_, R.xt.trans xt, R.pr, fun y z => dm y (R.dm y z)⟩
    · rcases w with w | w
      · exact (notA y (.inl w)).1 z
      · exact (d1 y z).2 w
    · rcases w with w | w
      · exact dj y w z
      · exact (notA y (.inr z)).2 w
    · rcases z with z | z | z | z
      · exact ⟨nA y z, (ow y (.inl z)).2⟩
      · exact ⟨(own y (.inr z)).1, frA y (.inr z)⟩
      · exact ⟨(own y (.inl z)).1, frA y (.inl z)⟩
      · exact ⟨nB y z, (ow y (.inr (.inr z))).2⟩
    · refine nk y (R.n0 y z n) fun w => ?_
      rcases (ow y (.inr (.inl w))).2 with u | u
      · exact n u
      · exact R.h0 y z u
    · refine (fr y (R.n0 y z n) fun w => ?_).trans (R.fr y z n)
      rcases (ow y (.inr (.inl w))).2 with u | u
      · exact n u
      · exact R.h0 y z u
  refine q v N' H' (Rl.cons (Rl.giveB R2 (by rw [ho]) fun k i hk => ?_))
  rw [List.getElem?_map] at hk
  cases e0 : ios[k]? with
  | none => rw [e0] at hk; cases hk
  | some j =>
    rw [e0] at hk
    have hk2 : (sl[j]?).getD none = some i := Option.some.inj hk
    have hk3 : sl[j]? = some (some i) := by
      cases e1 : sl[j]? with
      | none => rw [e1] at hk2; cases hk2
      | some o => rw [e1] at hk2; exact congrArg some hk2
    obtain ⟨x, h3, h4⟩ := L.at_ j i hk3
    have hu2 := congrArg (fun l : List (Option V) => l[k]?) hu
    simp only [List.getElem?_map, e0, Option.map_some] at hu2
    rw [h3] at hu2
    cases e2 : us[k]? with
    | none => rw [e2] at hu2; cases hu2
    | some u =>
      rw [e2] at hu2
      cases hu2
      exact ⟨x, rfl, h4⟩
/-- f(..), f a def of the text -/
theorem ve_call {k : Nat} {f : Addr} {fd : FuncData} {ps : List Str} {n : Nat} {ios : List Nat} {F : FS} {x : Str} (G : FnOk X.prog X.w X.K X.mg X.base CX0 k f fd ps (spOf X.K n ios F)) (hr : Room k X.A) (hg : Gl X x) (hm : X.mg x = some (.ref f)) (hk : PySem.W.keepIn X.K (.ref f) = true) (hb : Binds X.K fd ps [])
    (ha : VA X C (e :: es) sl tr Tr) (hn : sl.length = n := by rfl) (hi : ∀ i ∈ ios, i < n := by decide) (hdb : (x == ("__debug__" : Str)) = false := by decide) (he : starEach (e :: es) X.env = (false, eval e X.env) :: starEach es X.env := by rfl) (hpl : (backTo pos (starEach es X.env)).any (·.1) = false := by rfl) :
    VE X C (.Call (.Name x p) (e :: es) [] pos) (tCall (spOf X.K n ios F) [] E0 tr) (xCall F (ios.map fun k => (sl[k]?).getD none) Tr) := by
  refine ⟨pe_call G hr hg hm hk hb .nil pass0 ha.pa hdb he hpl, fun {N σ ρ H vs ds Q} R q => ?_⟩
  refine ha.sa R (Tr.mono (fun fs ρ1 h xs N1 H1 R1 L => ?_) q)
  rw [List.append_nil]
  exact call_ok R1 L hn hi h
/-- f(..) with keywords -/
theorem ve_callK {k : Nat} {f : Addr} {fd : FuncData} {ps ks : List Str} {n : Nat} {F : FS} {x : Str} {kws : List Keyword} {g : List Value → List Value → List Value} {tk : TA} {Tk : XA} {sk : List (Option Nat)} (G : FnOk X.prog X.w X.K X.mg X.base CX0 k f fd ps (spOf X.K n [] F)) (hr : Room k X.A) (hg : Gl X x) (hm : X.mg x = some (.ref f)) (hk : PySem.W.keepIn X.K (.ref f) = true)
    (hb : KBinds X.K fd ps ks g fun us ws => us ++ ws) (ha : PA X [] tNil) (hw : PK X kws tk) (hs : ∀ {N : AS} {σ : Sts} {ρ : Ev} {H : Hp} {vs : List V} {ds : List D} {Q : List V → Hp → Prop}, Rl X.K C N σ ρ H [] [] vs ds → Tk.f ρ (fun fs ρ' => ∀ xs N' H', Rl X.K C N' σ ρ' H' xs fs vs ds → Lent σ sk xs → Q xs H') → tk σ H Q)
    (pe : PE X e (tCallK (spOf X.K n [] F) (fun us ws => us ++ ws) E0 tNil tk)) (hn : sk.length = n := by rfl) : VE X C e (tCallK (spOf X.K n [] F) (fun us ws => us ++ ws) E0 tNil tk) (xCall F [] Tk) := by
  refine ⟨pe, fun {N σ ρ H vs ds Q} R q => ?_⟩
  refine hs R (Tk.mono (fun fs ρ1 h xs N1 H1 R1 L => ?_) q)
  exact call_ok (sl := sk) (ios := []) R1 L hn (fun _ z => by cases z) h
end

/-! ### a def keeps its promise -/
def outsOf (ios : List Nat) (ρ : Ev) : List (Option D) := ios.map fun i => (ρ[i]?).getD none
section
variable {P : Program} {w : World} {K : Fg} {mg : Str → Option Value} {base : Heap}
theorem Sl.start {N : AS} {H : Hp} : ∀ {ds : List D} {vs : List V} {A : AS} (m : Nat), Rps K N H ds vs A → Sl K N H (ds.map some ++ List.replicate m none) (vs.map some ++ List.replicate m none) A
  | [], _, A, m, h => by
    cases (show _ = [] from h)
    induction m with
    | zero => exact rfl
    | succ m ih => exact ⟨none, _, rfl, ih⟩
  | d :: ds, _, A, m, h => by
    obtain ⟨v, vr, A1, A2, rfl, h1, h2, s1, s2, dj⟩ := h
    exact ⟨v, _, A1, A2, rfl, h1, Sl.start m h2, s1, s2, dj⟩
/-- several slots taken out at once -/
theorem Sl.takes {N : AS} {H : Hp} : ∀ {ios : List Nat} {outs : List D} {ρ : Ev} {σ : Sts} {A : AS}, Sl K N H ρ σ A → ios.Nodup → outsOf ios ρ = outs.map some →
    ∃ us A1, ios.map (fun i => (σ[i]?).getD none) = us.map some ∧ Rps K N H outs us A1 ∧ ∀ x, A1 x → A x
  | [], outs, ρ, σ, A, h, nd, e => by
    have e2 : outs = [] := by cases outs with | nil => rfl | cons _ _ => cases e
    subst e2
    exact ⟨[], AS0, rfl, rfl, fun _ z => z.elim⟩
  | i :: ios, outs, ρ, σ, A, h, nd, e => by
    cases outs with
    | nil => cases e
    | cons d outs =>
      have e1 : (ρ[i]?).getD none = some d := (List.cons.inj e).1
      have e2 : outsOf ios ρ = outs.map some := (List.cons.inj e).2
      have e3 : ρ[i]? = some (some d) := by
        cases q : ρ[i]? with
        | none => rw [q] at e1; cases e1
        | some o => rw [q] at e1; exact congrArg some e1
      obtain ⟨v, A1, A2, f1, r1, r2, s1, s2, dj⟩ := h.get e3
      have nd' := List.nodup_cons.mp nd
      have e4 : outsOf ios (ρ.set i none) = outs.map some := by
        rw [← e2]
        refine List.map_congr_left fun j hj => ?_
        rw [List.getElem?_set_ne (show i ≠ j from fun z => nd'.1 (by rw [z]; exact hj))]
      obtain ⟨us, A3, f2, r3, s3⟩ := Sl.takes r2 nd'.2 e4
      exact ⟨v :: us, A, by rw [List.map_cons, List.map_cons, f1, f2]; rfl, ⟨v, us, A1, A3, rfl, r1, r3, s1, fun x z => s2 x (s3 x z), fun x z w => dj x z (s3 x w)⟩, fun _ z => z⟩
/-- THE RULE for a def: its body's reading by values -/
theorem fn_ok {x qual : Str} {st : Stmt} {f : Addr} {fd : FuncData} {Nm ps : List Str} {k n : Nat} {ios : List Nat} {F : FS} (Fn : Fun K x qual st f fd) (S : FnScope Nm ps (defScope st)) (hn : ps.length = n) (nd : ios.Nodup) (hi : ∀ i ∈ ios, i < n)
    (hbody : ∀ (cdv : Value) (A : Around) (outer : List Env) (s : Shared) (H : Hp) (E : XK) (C : Ct), (∀ p ∈ C.prot, p.1 ∈ ios) → Room k (A.deeper (envOfC qual (defScope st) s.heap.objs.size f cdv)) →
      ∃ t T, VB (cxOf CX0 P w K mg base Nm qual (defScope st) f cdv A outer s H E).nox C (defBody st) t T ∧
        ∀ (ds : List D) (Q : D → List D → Prop), F.f ds Q → T.f { nx := fun ρ => ∃ outs, outsOf ios ρ = outs.map some ∧ Q .non outs, rt := fun r ρ => ∃ outs, outsOf ios ρ = outs.map some ∧ Q r outs, bk := fun _ => False, ct := fun _ => False } (ds.map some ++ List.replicate (Nm.length - n) none)) :
    FnOk P w K mg base CX0 (k + 1) f fd ps (spOf K n ios F) := by
  refine Fn.ok S (fun vs H Q E h => h.1.trans hn.symm) fun cdv A outer s H vs Q E hr h => ?_
  obtain ⟨hl, N, A0, ds, r, hA, hN, h⟩ := h
  obtain ⟨t, T, VV, hT⟩ := hbody cdv A outer s H E ⟨H, N, A0, ios.map fun i => (i, (vs[i]?).getD .non)⟩ (fun p hp => by
    obtain ⟨i, hi, e⟩ := List.mem_map.mp hp
    rw [← e]
    exact hi) hr
  refine ⟨t, VV.ps, ?_⟩
  have prs : ∀ p ∈ ios.map fun i => (i, (vs[i]?).getD .non), (L2.start Nm vs)[p.1]? = some (some p.2) := fun p hp => by
    obtain ⟨i, hi', e⟩ := List.mem_map.mp hp
    subst e
    have il : i < vs.length := by rw [hl]; exact hi i hi'
    show (vs.map some ++ _)[i]? = some (some ((vs[i]?).getD .non))
    rw [List.getElem?_append_left (by rw [List.length_map]; exact il), List.getElem?_map, List.getElem?_eq_getElem il]
    rfl
  have R0 : Rl K ⟨H, N, A0, ios.map fun i => (i, (vs[i]?).getD .non)⟩ N (L2.start Nm vs) (ds.map some ++ List.replicate (Nm.length - n) none) H [] [] [] [] := by
    refine ⟨⟨A0, AS0, AS0, ?_, rfl, rfl, fun _ _ => ⟨fun z => z, fun z => z⟩, fun _ z => z.elim, fun x z => ?_⟩, hN, hN, fun _ z _ => z, fun _ _ _ => rfl, .refl, prs, fun _ z => z⟩
    · unfold L2.start
      rw [← hl]
      exact Sl.start _ r
    · rcases z with z | z | z
      · exact ⟨hA x z, .inl z⟩
      · exact z.elim
      · exact z.elim
  refine VV.ss R0 (hT ds _ h) ?_
  have fin : ∀ {v : V} {d : D} {σ : Sts} {ρ : Ev} {H' : Hp} {N' : AS} {outs : List D}, Rl K ⟨H, N, A0, ios.map fun i => (i, (vs[i]?).getD .non)⟩ N' σ ρ H' [v] [d] [] [] → outsOf ios ρ = outs.map some →
      (∀ v N' H', (∃ A1 A2, Rp K N' H' d v A1 ∧ Outs K N' H' ios vs outs A2 ∧ (∀ x, A1 x → ¬ A2 x) ∧ (∀ x, A1 x ∨ A2 x → N' x ∧ (A0 x ∨ H x = none))) →
        (∀ x, N' x → H' x ≠ none) → (∀ x, N x → ¬ A0 x → N' x) → (∀ x, N x → ¬ A0 x → H' x = H x) → Ext K N H N' H' → (∀ x, H x ≠ none → H' x ≠ none) → Q v H') → Q v H' := fun {v d σ ρ H' N' outs} R ho q => by
    obtain ⟨A, B1, B2, hA', h1, h2, d1, d2, ow⟩ := id R.ex
    obtain ⟨v', vr, A1, A2, e, r1, r2, s1, s2, dj⟩ := h1
    cases e
    obtain ⟨us, A3, f2, r3, s3⟩ := Sl.takes hA' nd ho
    refine q v N' H' ⟨A1, A3, r1, ⟨us, ?_, r3⟩, fun x z w => (d1 x (s3 x w)).1 (s1 x z), fun x z => ?_⟩ R.nh R.n0 R.fr R.xt R.dm
    · rw [← f2]
      refine List.map_congr_left fun i hi' => ?_
      have il : i < vs.length := by rw [hl]; exact hi i hi'
      have e1 := R.pr (i, (vs[i]?).getD .non) (List.mem_map.mpr ⟨i, hi', rfl⟩)
      have e2 : σ[i]? = some (some ((vs[i]?).getD .non)) := e1
      rw [e2, List.getElem?_eq_getElem il]
      rfl
    · rcases z with z | z
      · exact ow x (.inr (.inl (s1 x z)))
      · exact ow x (.inl (s3 x z))
  refine ⟨fun σ ρ H' N' R q => ?_, fun v d σ ρ H' N' R q => ?_, fun _ _ _ _ _ z => z.elim, fun _ _ _ _ _ z => z.elim⟩
  · obtain ⟨outs, ho, q⟩ := q
    exact fin (R.res (v := .non) (d := .non) rfl) ho q
  · obtain ⟨outs, ho, q⟩ := q
    exact fin R ho q
end
end BV

/-! BV, part H: statements, owned lists, loops, comprehensions. -/
namespace BV
open PySem PySem.Spec PyProof.Rows L2
section
variable {K : Fg} {C : Ct} {N N' : AS} {σ : Sts} {ρ : Ev} {H H' : Hp} {xs vs us ws : List V} {es ds fs gs : List D} {v w : V} {d e : D}
/-- what waits on top is dropped -/
theorem Rl.under (R : Rl K C N σ ρ H xs es (v :: vs) (d :: ds)) : Rl K C N σ ρ H xs es vs ds := by
  obtain ⟨A, B1, B2, hA, h1, h2, d1, d2, ow⟩ := R.ex
  obtain ⟨v', vr, A1, A2, e, r1, r2, s1, s2, dj⟩ := h2
  cases e
  refine ⟨⟨A, B1, A2, hA, h1, r2, fun x q => ⟨(d1 x q).1, fun z => (d1 x q).2 (s2 x z)⟩, fun x q z => d2 x q (s2 x z), fun x q => ow x ?_⟩, R.nh, R.h0, R.n0, R.fr, R.xt, R.pr, R.dm⟩
  rcases q with q | q | q
  · exact .inl q
  · exact .inr (.inl q)
  · exact .inr (.inr (s2 x q))
/-- a slot's value is taken out, ahead of what was reckoned -/
theorem Rl.lendL {i : Nat} (R : Rl K C N σ ρ H xs es vs ds) (e : ρ[i]? = some (some d)) : ∃ v, σ[i]? = some (some v) ∧ Rl K C N σ (ρ.set i none) H (v :: xs) (d :: es) vs ds := by
  obtain ⟨A, B1, B2, hA, h1, h2, d1, d2, ow⟩ := R.ex
  obtain ⟨v, A1, A2, e1, r1, r2, s1, s2, dj⟩ := hA.get e
  refine ⟨v, e1, ⟨A2, fun x => A1 x ∨ B1 x, B2, r2, ⟨v, xs, A1, B1, rfl, r1, h1, fun _ q => .inl q, fun _ q => .inr q, fun x q => (d1 x (s1 x q)).1⟩, h2, fun x q => ⟨fun z => ?_, (d1 x (s2 x q)).2⟩, fun x q => ?_, fun x q => ?_⟩, R.nh, R.h0, R.n0, R.fr, R.xt, R.pr, R.dm⟩
  · rcases z with z | z
    · exact dj x z q
    · exact (d1 x (s2 x q)).1 z
  · rcases q with q | q
    · exact (d1 x (s1 x q)).2
    · exact d2 x q
  · rcases q with q | (q | q) | q
    · exact ow x (.inl (s2 x q))
    · exact ow x (.inl (s1 x q))
    · exact ow x (.inr (.inl q))
    · exact ow x (.inr (.inr q))
theorem Rps.append : ∀ {ds : List D} {us : List V} {A : AS} {es : List D} {ws : List V} {B : AS}, Rps K N H ds us A → Rps K N H es ws B → (∀ x, A x → ¬ B x) → Rps K N H (ds ++ es) (us ++ ws) (fun x => A x ∨ B x)
  | [], _, A, es, ws, B, h, q, _ => by
    cases (show _ = [] from h)
    exact q.up fun _ z => .inr z
  | d :: ds, _, A, es, ws, B, h, q, dj => by
    obtain ⟨v, vr, A1, A2, rfl, h1, h2, s1, s2, dj1⟩ := h
    refine ⟨v, _, A1, fun x => A2 x ∨ B x, rfl, h1, Rps.append h2 q fun x z => dj x (s2 x z), fun x z => .inl (s1 x z), fun x z => ?_, fun x z y => ?_⟩
    · rcases z with z | z
      · exact .inl (s2 x z)
      · exact .inr z
    · rcases y with y | y
      · exact dj1 x z y
      · exact dj x (s1 x z) y
theorem Rps.split : ∀ {fs : List D} {xs : List V} {ds : List D} {vs : List V} {B : AS}, Rps K N H (fs ++ ds) (xs ++ vs) B → fs.length = xs.length → ∃ B1 B2, Rps K N H fs xs B1 ∧ Rps K N H ds vs B2 ∧ (∀ x, B1 x → B x) ∧ (∀ x, B2 x → B x) ∧ (∀ x, B1 x → ¬ B2 x)
  | [], [], _, _, B, h, _ => ⟨AS0, B, rfl, h, fun _ z => z.elim, fun _ z => z, fun _ z => z.elim⟩
  | [], _ :: _, _, _, _, _, e => by simp at e
  | _ :: _, [], _, _, _, _, e => by simp at e
  | d :: fs, x :: xs, ds, vs, B, h, e => by
    obtain ⟨v, vr, A1, A2, e1, h1, h2, s1, s2, dj⟩ := h
    cases e1
    obtain ⟨B1, B2, r1, r2, t1, t2, dj2⟩ := Rps.split (fs := fs) (xs := xs) h2 (by simpa using e)
    refine ⟨fun x => A1 x ∨ B1 x, B2, ⟨x, xs, A1, B1, rfl, h1, r1, fun _ z => .inl z, fun _ z => .inr z, fun y z w => dj y z (t1 y w)⟩, r2, fun y z => ?_, fun y z => s2 y (t2 y z), fun y z w => ?_⟩
    · rcases z with z | z
      · exact s1 y z
      · exact s2 y (t1 y z)
    · rcases z with z | z
      · exact dj y z (t2 y w)
      · exact dj2 y z w
/-- all but the first wait -/
theorem Rl.parkT (R : Rl K C N σ ρ H (v :: xs) (d :: es) vs ds) : Rl K C N σ ρ H [v] [d] (xs ++ vs) (es ++ ds) := by
  obtain ⟨A, B1, B2, hA, h1, h2, d1, d2, ow⟩ := R.ex
  obtain ⟨v', vr, A1, A2, ev, r1, r2, s1, s2, dj⟩ := h1
  cases ev
  refine ⟨⟨A, A1, fun x => A2 x ∨ B2 x, hA, ⟨v, [], A1, AS0, rfl, r1, rfl, fun _ z => z, fun _ z => z.elim, fun _ _ z => z⟩, r2.append h2 fun x z => d2 x (s2 x z), fun x q => ⟨fun z => (d1 x q).1 (s1 x z), fun z => ?_⟩, fun x q z => ?_, fun x q => ow x ?_⟩, R.nh, R.h0, R.n0, R.fr, R.xt, R.pr, R.dm⟩
  · rcases z with z | z
    · exact (d1 x q).1 (s2 x z)
    · exact (d1 x q).2 z
  · rcases z with z | z
    · exact dj x q z
    · exact d2 x (s1 x q) z
  · rcases q with q | q | q | q
    · exact .inl q
    · exact .inr (.inl (s1 x q))
    · exact .inr (.inl (s2 x q))
    · exact .inr (.inr q)
theorem Rl.unpark (R : Rl K C N σ ρ H [] [] (xs ++ vs) (es ++ ds)) (e : es.length = xs.length) : Rl K C N σ ρ H xs es vs ds := by
  obtain ⟨A, B1, B2, hA, h1, h2, d1, d2, ow⟩ := R.ex
  obtain ⟨B3, B4, r3, r4, s3, s4, dj⟩ := h2.split e
  refine ⟨⟨A, B3, B4, hA, r3, r4, fun x q => ⟨fun z => (d1 x q).2 (s3 x z), fun z => (d1 x q).2 (s4 x z)⟩, dj, fun x q => ow x ?_⟩, R.nh, R.h0, R.n0, R.fr, R.xt, R.pr, R.dm⟩
  rcases q with q | q | q
  · exact .inl q
  · exact .inr (.inr (s3 x q))
  · exact .inr (.inr (s4 x q))
/-- an owned list, by its object -/
theorem Rl.ownAt (R : Rl K C N σ ρ H (v :: xs) (.own fs :: es) vs ds) : ∃ a us B, v = .ref a ∧ H a = some (.lst us) ∧ Rps K N H fs us B := by
  obtain ⟨A, h⟩ := R.top
  obtain ⟨v', vr, A1, A2, e1, r1, _⟩ := h
  cases e1
  obtain ⟨a, us, B, e, ha, _, _, r⟩ := r1
  exact ⟨a, us, B, e, ha, r⟩
/-- an item goes behind an owned list -/
theorem Rl.app {a : Addr} (R : Rl K C N σ ρ H [.ref a, w] [.own fs, d] vs ds) (ha : H a = some (.lst us)) : Rl K C N σ ρ (upd H a (.lst (us ++ [w]))) [.ref a] [.own (fs ++ [d])] vs ds :=
  R.write ha fun B1 B2 h1 h2 dj => ⟨_, h1.append h2 dj, fun _ z => z⟩
theorem Rl.storeA {i : Nat} (R : Rl K C N σ ρ H (v :: xs) (d :: es) vs ds) (hp : ∀ p ∈ C.prot, p.1 ≠ i) : Rl K C N (σ.set i (some v)) (ρ.set i (some d)) H xs es vs ds := by
  by_cases hl : i < ρ.length
  · exact R.store hl hp
  · have h2 : ¬ i < σ.length := by rw [← R.len]; exact hl
    rw [List.set_eq_of_length_le (by omega), List.set_eq_of_length_le (by omega)]
    exact R.tail
end

theorem notProt {C : Ct} {ios : List Nat} {i : Nat} (hC : ∀ p ∈ C.prot, p.1 ∈ ios) (hi : i ∉ ios) : ∀ p ∈ C.prot, p.1 ≠ i := fun p hp z => hi (z ▸ hC p hp)

/-! ### statements -/
def xNext : XS := ⟨fun G ρ => G.nx ρ, fun l q => l.nx _ q⟩
def xSeq (S T : XS) : XS := ⟨fun G ρ => S.f { G with nx := T.f G } ρ, fun {G G' ρ} l q => S.mono (G := { G with nx := T.f G }) (G' := { G' with nx := T.f G' }) ⟨fun ρ h => T.mono l h, l.rt, l.bk, l.ct⟩ q⟩
def xRet (T : XE) : XS := ⟨fun G ρ => T.f ρ G.rt, fun l q => T.mono l.rt q⟩
def xRetN : XS := ⟨fun G ρ => G.rt .non ρ, fun l q => l.rt _ _ q⟩
def xIfS (U : XT) (S T : XS) : XS := ⟨fun G ρ => U.f ρ fun k ρ1 => (k = true → S.f G ρ1) ∧ (k = false → T.f G ρ1), fun l q => U.mono (fun _ _ h => ⟨fun z => S.mono l (h.1 z), fun z => T.mono l (h.2 z)⟩) q⟩
def xDo (T : XE) : XS := ⟨fun G ρ => T.f ρ fun _ ρ1 => G.nx ρ1, fun l q => T.mono (fun _ _ h => l.nx _ h) q⟩
def xBrk : XS := ⟨fun G ρ => G.bk ρ, fun l q => l.bk _ q⟩
def xCont : XS := ⟨fun G ρ => G.ct ρ, fun l q => l.ct _ q⟩
def xNever : XS := ⟨fun _ _ => False, fun _ q => q⟩
section
variable {X : Cx} {C : Ct} {a b c e : Expr} {es rest : List Expr} {st : Stmt} {sts sts' : List Stmt} {ta tb tc te : TE} {Ta Tb Tc Te : XE} {tA : TT} {UA : XT} {pos p p2 : Pos} {t u : TS} {S T : XS}
theorem vb_nil : VB X C [] tNext xNext := ⟨pss_nil, fun R q L => L.nx _ _ _ _ R q⟩
theorem vb_cons (h1 : VS X C st t S) (h2 : VB X C sts u T) : VB X C (st :: sts) (tSeq t u) (xSeq S T) :=
  ⟨pss_cons h1.ps h2.ps, fun {N σ ρ H vs ds E G} R q L => h1.ss (G := { G with nx := T.f G }) R q ⟨fun _ _ _ _ R' q' => h2.ss R' q' L, L.rt, L.bk, L.ct⟩⟩
theorem vb_one (h1 : VS X C st t S) : VB X C [st] t S := ⟨pss_one h1.ps, h1.ss⟩
theorem vs_ret (h : VE X C e te Te) : VS X C (.Return (some e) pos) (tRet te) (xRet Te) := ⟨ps_ret h.pe, fun R q L => h.se R (Te.mono (fun d ρ' z v N' H' R' => L.rt _ _ _ _ _ _ R' z) q)⟩
theorem vs_retN : VS X C (.Return none pos) tRetN xRetN := ⟨ps_retN, fun R q L => L.rt .non .non _ _ _ _ (R.res rfl) q⟩
theorem vs_if (hc : VT X C c tA UA) (h1 : VB X C sts t S) (h2 : VB X C sts' u T) : VS X C (.If c sts sts' pos) (tIfS tA t u) (xIfS UA S T) := by
  refine ⟨ps_if hc.pt h1.ps h2.ps, fun R q L => hc.st R (UA.mono (fun k ρ1 h N1 H1 R1 => ?_) q)⟩
  cases k with
  | true => exact iteT (h1.ss R1 (h.1 rfl) L)
  | false => exact iteF (h2.ss R1 (h.2 rfl) L)
theorem vs_expr (he : VE X C e te Te) (hs : swapsWith e none pos.line X.env = pure false := by rfl) : VS X C (.Expr e pos) (tDrop te) (xDo Te) := ⟨ps_expr he.pe hs, fun R q L => he.se R (Te.mono (fun d ρ' z v N' H' R' => L.nx _ _ _ _ R'.drop z) q)⟩
theorem vs_pass : VS X C (.Pass pos) tNext xNext := ⟨ps_pass, fun R q L => L.nx _ _ _ _ R q⟩
theorem vs_break : VS X C (.Break pos) tBreak xBrk := ⟨ps_break, fun R q L => L.bk _ _ _ _ R q⟩
theorem vs_continue : VS X C (.Continue pos) tCont xCont := ⟨ps_continue, fun R q L => L.ct _ _ _ _ R q⟩
theorem vs_doc {x j p'} : VS X C (.Expr (.Constant (.str x) j pos) p') tNext xNext := ⟨ps_doc, fun R q L => L.nx _ _ _ _ R q⟩

/-! ### targets -/
structure XG where
  f : D → Ev → (Ev → Prop) → Prop
  mono : ∀ {d : D} {ρ : Ev} {Q Q' : Ev → Prop}, (∀ ρ', Q ρ' → Q' ρ') → f d ρ Q → f d ρ Q'
structure XGs where
  f : List D → Ev → (Ev → Prop) → Prop
  mono : ∀ {d : List D} {ρ : Ev} {Q Q' : Ev → Prop}, (∀ ρ', Q ρ' → Q' ρ') → f d ρ Q → f d ρ Q'
structure VG (X : Cx) (C : Ct) (tg : Expr) (g : TG) (T : XG) : Prop where
  pg : PG X tg g
  sg : ∀ {N : AS} {σ : Sts} {ρ : Ev} {H : Hp} {v : V} {d : D} {vs : List V} {ds : List D} {Q : Sts → Hp → Prop}, Rl X.K C N σ ρ H [v] [d] vs ds → T.f d ρ (fun ρ' => ∀ N' σ' H', Rl X.K C N' σ' ρ' H' [] [] vs ds → Q σ' H') → g v σ H Q
structure VGs (X : Cx) (C : Ct) (tgs : List Expr) (g : TGs) (T : XGs) : Prop where
  pg : PGs X tgs g
  sg : ∀ {N : AS} {σ : Sts} {ρ : Ev} {H : Hp} {xs : List V} {fs : List D} {vs : List V} {ds : List D} {Q : Sts → Hp → Prop}, Rl X.K C N σ ρ H xs fs vs ds → T.f fs ρ (fun ρ' => ∀ N' σ' H', Rl X.K C N' σ' ρ' H' [] [] vs ds → Q σ' H') → g xs σ H Q
def xgName (i : Nat) : XG := ⟨fun d ρ Q => Q (ρ.set i (some d)), fun m q => m _ q⟩
theorem vg_name {i : Nat} {ios : List Nat} (h : PG X e (gName i)) (hC : ∀ p ∈ C.prot, p.1 ∈ ios) (hi : i ∉ ios := by decide) : VG X C e (gName i) (xgName i) :=
  ⟨h, fun R q => q _ _ _ (R.storeA (notProt hC hi))⟩
def xgNil : XGs := ⟨fun ds ρ Q => ds = [] ∧ Q ρ, fun m q => ⟨q.1, m _ q.2⟩⟩
def xgCons (T : XG) (U : XGs) : XGs := ⟨fun ds ρ Q => ∃ d r, ds = d :: r ∧ T.f d ρ fun ρ1 => U.f r ρ1 Q, fun m ⟨d, r, e, q⟩ => ⟨d, r, e, T.mono (fun _ h => U.mono m h) q⟩⟩
variable {g : TG} {gs : TGs} {Tg : XG} {Tgs : XGs}
theorem vgs_nil : VGs X C [] gNil xgNil := ⟨pgs_nil, fun {N σ ρ H xs fs vs ds Q} R q => by
  obtain ⟨rfl, q⟩ := q
  obtain ⟨A, r⟩ := R.top
  exact ⟨r, q _ _ _ R.drop⟩⟩
theorem vgs_cons (h1 : VG X C e g Tg) (h2 : VGs X C es gs Tgs) (hs : (assignEach (e :: es) X.env).map (·.2) = assign e X.env :: (assignEach es X.env).map (·.2) := by rfl) : VGs X C (e :: es) (gCons g gs) (xgCons Tg Tgs) := by
  refine ⟨pgs_cons h1.pg h2.pg hs, fun {N σ ρ H xs fs vs ds Q} R q => ?_⟩
  obtain ⟨d, r, rfl, q⟩ := q
  obtain ⟨A, hr⟩ := R.top
  obtain ⟨v, vr, A1, A2, rfl, r1, r2, s1, s2, dj⟩ := hr
  refine ⟨v, vr, rfl, h1.sg R.parkT (Tg.mono (fun ρ1 h N' σ' H' R' => ?_) q)⟩
  exact h2.sg (R'.unpark r2.length) h
/-- (a, b, ..) = a tuple -/
def xgTup (n : Nat) (T : XGs) : XG := ⟨fun d ρ Q => ∃ ds, d = .tup ds ∧ ds.length = n ∧ T.f ds ρ Q, fun m ⟨ds, e, h, q⟩ => ⟨ds, e, h, T.mono m q⟩⟩
theorem vg_tup {k n : Nat} (hc : X.calm = true) (h : VGs X C es gs Tgs) (hn : (assignEach es X.env).length = n := by rfl) (hst : (assignEach es X.env).findIdx? (·.1) = none := by rfl) : VG X C (.Tuple es k pos) (gTup X.K n gs) (xgTup n Tgs) := by
  refine ⟨pg_tup hc h.pg hn hst, fun {N σ ρ H v d vs ds Q} R q => ?_⟩
  obtain ⟨fs, rfl, hl, q⟩ := q
  obtain ⟨A, r⟩ := R.top1
  obtain ⟨a, us, rfl, hs, r⟩ := r
  refine ⟨a, us, rfl, hs, by rw [← r.length]; exact hl, h.sg (N := N) (xs := us) (fs := fs) ?_ q⟩
  obtain ⟨A', B1, B2, hA, h1, h2, d1, d2, ow⟩ := R.ex
  refine ⟨⟨A', AS0, B2, hA, r, h2, fun x q => ⟨fun z => z, (d1 x q).2⟩, fun _ z => z.elim, fun x q => ow x ?_⟩, R.nh, R.h0, R.n0, R.fr, R.xt, R.pr, R.dm⟩
  rcases q with q | q | q
  · exact .inl q
  · exact q.elim
  · exact .inr (.inr q)
/-- target = value -/
def xAsg (T : XE) (U : XG) : XS := ⟨fun G ρ => T.f ρ fun d ρ1 => U.f d ρ1 G.nx, fun l q => T.mono (fun _ _ h => U.mono (fun _ z => l.nx _ z) h) q⟩
theorem vs_asg {tg : Expr} (he : VE X C e te Te) (hg : VG X C tg g Tg) (hs : swapsWithSole [tg] e pos.line X.env = pure false := by rfl) (hw : swappedStores [tg] e X.env = pure none := by rfl)
    (h1 : (assignEach [tg] X.env).map (·.2) = [assign tg X.env] := by rfl) : VS X C (.Assign [tg] e pos) (tAsg te g) (xAsg Te Tg) :=
  ⟨ps_asg he.pe hg.pg hs hw h1, fun R q L => he.se R (Te.mono (fun d ρ1 h v N' H' R' => hg.sg R' (Tg.mono (fun ρ2 z N2 σ2 H2 R2 => L.nx _ _ _ _ R2 z) h)) q)⟩
/-- name = value -/
theorem vs_set {i : Nat} {ios : List Nat} (h : PS X st (tAsg te (gName i))) (he : VE X C e te Te) (hC : ∀ p ∈ C.prot, p.1 ∈ ios) (hi : i ∉ ios := by decide) : VS X C st (tAsg te (gName i)) (xAsg Te (xgName i)) :=
  ⟨h, fun R q L => he.se R (Te.mono (fun d ρ1 h v N' H' R' => L.nx _ _ _ _ (R'.storeA (notProt hC hi)) h) q)⟩
/-- a, b = x, y -/
def xPar (is : List Nat) (T : XA) : XS := ⟨fun G ρ => T.f ρ fun fs ρ1 => fs.length = is.length ∧ G.nx ((is.zip fs).foldl (fun r p => r.set p.1 (some p.2)) ρ1), fun l q => T.mono (fun _ _ h => ⟨h.1, l.nx _ h.2⟩) q⟩
variable {tr : TA} {Tr : XA} {sl : List (Option Nat)}
theorem vs_par {i j : Nat} {ios : List Nat} (h : PS X st (tPar i j tr)) (ha : VA X C es sl tr Tr) (hC : ∀ p ∈ C.prot, p.1 ∈ ios) (hi : i ∉ ios := by decide) (hj : j ∉ ios := by decide) : VS X C st (tPar i j tr) (xPar [i, j] Tr) := by
  refine ⟨h, fun R q L => ha.sa R (Tr.mono (fun fs ρ1 h xs N1 H1 R1 _ => ?_) q)⟩
  obtain ⟨hl, h⟩ := h
  match fs, hl, R1, h with
  | [d, e], _, R1, h =>
    obtain ⟨v, w, A, B, rfl, _, _⟩ := R1.twoL
    exact ⟨v, w, rfl, L.nx _ _ _ _ ((R1.storeA (notProt hC hi)).storeA (notProt hC hj)) h⟩
theorem vs_par3 {i j l : Nat} {ios : List Nat} (h : PS X st (tPar3 i j l tr)) (ha : VA X C es sl tr Tr) (hC : ∀ p ∈ C.prot, p.1 ∈ ios) (hi : i ∉ ios := by decide) (hj : j ∉ ios := by decide) (hl : l ∉ ios := by decide) : VS X C st (tPar3 i j l tr) (xPar [i, j, l] Tr) := by
  refine ⟨h, fun R q L => ha.sa R (Tr.mono (fun fs ρ1 h xs N1 H1 R1 _ => ?_) q)⟩
  obtain ⟨hln, h⟩ := h
  match fs, hln, R1, h with
  | [d, e, f], _, R1, h =>
    obtain ⟨A, r⟩ := R1.top
    obtain ⟨v, vr, A1, A2, rfl, _, r2, _⟩ := r
    obtain ⟨w, vr', A3, A4, rfl, _, r3, _⟩ := r2
    obtain ⟨y, vr'', A5, A6, rfl, _, r4, _⟩ := r3
    cases (show vr'' = [] from r4)
    exact ⟨v, w, y, rfl, L.nx _ _ _ _ (((R1.storeA (notProt hC hi)).storeA (notProt hC hj)).storeA (notProt hC hl)) h⟩

/-! ### owned lists in slots -/
/-- x.append(e) -/
def xApp (i : Nat) (T : XE) : XE := ⟨fun ρ Q => (∃ zs, ρ[i]? = some (some (.own zs))) ∧ T.f ρ fun d ρ' => ∃ zs, ρ'[i]? = some (some (.own zs)) ∧ zs.length < sizeLine ∧ Q .non (ρ'.set i (some (.own (zs ++ [d])))), fun m ⟨h, q⟩ => ⟨h, T.mono (fun _ _ ⟨zs, h1, h2, q⟩ => ⟨zs, h1, h2, m _ _ q⟩) q⟩⟩
theorem ve_app (i : Nat) {apos : Pos} {o : Expr} (ho : PE X o (tVar i)) (he : VE X C e te Te) (hp : PE X (.Call (.Attribute o "append" apos) [e] [] pos) (tBM X.K "list" rAppend (tVar i) (tCons te tNil))) :
    VE X C (.Call (.Attribute o "append" apos) [e] [] pos) (tBM X.K "list" rAppend (tVar i) (tCons te tNil)) (xApp i Te) := by
  refine ⟨hp, fun R q => ?_⟩
  obtain ⟨⟨zs, hz⟩, q⟩ := q
  obtain ⟨v, A, e1, r⟩ := R.any hz
  obtain ⟨a, us, B, rfl, ha, _, _, _⟩ := r
  refine ⟨_, e1, .inl ⟨rfl, us, .inl (.inl ha)⟩, he.se R (Te.mono (fun d ρ' h w N1 H1 R1 => ?_) q)⟩
  obtain ⟨zs', h1, h2, h⟩ := h
  obtain ⟨v', e2, R2⟩ := R1.lendL h1
  rw [e1] at e2
  cases e2
  obtain ⟨a', us', B', e3, ha', r'⟩ := R2.ownAt
  cases e3
  refine ⟨a, us', w, rfl, rfl, ha', by rw [← r'.length]; exact h2, ?_⟩
  have R3 := (R2.app ha').give e1
  rw [List.set_set] at R3
  exact h _ _ _ (R3.res (v := .non) (d := .non) rfl)
/-- x.pop() -/
def xPop (i : Nat) : XE := ⟨fun ρ Q => ∃ zs z, ρ[i]? = some (some (.own (zs ++ [z]))) ∧ z.sh = true ∧ Q z (ρ.set i (some (.own zs))), fun m h => by
  obtain ⟨zs, z, h1, h2, q⟩ := h
  exact ⟨zs, z, h1, h2, m _ _ q⟩⟩
theorem ve_pop (i : Nat) {apos : Pos} {o : Expr} (ho : PE X o (tVar i)) (hp : PE X (.Call (.Attribute o "pop" apos) [] [] pos) (tBM0 X.K "list" rPop (tVar i))) :
    VE X C (.Call (.Attribute o "pop" apos) [] [] pos) (tBM0 X.K "list" rPop (tVar i)) (xPop i) := by
  refine ⟨hp, fun {N σ ρ H vs ds Q} R q => ?_⟩
  obtain ⟨zs, z, h1, h2, q⟩ := q
  obtain ⟨v, e1, R1⟩ := R.lend h1
  obtain ⟨a, us, B, rfl, ha, r⟩ := R1.ownAt
  have hlen := r.length
  rw [List.length_append, List.length_singleton] at hlen
  have hne : us ≠ [] := fun e => by rw [e] at hlen; simp at hlen
  have hu : us = us.dropLast ++ [us.getLast hne] := (List.dropLast_concat_getLast hne).symm
  obtain ⟨B1, B2, r1, r2, s1, s2, dj⟩ := Rps.split (fs := zs) (xs := us.dropLast) (by rw [← hu]; exact r) (by rw [List.length_dropLast]; omega)
  obtain ⟨y, vr, A1, A2, ey, ry, ryr, _⟩ := r2
  cases (show vr = [] from ryr)
  have ey2 : us.getLast hne = y := by cases ey; rfl
  have R2 : Rl X.K C N σ (ρ.set i none) (upd H a (.lst us.dropLast)) [.ref a] [.own zs] vs ds := R1.write ha fun B1 B2 h1 h2 dj => by
    have hu2 : Rps X.K N H (zs ++ [z]) (us.dropLast ++ [us.getLast hne]) B1 := by rw [← hu]; exact h1
    obtain ⟨B3, B4, r3, r4, s3, _⟩ := Rps.split (fs := zs) (xs := us.dropLast) hu2 (by rw [List.length_dropLast]; omega)
    exact ⟨B3, r3, fun x q => .inl (s3 x q)⟩
  have R3 := R2.give e1
  rw [List.set_set] at R3
  refine ⟨_, e1, .inl ⟨rfl, us, .inl (.inl ha)⟩, a, us, us.getLast hne, rfl, rfl, ha, by rw [List.getLast_eq_getElem, List.getElem?_eq_getElem], q _ _ _ (R3.res ?_)⟩
  rw [ey2]
  obtain ⟨A', B1', B2', hA, hh1, hh2, dd1, dd2, ow⟩ := R1.ex
  obtain ⟨v', vr', C1, C2, ev, rr1, _, t1, _⟩ := hh1
  cases ev
  obtain ⟨a', us', B', e', ha', hAa, _, _⟩ := rr1
  cases e'
  exact (ry.share h2).keep0 (.write ha (ow a (.inr (.inl (t1 a hAa)))).1)
/-- an own list that a loop is to walk, or that is handed on: from here on nobody changes it -/
def xFrzS (i : Nat) (T : XS) : XS := ⟨fun G ρ => ∃ zs, ρ[i]? = some (some (.own zs)) ∧ zs.all D.sh = true ∧ T.f G (ρ.set i (some (.lst zs))), fun l ⟨zs, h1, h2, q⟩ => ⟨zs, h1, h2, T.mono l q⟩⟩
theorem vb_frzS (i : Nat) (h : VB X C sts t T) : VB X C sts t (xFrzS i T) := by
  refine ⟨h.ps, fun R q L => ?_⟩
  obtain ⟨zs, h1, h2, q⟩ := q
  obtain ⟨v, e1, R1⟩ := R.lend h1
  obtain ⟨N2, R2⟩ := R1.frz
  have e : (D.own zs).frz = .lst zs := by
    show D.lst (D.frzs zs) = _
    rw [D.frzs_sh h2]
  rw [e] at R2
  have R3 := R2.give e1
  rw [List.set_set] at R3
  exact h.ss R3 q L
/-- code that the proof never comes to -/
theorem vb_never : VB X C sts tNever xNever := ⟨pss_never, fun _ q _ => q⟩
end
end BV

/-! BV, part I: what is walked; for, while; comprehensions. -/
namespace BV
open PySem PySem.Spec PyProof.Rows L2

/-- an iterator by values: it yields zs; pd at pv waits in the stack meanwhile -/
def ItD (K : Fg) (C : Ct) (J : It) (zs : List D) (pv : V) (pd : D) : Prop := ∀ {N : AS} {σ : Sts} {ρ : Ev} {H : Hp} {us : List V} {fs : List D} {vs : List V} {ds : List D}, us.length = fs.length → Rl K C N σ ρ H [] [] (us ++ pv :: vs) (fs ++ pd :: ds) →
  (∀ (k : Nat) (z : D), zs[k]? = some z → J.go k H ∧ ∀ x H', J.yld k H x H' → ∃ N', Rl K C N' σ ρ H' [x] [z] (us ++ pv :: vs) (fs ++ pd :: ds)) ∧ (∀ k : Nat, k = zs.length → J.stop k H)
structure XI where
  f : Ev → (List D → Ev → Prop) → Prop
  mono : ∀ {ρ : Ev} {Q Q' : List D → Ev → Prop}, (∀ d ρ', Q d ρ' → Q' d ρ') → f ρ Q → f ρ Q'
structure VI (X : Cx) (C : Ct) (tg iter : Expr) (wi : TI) (T : XI) : Prop where
  pi : PI X tg iter wi
  si : ∀ {N : AS} {σ : Sts} {ρ : Ev} {H : Hp} {vs : List V} {ds : List D} {R : It → Hp → Prop}, Rl X.K C N σ ρ H [] [] vs ds →
    T.f ρ (fun zs ρ' => ∀ J N' H' pv pd, Rl X.K C N' σ ρ' H' [] [] (pv :: vs) (pd :: ds) → ItD X.K C J zs pv pd → R J H') → wi σ H R

/-- the list of a range -/
def rngD (lo : Int) (n : Nat) : List D := (List.range n).map fun k => .int (lo + (k : Nat))
theorem rngD_get {lo : Int} {n k : Nat} {z : D} (h : (rngD lo n)[k]? = some z) : k < n ∧ z = .int (lo + (k : Nat)) := by
  unfold rngD at h
  rw [List.getElem?_map] at h
  cases e : (List.range n)[k]? with
  | none => rw [e] at h; cases h
  | some j =>
    rw [e] at h
    obtain ⟨h1, h2⟩ := List.getElem?_eq_some_iff.mp e
    rw [List.length_range] at h1
    rw [List.getElem_range] at h2
    cases h
    exact ⟨h1, by rw [← h2]⟩
theorem rngD_length (lo : Int) (n : Nat) : (rngD lo n).length = n := by unfold rngD; rw [List.length_map, List.length_range]
theorem itd_range {K : Fg} {C : Ct} {lo : Int} {n : Nat} {pv : V} {pd : D} : ItD K C (Itr lo n) (rngD lo n) pv pd := by
  intro N σ ρ H us fs vs ds hl R
  refine ⟨fun k z h => ?_, fun k h => by rw [rngD_length] at h; exact Nat.le_of_eq h.symm⟩
  obtain ⟨h1, rfl⟩ := rngD_get h
  exact ⟨h1, fun x H' hy => by
    obtain ⟨rfl, rfl⟩ := hy
    exact ⟨N, R.res rfl⟩⟩
/-- the waiting value, from under what lies on it -/
theorem Rl.waits {K : Fg} {C : Ct} {N : AS} {σ : Sts} {ρ : Ev} {H : Hp} {us : List V} {fs : List D} {pv : V} {pd : D} {xs vs : List V} {es ds : List D} (hl : us.length = fs.length) (R : Rl K C N σ ρ H xs es (us ++ pv :: vs) (fs ++ pd :: ds)) : ∃ A, Rp K N H pd pv A := by
  obtain ⟨A, B1, B2, hA, h1, h2, d1, d2, ow⟩ := R.ex
  obtain ⟨B3, B4, r3, r4, _⟩ := h2.split hl.symm
  obtain ⟨v, vr, A1, A2, e, r1, _⟩ := r4
  cases e
  exact ⟨A1, r1⟩
/-- not a tuple, a tuple -/
def D.isTup : D → Bool
  | .tup _ => true
  | _ => false
theorem Rp.asL {K : Fg} {N : AS} {H : Hp} {d : D} {v : V} {A : AS} {zs : List D} (h : Rp K N H d v A) (e : d.seq = some zs) (nt : d.isTup = false) : ∃ a us B, v = .ref a ∧ SqL K H a us ∧ Rps K N H zs us B := by
  cases d with
  | tup ds => cases nt
  | lst ds => obtain ⟨a, us, ex, hs, _, r⟩ := h; cases e; exact ⟨a, us, _, ex, .inl (.inl hs), r⟩
  | frl ds => obtain ⟨a, us, ex, hs, r⟩ := h; cases e; exact ⟨a, us, _, ex, hs.sq, r⟩
  | own ds => obtain ⟨a, us, B, ex, hs, _, _, r⟩ := h; cases e; exact ⟨a, us, _, ex, .inl (.inl hs), r⟩
  | _ => cases e
theorem Rp.asT {K : Fg} {N : AS} {H : Hp} {d : D} {v : V} {A : AS} {zs : List D} (h : Rp K N H d v A) (e : d.seq = some zs) (nt : d.isTup = true) : ∃ a us, v = .ref a ∧ SqT K H a us ∧ Rps K N H zs us AS0 := by
  cases d with
  | tup ds => obtain ⟨a, us, ex, hs, r⟩ := h; cases e; exact ⟨a, us, ex, hs, r⟩
  | _ => cases nt
theorem Rps.at {K : Fg} {N : AS} {H : Hp} {zs : List D} {us : List V} {A : AS} (r : Rps K N H zs us A) (hz : zs.all D.sh = true) {k : Nat} {z : D} (e : zs[k]? = some z) : ∃ x, us[k]? = some x ∧ Rp K N H z x AS0 := by
  obtain ⟨v, A1, h1, h2, _⟩ := r.get0 e
  exact ⟨v, h1, h2.share (List.all_eq_true.mp hz z (List.mem_of_getElem? e))⟩
theorem itd_list {K : Fg} {C : Ct} {a : Addr} {zs : List D} {pd : D} (e : pd.seq = some zs) (hz : zs.all D.sh = true) (nt : pd.isTup = false) : ItD K C (Itl K a) zs (.ref a) pd := by
  intro N σ ρ H us fs vs ds hl R
  obtain ⟨A, r⟩ := R.waits hl
  obtain ⟨a', ws, B, ea, hs, rr⟩ := r.asL e nt
  cases ea
  refine ⟨fun k z h => ?_, fun k h => ⟨ws, hs, by rw [← rr.length]; exact Nat.le_of_eq h.symm⟩⟩
  obtain ⟨x, h1, h2⟩ := rr.at hz h
  refine ⟨⟨ws, x, hs, h1⟩, fun y H' hy => ?_⟩
  obtain ⟨rfl, hy⟩ := hy
  have e2 := hy ws hs
  rw [h1] at e2
  cases e2
  exact ⟨N, R.res h2⟩
theorem itd_tup {K : Fg} {C : Ct} {a : Addr} {zs : List D} {pd : D} (e : pd.seq = some zs) (hz : zs.all D.sh = true) (nt : pd.isTup = true) : ItD K C (Itt K a) zs (.ref a) pd := by
  intro N σ ρ H us fs vs ds hl R
  obtain ⟨A, r⟩ := R.waits hl
  obtain ⟨a', ws, ea, hs, rr⟩ := r.asT e nt
  cases ea
  refine ⟨fun k z h => ?_, fun k h => ⟨ws, hs, by rw [← rr.length]; exact Nat.le_of_eq h.symm⟩⟩
  obtain ⟨x, h1, h2⟩ := rr.at hz h
  refine ⟨⟨ws, x, hs, h1⟩, fun y H' hy => ?_⟩
  obtain ⟨rfl, hy⟩ := hy
  have e2 := hy ws hs
  rw [h1] at e2
  cases e2
  exact ⟨N, R.res h2⟩
section
variable {X : Cx} {C : Ct} {a b c e tg iter elt : Expr} {es ifs : List Expr} {st : Stmt} {sts sts' : List Stmt} {ta tb tc te : TE} {Ta Tb Tc Te : XE} {tA tt : TT} {UA Ut : XT} {pos p p2 : Pos} {t u : TS} {S T : XS} {tr : TA} {Tr : XA} {sl : List (Option Nat)} {g : TG} {Tg : XG} {wi : TI} {Ti : XI}
/-- a list or a tuple walked -/
def iSeq (K : Fg) (tl : TE) : TI := fun σ H R => tl σ H fun x H1 => ∃ a, x = .ref a ∧ (((∃ xs, SqL K H1 a xs) ∧ R (Itl K a) H1) ∨ ((∃ xs, SqT K H1 a xs) ∧ R (Itt K a) H1))
theorem pi_seq {l : Expr} {tl : TE} (hl : PE X l tl) : PI X tg l (iSeq X.K tl) := by
  refine ⟨fun pins s σ H R I h => ?_⟩
  refine thn (hl.run pins s σ H _ I h) fun v s1 ⟨x, H1, I1, r1, q1⟩ => ?_
  obtain ⟨a, e, q1⟩ := q1
  subst e
  cases r1
  rcases q1 with ⟨⟨xs, hq⟩, q⟩ | ⟨⟨xs, hq⟩, q⟩
  · obtain ⟨its, rv, p, hz⟩ := I1.list hq
    refine wpAny_pyIter_list p.isList ?_
    refine ⟨s1.heap.objs.size, [s1.heap.objs.size], _, _, H1, rfl, I1.kept (t' := s1.toks) fun b o e => Heap.get?_push_of_some _ e, turn_list a _, ⟨_, Heap.get?_push_size _ rfl, rfl, rfl⟩, fun b hb => ?_, q⟩
    have e : b = s1.heap.objs.size := by simpa using hb
    subst e
    exact I1.fpOk (Nat.le_refl _) (I1.hok.fresh (Nat.le_refl _))
  · obtain ⟨its, rv, p, hz⟩ := I1.tuple hq
    refine wpAny_pyIter_tuple (show s1.heap.IsTuple a its.toArray from p) ?_
    refine ⟨s1.heap.objs.size, [s1.heap.objs.size], _, _, H1, rfl, I1.kept (t' := s1.toks) fun b o e => Heap.get?_push_of_some _ e, turn_tuple a _, ⟨_, Heap.get?_push_size _ rfl, rfl, rfl⟩, fun b hb => ?_, q⟩
    have e : b = s1.heap.objs.size := by simpa using hb
    subst e
    exact I1.fpOk (Nat.le_refl _) (I1.hok.fresh (Nat.le_refl _))
def xiSeq (T : XE) : XI := ⟨fun ρ Q => T.f ρ fun d ρ1 => ∃ zs, d.seq = some zs ∧ zs.all D.sh = true ∧ Q zs ρ1, fun m q => T.mono (fun _ _ h => by
  obtain ⟨zs, h1, h2, q⟩ := h
  exact ⟨zs, h1, h2, m _ _ q⟩) q⟩
theorem vi_seq (h : VE X C iter te Te) : VI X C tg iter (iSeq X.K te) (xiSeq Te) := by
  refine ⟨pi_seq h.pe, fun {N σ ρ H vs ds R'} R q => h.se R (Te.mono (fun d ρ1 h v N1 H1 R1 => ?_) q)⟩
  obtain ⟨zs, h1, h2, q⟩ := h
  obtain ⟨A, r⟩ := R1.top1
  by_cases ht : d.isTup = true
  · obtain ⟨a, us, rfl, hs, _⟩ := r.asT h1 ht
    exact ⟨a, rfl, .inr ⟨⟨us, hs⟩, q _ N1 H1 (.ref a) d R1.park (itd_tup h1 h2 ht)⟩⟩
  · have ht' : d.isTup = false := by cases e : d.isTup with | true => exact absurd e ht | false => rfl
    obtain ⟨a, us, B, rfl, hs, _⟩ := r.asL h1 ht'
    exact ⟨a, rfl, .inl ⟨⟨us, hs⟩, q _ N1 H1 (.ref a) d R1.park (itd_list h1 h2 ht')⟩⟩
def xiRng1 (T : XA) : XI := ⟨fun ρ Q => T.f ρ fun fs ρ1 => ∃ j : Int, fs = [.int j] ∧ -(2 ^ 62) ≤ j ∧ j < 2 ^ 62 ∧ Q (rngD 0 j.toNat) ρ1, fun m q => T.mono (fun _ _ h => by
  obtain ⟨j, h1, h2, h3, q⟩ := h
  exact ⟨j, h1, h2, h3, m _ _ q⟩) q⟩
theorem vi_rng1 (hg : Gl X "range") (hm : X.mg "range" = none) (ha : VA X C [a] sl tr Tr) (hs : starEach [a] X.env = [(false, eval a X.env)] := by rfl) : VI X C tg (.Call (.Name "range" p) [a] [] pos) (iRng1 tr) (xiRng1 Tr) := by
  refine ⟨pi_range1 hg hm ha.pa hs, fun {N σ ρ H vs ds R'} R q => ha.sa R (Tr.mono (fun fs ρ1 h xs N1 H1 R1 _ => ?_) q)⟩
  obtain ⟨j, rfl, h1, h2, q⟩ := h
  obtain ⟨x, A, rfl, hx⟩ := R1.one
  cases (show x = .int j from hx)
  exact ⟨j, rfl, h1, h2, q _ N1 H1 .non .non (R1.res (v := .non) (d := .non) rfl).park itd_range⟩
def xiRng2 (T : XA) : XI := ⟨fun ρ Q => T.f ρ fun fs ρ1 => ∃ i j : Int, fs = [.int i, .int j] ∧ (-(2 ^ 62) ≤ i ∧ i < 2 ^ 62 ∧ -(2 ^ 62) ≤ j ∧ j < 2 ^ 62) ∧ Q (rngD i (j - i).toNat) ρ1, fun m q => T.mono (fun _ _ h => by
  obtain ⟨i, j, h1, h2, q⟩ := h
  exact ⟨i, j, h1, h2, m _ _ q⟩) q⟩
theorem vi_rng2 (hg : Gl X "range") (hm : X.mg "range" = none) (ha : VA X C [a, b] sl tr Tr) (hs : starEach [a, b] X.env = [(false, eval a X.env), (false, eval b X.env)] := by rfl) (hs2 : starEach [b] X.env = [(false, eval b X.env)] := by rfl) : VI X C tg (.Call (.Name "range" p) [a, b] [] pos) (iRng2 tr) (xiRng2 Tr) := by
  refine ⟨pi_range2 hg hm ha.pa hs hs2, fun {N σ ρ H vs ds R'} R q => ha.sa R (Tr.mono (fun fs ρ1 h xs N1 H1 R1 _ => ?_) q)⟩
  obtain ⟨i, j, rfl, h1, q⟩ := h
  obtain ⟨x, y, A, B, rfl, hx, hy⟩ := R1.twoL
  cases (show x = .int i from hx)
  cases (show y = .int j from hy)
  exact ⟨i, j, rfl, h1, q _ N1 H1 .non .non (R1.res (v := .non) (d := .non) rfl).park itd_range⟩

/-! ### for -/
def xFor (I : XI) (U : XG) (S : XS) : XS := ⟨fun G ρ => I.f ρ fun zs ρ1 => ∃ J : Nat → Ev → Prop, J 0 ρ1 ∧ (∀ k z ρ, zs[k]? = some z → J k ρ → U.f z ρ fun ρ2 => S.f { nx := J (k + 1), ct := J (k + 1), bk := G.nx, rt := G.rt } ρ2) ∧ ∀ ρ, J zs.length ρ → G.nx ρ,
  fun {G G' ρ} l q => I.mono (fun _ _ h => by
    obtain ⟨J, h0, h1, h2⟩ := h
    exact ⟨J, h0, fun k z ρ e j => U.mono (fun _ h => S.mono (G := { nx := J (k + 1), ct := J (k + 1), bk := G.nx, rt := G.rt }) ⟨fun _ z => z, l.rt, l.nx, fun _ z => z⟩ h) (h1 k z ρ e j), fun ρ j => l.nx _ (h2 ρ j)⟩) q⟩
theorem vs_for (hp : PassesOwn (model X.prog X.w) X.A X.env X.xe) (hc : X.calm = true) (hi : VI X C tg iter wi Ti) (hg : VG X C tg g Tg) (hb : VB X C sts t S) (hs : ∀ x, foldedSetIterable iter X.env x = pure x := by intro _; rfl) : VS X C (.For tg iter sts [] pos) (tFor wi g t) (xFor Ti Tg S) := by
  refine ⟨ps_for hp hc hi.pi hg.pg hb.ps hs, fun {N σ ρ H vs ds E G} R q L => hi.si R (Ti.mono (fun zs ρ1 h J N1 H1 pv pd R1 itd => ?_) q)⟩
  obtain ⟨I, h0, h1, h2⟩ := h
  have out : ∀ {σ : Sts} {ρ : Ev} {H : Hp} {N : AS}, Rl X.K C N σ ρ H [] [] (pv :: vs) (pd :: ds) → G.nx ρ → E.nx σ H := fun R z => L.nx _ _ _ _ R.under z
  refine ⟨fun i m σ H => m = zs.length - i ∧ i ≤ zs.length ∧ ∃ N ρ, Rl X.K C N σ ρ H [] [] (pv :: vs) (pd :: ds) ∧ I i ρ, ⟨_, rfl, Nat.zero_le _, N1, ρ1, R1, h0⟩, ?_⟩
  rintro i m σ2 H2 ⟨rfl, hi', N2, ρ2, R2, j2⟩
  have it := itd (us := []) (fs := []) rfl R2
  by_cases hlt : i < zs.length
  · obtain ⟨go, yl⟩ := it.1 i zs[i] (List.getElem?_eq_getElem hlt)
    refine .inr ⟨go, fun σ' H' => ∃ N ρ, Rl X.K C N σ' ρ H' [] [] (pv :: vs) (pd :: ds) ∧ I (i + 1) ρ, fun σ' H' ⟨N', ρ', R', j'⟩ => ⟨zs.length - (i + 1), by omega, rfl, hlt, N', ρ', R', j'⟩, fun x H' hy => ?_⟩
    obtain ⟨N3, R3⟩ := yl x H' hy
    refine hg.sg R3 (Tg.mono (fun ρ4 h N4 σ4 H4 R4 => ?_) (h1 i zs[i] ρ2 (List.getElem?_eq_getElem hlt) j2))
    refine hb.ss R4 h ⟨fun σ ρ H N R z => ⟨N, ρ, R, z⟩, fun v d σ ρ H N R z => L.rt _ _ _ _ _ _ R.under z, fun σ ρ H N R z => out R z, fun σ ρ H N R z => ⟨N, ρ, R, z⟩⟩
  · have ei : i = zs.length := by omega
    subst ei
    exact .inl ⟨it.2 _ rfl, out R2 (h2 _ j2)⟩
/-! ### while -/
def xWhile (U : XT) (S : XS) : XS := ⟨fun G ρ => ∃ (J : Ev → Prop) (μ : Ev → Nat), J ρ ∧ ∀ ρ, J ρ → U.f ρ fun k ρ1 => (k = true → S.f { nx := fun ρ' => J ρ' ∧ μ ρ' < μ ρ, ct := fun ρ' => J ρ' ∧ μ ρ' < μ ρ, bk := G.nx, rt := G.rt } ρ1) ∧ (k = false → G.nx ρ1),
  fun {G G' _} l h => by
    obtain ⟨J, μ, h0, h1⟩ := h
    exact ⟨J, μ, h0, fun ρ j => U.mono (fun k ρ1 h => ⟨fun z => S.mono (G := { nx := fun ρ' => J ρ' ∧ μ ρ' < μ ρ, ct := fun ρ' => J ρ' ∧ μ ρ' < μ ρ, bk := G.nx, rt := G.rt }) ⟨fun _ z => z, l.rt, l.nx, fun _ z => z⟩ (h.1 z), fun z => l.nx _ (h.2 z)⟩) (h1 ρ j)⟩⟩
theorem vs_while (hp : PassesOwn (model X.prog X.w) X.A X.env X.xe) (hc : VT X C c tA UA) (hb : VB X C sts t S) : VS X C (.While c sts [] pos) (tWhile tA t) (xWhile UA S) := by
  refine ⟨ps_while hp hc.pt hb.ps, fun {N σ ρ H vs ds E G} R q L => ?_⟩
  obtain ⟨J, μ, h0, h1⟩ := q
  refine ⟨fun m σ H => ∃ N ρ, Rl X.K C N σ ρ H [] [] vs ds ∧ J ρ ∧ m = μ ρ, ⟨_, N, ρ, R, h0, rfl⟩, ?_⟩
  rintro m σ1 H1 ⟨N1, ρ1, R1, j1, rfl⟩
  refine hc.st R1 (UA.mono (fun k ρ2 h N2 H2 R2 => ?_) (h1 ρ1 j1))
  cases k with
  | true =>
    refine iteT ⟨fun σ' H' => ∃ N ρ, Rl X.K C N σ' ρ H' [] [] vs ds ∧ J ρ ∧ μ ρ < μ ρ1, fun σ' H' ⟨N', ρ', R', j', l'⟩ => ⟨_, l', N', ρ', R', j', rfl⟩, ?_⟩
    exact hb.ss R2 (h.1 rfl) ⟨fun σ ρ H N R z => ⟨N, ρ, R, z.1, z.2⟩, fun v d σ ρ H N R z => L.rt _ _ _ _ _ _ R z, fun σ ρ H N R z => L.nx _ _ _ _ R z, fun σ ρ H N R z => ⟨N, ρ, R, z.1, z.2⟩⟩
  | false => exact iteF (L.nx _ _ _ _ R2 (h.2 rfl))

/-! ### list comprehensions -/
def wipeD (ρ : Ev) : List Nat → Ev
  | [] => ρ
  | v :: vs => (wipeD ρ vs).set v none
/-- the places of a comprehension's own names that hold something that owns nothing: it holds again behind -/
def heldD (ρ : Ev) : List Nat → List (Nat × D)
  | [] => []
  | i :: is => match ρ[i]? with
    | some (some d) => if d.sh = true then (i, d) :: heldD ρ is else heldD ρ is
    | _ => heldD ρ is
def backD : List (Nat × D) → Ev → Ev
  | [], ρ => ρ
  | (i, d) :: l, ρ => backD l (ρ.set i (some d))
end
section
variable {K : Fg} {C : Ct} {N : AS} {σ : Sts} {ρ : Ev} {H : Hp} {xs vs : List V} {es ds : List D} {v : V} {d : D}
theorem Rl.wipe {us : List Nat} (hp : ∀ i ∈ us, ∀ p ∈ C.prot, p.1 ≠ i) (R : Rl K C N σ ρ H xs es vs ds) : Rl K C N (L2.wipe σ us) (wipeD ρ us) H xs es vs ds := by
  induction us with
  | nil => exact R
  | cons i is ih => exact (ih fun j hj => hp j (List.mem_cons_of_mem _ hj)).forget none (hp i List.mem_cons_self)
theorem set_get {α : Type} {l : List α} {i : Nat} {x : α} (e : l[i]? = some x) : l.set i x = l := by
  apply List.ext_getElem?
  intro j
  by_cases hj : i = j
  · subst hj
    rw [List.getElem?_set_self (List.getElem?_eq_some_iff.mp e).1, e]
  · rw [List.getElem?_set_ne hj]
theorem Rl.unwipe : ∀ {us : List Nat} {σ : Sts}, (∀ i ∈ us, ∀ p ∈ C.prot, p.1 ≠ i) → (∀ i ∈ us, ρ.set i none = ρ) → Rl K C N (L2.wipe σ us) ρ H xs es vs ds → Rl K C N σ ρ H xs es vs ds
  | [], σ, _, _, R => R
  | i :: is, σ, hp, hn, R => by
    refine Rl.unwipe (us := is) (fun j hj => hp j (List.mem_cons_of_mem _ hj)) (fun j hj => hn j (List.mem_cons_of_mem _ hj)) ?_
    have R2 : Rl K C N ((L2.wipe σ is).set i none) ρ H xs es vs ds := R
    cases e : (L2.wipe σ is)[i]? with
    | none =>
      have hl : (L2.wipe σ is).length ≤ i := List.getElem?_eq_none_iff.mp e
      rw [List.set_eq_of_length_le hl] at R2
      exact R2
    | some s =>
      have R3 := R2.forget (i := i) s (hp i List.mem_cons_self)
      rw [List.set_set, set_get e, hn i List.mem_cons_self] at R3
      exact R3
theorem wipeD_set {ρ : Ev} : ∀ {us : List Nat}, ∀ i ∈ us, (wipeD ρ us).set i none = wipeD ρ us
  | [], _, h => by cases h
  | j :: js, i, h => by
    show ((wipeD ρ js).set j none).set i none = (wipeD ρ js).set j none
    by_cases e : i = j
    · subst e
      rw [List.set_set]
    · have hi : i ∈ js := by
        rcases List.mem_cons.mp h with z | z
        · exact absurd z e
        · exact z
      rw [List.set_comm _ _ (fun z => e z.symm), wipeD_set i hi]
theorem wipe_set {σ : Sts} {x : Option V} : ∀ {us : List Nat} {i : Nat}, i ∈ us → L2.wipe (σ.set i x) us = L2.wipe σ us
  | [], _, h => by cases h
  | j :: js, i, h => by
    show (L2.wipe (σ.set i x) js).set j none = (L2.wipe σ js).set j none
    by_cases hi : i ∈ js
    · rw [wipe_set hi]
    · have e : i = j := by
        rcases List.mem_cons.mp h with z | z
        · exact z
        · exact absurd z hi
      subst e
      have hw : ∀ (l : List Nat), i ∉ l → L2.wipe (σ.set i x) l = (L2.wipe σ l).set i x := by
        intro l
        induction l with
        | nil => intro _; rfl
        | cons k ks ih =>
          intro hk
          have h1 : i ≠ k := fun z => hk (z ▸ List.mem_cons_self)
          show (L2.wipe (σ.set i x) ks).set k none = ((L2.wipe σ ks).set k none).set i x
          rw [ih fun z => hk (List.mem_cons_of_mem _ z), List.set_comm _ _ h1]
      rw [hw js hi, List.set_set]
theorem wipe_wipe {σ : Sts} {us : List Nat} : L2.wipe (L2.wipe σ us) us = L2.wipe σ us := by
  have h : ∀ (l : List Nat), (∀ i ∈ l, i ∈ us) → L2.wipe (L2.wipe σ l) us = L2.wipe σ us := by
    intro l
    induction l with
    | nil => intro _; rfl
    | cons k ks ih =>
      intro hk
      show L2.wipe ((L2.wipe σ ks).set k none) us = _
      rw [wipe_set (hk k List.mem_cons_self), ih fun i hi => hk i (List.mem_cons_of_mem _ hi)]
  exact h us fun _ z => z
/-- a value that owns nothing goes back to its slot, out of what waits -/
theorem Rl.giveU {i : Nat} (R : Rl K C N σ ρ H xs es (v :: vs) (d :: ds)) (e : σ[i]? = some (some v)) (hs : d.sh = true) : Rl K C N σ (ρ.set i (some d)) H xs es vs ds := by
  have R1 := R.under
  obtain ⟨A, B1, B2, hA, h1, h2, d1, d2, ow⟩ := R.ex
  obtain ⟨v', vr, A1, A2, ev, r1, r2, s1, s2, dj⟩ := h2
  cases ev
  have hl : i < ρ.length := by
    rw [hA.length]
    exact (List.getElem?_eq_some_iff.mp e).1
  have h0 : Sl K N H (ρ.set i none) σ A := by
    have q := hA.drop i (some v)
    rw [set_get e] at q
    exact q
  have h3 := (Sl.put h0 hl e (r1.share hs) fun x z => z.elim).up (A' := A) fun x z => z.elim (fun z => z) fun z => z.elim
  refine ⟨⟨A, B1, A2, h3, h1, r2, fun x q => ⟨(d1 x q).1, fun z => (d1 x q).2 (s2 x z)⟩, fun x q z => d2 x q (s2 x z), fun x q => ow x ?_⟩, R.nh, R.h0, R.n0, R.fr, R.xt, R.pr, R.dm⟩
  rcases q with q | q | q
  · exact .inl q
  · exact .inr (.inl q)
  · exact .inr (.inr (s2 x q))
def HeldAt (σ : Sts) : List (Nat × D) → List V → Prop
  | [], hv => hv = []
  | (i, d) :: l, hv => ∃ v r, hv = v :: r ∧ σ[i]? = some (some v) ∧ d.sh = true ∧ HeldAt σ l r
theorem Rl.hold : ∀ (us : List Nat), Rl K C N σ ρ H [] [] vs ds → ∃ hv, HeldAt σ (heldD ρ us) hv ∧ hv.length = ((heldD ρ us).map (·.2)).length ∧ Rl K C N σ ρ H [] [] (hv ++ vs) ((heldD ρ us).map (·.2) ++ ds)
  | [], R => ⟨[], rfl, rfl, R⟩
  | i :: is, R => by
    obtain ⟨hv, h1, h2, R1⟩ := Rl.hold is R
    unfold heldD
    cases e : ρ[i]? with
    | none => exact ⟨hv, h1, h2, R1⟩
    | some o =>
      cases o with
      | none => exact ⟨hv, h1, h2, R1⟩
      | some d =>
        by_cases hs : d.sh = true
        · obtain ⟨v, e1, r⟩ := R1.get e hs
          refine ⟨v :: hv, ?_, ?_, ?_⟩
          · show HeldAt σ (if d.sh = true then (i, d) :: heldD ρ is else heldD ρ is) (v :: hv)
            rw [if_pos hs]
            exact ⟨v, hv, rfl, e1, hs, h1⟩
          · show _ = ((if d.sh = true then (i, d) :: heldD ρ is else heldD ρ is).map (·.2)).length
            rw [if_pos hs, List.map_cons, List.length_cons, List.length_cons, h2]
          · show Rl K C N σ ρ H [] [] (v :: hv ++ vs) ((if d.sh = true then (i, d) :: heldD ρ is else heldD ρ is).map (·.2) ++ ds)
            rw [if_pos hs]
            exact (R1.res r).park
        · refine ⟨hv, ?_, ?_, ?_⟩
          · show HeldAt σ (if d.sh = true then (i, d) :: heldD ρ is else heldD ρ is) hv
            rw [if_neg hs]
            exact h1
          · show _ = ((if d.sh = true then (i, d) :: heldD ρ is else heldD ρ is).map (·.2)).length
            rw [if_neg hs]
            exact h2
          · show Rl K C N σ ρ H [] [] (hv ++ vs) ((if d.sh = true then (i, d) :: heldD ρ is else heldD ρ is).map (·.2) ++ ds)
            rw [if_neg hs]
            exact R1
theorem Rl.backs : ∀ {l : List (Nat × D)} {hv : List V} {ρ : Ev}, HeldAt σ l hv → Rl K C N σ ρ H xs es (hv ++ vs) (l.map (·.2) ++ ds) → Rl K C N σ (backD l ρ) H xs es vs ds
  | [], hv, ρ, h, R => by
    cases (show hv = [] from h)
    exact R
  | (i, d) :: l, hv, ρ, h, R => by
    obtain ⟨v, r, rfl, e, hs, h⟩ := h
    exact Rl.backs (l := l) h (R.giveU e hs)
end
/-- the target of a comprehension stores its own names alone -/
def GW (us : List Nat) (g : TG) : Prop := ∀ v σ H Q Q', (∀ σ2 H2, L2.wipe σ2 us = L2.wipe σ us → Q σ2 H2 → Q' σ2 H2) → g v σ H Q → g v σ H Q'
def GWs (us : List Nat) (g : TGs) : Prop := ∀ v σ H Q Q', (∀ σ2 H2, L2.wipe σ2 us = L2.wipe σ us → Q σ2 H2 → Q' σ2 H2) → g v σ H Q → g v σ H Q'
theorem gw_name {us : List Nat} {i : Nat} (h : i ∈ us := by decide) : GW us (gName i) := fun v σ H Q Q' m q => m _ _ (wipe_set h) q
theorem gw_nil {us : List Nat} : GWs us gNil := fun v σ H Q Q' m q => ⟨q.1, m _ _ rfl q.2⟩
theorem gw_cons {us : List Nat} {g : TG} {gs : TGs} (h1 : GW us g) (h2 : GWs us gs) : GWs us (gCons g gs) := fun vs σ H Q Q' m q => by
  obtain ⟨v, r, e, q⟩ := q
  exact ⟨v, r, e, h1 _ _ _ _ _ (fun σ2 H2 e2 q => h2 _ _ _ _ _ (fun σ3 H3 e3 q => m _ _ (e3.trans e2) q) q) q⟩
theorem gw_tup {us : List Nat} {K : Fg} {n : Nat} {gs : TGs} (h : GWs us gs) : GW us (gTup K n gs) := fun v σ H Q Q' m q => by
  obtain ⟨a, xs, e, hs, hl, q⟩ := q
  exact ⟨a, xs, e, hs, hl, h _ _ _ _ _ m q⟩
section
variable {X : Cx} {C : Ct} {a b c e tg iter elt : Expr} {es ifs : List Expr} {ta tb tc te : TE} {Ta Tb Tc Te : XE} {tA tt : TT} {UA Ut : XT} {pos p p2 : Pos} {g : TG} {Tg : XG} {wi : TI} {Ti : XI}
structure VTs (X : Cx) (C : Ct) (ifs : List Expr) (t : TT) (T : XT) : Prop where
  pt : PTs X ifs t
  st : ∀ {N : AS} {σ : Sts} {ρ : Ev} {H : Hp} {vs : List V} {ds : List D} {Q : Bool → Hp → Prop}, Rl X.K C N σ ρ H [] [] vs ds → T.f ρ (fun b ρ' => ∀ N' H', Rl X.K C N' σ ρ' H' [] [] vs ds → Q b H') → t σ H Q
def xYes : XT := ⟨fun ρ Q => Q true ρ, fun m q => m _ _ q⟩
theorem vts_nil : VTs X C [] tYes xYes := ⟨pts_nil, fun R q => q _ _ R⟩
theorem vts_one (h : VT X C c tA UA) : VTs X C [c] tA UA := ⟨pts_one h.pt, h.st⟩
def xLc (I : XI) (U : XG) (W : XT) (T : XE) (us : List Nat) : XE := ⟨fun ρ Q => I.f ρ fun zs ρ1 => ∃ J : Nat → List D → Ev → Prop, J 0 [] (wipeD ρ1 us) ∧
    (∀ k z acc ρ2, zs[k]? = some z → J k acc ρ2 → U.f z ρ2 fun ρ3 => W.f ρ3 fun b ρ4 => (b = true → T.f ρ4 fun d ρ5 => acc.length < sizeLine ∧ J (k + 1) (acc ++ [d]) (wipeD ρ5 us)) ∧ (b = false → J (k + 1) acc (wipeD ρ4 us))) ∧
    ∀ acc ρ', J zs.length acc ρ' → Q (.own acc) (backD (heldD ρ1 us) ρ'),
  fun m q => I.mono (fun _ _ h => by
    obtain ⟨J, h0, h1, h2⟩ := h
    exact ⟨J, h0, h1, fun acc ρ' j => m _ _ (h2 acc ρ' j)⟩) q⟩
theorem se_lc {K : Fg} {us : List Nat} {ios : List Nat} (hC : ∀ p ∈ C.prot, p.1 ∈ ios) (hu : ∀ i ∈ us, i ∉ ios) (hi : ∀ {N : AS} {σ : Sts} {ρ : Ev} {H : Hp} {vs : List V} {ds : List D} {R : It → Hp → Prop}, Rl K C N σ ρ H [] [] vs ds →
    Ti.f ρ (fun zs ρ' => ∀ J N' H' pv pd, Rl K C N' σ ρ' H' [] [] (pv :: vs) (pd :: ds) → ItD K C J zs pv pd → R J H') → wi σ H R)
    (hg : ∀ {N : AS} {σ : Sts} {ρ : Ev} {H : Hp} {v : V} {d : D} {vs : List V} {ds : List D} {Q : Sts → Hp → Prop}, Rl K C N σ ρ H [v] [d] vs ds → Tg.f d ρ (fun ρ' => ∀ N' σ' H', Rl K C N' σ' ρ' H' [] [] vs ds → Q σ' H') → g v σ H Q)
    (gw : GW us g) (ht : ∀ {N : AS} {σ : Sts} {ρ : Ev} {H : Hp} {vs : List V} {ds : List D} {Q : Bool → Hp → Prop}, Rl K C N σ ρ H [] [] vs ds → Ut.f ρ (fun b ρ' => ∀ N' H', Rl K C N' σ ρ' H' [] [] vs ds → Q b H') → tt σ H Q)
    (he : ∀ {N : AS} {σ : Sts} {ρ : Ev} {H : Hp} {vs : List V} {ds : List D} {Q : VK}, Rl K C N σ ρ H [] [] vs ds → Te.f ρ (fun d ρ' => ∀ v N' H', Rl K C N' σ ρ' H' [v] [d] vs ds → Q v H') → te σ H Q)
    {N : AS} {σ : Sts} {ρ : Ev} {H : Hp} {vs : List V} {ds : List D} {Q : VK} (R : Rl K C N σ ρ H [] [] vs ds) (q : (xLc Ti Tg Ut Te us).f ρ (fun d ρ' => ∀ v N' H', Rl K C N' σ ρ' H' [v] [d] vs ds → Q v H')) : tLc wi g tt te us σ H Q := by
  have hp : ∀ i ∈ us, ∀ p ∈ C.prot, p.1 ≠ i := fun i hi => notProt hC (hu i hi)
  refine hi R (Ti.mono (fun zs ρ1 h J N1 H1 pv pd R1 itd => ?_) q)
  obtain ⟨I, h0, h1, h2⟩ := h
  intro L nL
  obtain ⟨hv, ha, hl, R2⟩ := R1.hold us
  have R3 := ((R2.allocN (zs := []) (fs := []) nL rfl).park).wipe (us := us) hp
  refine ⟨fun i m H => m = zs.length - i ∧ i ≤ zs.length ∧ ∃ N acc ρ, Rl K C N (L2.wipe σ us) ρ H [] [] (.ref L :: hv ++ pv :: vs) (.own acc :: (heldD ρ1 us).map (·.2) ++ pd :: ds) ∧ (∀ i ∈ us, ρ.set i none = ρ) ∧ I i acc ρ,
    ⟨_, rfl, Nat.zero_le _, _, [], _, R3, fun i hi => wipeD_set i hi, h0⟩, ?_⟩
  rintro i m H2 ⟨rfl, hi', N2, acc, ρ2, R2, hn, j2⟩
  have it := itd (us := .ref L :: hv) (fs := .own acc :: (heldD ρ1 us).map (·.2)) (congrArg (· + 1) hl) R2
  by_cases hlt : i < zs.length
  · obtain ⟨go, yl⟩ := it.1 i zs[i] (List.getElem?_eq_getElem hlt)
    refine .inr ⟨go, fun H' => ∃ N acc ρ, Rl K C N (L2.wipe σ us) ρ H' [] [] (.ref L :: hv ++ pv :: vs) (.own acc :: (heldD ρ1 us).map (·.2) ++ pd :: ds) ∧ (∀ i ∈ us, ρ.set i none = ρ) ∧ I (i + 1) acc ρ,
      fun H' z => ⟨zs.length - (i + 1), by omega, rfl, hlt, z⟩, fun x H' hy => ?_⟩
    obtain ⟨N3, R3⟩ := yl x H' hy
    refine gw _ _ _ _ _ (fun σ2 H2 e2 z => ⟨by rw [e2, wipe_wipe], z.2 (by rw [e2, wipe_wipe])⟩) (hg (Q := fun σ2 H2 => True ∧ (L2.wipe σ2 us = L2.wipe σ us → tt σ2 H2 _)) R3 (Tg.mono (fun ρ4 h N4 σ4 H4 R4 => ⟨True.intro, fun e4 => ?_⟩) (h1 i zs[i] acc ρ2 (List.getElem?_eq_getElem hlt) j2)))
    refine ht R4 (Ut.mono (fun b ρ5 h N5 H5 R5 => ?_) h)
    cases b with
    | false =>
      refine iteF ⟨N5, acc, wipeD ρ5 us, ?_, fun i hi => wipeD_set i hi, h.2 rfl⟩
      have := R5.wipe (us := us) hp
      rw [e4] at this
      exact this
    | true =>
      refine iteT (he R5 (Te.mono (fun d ρ6 h y N6 H6 R6 => ?_) (h.1 rfl)))
      have R7 := R6.cons
      obtain ⟨a', us', B', e', ha', r'⟩ := R7.ownAt
      cases e'
      refine ⟨us', ha', by rw [← r'.length]; exact h.1, N6, acc ++ [d], wipeD ρ6 us, ?_, fun i hi => wipeD_set i hi, h.2⟩
      have := (R7.app ha').park.wipe (us := us) hp
      rw [e4] at this
      exact this
  · have ei : i = zs.length := by omega
    subst ei
    refine .inl ⟨it.2 _ rfl, h2 _ _ j2 _ N2 _ ?_⟩
    have R4 := (R2.unwipe hp hn).cons
    exact (Rl.backs ha R4).under
/-- a reading for each way to stand in the block -/
def allE (te : Shared → Hp → Addr → List (Str × Addr) → List Addr → TE) : TE := fun σ H Q => ∀ s H0 C' cl fp, te s H0 C' cl fp σ H Q
def allT (te : Shared → Hp → Addr → List (Str × Addr) → List Addr → TT) : TT := fun σ H Q => ∀ s H0 C' cl fp, te s H0 C' cl fp σ H Q
def allG (te : Shared → Hp → Addr → List (Str × Addr) → List Addr → TG) : TG := fun v σ H Q => ∀ s H0 C' cl fp, te s H0 C' cl fp v σ H Q
theorem gw_all {us : List Nat} {g : Shared → Hp → Addr → List (Str × Addr) → List Addr → TG} (h : ∀ s H C' cl fp, GW us (g s H C' cl fp)) : GW us (allG g) := fun v σ H Q Q' m q s H0 C' cl fp => h s H0 C' cl fp v σ H Q Q' m (q s H0 C' cl fp)
theorem pe_imp {X : Cx} {e : Expr} {t t' : TE} (h : PE X e t) (i : ∀ σ H Q, t' σ H Q → t σ H Q) : PE X e t' := ⟨fun pins s σ H Q I q => h.run pins s σ H Q I (i σ H Q q)⟩
theorem pts_imp {X : Cx} {e : List Expr} {t t' : TT} (h : PTs X e t) (i : ∀ σ H Q, t' σ H Q → t σ H Q) : PTs X e t' := ⟨fun pins s σ H Q I q => h.run pins s σ H Q I (i σ H Q q)⟩
theorem pg_imp {X : Cx} {e : Expr} {t t' : TG} (h : PG X e t) (i : ∀ v σ H Q, t' v σ H Q → t v σ H Q) : PG X e t' := ⟨fun pins s σ H v u Q I r q => h.run pins s σ H v u Q I r (i v σ H Q q)⟩
variable {eF : Shared → Hp → Addr → List (Str × Addr) → List Addr → TE} {tF : Shared → Hp → Addr → List (Str × Addr) → List Addr → TT} {gF : Shared → Hp → Addr → List (Str × Addr) → List Addr → TG}
theorem ve_lc {scope : Scope} {own : List (Str × Nat)} {ios : List Nat} (hc : X.calm = true) (hN : X.N.Nodup) (ok : BlkOk X.N X.env.scope scope own) (hC : ∀ p ∈ C.prot, p.1 ∈ ios) (hu : ∀ i ∈ own.map (·.2), i ∉ ios) (hi : VI X C tg iter wi Ti) (gw : ∀ (s : Shared) (H : Hp) (C' : Addr) (cl : List (Str × Addr)) (fp : List Addr), GW (own.map (·.2)) (gF s H C' cl fp))
    (hg : ∀ (s : Shared) (H : Hp) (C' : Addr) (cl : List (Str × Addr)) (fp : List Addr), VG (X.blk s H scope (compEnvC scope cl C' X.env) fp) C tg (gF s H C' cl fp) Tg) (ht : ∀ (s : Shared) (H : Hp) (C' : Addr) (cl : List (Str × Addr)) (fp : List Addr), VTs (X.blk s H scope (compEnvC scope cl C' X.env) fp) C ifs (tF s H C' cl fp) Ut)
    (he : ∀ (s : Shared) (H : Hp) (C' : Addr) (cl : List (Str × Addr)) (fp : List Addr), VE (X.blk s H scope (compEnvC scope cl C' X.env) fp) C elt (eF s H C' cl fp) Te) (hs : ∀ x, foldedSetIterable iter X.env x = pure x := by intro _; rfl)  :
    VE X C (.ListComp elt [⟨tg, iter, ifs, 0⟩] scope pos) (tLc wi (allG gF) (allT tF) (allE eF) (own.map (·.2))) (xLc Ti Tg Ut Te (own.map (·.2))) :=
  ⟨pe_lc hc hN hi.pi ok (fun s H C' cl fp => pg_imp (hg s H C' cl fp).pg fun v σ H2 Q z => z s H C' cl fp) (fun s H C' cl fp => pts_imp (ht s H C' cl fp).pt fun σ H2 Q z => z s H C' cl fp) (fun s H C' cl fp => pe_imp (he s H C' cl fp).pe fun σ H2 Q z => z s H C' cl fp) hs, fun R q =>
    se_lc hC hu (fun R => hi.si R) (fun R q s H C' cl fp => (hg s H C' cl fp).sg R q) (gw_all gw) (fun R q s H C' cl fp => (ht s H C' cl fp).st R q) (fun R q s H C' cl fp => (he s H C' cl fp).se R q) R q⟩
/-- name = [..] on one line -/
theorem vs_setLc {i : Nat} {y : Str} {py spos : Pos} {scope : Scope} {own : List (Str × Nat)} {ios : List Nat} (hc : X.calm = true) (hN : X.N.Nodup) (hy : X.N[i]? = some y) (hyl : X.env.scope.names.lookup y = some .local) (hsw : swapsWith (.ListComp elt [⟨tg, iter, ifs, 0⟩] scope pos) (some (.Name y py)) spos.line X.env = pure true)
    (ok : BlkOk X.N X.env.scope scope own) (hC : ∀ p ∈ C.prot, p.1 ∈ ios) (hu : ∀ i ∈ own.map (·.2), i ∉ ios) (hi : VI X C tg iter wi Ti) (gw : ∀ (s : Shared) (H : Hp) (C' : Addr) (cl : List (Str × Addr)) (fp : List Addr), GW (own.map (·.2)) (gF s H C' cl fp))
    (hg : ∀ (s : Shared) (H : Hp) (C' : Addr) (cl : List (Str × Addr)) (fp : List Addr), VG (X.blk s H scope (compEnvC scope cl C' X.env) fp) C tg (gF s H C' cl fp) Tg) (ht : ∀ (s : Shared) (H : Hp) (C' : Addr) (cl : List (Str × Addr)) (fp : List Addr), VTs (X.blk s H scope (compEnvC scope cl C' X.env) fp) C ifs (tF s H C' cl fp) Ut)
    (he : ∀ (s : Shared) (H : Hp) (C' : Addr) (cl : List (Str × Addr)) (fp : List Addr), VE (X.blk s H scope (compEnvC scope cl C' X.env) fp) C elt (eF s H C' cl fp) Te) (hio : i ∉ ios := by decide) (hs : ∀ x, foldedSetIterable iter X.env x = pure x := by intro _; rfl)  :
    VS X C (.Assign [.Name y py] (.ListComp elt [⟨tg, iter, ifs, 0⟩] scope pos) spos) (tAsg (tLc wi (allG gF) (allT tF) (allE eF) (own.map (·.2))) (gName i)) (xAsg (xLc Ti Tg Ut Te (own.map (·.2))) (xgName i)) :=
  ⟨ps_setLc hc hN hy hyl hsw hi.pi ok (fun s H C' cl fp => pg_imp (hg s H C' cl fp).pg fun v σ H2 Q z => z s H C' cl fp) (fun s H C' cl fp => pts_imp (ht s H C' cl fp).pt fun σ H2 Q z => z s H C' cl fp) (fun s H C' cl fp => pe_imp (he s H C' cl fp).pe fun σ H2 Q z => z s H C' cl fp) hs, fun {N σ ρ H vs ds E G} R q L =>
    se_lc hC hu (fun R => hi.si R) (fun R q s H C' cl fp => (hg s H C' cl fp).sg R q) (gw_all gw) (fun R q s H C' cl fp => (ht s H C' cl fp).st R q) (fun R q s H C' cl fp => (he s H C' cl fp).se R q) R
      ((xLc Ti Tg Ut Te (own.map fun p : Str × Nat => p.2)).mono (ρ := ρ) (Q := fun d ρ1 => G.nx (ρ1.set i (some d))) (fun d ρ1 h v N' H' R' => L.nx _ _ _ _ (R'.storeA (notProt hC hio)) h) q)⟩
/-- .. a list that nobody will change -/
theorem vs_setLcF {i : Nat} {y : Str} {py spos : Pos} {scope : Scope} {own : List (Str × Nat)} {ios : List Nat} (hc : X.calm = true) (hN : X.N.Nodup) (hy : X.N[i]? = some y) (hyl : X.env.scope.names.lookup y = some .local) (hsw : swapsWith (.ListComp elt [⟨tg, iter, ifs, 0⟩] scope pos) (some (.Name y py)) spos.line X.env = pure true)
    (ok : BlkOk X.N X.env.scope scope own) (hC : ∀ p ∈ C.prot, p.1 ∈ ios) (hu : ∀ i ∈ own.map (·.2), i ∉ ios) (hi : VI X C tg iter wi Ti) (gw : ∀ (s : Shared) (H : Hp) (C' : Addr) (cl : List (Str × Addr)) (fp : List Addr), GW (own.map (·.2)) (gF s H C' cl fp))
    (hg : ∀ (s : Shared) (H : Hp) (C' : Addr) (cl : List (Str × Addr)) (fp : List Addr), VG (X.blk s H scope (compEnvC scope cl C' X.env) fp) C tg (gF s H C' cl fp) Tg) (ht : ∀ (s : Shared) (H : Hp) (C' : Addr) (cl : List (Str × Addr)) (fp : List Addr), VTs (X.blk s H scope (compEnvC scope cl C' X.env) fp) C ifs (tF s H C' cl fp) Ut)
    (he : ∀ (s : Shared) (H : Hp) (C' : Addr) (cl : List (Str × Addr)) (fp : List Addr), VE (X.blk s H scope (compEnvC scope cl C' X.env) fp) C elt (eF s H C' cl fp) Te) (hio : i ∉ ios := by decide) (hs : ∀ x, foldedSetIterable iter X.env x = pure x := by intro _; rfl)  :
    VS X C (.Assign [.Name y py] (.ListComp elt [⟨tg, iter, ifs, 0⟩] scope pos) spos) (tAsg (tLc wi (allG gF) (allT tF) (allE eF) (own.map (·.2))) (gName i)) (xAsg (xFrz (xLc Ti Tg Ut Te (own.map (·.2)))) (xgName i)) :=
  ⟨ps_setLc hc hN hy hyl hsw hi.pi ok (fun s H C' cl fp => pg_imp (hg s H C' cl fp).pg fun v σ H2 Q z => z s H C' cl fp) (fun s H C' cl fp => pts_imp (ht s H C' cl fp).pt fun σ H2 Q z => z s H C' cl fp) (fun s H C' cl fp => pe_imp (he s H C' cl fp).pe fun σ H2 Q z => z s H C' cl fp) hs, fun {N σ ρ H vs ds E G} R q L =>
    se_lc hC hu (fun R => hi.si R) (fun R q s H C' cl fp => (hg s H C' cl fp).sg R q) (gw_all gw) (fun R q s H C' cl fp => (ht s H C' cl fp).st R q) (fun R q s H C' cl fp => (he s H C' cl fp).se R q) R
      ((xLc Ti Tg Ut Te (own.map fun p : Str × Nat => p.2)).mono (ρ := ρ) (Q := fun d ρ1 => (∀ ds, d = .own ds → ds.all D.sh = true ∧ G.nx (ρ1.set i (some (.lst ds)))) ∧ (d.sh = true → G.nx (ρ1.set i (some d)))) (fun d ρ1 h v N' H' R' => by
        obtain ⟨N2, R2⟩ := R'.frz
        by_cases hs : d.sh = true
        · rw [D.frz_sh hs] at R2
          exact L.nx _ _ _ _ (R2.storeA (notProt hC hio)) (h.2 hs)
        · cases d with
          | own ds =>
            obtain ⟨h1, h2⟩ := h.1 ds rfl
            have e : (D.own ds).frz = .lst ds := by
              show D.lst (D.frzs ds) = _
              rw [D.frzs_sh h1]
            rw [e] at R2
            exact L.nx _ _ _ _ (R2.storeA (notProt hC hio)) h2
          | _ => exact absurd rfl hs) q)⟩
end
end BV

/-! BV, part J: isinstance, products, in, slices, keywords, enumerate of tuples, places within owned lists. -/
namespace PySem
open Sem (wp)
set_option maxHeartbeats 1000000 in
theorem bv_meets_enum1 {v : Value} {o : Obj} {H : Heap → Prop} (B : Begins v o H) :
    Meets (Builtin.«enumerate.__new__» ⟨[.type "enumerate", v], []⟩) (fun _ R s => H s.heap ∧
      R (.ok (.ret (.ref (s.heap.push o).objs.size))) { s with heap := (s.heap.push o).push { cls := .type "enumerate", data := .fields #[.none, .bool false, .ref s.heap.objs.size, rawInt 0, .none, .none] } }) :=
  .of_wp fun prog w A R s h => by
    obtain ⟨hp, g, d, tk, os⟩ := s; obtain ⟨h1, h⟩ := h
    have hsub := sub_enumerate
    have q1 : ∀ {A' : Around} {E : Value → Shared → Prop} {Q : Value → Shared → Prop}, Q (.ref hp.objs.size) ⟨hp.push o, g, d, tk, os⟩ → wpAny (model prog w) A' (pyIter v) Q E ⟨hp, g, d, tk, os⟩ :=
      fun q => B.iter prog w _ _ ⟨hp, g, d, tk, os⟩ _ h1 q
    wp_walk using q1
    refine wpAny_stack_any fun st => wpAny_pure ?_
    split
    · rename_i c _ _ _ _ _
      cases (c == Value.type "enumerate")
      · wp_walk using q1
        exact ⟨_, rfl, h⟩
      · wp_walk using q1
        exact ⟨_, rfl, h⟩
    · wp_walk using q1
      exact ⟨_, rfl, h⟩
theorem bv_enum1 {prog : Program} {w : World} {A : Around} {E : Value → Shared → Prop} {s : Shared} {v : Value} {o : Obj} {H : Heap → Prop} {Q : Value → Shared → Prop} (B : Begins v o H) (h1 : H s.heap)
    (h : ∀ h', IsEnum h' (s.heap.objs.size + 1) s.heap.objs.size 0 .none → h'.get? s.heap.objs.size = some o → h'.objs.size = s.heap.objs.size + 2 →
      (∀ b o, s.heap.get? b = some o → h'.get? b = some o) → Q (.ref (s.heap.objs.size + 1)) { s with heap := h' }) :
    wpAny (model prog w) A (call (.type "enumerate") [v]) Q E s := by
  refine callType_new F.called_enumerate (by decide) (F.typeCall_enumerate_1 _) (F.newCall_enumerate_1 _) (fun obj => F.args_object_init_2 obj _) F.entry_enumerate_new
    (bv_meets_enum1 B) ⟨h1, ?_⟩
  have hz : (s.heap.push o).objs.size = s.heap.objs.size + 1 := Heap.size_push ..
  show _ ∧ _
  rw [hz]
  have he : IsEnum ((s.heap.push o).push { cls := .type "enumerate", data := .fields #[.none, .bool false, .ref s.heap.objs.size, rawInt 0, .none, .none] }) (s.heap.objs.size + 1) s.heap.objs.size 0 .none := by
    have := Heap.get?_push_size (s.heap.push o) (o := { cls := .type "enumerate", data := .fields #[.none, .bool false, .ref s.heap.objs.size, rawInt 0, .none, .none] }) rfl
    rw [hz] at this; exact this
  refine ⟨⟨_, he, rfl⟩, h _ he (Heap.get?_push_of_some _ (Heap.get?_push_size _ B.free)) (by rw [Heap.size_push, hz]) fun b o x => Heap.get?_push_of_some _ (Heap.get?_push_of_some _ x)⟩
end PySem
namespace BV
open PySem PySem.Spec PyProof.Rows L2

/-! ### enumerate(a tuple) -/
def IteT (K : Fg) (a : Addr) : It :=
  ⟨fun i H => ∃ (xs : List V) (x : V), SqT K H a xs ∧ xs[i]? = some x, fun i H v H' => ∃ T x, v = .ref T ∧ H T = none ∧ H' = upd H T (.tup [.int (i : Nat), x]) ∧ ∀ xs, SqT K H a xs → xs[i]? = some x, fun i H => ∃ xs : List V, SqT K H a xs ∧ xs.length = i⟩
theorem turn_enumT {P : Program} {w : World} {K : Fg} {elts : List Expr} {kk : Nat} {tpos : Pos} (a e it : Addr) :
    Turn P w K (.Tuple elts kk tpos) (IteT K a) [e, it] e (fun i h => (∃ old, IsEnum h e it ((i : Nat) : Int) old) ∧ h.IsTupleIter it a i ∧ e ≠ it) where
  mem := by simp
  obj := fun i h st b hb => by
    obtain ⟨⟨old, he⟩, ⟨o, ho, hc, hd⟩, _⟩ := st
    have e' : b = e ∨ b = it := by simpa using hb
    rcases e' with z | z
    · rw [z]; exact ⟨_, he, fun v q => nomatch q⟩
    · rw [z]; exact ⟨o, ho, fun v q => by rw [hd] at q; cases q⟩
  keep := fun i h h' st k => let ⟨⟨old, he⟩, hi, hne⟩ := st; ⟨⟨old, k e (by simp) _ he⟩, hi.at fun o q => k it (by simp) o q, hne⟩
  item := by
    intro X hP hw hK hc i pins s σ H E I hf st hg
    subst hP hw hK
    obtain ⟨⟨old, he⟩, hit, hne⟩ := st
    obtain ⟨xs, x, hq, hx⟩ := hg
    obtain ⟨its, rv, p, hz⟩ := I.tuple hq
    obtain ⟨u, hu, ru⟩ := rv.get hx
    have hel : e < s.heap.objs.size := Heap.lt_size he
    have hil : it < s.heap.objs.size := by obtain ⟨_, q, _⟩ := hit; exact Heap.lt_size q
    have nit : a ≠ it := fun z => by
      obtain ⟨o1, g1, c1, _⟩ := hit
      obtain ⟨o2, g2, c2, _⟩ := p
      rw [z, g1] at g2
      cases g2
      have c3 := c1.symm.trans c2
      injection c3 with c4
      exact absurd c4 (by decide)
    have nea : e ≠ a := fun z => by
      obtain ⟨o2, g2, c2, _⟩ := p
      have g1 : s.heap.get? e = some _ := he
      rw [z, g2] at g1
      cases g1
      injection c2 with c4
      exact absurd c4 (by decide)
    have hl := rv.length
    have hi' : i < xs.length := (List.getElem?_eq_some_iff.mp hx).1
    refine wpAny_pyNext_enum_itemC (Draws.tuple (A := X.A.in1) (show X.A.in1.handled = none from I.ok.hd hc) it a nit its.toArray) he ⟨hit, p⟩ (by simp; omega) hne (by simp; exact ⟨hne, nea⟩) fun u' h' tk hP ho hst hT hsz hk => ?_
    have hu' : u' = u := by
      have e1 : its[i]? = some u' := by simpa using hP
      rw [hu] at e1
      exact (Option.some.inj e1).symm
    subst hu'
    obtain ⟨hit', _⟩ := hst
    refine ⟨_, rfl, wpAny_letOwnedTupleGo_enum (s := { s with heap := h', toks := tk + 1 }) ho fun h'' he' sb => ?_⟩
    have hT2 : h''.get? s.heap.objs.size = some { cls := .type "tuple", data := .seq #[.int i tk, u'] } := (sb.2 _ (Nat.ne_of_gt hel)).trans hT
    have new : ObjOk X.prog X.w (upd H s.heap.objs.size (.tup [.int (i : Nat), x])) h'' s.heap.objs.size (.tup [.int (i : Nat), x]) :=
      ⟨by show 2 ≤ sizeLine; decide, [.int i tk, u'], .cons ⟨_, rfl⟩ (.cons ru .nil), ⟨_, hT2, rfl, _, rfl⟩⟩
    have I1 : Inv X pins σ (upd H s.heap.objs.size (.tup [.int (i : Nat), x])) { s with heap := h'', toks := tk + 1 } :=
      I.turnedNew (ch := [e, it]) (fun b ob hb q => (sb.2 b (fun z => hb (by simp [z]))).trans (hk b ob (fun z => hb (by simp [z])) (fun z => hb (by simp [z])) q)) hf (Nat.le_refl _) new
    refine ⟨.ref s.heap.objs.size, _, I1, rfl, ⟨_, x, rfl, I.hok.fresh (Nat.le_refl _), rfl, fun ys hy => by rw [I.tuple_inj hy hq]; exact hx⟩, ⟨⟨u', ?_⟩, hit'.at fun o q => (sb.2 it (Ne.symm hne)).trans q, hne⟩, fun b hb => ?_⟩
    · have e1 : ((i + 1 : Nat) : Int) = (i : Int) + 1 := by omega
      rw [e1]; exact he'
    · have hb' : b < s.heap.objs.size := by
        have e' : b = e ∨ b = it := by simpa using hb
        rcases e' with z | z
        · rw [z]; exact hel
        · rw [z]; exact hil
      rw [upd_ne (Nat.ne_of_lt hb')]
      exact (hf b hb).1
  done := by
    intro X hP hw hK hc i pins s σ H E I hf st hg
    subst hP hw hK
    obtain ⟨⟨old, he⟩, hit, hne⟩ := st
    obtain ⟨xs, hq, hx⟩ := hg
    obtain ⟨its, rv, p, hz⟩ := I.tuple hq
    obtain ⟨f0, f1, f2, f3, f4, f5⟩ := hf it (by simp)
    have hl := rv.length
    have nit : a ≠ it := fun z => by
      obtain ⟨o1, g1, c1, _⟩ := hit
      obtain ⟨o2, g2, c2, _⟩ := p
      rw [z, g1] at g2
      cases g2
      have c3 := c1.symm.trans c2
      injection c3 with c4
      exact absurd c4 (by decide)
    have ei : i = its.toArray.size := by simp; omega
    rw [ei] at hit
    exact wpAny_pyNext_enum_endD (Draws.tuple (A := X.A.in1) (show X.A.in1.handled = none from I.ok.hd hc) it a nit its.toArray) he ⟨hit, p⟩ fun h' eb => ⟨rfl, I.turned (t' := s.toks) (fun b o hb q => eb b o hb q) f0 f1 f3 f4 f5⟩
  self := fun A i s Q E st h => let ⟨⟨_, he⟩, _⟩ := st; wpAny_pyIter_enum he h
end BV

/-! BV, part K: enumerate; isinstance; products; in; slices; keywords; places within owned lists. -/
namespace BV
open PySem PySem.Spec PyProof.Rows L2
def enumD : Nat → List D → List D
  | _, [] => []
  | k, z :: zs => .tup [.int k, z] :: enumD (k + 1) zs
theorem enumD_length : ∀ (zs : List D) (k : Nat), (enumD k zs).length = zs.length
  | [], _ => rfl
  | _ :: zs, k => congrArg (· + 1) (enumD_length zs (k + 1))
theorem enumD_get : ∀ {zs : List D} {k i : Nat} {w : D}, (enumD k zs)[i]? = some w → ∃ z, zs[i]? = some z ∧ w = .tup [.int ((k + i : Nat) : Int), z]
  | [], _, _, _, h => by simp [enumD] at h
  | z :: zs, k, 0, w, h => by
    cases (show some (D.tup [.int k, z]) = some w from h)
    exact ⟨z, rfl, rfl⟩
  | z :: zs, k, i + 1, w, h => by
    obtain ⟨z', h1, h2⟩ := enumD_get (zs := zs) (k := k + 1) (i := i) (w := w) (by simpa [enumD] using h)
    exact ⟨z', by simpa using h1, by rw [h2]; congr 3; omega⟩
section
variable {X : Cx} {C : Ct} {a b c e tg iter elt : Expr} {es ifs : List Expr} {st : Stmt} {sts sts' : List Stmt} {ta tb tc te : TE} {Ta Tb Tc Te : XE} {tA tt : TT} {UA Ut : XT} {pos p p2 : Pos} {t u : TS} {S T : XS} {tr : TA} {Tr : XA} {sl : List (Option Nat)} {g : TG} {Tg : XG} {wi : TI} {Ti : XI}
def iEnumX (K : Fg) (ta : TA) : TI := fun σ H R => ta σ H fun vs H1 => ∃ a, vs = [.ref a] ∧ (((∃ xs, SqL K H1 a xs) ∧ R (Ite K a) H1) ∨ ((∃ xs, SqT K H1 a xs) ∧ R (IteT K a) H1))
theorem pi_enumX {elts : List Expr} {kk : Nat} {tpos : Pos} (hg : Gl X "enumerate") (hm : X.mg "enumerate" = none) (ha : PA X [e] tr) (hs : starEach [e] X.env = [(false, eval e X.env)] := by rfl) : PI X (.Tuple elts kk tpos) (.Call (.Name "enumerate" p) [e] [] pos) (iEnumX X.K tr) := by
  refine ⟨fun pins s σ H R I h => ?_⟩
  refine Call_ (ld_blt I hg hm boot_enumerate (PyProof.Rows.callWith_type1 (thn (ha.run pos pins s σ H _ I h) fun us s1 ⟨vs, H1, I1, r1, q1⟩ => ?_) hs rfl))
  obtain ⟨a, ex, q1⟩ := q1
  subst ex
  cases r1 with
  | cons r rr =>
    cases rr
    cases r
    rcases q1 with ⟨⟨xs, hq⟩, q⟩ | ⟨⟨xs, hq⟩, q⟩
    · obtain ⟨its, rv, p', hz⟩ := I1.list hq
      refine call_enumerate_list p'.isList fun h' he hit hsz hk => wpAny_pyIter_enum he ?_
      have I2 : Inv X pins σ H1 { s1 with heap := h' } := I1.kept (t' := s1.toks) hk
      refine ⟨s1.heap.objs.size + 1, [s1.heap.objs.size + 1, s1.heap.objs.size], _, _, H1, rfl, I2, turn_enum a (s1.heap.objs.size + 1) s1.heap.objs.size, ⟨⟨.none, he⟩, hit, Nat.succ_ne_self _⟩, fun b hb => ?_, q⟩
      have e' : b = s1.heap.objs.size + 1 ∨ b = s1.heap.objs.size := by simpa using hb
      have hle : s1.heap.objs.size ≤ b := by
        rcases e' with z | z
        · rw [z]; exact Nat.le_add_right _ _
        · rw [z]; exact Nat.le_refl _
      exact I1.fpOk hle (I1.hok.fresh hle)
    · obtain ⟨its, rv, p', hz⟩ := I1.tuple hq
      refine bv_enum1 (begins_tuple a its.toArray) p' fun h' he hit hsz hk => wpAny_pyIter_enum he ?_
      have I2 : Inv X pins σ H1 { s1 with heap := h' } := I1.kept (t' := s1.toks) hk
      refine ⟨s1.heap.objs.size + 1, [s1.heap.objs.size + 1, s1.heap.objs.size], _, _, H1, rfl, I2, turn_enumT a (s1.heap.objs.size + 1) s1.heap.objs.size, ⟨⟨.none, he⟩, ⟨_, hit, rfl, rfl⟩, Nat.succ_ne_self _⟩, fun b hb => ?_, q⟩
      have e' : b = s1.heap.objs.size + 1 ∨ b = s1.heap.objs.size := by simpa using hb
      have hle : s1.heap.objs.size ≤ b := by
        rcases e' with z | z
        · rw [z]; exact Nat.le_add_right _ _
        · rw [z]; exact Nat.le_refl _
      exact I1.fpOk hle (I1.hok.fresh hle)
theorem itd_enum {K : Fg} {a : Addr} {zs : List D} {pd : D} (e : pd.seq = some zs) (hz : zs.all D.sh = true) (nt : pd.isTup = false) : ItD K C (Ite K a) (enumD 0 zs) (.ref a) pd := by
  intro N σ ρ H us fs vs ds hl R
  obtain ⟨A, r⟩ := R.waits hl
  obtain ⟨a', ws, B, ea, hs, rr⟩ := r.asL e nt
  cases ea
  refine ⟨fun k z h => ?_, fun k h => ⟨ws, hs, by rw [← rr.length, h, enumD_length]; exact Nat.le_refl _⟩⟩
  obtain ⟨z', h1, rfl⟩ := enumD_get h
  obtain ⟨x, h2, h3⟩ := rr.at hz h1
  refine ⟨⟨ws, x, hs, h2⟩, fun y H' hy => ?_⟩
  obtain ⟨T, x', rfl, nT, rfl, hy⟩ := hy
  have e2 := hy ws hs
  rw [h2] at e2
  cases e2
  refine ⟨N, R.newTup nT (.cons0 ?_ (.cons0 h3 rfl))⟩
  show V.int _ = V.int _
  rw [Nat.zero_add]
theorem itd_enumT {K : Fg} {a : Addr} {zs : List D} {pd : D} (e : pd.seq = some zs) (hz : zs.all D.sh = true) (nt : pd.isTup = true) : ItD K C (IteT K a) (enumD 0 zs) (.ref a) pd := by
  intro N σ ρ H us fs vs ds hl R
  obtain ⟨A, r⟩ := R.waits hl
  obtain ⟨a', ws, ea, hs, rr⟩ := r.asT e nt
  cases ea
  refine ⟨fun k z h => ?_, fun k h => ⟨ws, hs, by rw [← rr.length, h, enumD_length]⟩⟩
  obtain ⟨z', h1, rfl⟩ := enumD_get h
  obtain ⟨x, h2, h3⟩ := rr.at hz h1
  refine ⟨⟨ws, x, hs, h2⟩, fun y H' hy => ?_⟩
  obtain ⟨T, x', rfl, nT, rfl, hy⟩ := hy
  have e2 := hy ws hs
  rw [h2] at e2
  cases e2
  refine ⟨N, R.newTup nT (.cons0 ?_ (.cons0 h3 rfl))⟩
  show V.int _ = V.int _
  rw [Nat.zero_add]
def xiEnum (T : XA) : XI := ⟨fun ρ Q => T.f ρ fun fs ρ1 => ∃ d zs, fs = [d] ∧ d.seq = some zs ∧ zs.all D.sh = true ∧ Q (enumD 0 zs) ρ1, fun m q => T.mono (fun _ _ h => by
  obtain ⟨d, zs, h1, h2, h3, q⟩ := h
  exact ⟨d, zs, h1, h2, h3, m _ _ q⟩) q⟩
theorem vi_enum {elts : List Expr} {kk : Nat} {tpos : Pos} (hg : Gl X "enumerate") (hm : X.mg "enumerate" = none) (ha : VA X C [e] sl tr Tr) (hs : starEach [e] X.env = [(false, eval e X.env)] := by rfl) : VI X C (.Tuple elts kk tpos) (.Call (.Name "enumerate" p) [e] [] pos) (iEnumX X.K tr) (xiEnum Tr) := by
  refine ⟨pi_enumX hg hm ha.pa hs, fun {N σ ρ H vs ds R'} R q => ha.sa R (Tr.mono (fun fs ρ1 h xs N1 H1 R1 _ => ?_) q)⟩
  obtain ⟨d, zs, rfl, h1, h2, q⟩ := h
  obtain ⟨x, A, rfl, r⟩ := R1.one
  by_cases ht : d.isTup = true
  · obtain ⟨a, us, rfl, hs, _⟩ := r.asT h1 ht
    exact ⟨a, rfl, .inr ⟨⟨us, hs⟩, q _ N1 H1 (.ref a) d R1.park (itd_enumT h1 h2 ht)⟩⟩
  · have ht' : d.isTup = false := by cases e : d.isTup with | true => exact absurd e ht | false => rfl
    obtain ⟨a, us, B, rfl, hs, _⟩ := r.asL h1 ht'
    exact ⟨a, rfl, .inl ⟨⟨us, hs⟩, q _ N1 H1 (.ref a) d R1.park (itd_enum h1 h2 ht')⟩⟩

/-! ### isinstance(x, T), T a built-in type -/
def D.tn : D → String
  | .non => "NoneType"
  | .bl _ => "bool"
  | .int _ => "int"
  | .str _ => "str"
  | .tup _ => "tuple"
  | .lst _ => "list"
  | .frl _ => "list"
  | .own _ => "list"
theorem D.tn_ok {K : Fg} {N : AS} {H : Hp} {d : D} {v : V} {A : AS} (h : Rp K N H d v A) : TyX K H v (.type d.tn) := by
  cases d with
  | non => cases (show v = .non from h); exact .base .non
  | bl b => cases (show v = .bl b from h); exact .base (.bl b)
  | int b => cases (show v = .int b from h); exact .base (.int b)
  | str b => cases (show v = .str b from h); exact .base (.str b)
  | tup b =>
    obtain ⟨a, vs, rfl, hs, _⟩ := h
    rcases hs with (hs | ⟨o, hs⟩) | ⟨o, its, n, hk, hc, _⟩
    · exact .base (.tup hs)
    · exact .fTuple hs
    · exact .kTuple hk hc
  | lst b => obtain ⟨a, vs, rfl, hs, _⟩ := h; exact .base (.lst hs)
  | frl b =>
    obtain ⟨a, vs, rfl, hs, _⟩ := h
    rcases hs with ⟨hs | ⟨o, hs⟩, _⟩ | ⟨o, its, n, hk, hc, _⟩
    · exact .base (.lst hs)
    · exact .base (.frz hs)
    · exact .kList hk hc
  | own b => obtain ⟨a, vs, B, rfl, hs, _⟩ := h; exact .base (.lst hs)
theorem ve_isi {g : D → Bool} {U : String} (hk : ∀ d : D, kitB d.tn U = some (g d)) (ha : VE X C a ta Ta) (hg : Gl X "isinstance") (hm : X.mg "isinstance" = none) (hb : PE X b (tC (.ty U)))
    (he : starEach [a, b] X.env = (false, eval a X.env) :: starEach [b] X.env := by rfl) (he2 : starEach [b] X.env = (false, eval b X.env) :: starEach [] X.env := by rfl) (hpl : (backTo pos (starEach [b] X.env)).any (·.1) = false := by rfl) :
    VE X C (.Call (.Name "isinstance" p) [a, b] [] pos) (tCB (rIsi X.K) (tCons ta (tCons (tC (.ty U)) tNil))) (xFn (fun d => .bl (g d)) Ta) := by
  refine ⟨pe_callB call_isi hg hm (by decide +kernel) (pa_cons ha.pe (pa_cons hb pa_nil he2) he) (by decide) (by decide) he hpl, fun R q => ha.se R (Ta.mono (fun d ρ1 h v N1 H1 R1 => ?_) q)⟩
  obtain ⟨A, r⟩ := R1.top1
  exact ⟨v, .ty U, _, _, g d, rfl, .ty U, D.tn_ok r, kit_ty (hk d), h _ _ _ (R1.res rfl)⟩
def D.isInt : D → Bool
  | .int _ => true
  | .bl _ => true
  | _ => false
def D.isBl : D → Bool
  | .bl _ => true
  | _ => false
def D.isStr : D → Bool
  | .str _ => true
  | _ => false
def D.isLst : D → Bool
  | .lst _ => true
  | .frl _ => true
  | .own _ => true
  | _ => false
theorem D.tn_mem (d : D) : d.tn ∈ ["NoneType", "bool", "int", "str", "tuple", "list"] := by cases d <;> simp [D.tn]
theorem kit_tab {U : String} {f : String → Bool} (h : (["NoneType", "bool", "int", "str", "tuple", "list"].all fun s => decide (kitB s U = some (f s))) = true) (d : D) : kitB d.tn U = some (f d.tn) := of_decide_eq_true (List.all_eq_true.mp h _ d.tn_mem)
theorem kit_int (d : D) : kitB d.tn "int" = some d.isInt := by
  rw [kit_tab (f := fun s => s == "bool" || s == "int") (by decide +kernel) d]
  cases d <;> rfl
theorem kit_bl (d : D) : kitB d.tn "bool" = some d.isBl := by
  rw [kit_tab (f := fun s => s == "bool") (by decide +kernel) d]
  cases d <;> rfl
theorem kit_str (d : D) : kitB d.tn "str" = some d.isStr := by
  rw [kit_tab (f := fun s => s == "str") (by decide +kernel) d]
  cases d <;> rfl
theorem kit_tup (d : D) : kitB d.tn "tuple" = some d.isTup := by
  rw [kit_tab (f := fun s => s == "tuple") (by decide +kernel) d]
  cases d <;> rfl
theorem kit_lst (d : D) : kitB d.tn "list" = some d.isLst := by
  rw [kit_tab (f := fun s => s == "list") (by decide +kernel) d]
  cases d <;> rfl
end

/-! ### products -/
theorem op_repT2 {X : Cx} : OpR X (binaryOp .Mult) (fun x y H Q => ∃ l k xs, x = .ref l ∧ y = .int k ∧ SqT X.K H l xs ∧ xs ≠ [] ∧ 2 ≤ k ∧ k < 2 ^ 30 ∧ xs.length * k.toNat ≤ 10000000 ∧ ∀ p, H p = none → Q (.ref p) (upd H p (.tup (List.replicate k.toNat xs).flatten))) := by
  intro pins s σ H x y v u Q I rx ry h
  obtain ⟨l, k, xs, rfl, rfl, hT, hne, h1, h2, hz, q⟩ := h
  cases rx
  obtain ⟨t, rfl⟩ := ry
  obtain ⟨its, r, ⟨⟨cls, dd, data, sl⟩, ho, hc, n, hd⟩, hs⟩ := I.tuple hT
  simp only at hc hd
  subst hc hd
  have hle : its.length = xs.length := r.length.symm
  have hn : its ≠ [] := fun e => hne (by
    rw [e] at hle
    exact List.eq_nil_of_length_eq_zero hle.symm)
  have hi : its.toArray.isEmpty = false := by
    cases its with
    | nil => exact absurd rfl hn
    | cons a b => rfl
  have hsz0 : its.toArray.size = xs.length := by rw [List.size_toArray, hle]
  have hm : ((its.toArray.size : Nat) : Int) * k ≤ 10000000 := by
    rw [hsz0]
    have e1 : ((xs.length : Nat) : Int) * k = ((xs.length * k.toNat : Nat) : Int) := by
      rw [Int.natCast_mul, Int.toNat_of_nonneg (by omega)]
    rw [e1]
    exact Int.ofNat_le.mpr hz
  have flen : (List.replicate k.toNat its).flatten.length ≤ sizeLine := by
    rw [PyProof.Rows.lm_len_rep_flat, hle, sizeLine_eq, Nat.mul_comm]
    omega
  have c0 : (decide (k < -(2 ^ 63)) || decide (k ≥ 2 ^ 63)) = false := by
    rw [decide_eq_false (by omega), decide_eq_false (by omega)] <;> rfl
  have c1 : (its.toArray.isEmpty || k == 1) = false := by
    rw [hi, Bool.false_or]
    exact beq_eq_false_iff_ne.mpr (by omega)
  have c2 : (decide (k ≤ 0) || its.toArray.isEmpty) = false := by
    rw [hi, Bool.or_false]
    exact decide_eq_false (by omega)
  have c4 : Builtin.Tuple.tupleTooMany (((its.toArray.size : Nat) : Int) * k) = false := by
    unfold Builtin.Tuple.tupleTooMany
    rw [sizeLine_eq]
    exact decide_eq_false (by omega)
  refine wpAny_binaryOp_repeat_ref (T := "tuple") (U := "int") (by decide) ⟨_, ho, rfl⟩ (fun s' => typeIs_int s' k t) noFill_tuple_mul F.fills_int_mul F.slot_int_rmul repeat_tuple F.slot_int_index.lookup
    (call_meets F.slot_int_rmul (typeIs_int s k t) F.entry_int_rmul (F.args_int_rmul_2 _ _) (int_rmul_tuple k t l its.toArray n dd sl)
      ⟨ho, rfl, ⟨_, ho, rfl⟩, call_meets F.slot_tuple_mul ⟨_, ho, rfl⟩ F.entry_tuple_mul (F.args_tuple_mul_2 _ _) (tuple_mulW l its.toArray n dd sl k t c0 c1 c2 (by omega) c4 (by rw [size_rep, List.size_toArray]; exact flen)) ⟨ho, ?_⟩⟩)
  rw [size_rep]
  refine ⟨.ref s.heap.objs.size, _, I.laid (t' := s.toks) (o := .tup (List.replicate k.toNat xs).flatten) (fun b ob q => Heap.get?_push_of_some _ q) (Nat.le_refl _) ?_, rfl, q _ (I.hok.fresh (Nat.le_refl _))⟩
  exact ⟨by rw [PyProof.Rows.lm_len_rep_flat, sizeLine_eq, Nat.mul_comm]; omega, _, r.rep k.toNat, IsTup.new _ _⟩
/-- * : whole numbers; a tuple many times; a list many times -/
def mulD : D → D → Option D
  | .int i, .int j => if i.natAbs.log2 + j.natAbs.log2 < 1000000 then some (.int (i * j)) else none
  | .tup xs, .int k => if xs ≠ [] ∧ 2 ≤ k ∧ k < 2 ^ 30 ∧ xs.length * k.toNat ≤ 10000000 then some (.tup (List.replicate k.toNat xs).flatten) else none
  | .own xs, .int k => if -(2 ^ 63) ≤ k ∧ k < 2 ^ 63 ∧ xs.length * k.toNat ≤ sizeLine ∧ xs.all D.sh = true then some (.own (List.replicate k.toNat xs).flatten) else none
  | .lst xs, .int k => if -(2 ^ 63) ≤ k ∧ k < 2 ^ 63 ∧ xs.length * k.toNat ≤ sizeLine then some (.own (List.replicate k.toNat xs).flatten) else none
  | _, _ => none
def rMulX (K : Fg) : R2 := fun x y H Q => ((rI CMulW fun i j => .int (i * j)) x y H Q) ∨ ((fun x y H Q => ∃ l k xs, x = .ref l ∧ y = .int k ∧ SqT K H l xs ∧ xs ≠ [] ∧ 2 ≤ k ∧ k < 2 ^ 30 ∧ xs.length * k.toNat ≤ 10000000 ∧ ∀ p, H p = none → Q (.ref p) (upd H p (.tup (List.replicate k.toNat xs).flatten))) x y H Q) ∨ rRep x y H Q
theorem op_mulX {X : Cx} : OpR X (binaryOp .Mult) (rMulX X.K) := op_mulW.or (op_repT2.or op_rep)
theorem bop_mul {K : Fg} : BopR K (rMulX K) mulD := by
  intro C N σ ρ H x y vs d e ds z Q R h q
  obtain ⟨A, B, hd, he⟩ := R.two
  unfold mulD at h
  split at h
  · split at h
    · rename_i hz
      cases h
      exact .inl ⟨_, _, hd, he, hz, q _ N H (R.res rfl)⟩
    · cases h
  · split at h
    · rename_i hz
      cases h
      obtain ⟨a, us, rfl, ha, r1⟩ := hd
      obtain ⟨h1, h2, h3, h4⟩ := hz
      refine .inr (.inl ⟨a, _, us, rfl, he, ha, fun e0 => h1 (List.eq_nil_of_length_eq_zero (by rw [r1.length, e0]; rfl)), h2, h3, by rw [← r1.length]; exact h4, fun p np => q _ _ _ (R.newTup np (r1.reps0 _))⟩)
    · cases h
  · split at h
    · rename_i hz
      cases h
      obtain ⟨a, us, B', rfl, ha, _, _, r1⟩ := hd
      obtain ⟨h1, h2, h3, h4⟩ := hz
      exact .inr (.inr ⟨a, _, us, rfl, he, ha, h1, h2, by rw [← r1.length]; exact h3, fun p np => q _ _ _ (R.allocN np ((r1.share h4).reps0 _))⟩)
    · cases h
  · split at h
    · rename_i hz
      cases h
      obtain ⟨a, us, rfl, ha, _, r1⟩ := hd
      obtain ⟨h1, h2, h3⟩ := hz
      exact .inr (.inr ⟨a, _, us, rfl, he, ha, h1, h2, by rw [← r1.length]; exact h3, fun p np => q _ _ _ (R.allocN np (r1.reps0 _))⟩)
    · cases h
  · cases h

/-! ### in -/
def D.flat : D → Bool
  | .non => true
  | .bl _ => true
  | .int _ => true
  | .str _ => true
  | _ => false
def eqF : D → D → Bool
  | .non, .non => true
  | .bl a, .bl b => a == b
  | .bl a, .int b => (if a then 1 else 0) == b
  | .int a, .bl b => a == (if b then 1 else 0)
  | .int a, .int b => a == b
  | .str a, .str b => a == b
  | _, _ => false
def inF (x : D) (xs : List D) : Bool := xs.any fun y => eqF y x
theorem flat_ok {K : Fg} {N : AS} {H : Hp} {d : D} {v : V} {A : AS} (h : Rp K N H d v A) (f : d.flat = true) : flatV v = true := by
  cases d with
  | non => cases (show v = .non from h); rfl
  | bl b => cases (show v = .bl b from h); rfl
  | int b => cases (show v = .int b from h); rfl
  | str b => cases (show v = .str b from h); rfl
  | _ => cases f
theorem eqF_ok {K : Fg} {N : AS} {H : Hp} {d e : D} {v w : V} {A B : AS} (h : Rp K N H d v A) (h' : Rp K N H e w B) (f : d.flat = true) (f' : e.flat = true) : eqV v w = eqF d e := by
  cases d with
  | non => cases (show v = .non from h); cases e with
    | non => cases (show w = .non from h'); rfl
    | bl b => cases (show w = .bl b from h'); rfl
    | int b => cases (show w = .int b from h'); rfl
    | str b => cases (show w = .str b from h'); rfl
    | _ => cases f'
  | bl b => cases (show v = .bl b from h); cases e with
    | non => cases (show w = .non from h'); rfl
    | bl b => cases (show w = .bl b from h'); rfl
    | int b => cases (show w = .int b from h'); rfl
    | str b => cases (show w = .str b from h'); rfl
    | _ => cases f'
  | int b => cases (show v = .int b from h); cases e with
    | non => cases (show w = .non from h'); rfl
    | bl b => cases (show w = .bl b from h'); rfl
    | int b => cases (show w = .int b from h'); rfl
    | str b => cases (show w = .str b from h'); rfl
    | _ => cases f'
  | str b => cases (show v = .str b from h); cases e with
    | non => cases (show w = .non from h'); rfl
    | bl b => cases (show w = .bl b from h'); rfl
    | int b => cases (show w = .int b from h'); rfl
    | str b => cases (show w = .str b from h'); rfl
    | _ => cases f'
  | _ => cases f
theorem inF_ok {K : Fg} {N : AS} {H : Hp} {d : D} {v : V} {A : AS} (h : Rp K N H d v A) (f : d.flat = true) : ∀ {es : List D} {us : List V} {B : AS}, Rps K N H es us B → es.all D.flat = true → us.all flatV = true ∧ inV v us = inF d es
  | [], _, _, r, _ => by
    cases (show _ = [] from r)
    exact ⟨rfl, rfl⟩
  | e :: es, _, _, r, g => by
    obtain ⟨w, wr, A1, A2, rfl, r1, r2, _⟩ := r
    rw [List.all_cons, Bool.and_eq_true] at g
    obtain ⟨h1, h2⟩ := inF_ok h f r2 g.2
    refine ⟨by rw [List.all_cons, flat_ok r1 g.1, h1]; rfl, ?_⟩
    show (eqV w v || inV v wr) = (eqF e d || inF d es)
    rw [eqF_ok r1 h g.1 f, h2]
def inD (neg : Bool) (x y : D) : Option D := y.seq.bind fun es => if x.flat = true ∧ es.all D.flat = true then some (.bl (if neg then !inF x es else inF x es)) else none
theorem bop_in {K : Fg} {neg : Bool} : BopR K (rIn K neg) (inD neg) := by
  intro C N σ ρ H x y vs d e ds z Q R h q
  obtain ⟨A, B, hd, he⟩ := R.two
  unfold inD at h
  cases e1 : e.seq with
  | none => rw [e1] at h; cases h
  | some es =>
    rw [e1] at h
    have h' : (if d.flat = true ∧ es.all D.flat = true then some (D.bl (if neg then !inF d es else inF d es)) else none) = some z := h
    split at h'
    · rename_i hf
      cases h'
      obtain ⟨a, us, B', rfl, hs, r⟩ := he.seqs e1
      obtain ⟨h1, h2⟩ := inF_ok hd hf.1 r hf.2
      refine ⟨a, us, rfl, hs, flat_ok hd hf.1, h1, ?_⟩
      rw [h2]
      exact q _ N H (R.res rfl)
    · cases h'
end BV

/-! BV, part L: slices, turned about; keywords; places within owned lists. -/
namespace BV
open PySem PySem.Spec PyProof.Rows L2

/-! ### slices -/
def cutL {α : Type} (xs : List α) (lo hi : Option Int) : List α := (xs.drop (HT.sIx xs.length 0 lo)).take (HT.sIx xs.length xs.length hi - HT.sIx xs.length 0 lo)
theorem cut_rel {K : Fg} {N : AS} {H : Hp} {zs : List D} {us : List V} (r : Rps K N H zs us AS0) (lo hi : Option Int) : Rps K N H (cutL zs lo hi) (cutV us lo hi) AS0 := by
  unfold cutL cutV
  rw [r.length]
  exact (r.drop0 _).take0 _
def cutD (d : D) (lo hi : Option Int) : Option D := match d with
  | .tup xs => some (.tup (cutL xs lo hi))
  | .lst xs => some (.own (cutL xs lo hi))
  | .frl xs => some (.own (cutL xs lo hi))
  | .own xs => if xs.all D.sh = true then some (.own (cutL xs lo hi)) else none
  | .str z => if z.length ≤ sizeLine then some (.str (cutS z lo hi)) else none
  | _ => none
structure XO where
  f : Ev → (Option Int → Ev → Prop) → Prop
  mono : ∀ {ρ : Ev} {Q Q' : Option Int → Ev → Prop}, (∀ d ρ', Q d ρ' → Q' d ρ') → f ρ Q → f ρ Q'
def rSlX (K : Fg) : V → Option Int → Option Int → Hp → VK → Prop := fun x lo hi H Q => rSlL K x lo hi H Q ∨ rSlA K x lo hi H Q ∨ rSlS x lo hi H Q
theorem sl_X {X : Cx} : SlR X (rSlX X.K) := sl_list.or (sl_tupA.or sl_str)
section
variable {X : Cx} {C : Ct} {a b c e : Expr} {es : List Expr} {ta tb tc te : TE} {Ta Tb Tc Te : XE} {pos p p2 : Pos} {tr : TA} {Tr : XA} {sl : List (Option Nat)} {lo hi : Option Expr} {tl th : TO} {Tl Th : XO}
structure VO (X : Cx) (C : Ct) (e : Option Expr) (t : TO) (T : XO) : Prop where
  po : PO X e t
  so : ∀ {N : AS} {σ : Sts} {ρ : Ev} {H : Hp} {vs : List V} {ds : List D} {Q : Option Int → Hp → Prop}, Rl X.K C N σ ρ H [] [] vs ds → T.f ρ (fun o ρ' => ∀ N' H', Rl X.K C N' σ ρ' H' [] [] vs ds → Q o H') → t σ H Q
def xoNone : XO := ⟨fun ρ Q => Q none ρ, fun m q => m _ _ q⟩
def xoSome (T : XE) : XO := ⟨fun ρ Q => T.f ρ fun d ρ' => ∃ i, d = .int i ∧ Q (some i) ρ', fun m q => T.mono (fun _ _ ⟨i, e, q⟩ => ⟨i, e, m _ _ q⟩) q⟩
theorem vo_none : VO X C none tNoPart xoNone := ⟨po_none, fun R q => q _ _ R⟩
theorem vo_some (h : VE X C e te Te) : VO X C (some e) (tPart te) (xoSome Te) := ⟨po_some h.pe, fun R q => h.se R (Te.mono (fun d ρ1 h v N1 H1 R1 => by
    obtain ⟨i, rfl, h⟩ := h
    obtain ⟨A, r⟩ := R1.top1
    exact ⟨i, r, h _ _ R1.drop⟩) q)⟩
theorem cut_ok {K : Fg} {N N' : AS} {σ : Sts} {ρ : Ev} {H : Hp} {xs vs : List V} {es ds : List D} {v : V} {d z : D} {A : AS} {l u : Option Int} {Q : VK} (R : Rl K C N σ ρ H xs es vs ds) (r : Rp K N H d v A) (g : cutD d l u = some z) (q : ∀ v N' H', Rl K C N' σ ρ H' [v] [z] vs ds → Q v H') : rSlX K v l u H Q := by
  unfold cutD at g
  split at g
  · cases g
    obtain ⟨a, us, rfl, hs, rr⟩ := r
    refine .inr (.inl ⟨a, us, rfl, hs, fun hw => ?_, fun _ p np => q _ _ _ (R.newTup np (cut_rel rr l u))⟩)
    rename_i zs
    have e : cutL zs l u = zs := by
      unfold cutL
      rw [rr.length, hw.1, hw.2, List.drop_zero, Nat.sub_zero, ← rr.length, List.take_length]
    rw [e] at q
    exact q _ _ _ (R.res ⟨a, us, rfl, hs, rr⟩)
  · cases g
    obtain ⟨a, us, rfl, hs, _, rr⟩ := r
    exact .inl ⟨a, us, rfl, .inl (.inl hs), fun p np => q _ _ _ (R.allocN np (cut_rel rr l u))⟩
  · cases g
    obtain ⟨a, us, rfl, hs, rr⟩ := r
    exact .inl ⟨a, us, rfl, hs.sq, fun p np => q _ _ _ (R.allocN np (cut_rel rr l u))⟩
  · split at g
    · rename_i hz
      cases g
      obtain ⟨a, us, B, rfl, hs, _, _, rr⟩ := r
      exact .inl ⟨a, us, rfl, .inl (.inl hs), fun p np => q _ _ _ (R.allocN np (cut_rel (rr.share hz) l u))⟩
    · cases g
  · split at g
    · rename_i hz
      cases g
      exact .inr (.inr ⟨_, r, hz, q _ _ _ (R.res rfl)⟩)
    · cases g
  · cases g
def xSl (T : XE) (L U : XO) : XE := ⟨fun ρ Q => T.f ρ fun d ρ1 => L.f ρ1 fun l ρ2 => U.f ρ2 fun u ρ3 => ∃ z, cutD d l u = some z ∧ Q z ρ3, fun m q => T.mono (fun _ _ h => L.mono (fun _ _ h => U.mono (fun _ _ ⟨z, e, h⟩ => ⟨z, e, m _ _ h⟩) h) h) q⟩
theorem ve_sl (ha : VE X C a ta Ta) (hl : VO X C lo tl Tl) (hu : VO X C hi th Th) : VE X C (.Subscript a (.Slice lo hi none p2) pos) (tSl (rSlX X.K) ta tl th) (xSl Ta Tl Th) := by
  refine ⟨pe_slice sl_X ha.pe hl.po hu.po, fun R q => ha.se R (Ta.mono (fun d ρ1 h v N1 H1 R1 => ?_) q)⟩
  refine hl.so R1.park (Tl.mono (fun l ρ2 h N2 H2 R2 => hu.so R2 (Th.mono (fun u ρ3 h N3 H3 R3 => ?_) h)) h)
  obtain ⟨z, g, h⟩ := h
  obtain ⟨A, r⟩ := R3.cons.top1
  exact cut_ok (N' := N3) R3.cons r g h
def xSlS (i : Nat) (L U : XO) : XE := ⟨fun ρ Q => (∃ d, ρ[i]? = some (some d)) ∧ L.f ρ fun l ρ2 => U.f ρ2 fun u ρ3 => ∃ d z, ρ3[i]? = some (some d) ∧ cutD d l u = some z ∧ Q z ρ3, fun m ⟨h, q⟩ => ⟨h, L.mono (fun _ _ h => U.mono (fun _ _ ⟨d, z, e1, e, h⟩ => ⟨d, z, e1, e, m _ _ h⟩) h) q⟩⟩
theorem ve_slS (i : Nat) (ha : PE X a (tVar i)) (hl : VO X C lo tl Tl) (hu : VO X C hi th Th) : VE X C (.Subscript a (.Slice lo hi none p2) pos) (tSl (rSlX X.K) (tVar i) tl th) (xSlS i Tl Th) := by
  refine ⟨pe_slice sl_X ha hl.po hu.po, fun R q => ?_⟩
  obtain ⟨⟨d0, h0⟩, q⟩ := q
  obtain ⟨v, A, e1, _⟩ := R.any h0
  refine ⟨v, e1, hl.so R (Tl.mono (fun l ρ2 h N2 H2 R2 => hu.so R2 (Th.mono (fun u ρ3 h N3 H3 R3 => ?_) h)) q)⟩
  obtain ⟨d, z, h1, g, h⟩ := h
  obtain ⟨v', A', e2, r⟩ := R3.any h1
  rw [e1] at e2
  cases e2
  exact cut_ok (N' := N3) R3 r g h
end
/-! ### [::-1] -/
section
variable {prog : Program} {w : World} {A : Around} {E : Value → Shared → Prop} {s : Shared}
theorem sliceApplied_rev {sl : Addr} {vs : Value} {n : Nat} {Q : Int × Int × Nat → Shared → Prop} (hs : s.heap.IsSliceOf sl .none .none vs) (ps : IsPart vs (some (-1)))
    (h : Q ((n : Int) - 1, -1, n) s) : wpAny (model prog w) A (Builtin.Slice.sliceApplied (.ref sl) (pure (n : Int))) Q E s := by
  obtain ⟨os, hos, hcs, hds⟩ := id hs
  unfold Builtin.Slice.sliceApplied Builtin.Slice.sliceFields
  refine wpAny_bind (wpAny_bind (wpAny_field hos hds (x := .none) rfl (wpAny_bind (wpAny_field hos hds (x := .none) rfl (wpAny_bind (wpAny_field hos hds (x := vs) rfl (wpAny_pure ?_)))))))
  refine wpAny_bind (HT.slicePart_ ps ?_)
  show wpAny _ _ (if ((-1 : Int) == 0) = true then _ else _) _ _ s
  rw [if_neg (by decide)]
  refine wpAny_bind (HT.slicePart_ .none (wpAny_bind (HT.slicePart_ .none (wpAny_bind (wpAny_pure ?_)))))
  have e1 : Builtin.Slice.sliceAdjust none none (-1) (n : Int) = ((n : Int) - 1, -1) := by
    unfold Builtin.Slice.sliceAdjust
    first
      | rfl
      | simp
  have e2 : Builtin.Slice.slicePlaces ((n : Int) - 1) (-1) (-1) = n := by
    unfold Builtin.Slice.slicePlaces
    have h1 : ¬ ((-1 : Int) > 0) := by decide
    simp only [h1, if_false, show (- -1 : Int) = 1 from rfl, Int.ediv_one]
    split <;> omega
  show wpAny _ _ (match Builtin.Slice.sliceAdjust none none (-1) (n : Int) with | (lo, hi) => pure (lo, (-1 : Int), Builtin.Slice.slicePlaces lo hi (-1))) _ _ s
  rw [e1]
  show wpAny _ _ (pure ((n : Int) - 1, (-1 : Int), Builtin.Slice.slicePlaces ((n : Int) - 1) (-1) (-1))) _ _ s
  rw [e2]
  exact wpAny_pure h
theorem pick_rev (xs : Array Value) : ((List.range xs.size).filterMap fun (m : Nat) => xs[(((xs.size : Int) - 1) + (m : Int) * (-1)).toNat]?).toArray = xs.toList.reverse.toArray := by
  have e : (fun (m : Nat) => xs[(((xs.size : Int) - 1) + (m : Int) * (-1)).toNat]?) = (xs[·]?) ∘ fun m => xs.size - 1 - m := by
    funext m
    have e1 : (((xs.size : Int) - 1) + (m : Int) * (-1)).toNat = xs.size - 1 - m := by omega
    rw [e1]
    rfl
  rw [e, ← List.filterMap_map, PySem.W.krv_range, List.filterMap_reverse, PySem.W.krv_all]
theorem getItem_tuple_rev {t sl : Addr} {items : Array Value} {vs : Value} {Q : Value → Shared → Prop} (ht : IsTup s.heap t items) (hs : s.heap.IsSliceOf sl .none .none vs) (ps : IsPart vs (some (-1)))
    (h : Q (.ref s.heap.objs.size) { s with heap := s.heap.push { cls := .type "tuple", data := .seq items.toList.reverse.toArray } })
    (hsz : items.size ≤ sizeLine) : wpAny (model prog w) A (getItem (.ref t) (.ref sl)) Q E s := by
  have htake : sizeOk (.seq items.toList.reverse.toArray) := by
    show items.toList.reverse.toArray.size ≤ sizeLine
    rw [List.size_toArray, List.length_reverse, Array.length_toList]
    exact hsz
  obtain ⟨os, hos, hcs, hds⟩ := id hs
  have hTs : s.TypeIs (.ref sl) "slice" := ⟨os, hos, hcs⟩
  unfold getItem
  try with_reducible refine wpAny_holding ?_
  first | refine wpAny_bind (wpAny_pure ?_) | skip
  refine wpAny_bind (wpAny_sequenceKey ht.typeIs (by decide) ?_)
  refine wpAny_bind (wpAny_callSpecial?_slot (name := Str.ofString "__getitem__") ht.typeIs PyProof.Rows.slot_tuple_getitem
    (wpAny_call_entry PyProof.Rows.slot_tuple_getitem ht.typeIs entry_tuple_getitem ?_ (args_tuple_getitem _ _)))
  show wpAny _ _ (Builtin.Tuple.tupleItemsOf (.ref t) >>= _) _ _ s
  refine wpAny_bind (tupleItemsOf_ ht ?_)
  refine wpAny_bind (wpAny_typeOf hTs ?_)
  rw [if_pos (by decide)]
  refine wpAny_bind (sliceApplied_rev hs ps ?_)
  have hno : ¬ (((((items.size : Int) - 1) == 0 && (-1 : Int) == 1 && items.size == items.size)) = true) := by
    intro q
    rw [Bool.and_eq_true, Bool.and_eq_true] at q
    exact absurd q.1.2 (by decide)
  show wpAny _ _ (if (((items.size : Int) - 1) == 0 && (-1 : Int) == 1 && items.size == items.size) = true then _ else _) _ _ s
  rw [if_neg hno, pick_rev]
  first
    | exact wpAny_bind (m := Builtin.Tuple.tupleExact _) (wpAny_newObj_type (wpAny_pure ⟨_, rfl, wpAny_pure h⟩) htake)
    | exact wpAny_bind (m := Builtin.Tuple.tupleExact _) (wpAny_newObj_type (wpAny_bind (wpAny_pure (wpAny_pure ⟨_, rfl, wpAny_pure h⟩))) htake)
    | exact wpAny_bind (wpAny_bind (m := Builtin.Tuple.tupleExact _) (wpAny_newObj_type (wpAny_pure (wpAny_pure ⟨_, rfl, wpAny_pure h⟩)) htake))
    | exact wpAny_bind (wpAny_bind (m := Builtin.Tuple.tupleExact _) (wpAny_newObj_type (wpAny_pure ⟨_, rfl, wpAny_pure h⟩) htake))
end
end BV

/-! BV, part M: turned about; keywords; places within owned lists. -/
namespace BV
open PySem PySem.Spec PyProof.Rows L2
section
variable {X : Cx} {C : Ct} {a b c e : Expr} {es : List Expr} {ta tb tc te : TE} {Ta Tb Tc Te : XE} {pos p p2 : Pos} {tr : TA} {Tr : XA} {sl : List (Option Nat)} {g : TG} {Tg : XG}
def tRevX (K : Fg) (te : TE) : TE := fun σ H Q => te σ H fun x H1 => ∃ a xs, x = .ref a ∧ ((SqL K H1 a xs ∧ ∀ p, H1 p = none → Q (.ref p) (upd H1 p (.lst xs.reverse))) ∨ (SqT K H1 a xs ∧ ∀ p, H1 p = none → Q (.ref p) (upd H1 p (.tup xs.reverse))))
theorem pe_revX {k : Nat} {p1 p2 p3 : Pos} (he : PE X e te) : PE X (.Subscript e (.Slice none none (some (.UnaryOp .USub (.Constant (.int 1) k p1) p2)) p3) pos) (tRevX X.K te) := by
  refine ⟨fun pins s σ H Q I h => ?_⟩
  refine Subscript_ (thn (he.run pins s σ H _ I h) fun v s1 ⟨x, H1, I1, r1, q1⟩ => ?_)
  obtain ⟨a, xs, ex, q⟩ := q1
  subst ex
  cases r1
  have hst : PO X (some (.UnaryOp .USub (.Constant (.int 1) k p1) p2)) (tPart (tUn (rU fun i => .int (-i)) (tC (.int 1)))) := po_some (pe_un un_neg pe_int)
  refine wpAny_Slice (thn (po_none.run pins s1 σ H1 (fun o H2 => o = none ∧ H2 = H1) I1 ⟨rfl, rfl⟩) fun vl s2 ⟨l, H2, I2, pl, el, e2⟩ => ?_)
  subst el e2
  refine thn (po_none.run pins s2 σ H2 (fun o H3 => o = none ∧ H3 = H2) I2 ⟨rfl, rfl⟩) fun vu s3 ⟨u, H3, I3, pu, eu, e3⟩ => ?_
  subst eu e3
  refine thn (hst.run pins s3 σ H3 (fun o H4 => o = some (-1) ∧ H4 = H3) I3 ⟨1, rfl, -1, rfl, rfl, rfl⟩) fun vs s4 ⟨o, H4, I4, ps, eo, e4⟩ => ?_
  subst eo e4
  have I5 : Inv X pins σ H4 { s4 with heap := s4.heap.push { cls := .type "slice", data := .fields #[vl, vu, vs] } } := I4.kept (t' := s4.toks) fun b ob q => Heap.get?_push_of_some _ q
  show wpAny (model X.prog X.w) X.A (subscriptTail e (.Slice none none (some (.UnaryOp .USub (.Constant (.int 1) k p1) p2)) p3) (.ref a) (.ref s4.heap.objs.size)) (EP X pins σ Q) X.xe { s4 with heap := s4.heap.push { cls := .type "slice", data := .fields #[vl, vu, vs] } }
  rcases q with ⟨hx, q⟩ | ⟨hx, q⟩
  · obtain ⟨its, r, ht, hz⟩ := I5.list hx
    have hlen := r.length
    refine tail_any (ops := [.ref a, .ref s4.heap.objs.size]) ht.isList.typeIs (PySem.slot_list_getitem.lookup) ?_ (by with_unfolding_all rfl)
    refine wpAny_getItem_list_slice ht.isList (Heap.IsSliceOf.new _ vl vu vs) pl pu ps (by decide) ?_ (by rw [List.size_toArray]; omega)
    rw [PySem.W.krv_pick]
    refine ⟨.ref _, _, I5.laid (t' := s4.toks) (o := .lst xs.reverse) (fun b ob q => Heap.get?_push_of_some _ q) (Nat.le_refl _) ?_, rfl, q _ (I5.hok.fresh (Nat.le_refl _))⟩
    exact ⟨by rw [List.length_reverse]; exact hz, _, 0, r.reverse, Heap.get?_push_size _ rfl⟩
  · obtain ⟨its, r, ht, hz⟩ := I5.tuple hx
    have hlen := r.length
    cases pl
    cases pu
    refine tail_any (ops := [.ref a, .ref s4.heap.objs.size]) ht.typeIs PyProof.Rows.slot_tuple_getitem.lookup ?_ (by with_unfolding_all rfl)
    refine getItem_tuple_rev ht (Heap.IsSliceOf.new _ .none .none vs) ps ?_ (by rw [List.size_toArray]; omega)
    refine ⟨.ref _, _, I5.laid (t' := s4.toks) (o := .tup xs.reverse) (fun b ob q => Heap.get?_push_of_some _ q) (Nat.le_refl _) ?_, rfl, q _ (I5.hok.fresh (Nat.le_refl _))⟩
    exact ⟨by rw [List.length_reverse]; exact hz, _, r.reverse, IsTup.new _ _⟩
/-- d[::-1] -/
def revD : D → Option D
  | .tup xs => some (.tup xs.reverse)
  | .lst xs => some (.own xs.reverse)
  | .frl xs => some (.own xs.reverse)
  | .own xs => if xs.all D.sh = true then some (.own xs.reverse) else none
  | _ => none
theorem ve_rev {k : Nat} {p1 p2 p3 : Pos} (ha : VE X C a ta Ta) : VE X C (.Subscript a (.Slice none none (some (.UnaryOp .USub (.Constant (.int 1) k p1) p2)) p3) pos) (tRevX X.K ta) (xUn revD Ta) := by
  refine ⟨pe_revX ha.pe, fun R q => ha.se R (Ta.mono (fun d ρ1 h v N1 H1 R1 => ?_) q)⟩
  obtain ⟨z, g, h⟩ := h
  obtain ⟨A, r⟩ := R1.top1
  unfold revD at g
  split at g
  · cases g
    obtain ⟨a, us, rfl, hs, rr⟩ := r
    exact ⟨a, us, rfl, .inr ⟨hs, fun p np => h _ _ _ (R1.newTup np rr.reverse0)⟩⟩
  · cases g
    obtain ⟨a, us, rfl, hs, _, rr⟩ := r
    exact ⟨a, us, rfl, .inl ⟨.inl (.inl hs), fun p np => h _ _ _ (R1.allocN np rr.reverse0)⟩⟩
  · cases g
    obtain ⟨a, us, rfl, hs, rr⟩ := r
    exact ⟨a, us, rfl, .inl ⟨hs.sq, fun p np => h _ _ _ (R1.allocN np rr.reverse0)⟩⟩
  · split at g
    · rename_i hz
      cases g
      obtain ⟨a, us, B, rfl, hs, _, _, rr⟩ := r
      exact ⟨a, us, rfl, .inl ⟨.inl (.inl hs), fun p np => h _ _ _ (R1.allocN np (rr.share hz).reverse0)⟩⟩
    · cases g
  · cases g

/-! ### calls by keywords alone -/
theorem pe_callK0 {CX : CXT} {k : Nat} {f : Addr} {fd : FuncData} {ps ks : List Str} {sp : Sp} {E : XK} {x : Str} {kws : List Keyword} {tk : TA} {gg : List Value → List Value → List Value} {gV : List V → List V → List V} (F : FnOk X.prog X.w X.K X.mg X.base CX k f fd ps sp) (hr : Room k X.A) (hg : Gl X x) (hm : X.mg x = some (.ref f)) (hk : PySem.W.keepIn X.K (.ref f) = true) (hb : KBinds X.K fd ps ks gg gV) (hx : Passes CX X E)
    (hkw : PK X kws tk) (hall : (backToKw pos (keywordEach kws X.env)).all (·.1.isSome) = true := by rfl) (hks : (backToKw pos (keywordEach kws X.env)).filterMap (·.1) = ks := by rfl)
    (hdb : (x == ("__debug__" : Str)) = false := by decide) (hpl : ((backTo pos (starEach [] X.env)).any (·.1) || (backToKw pos (keywordEach kws X.env)).any (·.1.isNone)) = false := by rfl) :
    PE X (.Call (.Name x p) [] kws pos) (tCallK sp gV E tNil tk) := by
  refine ⟨fun pins s σ H Q I h => ?_⟩
  refine wpAny_Call_Name_kw (ld_glob I hg hm ?_ hdb)
  refine PySem.W.callWith_KW0 (h₀ := X.base) I.ok.mod.kin hk hall ?_ hpl
  refine thn (hkw.run pos pins s σ H _ I h) fun ws s2 ⟨zs, H2, I2, rz, q2⟩ => ⟨I2.kIn, ?_⟩
  rw [hks]
  exact run_fnk F hr hb hx I2 .nil rz q2
/-- keyword arguments, in the order of the parameters -/
structure VK' (X : Cx) (C : Ct) (kws : List Keyword) (n : Nat) (t : TA) (T : XA) : Prop where
  pk : PK X kws t
  sk : ∀ {N : AS} {σ : Sts} {ρ : Ev} {H : Hp} {vs : List V} {ds : List D} {Q : List V → Hp → Prop}, Rl X.K C N σ ρ H [] [] vs ds → T.f ρ (fun fs ρ' => ∀ xs N' H', Rl X.K C N' σ ρ' H' xs fs vs ds → xs.length = n → Q xs H') → t σ H Q
variable {kws : List Keyword} {n : Nat}
theorem vk_nil : VK' X C [] 0 tNil xNil := ⟨pk_nil, fun R q => q _ _ _ R rfl⟩
theorem vk_cons {nm : Option Str} {kpos : Pos} (ha : VE X C e te Te) (hr : VK' X C kws n tr Tr) : VK' X C (⟨nm, e, kpos⟩ :: kws) (n + 1) (tCons te tr) (xCons Te Tr) := by
  refine ⟨pk_cons ha.pe hr.pk, fun R q => ha.se R (Te.mono (fun d ρ1 h v N1 H1 R1 => ?_) q)⟩
  exact hr.sk R1.park (Tr.mono (fun fs ρ2 h xs N2 H2 R2 hl => h _ _ _ R2.cons (congrArg (· + 1) hl)) h)
/-- f(k = v, ..): the names in the order of the parameters -/
theorem ve_callKw {k : Nat} {f : Addr} {fd : FuncData} {ps ks : List Str} {F : FS} {x : Str} {tk : TA} {Tk : XA} (G : FnOk X.prog X.w X.K X.mg X.base CX0 k f fd ps (spOf X.K n [] F)) (hr : Room k X.A) (hg : Gl X x) (hm : X.mg x = some (.ref f)) (hk : PySem.W.keepIn X.K (.ref f) = true)
    (hb : KBinds X.K fd ps ks (fun _ ws => ws) (fun _ ws => ws)) (hw : VK' X C kws n tk Tk) (hall : (backToKw pos (keywordEach kws X.env)).all (·.1.isSome) = true := by rfl) (hks : (backToKw pos (keywordEach kws X.env)).filterMap (·.1) = ks := by rfl)
    (hdb : (x == ("__debug__" : Str)) = false := by decide) (hpl : ((backTo pos (starEach [] X.env)).any (·.1) || (backToKw pos (keywordEach kws X.env)).any (·.1.isNone)) = false := by rfl) :
    VE X C (.Call (.Name x p) [] kws pos) (tCallK (spOf X.K n [] F) (fun _ ws => ws) E0 tNil tk) (xCall F [] Tk) := by
  refine ⟨pe_callK0 G hr hg hm hk hb pass0 hw.pk hall hks hdb hpl, fun {N σ ρ H vs ds Q} R q => ?_⟩
  refine hw.sk R (Tk.mono (fun fs ρ1 h xs N1 H1 R1 hl => ?_) q)
  exact call_ok (sl := List.replicate n none) (ios := []) R1 ⟨by rw [hl, List.length_replicate], fun k i hk => by
    rw [List.getElem?_replicate] at hk
    split at hk <;> cases hk⟩ (by rw [List.length_replicate]) (fun _ z => by cases z) h

/-! ### places within an owned list -/
/-- x[k] = e, x owned -/
def xSetS (i : Nat) (T : XE) : XG := ⟨fun d ρ Q => (∃ z, ρ[i]? = some (some z)) ∧ T.f ρ fun k ρ' => ∃ zs n j, k = .int n ∧ ρ'[i]? = some (some (.own zs)) ∧ ixN zs.length n = some j ∧ Q (ρ'.set i (some (.own (zs.set j d)))), fun m ⟨h, q⟩ => ⟨h, T.mono (fun _ _ h => by
  obtain ⟨zs, n, j, h1, h2, h3, q⟩ := h
  exact ⟨zs, n, j, h1, h2, h3, m _ q⟩) q⟩⟩
theorem Rps.set {K : Fg} {N : AS} {H : Hp} {d : D} {v : V} {B : AS} (r : Rp K N H d v B) : ∀ {ds : List D} {us : List V} {A : AS} (j : Nat), Rps K N H ds us A → (∀ x, A x → ¬ B x) → Rps K N H (ds.set j d) (us.set j v) (fun x => A x ∨ B x)
  | [], us, A, j, h, _ => by
    cases (show us = [] from h)
    exact rfl
  | e :: ds, us, A, 0, h, dj => by
    obtain ⟨w, vr, A1, A2, rfl, h1, h2, s1, s2, dj1⟩ := h
    exact ⟨v, vr, B, A2, rfl, r, h2, fun _ z => .inr z, fun x z => .inl (s2 x z), fun x z w => dj x (s2 x w) z⟩
  | e :: ds, us, A, j + 1, h, dj => by
    obtain ⟨w, vr, A1, A2, rfl, h1, h2, s1, s2, dj1⟩ := h
    refine ⟨w, _, A1, fun x => A2 x ∨ B x, rfl, h1, Rps.set r j h2 fun x z => dj x (s2 x z), fun x z => .inl (s1 x z), fun x z => ?_, fun x z w => ?_⟩
    · rcases z with z | z
      · exact .inl (s2 x z)
      · exact .inr z
    · rcases w with w | w
      · exact dj1 x z w
      · exact dj x (s1 x z) w
theorem vg_setS (i : Nat) {o : Expr} (ho : PE X o (tVar i)) (hi : VE X C e te Te) (ha : ∀ v, assign (.Subscript o e pos) X.env v = (do
      let ov ← holding [v] (eval o X.env)
      let iv ← holding [v, ov] (eval e X.env)
      standAt pos
      holding [v, ov, iv] (setItem ov iv v)
      release [v, ov, iv] []) := by intro _; rfl) : VG X C (.Subscript o e pos) (gSub (tVar i) te rSetL) (xSetS i Te) := by
  refine ⟨pg_sub ho hi.pe set_list ha, fun {N σ ρ H v d vs ds Q} R q => ?_⟩
  obtain ⟨⟨z, hz⟩, q⟩ := q
  obtain ⟨w, A, e1, _⟩ := R.any hz
  refine ⟨w, e1, hi.se R.park (Te.mono (fun k ρ' h u N1 H1 R1 => ?_) q)⟩
  obtain ⟨zs, n, j, rfl, h1, h2, h⟩ := h
  obtain ⟨Ak, rk⟩ := R1.top1
  have R2 := R1.drop.cons
  obtain ⟨w', e2, R3⟩ := R2.lendL h1
  rw [e1] at e2
  cases e2
  obtain ⟨a, us, B, rfl, ha', r'⟩ := R3.ownAt
  refine ⟨a, us, n, j, rfl, rk, ha', by rw [← r'.length]; exact h2, ?_⟩
  have R4 : Rl X.K C N1 σ (ρ'.set i none) (upd H1 a (.lst (us.set j v))) [.ref a] [.own (zs.set j d)] vs ds := R3.write ha' fun B1 B2 r1 r2 dj => by
    obtain ⟨v', vr, A1, A2, ev, r3, r4, s1, s2, _⟩ := r2
    cases ev
    exact ⟨_, Rps.set (r3.up s1) j r1 dj, fun _ z => z⟩
  have R5 := R4.give e1
  rw [List.set_set] at R5
  exact h _ _ _ R5
/-- x[n] stands in an owned list and is owned itself: compared with a value that owns nothing -/
theorem Rl.inner {K : Fg} {N : AS} {σ : Sts} {ρ : Ev} {H : Hp} {xs vs : List V} {fs ds : List D} {i n : Nat} {zs : List D} {z : D} {v : V} (R : Rl K C N σ ρ H xs fs vs ds) (e : ρ[i]? = some (some (.own zs))) (ez : zs[n]? = some z) (ev : σ[i]? = some (some v)) : ∃ a us w A, v = .ref a ∧ H a = some (.lst us) ∧ us.length = zs.length ∧ us[n]? = some w ∧ Rp K N H z w A := by
  obtain ⟨v', A, e1, r⟩ := R.any e
  rw [ev] at e1
  cases e1
  obtain ⟨a, us, B, rfl, ha, _, _, rr⟩ := r
  obtain ⟨w, A1, h1, h2, _⟩ := rr.get0 ez
  exact ⟨a, us, w, A1, rfl, ha, rr.length.symm, h1, h2⟩
/-- x[n] op e: e reckons without changing anything -/
def xNeP (i n : Nat) (d0 : D) : XE := ⟨fun ρ Q => ∃ zs z b, ρ[i]? = some (some (.own zs)) ∧ zs[n]? = some z ∧ eqD z d0 = some b ∧ Q (.bl (!b)) ρ, fun m h => by
  obtain ⟨zs, z, b, h1, h2, h3, q⟩ := h
  exact ⟨zs, z, b, h1, h2, h3, m _ _ q⟩⟩
theorem ve_nePempty (i n : Nat) {o : Expr} {k : Nat} {p3 p4 : Pos} (hu : X.A.units + 64 < cLine) (ho : PE X o (tVar i)) (hs : PlainIx (.Constant (.int n) k p3) := by exact fun _ _ => rfl) (hm : behindInMarks .NotEq (.List [] p4) = false := by exact nomark _) :
    VE X C (.Compare (.Subscript o (.Constant (.int n) k p3) p2) [.NotEq] [.List [] p4] pos) (tOp (rNeX X.K) (tOp (rIx X.K) (tVar i) (tC (.int n))) (tLst tNil)) (xNeP i n (.own [])) := by
  refine ⟨pe_cmpR (op_neX hu) (pe_ix ix_seq ho pe_int hs) (pe_lst pa_nil) hm, fun {N σ ρ H vs ds Q} R q => ?_⟩
  obtain ⟨zs, z, b, h1, h2, h3, q⟩ := q
  obtain ⟨v, A, e1, _⟩ := R.any h1
  obtain ⟨a, us, w, A1, rfl, ha, hl, hw, rz⟩ := R.inner h1 h2 e1
  refine ⟨_, e1, .inl ⟨a, us, n, w, rfl, rfl, .inl (.inl ha), atI_nat hw, Nat.zero_le _, fun p np => ?_⟩⟩
  have x : Ext X.K N H (fun y => N y ∨ y = p) (upd H p (.lst [])) := .alloc np fun _ q => q
  have R1 := R.allocN (zs := []) (fs := []) np rfl
  obtain ⟨Av, hv⟩ := R1.top1
  obtain ⟨v', A', e1', _⟩ := R1.any h1
  obtain ⟨a', us', w', A2, ea, ha2, hl2, hw2, rz2⟩ := R1.inner h1 h2 e1
  cases ea
  have eu : us' = us := by
    have ne : a ≠ p := ne_of_none ha np
    rw [upd_ne ne, ha] at ha2
    cases ha2
    rfl
  subst eu
  rw [hw] at hw2
  cases hw2
  exact neX_of rz2 hv h3 (q _ _ _ (R1.res rfl))
/-- x[n].pop(k), the list at x[n] owned, k written -/
def xPopP (i n k : Nat) : XE := ⟨fun ρ Q => ∃ zs ys z, ρ[i]? = some (some (.own zs)) ∧ zs[n]? = some (.own ys) ∧ ys[k]? = some z ∧ z.sh = true ∧ Q z (ρ.set i (some (.own (zs.set n (.own (ys.eraseIdx k)))))), fun m h => by
  obtain ⟨zs, ys, z, h1, h2, h3, h4, q⟩ := h
  exact ⟨zs, ys, z, h1, h2, h3, h4, m _ _ q⟩⟩
theorem Rps.erase0 {K : Fg} {N : AS} {H : Hp} : ∀ {ds : List D} {us : List V} {A : AS} (k : Nat), Rps K N H ds us A → Rps K N H (ds.eraseIdx k) (us.eraseIdx k) A
  | [], us, A, k, h => by
    cases (show us = [] from h)
    exact rfl
  | d :: ds, us, A, 0, h => by
    obtain ⟨w, vr, A1, A2, rfl, h1, h2, s1, s2, dj1⟩ := h
    exact h2.up s2
  | d :: ds, us, A, k + 1, h => by
    obtain ⟨w, vr, A1, A2, rfl, h1, h2, s1, s2, dj1⟩ := h
    exact ⟨w, _, A1, A2, rfl, h1, Rps.erase0 k h2, s1, s2, dj1⟩
/-- one item of an owned list, itself an owned list, is written -/
theorem Rps.inner {K : Fg} {N : AS} {H H' : Hp} {b : Addr} {ys gs : List D} (x : Ext K N H N H') (oth : ∀ y, y ≠ b → H' y = H y) : ∀ {ds : List D} {us : List V} {A : AS} (n : Nat), Rps K N H ds us A → ds[n]? = some (.own ys) → us[n]? = some (.ref b) →
    (∀ A1, Rp K N H (.own ys) (.ref b) A1 → Rp K N H' (.own gs) (.ref b) A1) → Rps K N H' (ds.set n (.own gs)) us A ∧ A b
  | [], us, A, n, h, e, _, _ => by simp at e
  | d :: ds, us, A, 0, h, e, ev, w => by
    obtain ⟨v, vr, A1, A2, rfl, h1, h2, s1, s2, dj1⟩ := h
    cases (show some d = some (.own ys) from e)
    cases (show some v = some (.ref b) from ev)
    obtain ⟨a', _, _, ea, _, hA, _⟩ := id h1
    cases ea
    exact ⟨⟨_, vr, A1, A2, rfl, w A1 h1, h2.keep x ds fun y q => oth y fun z => dj1 b hA (z ▸ q), s1, s2, dj1⟩, s1 _ hA⟩
  | d :: ds, us, A, n + 1, h, e, ev, w => by
    obtain ⟨v, vr, A1, A2, rfl, h1, h2, s1, s2, dj1⟩ := h
    obtain ⟨r, hb⟩ := Rps.inner x oth n h2 (by simpa using e) (by simpa using ev) w
    exact ⟨⟨v, vr, A1, A2, rfl, h1.keep x d fun y q => oth y fun z => dj1 y q (z ▸ hb), r, s1, s2, dj1⟩, s2 _ hb⟩
theorem ve_popP (i n k : Nat) {o : Expr} {k1 k2 : Nat} {p3 p4 apos : Pos} (ho : PE X o (tVar i)) (hk : k < 1000) (hs : PlainIx (.Constant (.int n) k1 p3) := by exact fun _ _ => rfl)
    (hp : PE X (.Call (.Attribute (.Subscript o (.Constant (.int n) k1 p3) p2) "pop" apos) [.Constant (.int k) k2 p4] [] pos) (tBM X.K "list" rPopAt (tOp (rIx X.K) (tVar i) (tC (.int n))) (tCons (tC (.int k)) tNil))) :
    VE X C (.Call (.Attribute (.Subscript o (.Constant (.int n) k1 p3) p2) "pop" apos) [.Constant (.int k) k2 p4] [] pos) (tBM X.K "list" rPopAt (tOp (rIx X.K) (tVar i) (tC (.int n))) (tCons (tC (.int k)) tNil)) (xPopP i n k) := by
  refine ⟨hp, fun {N σ ρ H vs ds Q} R q => ?_⟩
  obtain ⟨zs, ys, z, h1, h2, h3, h4, q⟩ := q
  obtain ⟨v, A, e1, _⟩ := R.any h1
  obtain ⟨a, us, w, A1, rfl, ha, hl, hw, rz⟩ := R.inner h1 h2 e1
  obtain ⟨b, ws, B, rfl, hb, hAb, hB, rr⟩ := rz
  obtain ⟨y, A2, hy, ry, _⟩ := rr.get0 h3
  have hk2 : k < ws.length := (List.getElem?_eq_some_iff.mp hy).1
  refine ⟨_, e1, .inl ⟨a, us, n, .ref b, rfl, rfl, .inl (.inl ha), atI_nat hw, .inl ⟨rfl, ws, .inl (.inl hb)⟩, b, ws, k, k, y, rfl, rfl, hb, by omega, by omega, ?_, hy, ?_⟩⟩
  · rw [seqIndex_of (by omega) (by omega)]
    rfl
  · obtain ⟨v2, e2, R1⟩ := R.lend h1
    rw [e1] at e2
    cases e2
    obtain ⟨A', B1, B2, hA, hh1, hh2, d1, d2, ow⟩ := R1.ex
    obtain ⟨v', vr', C1, C2, ev, rr1, rr2, t1, t2, dj⟩ := hh1
    cases ev
    obtain ⟨a', us', B', e', ha', hAa, hB', rrB⟩ := rr1
    cases e'
    rw [ha] at ha'
    cases ha'
    have nab : a ≠ b := fun z => by
      obtain ⟨w', A3, g1, g2, g3⟩ := rrB.get0 h2
      rw [hw] at g1
      cases g1
      obtain ⟨b', _, _, eb, _, hAb', _⟩ := g2
      cases eb
      exact (hB' b (g3 b hAb')).2 z.symm
    have Nb : N b := by
      obtain ⟨w', A3, g1, g2, g3⟩ := rrB.get0 h2
      rw [hw] at g1
      cases g1
      obtain ⟨b', _, _, eb, _, hAb', _⟩ := g2
      cases eb
      exact (ow b (.inr (.inl (t1 b (hB' b (g3 b hAb')).1)))).1
    have x : Ext X.K N H N (upd H b (.lst (ws.eraseIdx k))) := .write hb Nb
    have oth : ∀ y, y ≠ b → upd H b (.lst (ws.eraseIdx k)) y = H y := fun y z => upd_ne z
    obtain ⟨r5, hb5⟩ := Rps.inner (gs := ys.eraseIdx k) x oth n rrB h2 hw fun A1 h => by
      obtain ⟨b', ws', B5, eb, hb', g1, g2, g3⟩ := h
      cases eb
      rw [hb] at hb'
      cases hb'
      exact ⟨b, ws.eraseIdx k, B5, rfl, upd_same, g1, g2, (Rps.erase0 k g3).keep x _ fun y z => oth y (g2 y z).2⟩
    have nz : ∀ y, H y ≠ none → upd H b (.lst (ws.eraseIdx k)) y ≠ none := fun y q => by
      by_cases z : y = b
      · rw [z, upd_same]; exact fun z => by cases z
      · rw [oth y z]; exact q
    have bB : B1 b := t1 b (hB' b hb5).1
    have R2 : Rl X.K C N σ (ρ.set i none) (upd H b (.lst (ws.eraseIdx k))) [.ref a] [.own (zs.set n (.own (ys.eraseIdx k)))] vs ds := by
      refine ⟨⟨A', B1, B2, hA.keep x fun y z => oth y fun w => (d1 y z).1 (w ▸ bB), ⟨.ref a, [], C1, C2, rfl, ⟨a, us, B', rfl, by rw [oth a nab]; exact ha, hAa, hB', r5⟩, rfl, t1, t2, dj⟩, hh2.keep x ds fun y z => oth y fun w => d2 b bB (w ▸ z), d1, d2, ow⟩,
        fun y z => nz y (R1.nh y z), R1.h0, R1.n0, fun y z n => ?_, R1.xt.trans x, R1.pr, fun y z => nz y (R1.dm y z)⟩
      refine (oth y fun w => ?_).trans (R1.fr y z n)
      rcases (ow b (.inr (.inl bB))).2 with u | u
      · exact n (w ▸ u)
      · exact R1.h0 y z (w ▸ u)
    have R3 := R2.give e1
    rw [List.set_set] at R3
    exact q _ _ _ (R3.res ((ry.share h4).keep0 x))
end
end BV

/-! BV, part N: the forms that a printer writes. -/
namespace BV
open PySem PySem.Spec PyProof.Rows L2
abbrev FnP (K : Fg) (x : Str) (st : Stmt) (f : Addr) (fd : FuncData) : Prop := FunD K x x (defArgs st) (defBody st) (defScope st) [] [] f fd
/-- a promise by parameters x: what the arguments are, what holds ahead, what holds behind of the value and the lent arguments -/
def FS.ex {α : Type} (args : α → List D) (pre : α → Prop) (post : α → D → List D → Prop) : FS := ⟨fun ds Q => ∃ x : α, ds = args x ∧ pre x ∧ ∀ d o, post x d o → Q d o, fun m ⟨x, h1, h2, q⟩ => ⟨x, h1, h2, fun d o z => m _ _ (q d o z)⟩⟩
section
variable {P : Program} {w : World} {K : Fg} {mg : Str → Option Value} {base : Heap}
/-- a def of the text that keeps a promise by values -/
structure OkF (P : Program) (w : World) (K : Fg) (mg : Str → Option Value) (base : Heap) (k : Nat) (x : Str) (ps : List Str) (n : Nat) (ios : List Nat) (F : FS) : Prop where
  ex : ∃ (f : Addr) (fd : FuncData), mg x = some (.ref f) ∧ PySem.W.keepIn K (.ref f) = true ∧ Binds K fd ps [] ∧ (∀ (s : Shared) (ws : List Value), ws.length = ps.length → BindsTo s fd ⟨[], ps.zip ws⟩ (ps.zip ws)) ∧ FnOk P w K mg base CX0 k f fd ps (spOf K n ios F)
theorem okf_fn {x : Str} {st : Stmt} {f : Addr} {fd : FuncData} {Nm ps : List Str} {k n : Nat} {ios : List Nat} {F : FS} (Fn : FnP K x st f fd) (g : mg x = some (.ref f)) (S : FnScope Nm ps (defScope st)) (hn : ps.length = n) (nd : ios.Nodup) (hi : ∀ i ∈ ios, i < n)
    (b1 : ∀ (kV doc pm : Value) (an : Option Addr) (cdv ct : Value) (us : List Value), us.length = ps.length → bindArgs (PySem.W.fnOf x x (defArgs st) (defBody st) (defScope st) .none kV doc pm an cdv ct) ⟨us, []⟩ = pure (ps.zip us))
    (b2 : ∀ (kV doc pm : Value) (an : Option Addr) (cdv ct : Value) (us : List Value), us.length = ps.length → bindArgs (PySem.W.fnOf x x (defArgs st) (defBody st) (defScope st) .none kV doc pm an cdv ct) ⟨[], ps.zip us⟩ = pure (ps.zip us))
    (hbody : ∀ (cdv : Value) (A : Around) (outer : List Env) (s : Shared) (H : Hp) (E : XK) (C : Ct), (∀ p ∈ C.prot, p.1 ∈ ios) → Room k (A.deeper (envOfC x (defScope st) s.heap.objs.size f cdv)) →
      ∃ t T, VB (cxOf CX0 P w K mg base Nm x (defScope st) f cdv A outer s H E).nox C (defBody st) t T ∧
        ∀ (ds : List D) (Q : D → List D → Prop), F.f ds Q → T.f { nx := fun ρ => ∃ outs, outsOf ios ρ = outs.map some ∧ Q .non outs, rt := fun r ρ => ∃ outs, outsOf ios ρ = outs.map some ∧ Q r outs, bk := fun _ => False, ct := fun _ => False } (ds.map some ++ List.replicate (Nm.length - n) none)) :
    FnOk P w K mg base CX0 (k + 1) f fd ps (spOf K n ios F) := by
  obtain ⟨oc, od, dV, kV, doc, pm, an, cdv, ct, osl, rfl, lk, hcd, hD, hK⟩ := Fn.ex
  rcases hD with ⟨_, rfl⟩ | ⟨e, _⟩
  · exact fn_ok ⟨⟨oc, od, kV, doc, pm, an, cdv, ct, osl, rfl, lk, hcd⟩, Fn.kp⟩ S hn nd hi hbody
  · exact absurd rfl e
theorem okf_mk {x : Str} {st : Stmt} {f : Addr} {fd : FuncData} {Nm ps : List Str} {k n : Nat} {ios : List Nat} {F : FS} (Fn : FnP K x st f fd) (g : mg x = some (.ref f)) (S : FnScope Nm ps (defScope st)) (hn : ps.length = n) (nd : ios.Nodup) (hi : ∀ i ∈ ios, i < n)
    (b1 : ∀ (kV doc pm : Value) (an : Option Addr) (cdv ct : Value) (us : List Value), us.length = ps.length → bindArgs (PySem.W.fnOf x x (defArgs st) (defBody st) (defScope st) .none kV doc pm an cdv ct) ⟨us, []⟩ = pure (ps.zip us))
    (b2 : ∀ (kV doc pm : Value) (an : Option Addr) (cdv ct : Value) (us : List Value), us.length = ps.length → bindArgs (PySem.W.fnOf x x (defArgs st) (defBody st) (defScope st) .none kV doc pm an cdv ct) ⟨[], ps.zip us⟩ = pure (ps.zip us))
    (hbody : ∀ (cdv : Value) (A : Around) (outer : List Env) (s : Shared) (H : Hp) (E : XK) (C : Ct), (∀ p ∈ C.prot, p.1 ∈ ios) → Room k (A.deeper (envOfC x (defScope st) s.heap.objs.size f cdv)) →
      ∃ t T, VB (cxOf CX0 P w K mg base Nm x (defScope st) f cdv A outer s H E).nox C (defBody st) t T ∧
        ∀ (ds : List D) (Q : D → List D → Prop), F.f ds Q → T.f { nx := fun ρ => ∃ outs, outsOf ios ρ = outs.map some ∧ Q .non outs, rt := fun r ρ => ∃ outs, outsOf ios ρ = outs.map some ∧ Q r outs, bk := fun _ => False, ct := fun _ => False } (ds.map some ++ List.replicate (Nm.length - n) none)) :
    OkF P w K mg base (k + 1) x ps n ios F := by
  refine ⟨f, fd, g, Fn.kp, Fn.bindsN b1, fun s ws hl => ?_, ?_⟩
  · obtain ⟨oc, od, dV, kV, doc, pm, an, cdv, ct, osl, rfl, lk, hcd, hD, hK⟩ := Fn.ex
    rcases hD with ⟨_, rfl⟩ | ⟨e, _⟩
    · exact .of_eq (b2 kV doc pm an cdv ct ws hl)
    · exact absurd rfl e
  · obtain ⟨oc, od, dV, kV, doc, pm, an, cdv, ct, osl, rfl, lk, hcd, hD, hK⟩ := Fn.ex
    rcases hD with ⟨_, rfl⟩ | ⟨e, _⟩
    · exact fn_ok ⟨⟨oc, od, kV, doc, pm, an, cdv, ct, osl, rfl, lk, hcd⟩, Fn.kp⟩ S hn nd hi hbody
    · exact absurd rfl e
theorem OkF.mono {j k : Nat} {x : Str} {ps : List Str} {n : Nat} {ios : List Nat} {F : FS} (G : OkF P w K mg base j x ps n ios F) (h : j ≤ k) : OkF P w K mg base k x ps n ios F := by
  obtain ⟨f, fd, a, b, c, d, e⟩ := G.ex
  exact ⟨f, fd, a, b, c, d, e.mono h⟩
/-- what a caller may lean on, weaker -/
theorem OkF.imp {k : Nat} {x : Str} {ps : List Str} {n : Nat} {ios : List Nat} {F F' : FS} (G : OkF P w K mg base k x ps n ios F) (h : ∀ ds Q, F'.f ds Q → F.f ds Q) : OkF P w K mg base k x ps n ios F' := by
  obtain ⟨f, fd, a, b, c, d, e⟩ := G.ex
  refine ⟨f, fd, a, b, c, d, e.imp fun vs H Q E q => ?_⟩
  obtain ⟨l, N, A, ds, r, h1, h2, q⟩ := q
  exact ⟨l, N, A, ds, r, h1, h2, h _ _ q⟩
end
section
variable {X : Cx} {C : Ct} {a b c e : Expr} {es rest : List Expr} {ta tb tc te : TE} {Ta Tb Tc Te : XE} {pos p p2 : Pos} {tr : TA} {Tr : XA} {sl : List (Option Nat)}
theorem vf_call {ss : List (Option Nat)} {k : Nat} {ps : List Str} {n : Nat} {ios : List Nat} {F : FS} {x : Str} (G : OkF X.prog X.w X.K X.mg X.base k x ps n ios F) (hr : Room k X.A) (hg : Gl X x)
    (ha : VA X C (e :: es) sl tr Tr) (hss : (ios.map fun k => (sl[k]?).getD none) = ss := by rfl) (hn : sl.length = n := by rfl) (hi : ∀ i ∈ ios, i < n := by decide) (hdb : (x == ("__debug__" : Str)) = false := by decide) (he : starEach (e :: es) X.env = (false, eval e X.env) :: starEach es X.env := by rfl) (hpl : (backTo pos (starEach es X.env)).any (·.1) = false := by rfl) :
    VE X C (.Call (.Name x p) (e :: es) [] pos) (tCall (spOf X.K n ios F) [] E0 tr) (xCall F ss Tr) := by
  obtain ⟨f, fd, g, kp, b, _, G⟩ := G.ex
  rw [← hss]
  exact ve_call G hr hg g kp b ha hn hi hdb he hpl
theorem vf_callKw {k : Nat} {ps : List Str} {n : Nat} {F : FS} {x : Str} {kws : List Keyword} {tk : TA} {Tk : XA} (G : OkF X.prog X.w X.K X.mg X.base k x ps n [] F) (hr : Room k X.A) (hg : Gl X x)
    (hw : VK' X C kws n tk Tk) (hl : ps.length = n := by rfl) (hall : (backToKw pos (keywordEach kws X.env)).all (·.1.isSome) = true := by rfl) (hks : (backToKw pos (keywordEach kws X.env)).filterMap (·.1) = ps := by rfl)
    (hdb : (x == ("__debug__" : Str)) = false := by decide) (hpl : ((backTo pos (starEach [] X.env)).any (·.1) || (backToKw pos (keywordEach kws X.env)).any (·.1.isNone)) = false := by rfl) :
    VE X C (.Call (.Name x p) [] kws pos) (tCallK (spOf X.K n [] F) (fun _ ws => ws) E0 tNil tk) (xCall F [] Tk) := by
  obtain ⟨f, fd, g, kp, _, b, G⟩ := G.ex
  refine ⟨⟨fun pins s σ H Q I h => ?_⟩, fun {N σ ρ H vs ds Q} R q => ?_⟩
  · refine wpAny_Call_Name_kw (ld_glob I hg g ?_ hdb)
    refine PySem.W.callWith_KW0 (h₀ := X.base) I.ok.mod.kin kp hall ?_ hpl
    refine thn (hw.pk.run pos pins s σ H _ I h) fun ws s2 ⟨zs, H2, I2, rz, q2⟩ => ⟨I2.kIn, ?_⟩
    rw [hks]
    have hlen : ws.length = ps.length := by rw [← rz.length]; exact G.len _ _ _ _ q2
    refine wpAny_call (codeAny_mono (G.run X.A X.stack s2 H2 ⟨[], ps.zip ws⟩ ws zs Q E0 hr I2.env0 (b s2 ws hlen) rz q2) fun r s' hq => ?_)
    cases r with
    | error e => exact False.elim hq
    | ok fl =>
      cases fl with
      | ret u => exact I2.after hq
      | next => exact False.elim hq
      | brk => exact False.elim hq
      | cont => exact False.elim hq
  · refine hw.sk R (Tk.mono (fun fs ρ1 h xs N1 H1 R1 hl => ?_) q)
    exact call_ok (sl := List.replicate n none) (ios := []) R1 ⟨by rw [hl, List.length_replicate], fun k i hk => by
      rw [List.getElem?_replicate] at hk
      split at hk <;> cases hk⟩ (by rw [List.length_replicate]) (fun _ z => by cases z) h
/-- a slot's value handed out; the slot holds nothing from here on -/
def xMv (i : Nat) : XE := ⟨fun ρ Q => ∃ d, ρ[i]? = some (some d) ∧ Q d (ρ.set i none), fun m ⟨d, h1, q⟩ => ⟨d, h1, m _ _ q⟩⟩
theorem ve_mv (i : Nat) (h : PE X e (tVar i)) : VE X C e (tVar i) (xMv i) := by
  refine ⟨h, fun R q => ?_⟩
  obtain ⟨d, h1, q⟩ := q
  obtain ⟨v, e1, R1⟩ := R.lend h1
  exact ⟨v, e1, q v _ _ R1⟩
theorem vs_setN {i : Nat} {x : Str} {ios : List Nat} {pos' : Pos} (hN : X.N.Nodup) (hi : X.N[i]? = some x) (hx : Loc X.env.scope x) (he : VE X C e te Te) (hC : ∀ p ∈ C.prot, p.1 ∈ ios) (hio : i ∉ ios := by decide) (hs : swapsWith e (some (.Name x pos')) pos.line X.env = pure false := by rfl) (hf : X.fn x = true ∨ X.env.scope.names.lookup x = some .local := by first | exact .inl rfl | exact .inr rfl | assumption) :
    VS X C (.Assign [.Name x pos'] e pos) (tAsg te (gName i)) (xAsg Te (xgName i)) := vs_set (ps_set hN hi hx he.pe hs hf) he hC hio
theorem vs_parN {i j : Nat} {x y : Str} {ios : List Nat} {px py pt : Pos} {kt k2 pt2} (hc : X.calm = true) (hN : X.N.Nodup) (hi : X.N[i]? = some x) (hj : X.N[j]? = some y) (hij : i ≠ j) (hx : X.env.scope.names.lookup x = some .local) (hy : X.env.scope.names.lookup y = some .local) (ha : VA X C [a, b] sl tr Tr) (hC : ∀ p ∈ C.prot, p.1 ∈ ios)
    (hw : swappedStores [.Tuple [.Name x px, .Name y py] kt pt] (.Tuple [a, b] k2 pt2) X.env = pure (some [x, y])) (hio : i ∉ ios := by decide) (hjo : j ∉ ios := by decide) (hs : swapsWithSole [.Tuple [.Name x px, .Name y py] kt pt] (.Tuple [a, b] k2 pt2) pos.line X.env = pure false := by rfl) :
    VS X C (.Assign [.Tuple [.Name x px, .Name y py] kt pt] (.Tuple [a, b] k2 pt2) pos) (tPar i j tr) (xPar [i, j] Tr) := vs_par (ps_par hc hN hi hj hij hx hy ha.pa hw hs) ha hC hio hjo
theorem vs_par3N {i j l : Nat} {x y z : Str} {ios : List Nat} {px py pz pt : Pos} {kt k2 pt2} (hc : X.calm = true) (hN : X.N.Nodup) (hi : X.N[i]? = some x) (hj : X.N[j]? = some y) (hl : X.N[l]? = some z) (hij : i ≠ j) (hil : i ≠ l) (hjl : j ≠ l) (hx : X.env.scope.names.lookup x = some .local) (hy : X.env.scope.names.lookup y = some .local) (hz : X.env.scope.names.lookup z = some .local) (ha : VA X C [a, b, c] sl tr Tr) (hC : ∀ p ∈ C.prot, p.1 ∈ ios)
    (hw : swappedStores [.Tuple [.Name x px, .Name y py, .Name z pz] kt pt] (.Tuple [a, b, c] k2 pt2) X.env = pure (some [x, y, z])) (hio : i ∉ ios := by decide) (hjo : j ∉ ios := by decide) (hlo : l ∉ ios := by decide) (hs : swapsWithSole [.Tuple [.Name x px, .Name y py, .Name z pz] kt pt] (.Tuple [a, b, c] k2 pt2) pos.line X.env = pure false := by rfl) :
    VS X C (.Assign [.Tuple [.Name x px, .Name y py, .Name z pz] kt pt] (.Tuple [a, b, c] k2 pt2) pos) (tPar3 i j l tr) (xPar [i, j, l] Tr) := vs_par3 (ps_par3 hc hN hi hj hl hij hil hjl hx hy hz ha.pa hw hs) ha hC hio hjo hlo
theorem vf_lc {elt tg iter : Expr} {ifs : List Expr} {tF : Shared → Hp → Addr → List (Str × Addr) → List Addr → TT} {Ut : XT} {gF : Shared → Hp → Addr → List (Str × Addr) → List Addr → TG} {eF : Shared → Hp → Addr → List (Str × Addr) → List Addr → TE} {Tg : XG} {wi : TI} {Ti : XI} {scope : Scope} {own : List (Str × Nat)} {us ios : List Nat} (hc : X.calm = true) (hN : X.N.Nodup) (ok : BlkOk X.N X.env.scope scope own) (hC : ∀ p ∈ C.prot, p.1 ∈ ios) (hu : ∀ i ∈ us, i ∉ ios) (hi : VI X C tg iter wi Ti) (gw : ∀ (s : Shared) (H : Hp) (C' : Addr) (cl : List (Str × Addr)) (fp : List Addr), GW us (gF s H C' cl fp))
    (hg : ∀ (s : Shared) (H : Hp) (C' : Addr) (cl : List (Str × Addr)) (fp : List Addr), VG (X.blk s H scope (compEnvC scope cl C' X.env) fp) C tg (gF s H C' cl fp) Tg) (ht : ∀ (s : Shared) (H : Hp) (C' : Addr) (cl : List (Str × Addr)) (fp : List Addr), VTs (X.blk s H scope (compEnvC scope cl C' X.env) fp) C ifs (tF s H C' cl fp) Ut)
    (he : ∀ (s : Shared) (H : Hp) (C' : Addr) (cl : List (Str × Addr)) (fp : List Addr), VE (X.blk s H scope (compEnvC scope cl C' X.env) fp) C elt (eF s H C' cl fp) Te) (hus : own.map (·.2) = us) (hs : ∀ x, foldedSetIterable iter X.env x = pure x) :
    VE X C (.ListComp elt [⟨tg, iter, ifs, 0⟩] scope pos) (tLc wi (allG gF) (allT tF) (allE eF) us) (xLc Ti Tg Ut Te us) := by
  subst hus
  exact ve_lc hc hN ok hC hu hi gw hg ht he hs
theorem vf_setLc {elt tg iter : Expr} {ifs : List Expr} {tF : Shared → Hp → Addr → List (Str × Addr) → List Addr → TT} {Ut : XT} {gF : Shared → Hp → Addr → List (Str × Addr) → List Addr → TG} {eF : Shared → Hp → Addr → List (Str × Addr) → List Addr → TE} {Tg : XG} {wi : TI} {Ti : XI} {i : Nat} {y : Str} {py spos : Pos} {scope : Scope} {own : List (Str × Nat)} {us ios : List Nat} (hc : X.calm = true) (hN : X.N.Nodup) (hy : X.N[i]? = some y) (hyl : X.env.scope.names.lookup y = some .local) (hsw : swapsWith (.ListComp elt [⟨tg, iter, ifs, 0⟩] scope pos) (some (.Name y py)) spos.line X.env = pure true)
    (ok : BlkOk X.N X.env.scope scope own) (hC : ∀ p ∈ C.prot, p.1 ∈ ios) (hu : ∀ i ∈ us, i ∉ ios) (hi : VI X C tg iter wi Ti) (gw : ∀ (s : Shared) (H : Hp) (C' : Addr) (cl : List (Str × Addr)) (fp : List Addr), GW us (gF s H C' cl fp))
    (hg : ∀ (s : Shared) (H : Hp) (C' : Addr) (cl : List (Str × Addr)) (fp : List Addr), VG (X.blk s H scope (compEnvC scope cl C' X.env) fp) C tg (gF s H C' cl fp) Tg) (ht : ∀ (s : Shared) (H : Hp) (C' : Addr) (cl : List (Str × Addr)) (fp : List Addr), VTs (X.blk s H scope (compEnvC scope cl C' X.env) fp) C ifs (tF s H C' cl fp) Ut)
    (he : ∀ (s : Shared) (H : Hp) (C' : Addr) (cl : List (Str × Addr)) (fp : List Addr), VE (X.blk s H scope (compEnvC scope cl C' X.env) fp) C elt (eF s H C' cl fp) Te) (hus : own.map (·.2) = us) (hio : i ∉ ios) (hs : ∀ x, foldedSetIterable iter X.env x = pure x) :
    VS X C (.Assign [.Name y py] (.ListComp elt [⟨tg, iter, ifs, 0⟩] scope pos) spos) (tAsg (tLc wi (allG gF) (allT tF) (allE eF) us) (gName i)) (xAsg (xLc Ti Tg Ut Te us) (xgName i)) := by
  subst hus
  exact vs_setLc hc hN hy hyl hsw ok hC hu hi gw hg ht he hio hs
theorem vf_setLcF {elt tg iter : Expr} {ifs : List Expr} {tF : Shared → Hp → Addr → List (Str × Addr) → List Addr → TT} {Ut : XT} {gF : Shared → Hp → Addr → List (Str × Addr) → List Addr → TG} {eF : Shared → Hp → Addr → List (Str × Addr) → List Addr → TE} {Tg : XG} {wi : TI} {Ti : XI} {i : Nat} {y : Str} {py spos : Pos} {scope : Scope} {own : List (Str × Nat)} {us ios : List Nat} (hc : X.calm = true) (hN : X.N.Nodup) (hy : X.N[i]? = some y) (hyl : X.env.scope.names.lookup y = some .local) (hsw : swapsWith (.ListComp elt [⟨tg, iter, ifs, 0⟩] scope pos) (some (.Name y py)) spos.line X.env = pure true)
    (ok : BlkOk X.N X.env.scope scope own) (hC : ∀ p ∈ C.prot, p.1 ∈ ios) (hu : ∀ i ∈ us, i ∉ ios) (hi : VI X C tg iter wi Ti) (gw : ∀ (s : Shared) (H : Hp) (C' : Addr) (cl : List (Str × Addr)) (fp : List Addr), GW us (gF s H C' cl fp))
    (hg : ∀ (s : Shared) (H : Hp) (C' : Addr) (cl : List (Str × Addr)) (fp : List Addr), VG (X.blk s H scope (compEnvC scope cl C' X.env) fp) C tg (gF s H C' cl fp) Tg) (ht : ∀ (s : Shared) (H : Hp) (C' : Addr) (cl : List (Str × Addr)) (fp : List Addr), VTs (X.blk s H scope (compEnvC scope cl C' X.env) fp) C ifs (tF s H C' cl fp) Ut)
    (he : ∀ (s : Shared) (H : Hp) (C' : Addr) (cl : List (Str × Addr)) (fp : List Addr), VE (X.blk s H scope (compEnvC scope cl C' X.env) fp) C elt (eF s H C' cl fp) Te) (hus : own.map (·.2) = us) (hio : i ∉ ios) (hs : ∀ x, foldedSetIterable iter X.env x = pure x) :
    VS X C (.Assign [.Name y py] (.ListComp elt [⟨tg, iter, ifs, 0⟩] scope pos) spos) (tAsg (tLc wi (allG gF) (allT tF) (allE eF) us) (gName i)) (xAsg (xFrz (xLc Ti Tg Ut Te us)) (xgName i)) := by
  subst hus
  exact vs_setLcF hc hN hy hyl hsw ok hC hu hi gw hg ht he hio hs
theorem ve_appN (i : Nat) {apos : Pos} {o : Expr} (ho : PE X o (tVar i)) (he : VE X C e te Te) (hbase : attributeBase o "append" X.env (eval o X.env) = eval o X.env := by rfl)
    (hfew : ((backTo pos (starEach (e :: []) X.env)).all (fun x => !x.1) && (backToKw pos (keywordEach [] X.env)).all (fun x => x.1.isSome)
      && decide ((e :: ([] : List Expr)).length + ([] : List Keyword).length + (if ([] : List Keyword).isEmpty then 0 else 1) < 30)) = true := by rfl)
    (hline : (apos.endLine == pos.line) = true := by rfl) (hs : starEach (e :: []) X.env = (false, eval e X.env) :: starEach [] X.env := by rfl) (hplain : (backTo pos (starEach [] X.env)).any (·.1) = false := by rfl) :
    VE X C (.Call (.Attribute o "append" apos) [e] [] pos) (tBM X.K "list" rAppend (tVar i) (tCons te tNil)) (xApp i Te) :=
  ve_app i ho he (pe_bm PySem.F.plainAttrs_list PySem.F.slot_list_append PySem.F.type_list_append mt_append ho (pa_cons he.pe pa_nil hs) hbase hfew hline hs hplain)
theorem vt_eqS (i : Nat) (hu : X.A.units + 64 < cLine) (ha : PE X a (tVar i)) (hb : VE X C b tb Tb) (hm : behindInMarks .Eq b = false) : VT X C (.Compare a [.Eq] [b] pos) (tTest (tOp (rEqX X.K) (tVar i) tb)) (xTst (xEqS i false Tb)) :=
  vt_of (ve_eqS i hu ha hb hm) (pt_cmpR (op_eqX hu) ha hb.pe hm)
theorem vt_neS (i : Nat) (hu : X.A.units + 64 < cLine) (ha : PE X a (tVar i)) (hb : VE X C b tb Tb) (hm : behindInMarks .NotEq b = false) : VT X C (.Compare a [.NotEq] [b] pos) (tTest (tOp (rNeX X.K) (tVar i) tb)) (xTst (xEqS i true Tb)) :=
  vt_of (ve_neS i hu ha hb hm) (pt_cmpR (op_neX hu) ha hb.pe hm)
variable {g : TG} {gs : TGs} {Tgs : XGs}
/-- (a, b, ..) = (x, y, ..) by way of a tuple: what owns may go in -/
def xTupAsg (n : Nat) (T : XA) (U : XGs) : XS := ⟨fun G ρ => T.f ρ fun fs ρ1 => fs.length = n ∧ fs.length ≤ sizeLine ∧ U.f fs ρ1 G.nx, fun l q => T.mono (fun _ _ h => ⟨h.1, h.2.1, U.mono (fun _ z => l.nx _ z) h.2.2⟩) q⟩
theorem vs_tupN {tgs : List Expr} {k k2 n : Nat} {pt : Pos} (hc : X.calm = true) (ha : VA X C es sl tr Tr) (hg : VGs X C tgs gs Tgs) (hn : (assignEach tgs X.env).length = n := by rfl) (hst : (assignEach tgs X.env).findIdx? (·.1) = none := by rfl) (hs : swapsWithSole [.Tuple tgs k pt] (.Tuple es k2 p2) pos.line X.env = pure false := by rfl) (hw : swappedStores [.Tuple tgs k pt] (.Tuple es k2 p2) X.env = pure none := by rfl)
    (h1 : (assignEach [.Tuple tgs k pt] X.env).map (·.2) = [assign (.Tuple tgs k pt) X.env] := by rfl) : VS X C (.Assign [.Tuple tgs k pt] (.Tuple es k2 p2) pos) (tAsg (tTup tr) (gTup X.K n gs)) (xTupAsg n Tr Tgs) := by
  refine ⟨ps_asg (pe_tup ha.pa) (pg_tup hc hg.pg hn hst) hs hw h1, fun R q L => ha.sa R (Tr.mono (fun fs ρ1 h xs N1 H1 R1 _ => ?_) q)⟩
  obtain ⟨h1, h2, h⟩ := h
  obtain ⟨A, r⟩ := R1.top
  refine ⟨by rw [← r.length]; exact h2, fun p np => ⟨p, xs, rfl, .inl (.inl upd_same), by rw [← r.length]; exact h1, ?_⟩⟩
  exact hg.sg (R1.alloc np) (Tgs.mono (fun ρ2 z N2 σ2 H2 R2 => L.nx _ _ _ _ R2 z) h)
end
end BV

/-! BV, part O: to run a reading, step by step. -/
namespace BV
open PySem PySem.Spec PyProof.Rows L2
abbrev GoB (ios : List Nat) (post : D → List D → Prop) : DE := { nx := fun ρ => ∃ outs, outsOf ios ρ = outs.map some ∧ post .non outs, rt := fun r ρ => ∃ outs, outsOf ios ρ = outs.map some ∧ post r outs, bk := fun _ => False, ct := fun _ => False }
def Pf (F : FS) (T : XS) (ios : List Nat) (m : Nat) : Prop := ∀ (ds : List D) (Q : D → List D → Prop), F.f ds Q → T.f (GoB ios Q) (ds.map some ++ List.replicate m none)
theorem pf_ex {α : Type} {args : α → List D} {pre : α → Prop} {post : α → D → List D → Prop} {T : XS} {ios : List Nat} {m : Nat} (h : ∀ x, pre x → ∀ R N, (∀ r ρ o, outsOf ios ρ = o.map some → post x r o → R r ρ) → (∀ ρ o, outsOf ios ρ = o.map some → post x .non o → N ρ) → T.f ⟨N, R, fun _ => False, fun _ => False⟩ ((args x).map some ++ List.replicate m none)) : Pf (FS.ex args pre post) T ios m := by
  rintro ds Q ⟨x, rfl, hp, q⟩
  exact h x hp _ _ (fun r ρ o h1 h2 => ⟨o, h1, q _ _ h2⟩) (fun ρ o h1 h2 => ⟨o, h1, q _ _ h2⟩)
inductive At : Ev → Nat → D → Prop
  | z {d : D} {r : Ev} : At (some d :: r) 0 d
  | s {a : Option D} {r : Ev} {i : Nat} {d : D} : At r i d → At (a :: r) (i + 1) d
theorem At.get : ∀ {ρ : Ev} {i : Nat} {d : D}, At ρ i d → ρ[i]? = some (some d)
  | _, _, _, .z => rfl
  | _, _, _, .s h => by rw [List.getElem?_cons_succ]; exact h.get
inductive Put : Ev → Nat → Option D → Ev → Prop
  | z {x a : Option D} {r : Ev} : Put (a :: r) 0 x (x :: r)
  | s {x a : Option D} {r r' : Ev} {i : Nat} : Put r i x r' → Put (a :: r) (i + 1) x (a :: r')
theorem Put.eq : ∀ {ρ ρ' : Ev} {i : Nat} {x : Option D}, Put ρ i x ρ' → ρ.set i x = ρ'
  | _, _, _, _, .z => rfl
  | _, _, _, _, .s h => by rw [List.set_cons_succ, h.eq]
inductive LSet : List D → Nat → D → List D → Prop
  | z {x a : D} {r : List D} : LSet (a :: r) 0 x (x :: r)
  | s {x a : D} {r r' : List D} {i : Nat} : LSet r i x r' → LSet (a :: r) (i + 1) x (a :: r')
theorem LSet.eq : ∀ {ρ ρ' : List D} {i : Nat} {x : D}, LSet ρ i x ρ' → ρ.set i x = ρ'
  | _, _, _, _, .z => rfl
  | _, _, _, _, .s h => by rw [List.set_cons_succ, h.eq]
section
variable {ρ ρ' : Ev} {n b c : Ev → Prop} {r : D → Ev → Prop} {G : DE} {S T : XS} {U A B : XT} {Ta Tb Tc : XE} {R Ra Rb : XA} {Q : D → Ev → Prop} {QA : List D → Ev → Prop} {QT : Bool → Ev → Prop} {QN : Ev → Prop} {i j : Nat} {d e : D}
theorem i_seq (q : S.f ⟨T.f ⟨n, r, b, c⟩, r, b, c⟩ ρ) : (xSeq S T).f ⟨n, r, b, c⟩ ρ := q
theorem i_ret (q : Ta.f ρ r) : (xRet Ta).f ⟨n, r, b, c⟩ ρ := q
theorem i_retN (q : r .non ρ) : xRetN.f ⟨n, r, b, c⟩ ρ := q
theorem i_next (q : n ρ) : xNext.f ⟨n, r, b, c⟩ ρ := q
theorem i_brk (q : b ρ) : xBrk.f ⟨n, r, b, c⟩ ρ := q
theorem i_cont (q : c ρ) : xCont.f ⟨n, r, b, c⟩ ρ := q
theorem i_ifs (q : U.f ρ fun k ρ1 => (k = true → S.f ⟨n, r, b, c⟩ ρ1) ∧ (k = false → T.f ⟨n, r, b, c⟩ ρ1)) : (xIfS U S T).f ⟨n, r, b, c⟩ ρ := q
theorem i_do (q : Ta.f ρ fun _ ρ1 => n ρ1) : (xDo Ta).f ⟨n, r, b, c⟩ ρ := q
theorem i_asg {Tg : XG} (q : Ta.f ρ fun d ρ1 => Tg.f d ρ1 n) : (xAsg Ta Tg).f ⟨n, r, b, c⟩ ρ := q
theorem i_gname (h : Put ρ i (some d) ρ') (q : QN ρ') : (xgName i).f d ρ QN := by
  show QN (ρ.set i (some d))
  rw [h.eq]; exact q
theorem i_name (h : At ρ i d) (hs : d.sh = true) (q : Q d ρ) : (xName i).f ρ Q := ⟨d, h.get, hs, q⟩
theorem i_mv (h : At ρ i d) (p : Put ρ i none ρ') (q : Q d ρ') : (xMv i).f ρ Q := ⟨d, h.get, by rw [p.eq]; exact q⟩
theorem i_C (q : Q d ρ) : (xC d).f ρ Q := q
theorem i_bin {g : D → D → Option D} (q : Ta.f ρ fun d ρ1 => Tb.f ρ1 fun e ρ2 => ∃ z, g d e = some z ∧ Q z ρ2) : (xBin g Ta Tb).f ρ Q := q
theorem i_un {g : D → Option D} (q : Ta.f ρ fun d ρ1 => ∃ z, g d = some z ∧ Q z ρ1) : (xUn g Ta).f ρ Q := q
theorem i_fn {g : D → D} (q : Ta.f ρ fun d ρ1 => Q (g d) ρ1) : (xFn g Ta).f ρ Q := q
theorem i_some {α : Type} {o : Option α} {z : α} {P : α → Prop} (e : o = some z) (q : P z) : ∃ z, o = some z ∧ P z := ⟨z, e, q⟩
theorem i_tst (q : Ta.f ρ fun d ρ' => ∃ k, d = .bl k ∧ QT k ρ') : (xTst Ta).f ρ QT := q
theorem i_tru (q : Ta.f ρ fun d ρ' => ∃ k, d.tru = some k ∧ QT k ρ') : (xTru Ta).f ρ QT := q
theorem i_bl {k : Bool} {P : Bool → Prop} (q : P k) : ∃ k', D.bl k = D.bl k' ∧ P k' := ⟨k, rfl, q⟩
theorem i_chain {g g' : Int → Int → Bool} (q : Ta.f ρ fun d ρ1 => Tb.f ρ1 fun e ρ2 => ∃ i j, d = .int i ∧ e = .int j ∧ (g i j = true → Tc.f ρ2 fun f ρ3 => ∃ k, f = .int k ∧ Q (.bl (g' j k)) ρ3) ∧ (g i j = false → Q (.bl false) ρ2)) : (xChain g g' Ta Tb Tc).f ρ Q := q
theorem i_ints {i j : Int} {P : Int → Int → Prop} (q : P i j) : ∃ i' j', D.int i = .int i' ∧ D.int j = .int j' ∧ P i' j' := ⟨i, j, rfl, rfl, q⟩
theorem i_int {i : Int} {P : Int → Prop} (q : P i) : ∃ i', D.int i = .int i' ∧ P i' := ⟨i, rfl, q⟩
theorem i_and (q : A.f ρ fun k ρ1 => (k = true → B.f ρ1 QT) ∧ (k = false → QT false ρ1)) : (xAnd A B).f ρ QT := q
theorem i_or (q : A.f ρ fun k ρ1 => (k = true → QT true ρ1) ∧ (k = false → B.f ρ1 QT)) : (xOr A B).f ρ QT := q
theorem i_not (q : A.f ρ fun k ρ1 => QT (!k) ρ1) : (xNot A).f ρ QT := q
theorem i_andV (q : Ta.f ρ fun d ρ1 => ∃ k, d = .bl k ∧ (k = true → Tb.f ρ1 Q) ∧ (k = false → Q (.bl false) ρ1)) : (xAndV Ta Tb).f ρ Q := q
theorem i_orV (q : Ta.f ρ fun d ρ1 => ∃ k, d = .bl k ∧ (k = true → Q (.bl true) ρ1) ∧ (k = false → Tb.f ρ1 Q)) : (xOrV Ta Tb).f ρ Q := q
theorem i_notV (q : Ta.f ρ fun d ρ1 => ∃ k, d = .bl k ∧ Q (.bl (!k)) ρ1) : (xNotV Ta).f ρ Q := q
theorem i_xif (q : U.f ρ fun k ρ1 => (k = true → Ta.f ρ1 Q) ∧ (k = false → Tb.f ρ1 Q)) : (xIf U Ta Tb).f ρ Q := q
/-- a test whose value is seen -/
theorem i_T {k : Bool} {X Y : Prop} (e : k = true) (q : X) : (k = true → X) ∧ (k = false → Y) := ⟨fun _ => q, fun z => Bool.noConfusion (e.symm.trans z)⟩
theorem i_F {k : Bool} {X Y : Prop} (e : k = false) (q : Y) : (k = true → X) ∧ (k = false → Y) := ⟨fun z => Bool.noConfusion (e.symm.trans z), fun _ => q⟩
theorem i_B {k : Bool} {X Y : Prop} (h1 : k = true → X) (h2 : k = false → Y) : (k = true → X) ∧ (k = false → Y) := ⟨h1, h2⟩
theorem i_nil (q : QA [] ρ) : xNil.f ρ QA := q
theorem i_cons (q : Ta.f ρ fun d ρ1 => R.f ρ1 fun fs ρ2 => QA (d :: fs) ρ2) : (xCons Ta R).f ρ QA := q
theorem i_lend (h : At ρ i d) (p : Put ρ i none ρ') (q : R.f ρ' fun fs ρ2 => QA (d :: fs) ρ2) : (xLend i R).f ρ QA := ⟨d, h.get, by rw [p.eq]; exact q⟩
theorem i_tup (q : R.f ρ fun fs ρ1 => fs.length ≤ sizeLine ∧ fs.all D.sh = true ∧ Q (.tup fs) ρ1) : (xTup R).f ρ Q := q
theorem i_lst (q : R.f ρ fun fs ρ1 => fs.length ≤ sizeLine ∧ Q (.own fs) ρ1) : (xLst R).f ρ Q := q
theorem i_frz (q : Ta.f ρ fun d ρ1 => (∀ ds, d = .own ds → ds.all D.sh = true ∧ Q (.lst ds) ρ1) ∧ (d.sh = true → Q d ρ1)) : (xFrz Ta).f ρ Q := q
theorem i_frzO {ds : List D} {P : List D → Prop} {Y : Prop} (hs : ds.all D.sh = true) (q : P ds) : (∀ es, D.own ds = .own es → es.all D.sh = true ∧ P es) ∧ ((D.own ds).sh = true → Y) := ⟨fun es e => by cases e; exact ⟨hs, q⟩, fun z => Bool.noConfusion z⟩
theorem i_cal {g : List D → Option D} (q : R.f ρ fun fs ρ1 => ∃ z, g fs = some z ∧ Q z ρ1) : (xCal g R).f ρ Q := q
theorem i_call0 {F : FS} (q : R.f ρ fun fs ρ1 => F.f fs fun r outs => outs = [] ∧ Q r ρ1) : (xCall F [] R).f ρ Q := R.mono (fun fs ρ1 h => F.mono (fun r o z => by
  obtain ⟨rfl, z⟩ := z
  exact ⟨rfl, z⟩) h) q
theorem i_call1 {F : FS} (q : R.f ρ fun fs ρ1 => F.f fs fun r outs => ∃ c ρ2, outs = [c] ∧ Put ρ1 i (some c) ρ2 ∧ Q r ρ2) : (xCall F [some i] R).f ρ Q := R.mono (fun fs ρ1 h => F.mono (fun r o z => by
  obtain ⟨c, ρ2, rfl, p, z⟩ := z
  refine ⟨rfl, ?_⟩
  show Q r (ρ1.set i (some c))
  rw [p.eq]
  exact z) h) q
theorem i_out0 {X : Prop} (q : X) : ([] : List D) = [] ∧ X := ⟨rfl, q⟩
theorem i_out1 {c : D} {P : Ev → Prop} (p : Put ρ i (some c) ρ') (q : P ρ') : ∃ c' ρ2, [c] = [c'] ∧ Put ρ i (some c') ρ2 ∧ P ρ2 := ⟨c, ρ', rfl, p, q⟩
theorem i_lenS {m : Nat} (h : At ρ i d) (e : lenD d = some m) (q : Q (.int m) ρ) : (xLenS i).f ρ Q := ⟨d, m, h.get, e, q⟩
theorem i_truS {k : Bool} (h : At ρ i d) (e : d.tru = some k) (q : QT k ρ) : (xTruS i).f ρ QT := ⟨d, k, h.get, e, q⟩
theorem i_ixS (h : At ρ i d) (q : Ta.f ρ fun k ρ' => ∃ d, At ρ' i d ∧ ∃ z, ixD d k = some z ∧ Q z ρ') : (xIxS i Ta).f ρ Q := ⟨⟨d, h.get⟩, Ta.mono (fun k ρ' z => by
  obtain ⟨d, h, z, e, q⟩ := z
  exact ⟨d, z, h.get, e, q⟩) q⟩
theorem i_eqS (h : At ρ i d) (q : Ta.f ρ fun k ρ' => ∃ d, At ρ' i d ∧ ∃ z, eqD d k = some z ∧ Q (.bl z) ρ') : (xEqS i false Ta).f ρ Q := ⟨⟨d, h.get⟩, Ta.mono (fun k ρ' z => by
  obtain ⟨d, h, z, e, q⟩ := z
  exact ⟨d, z, h.get, e, q⟩) q⟩
theorem i_neS (h : At ρ i d) (q : Ta.f ρ fun k ρ' => ∃ d, At ρ' i d ∧ ∃ z, eqD d k = some z ∧ Q (.bl (!z)) ρ') : (xEqS i true Ta).f ρ Q := ⟨⟨d, h.get⟩, Ta.mono (fun k ρ' z => by
  obtain ⟨d, h, z, e, q⟩ := z
  exact ⟨d, z, h.get, e, q⟩) q⟩
theorem i_at {P : D → Prop} (h : At ρ i d) (q : P d) : ∃ d, At ρ i d ∧ P d := ⟨d, h, q⟩
theorem i_atO {ds : List D} {P : List D → Prop} (h : At ρ i (.own ds)) (q : P ds) : ∃ ds, At ρ i (.own ds) ∧ P ds := ⟨ds, h, q⟩
theorem i_put {x : Option D} {P : Ev → Prop} (h : Put ρ i x ρ') (q : P ρ') : ∃ ρ', Put ρ i x ρ' ∧ P ρ' := ⟨ρ', h, q⟩
theorem i_app {ds : List D} (h : At ρ i (.own ds)) (q : Ta.f ρ fun d ρ' => ∃ zs, At ρ' i (.own zs) ∧ ∃ ρ2, Put ρ' i (some (.own (zs ++ [d]))) ρ2 ∧ zs.length < sizeLine ∧ Q .non ρ2) : (xApp i Ta).f ρ Q := ⟨⟨ds, h.get⟩, Ta.mono (fun d ρ' z => by
  obtain ⟨zs, h, ρ2, p, l, q⟩ := z
  exact ⟨zs, h.get, l, by rw [p.eq]; exact q⟩) q⟩
theorem i_setS (h : At ρ i d) (q : Ta.f ρ fun k ρ' => ∃ zs, At ρ' i (.own zs) ∧ ∃ n j zs2 ρ2, k = .int n ∧ ixN zs.length n = some j ∧ LSet zs j e zs2 ∧ Put ρ' i (some (.own zs2)) ρ2 ∧ QN ρ2) : (xSetS i Ta).f e ρ QN := ⟨⟨d, h.get⟩, Ta.mono (fun k ρ' z => by
  obtain ⟨zs, h, n, j, zs2, ρ2, e1, e2, l, p, q⟩ := z
  exact ⟨zs, n, j, e1, h.get, e2, by rw [l.eq, p.eq]; exact q⟩) q⟩
theorem i_set {n : Int} {ds ds2 : List D} {P : Ev → Prop} (e : ixN ds.length n = some j) (l : LSet ds j d ds2) (p : Put ρ i (some (.own ds2)) ρ') (q : P ρ') : ∃ m j zs2 ρ2, D.int n = .int m ∧ ixN ds.length m = some j ∧ LSet ds j d zs2 ∧ Put ρ i (some (.own zs2)) ρ2 ∧ P ρ2 := ⟨n, j, ds2, ρ', rfl, e, l, p, q⟩
theorem i_join (P : Ev → Prop) (h1 : S.f ⟨P, r, b, c⟩ ρ) (h2 : ∀ ρ, P ρ → T.f ⟨n, r, b, c⟩ ρ) : (xSeq S T).f ⟨n, r, b, c⟩ ρ := S.mono (G := ⟨P, r, b, c⟩) (G' := ⟨T.f ⟨n, r, b, c⟩, r, b, c⟩) ⟨h2, fun _ _ z => z, fun _ z => z, fun _ z => z⟩ h1
/-- to forget how a value came about -/
theorem i_cut (P : D → Ev → Prop) (h1 : Ta.f ρ P) (h2 : ∀ d ρ, P d ρ → Q d ρ) : Ta.f ρ Q := Ta.mono h2 h1
theorem i_sl {L H : XO} (q : Ta.f ρ fun d ρ1 => L.f ρ1 fun l ρ2 => H.f ρ2 fun u ρ3 => ∃ z, cutD d l u = some z ∧ Q z ρ3) : (xSl Ta L H).f ρ Q := q
theorem i_oN {QO : Option Int → Ev → Prop} (q : QO none ρ) : xoNone.f ρ QO := q
theorem i_oS {QO : Option Int → Ev → Prop} (q : Ta.f ρ fun d ρ' => ∃ i, d = .int i ∧ QO (some i) ρ') : (xoSome Ta).f ρ QO := q
theorem i_gnil (q : QN ρ) : xgNil.f [] ρ QN := ⟨rfl, q⟩
theorem i_gcons {Tg : XG} {Ug : XGs} {ds : List D} (q : Tg.f d ρ fun ρ1 => Ug.f ds ρ1 QN) : (xgCons Tg Ug).f (d :: ds) ρ QN := ⟨d, ds, rfl, q⟩
theorem i_gtup {m : Nat} {Ug : XGs} {ds : List D} (hl : ds.length = m) (q : Ug.f ds ρ QN) : (xgTup m Ug).f (.tup ds) ρ QN := ⟨ds, rfl, hl, q⟩
theorem i_tupA {m : Nat} {Ug : XGs} (q : R.f ρ fun fs ρ1 => fs.length = m ∧ fs.length ≤ sizeLine ∧ Ug.f fs ρ1 n) : (xTupAsg m R Ug).f ⟨n, r, b, c⟩ ρ := q
inductive Puts : Ev → List Nat → List D → Ev → Prop
  | n {ρ : Ev} : Puts ρ [] [] ρ
  | c {ρ ρ1 ρ2 : Ev} {i : Nat} {is : List Nat} {d : D} {ds : List D} : Put ρ i (some d) ρ1 → Puts ρ1 is ds ρ2 → Puts ρ (i :: is) (d :: ds) ρ2
theorem Puts.eq : ∀ {ρ ρ' : Ev} {is : List Nat} {ds : List D}, Puts ρ is ds ρ' → ds.length = is.length ∧ (is.zip ds).foldl (fun r p => r.set p.1 (some p.2)) ρ = ρ'
  | _, _, _, _, .n => ⟨rfl, rfl⟩
  | _, _, _, _, .c h h2 => by
    obtain ⟨e1, e2⟩ := h2.eq
    refine ⟨by rw [List.length_cons, List.length_cons, e1], ?_⟩
    rw [List.zip_cons_cons, List.foldl_cons]
    show List.foldl _ (List.set _ _ _) _ = _
    rw [h.eq]
    exact e2
theorem i_par {is : List Nat} (q : R.f ρ fun fs ρ1 => ∃ ρ2, Puts ρ1 is fs ρ2 ∧ n ρ2) : (xPar is R).f ⟨n, r, b, c⟩ ρ := R.mono (fun fs ρ1 z => by
  obtain ⟨ρ2, p, z⟩ := z
  obtain ⟨e1, e2⟩ := p.eq
  exact ⟨e1, by rw [e2]; exact z⟩) q
theorem i_puts {is : List Nat} {fs : List D} {P : Ev → Prop} (p : Puts ρ is fs ρ') (q : P ρ') : ∃ ρ2, Puts ρ is fs ρ2 ∧ P ρ2 := ⟨ρ', p, q⟩
theorem i_iseq {QI : List D → Ev → Prop} (q : Ta.f ρ fun d ρ1 => ∃ zs, d.seq = some zs ∧ zs.all D.sh = true ∧ QI zs ρ1) : (xiSeq Ta).f ρ QI := q
theorem i_rng1 {QI : List D → Ev → Prop} (q : R.f ρ fun fs ρ1 => ∃ j : Int, fs = [.int j] ∧ -(2 ^ 62) ≤ j ∧ j < 2 ^ 62 ∧ QI (rngD 0 j.toNat) ρ1) : (xiRng1 R).f ρ QI := q
theorem i_rng2 {QI : List D → Ev → Prop} (q : R.f ρ fun fs ρ1 => ∃ i j : Int, fs = [.int i, .int j] ∧ (-(2 ^ 62) ≤ i ∧ i < 2 ^ 62 ∧ -(2 ^ 62) ≤ j ∧ j < 2 ^ 62) ∧ QI (rngD i (j - i).toNat) ρ1) : (xiRng2 R).f ρ QI := q
theorem i_ienum {QI : List D → Ev → Prop} (q : R.f ρ fun fs ρ1 => ∃ d zs, fs = [d] ∧ d.seq = some zs ∧ zs.all D.sh = true ∧ QI (enumD 0 zs) ρ1) : (xiEnum R).f ρ QI := q
theorem i_for {I : XI} {Tg : XG} (q : I.f ρ fun zs ρ1 => ∃ J : Nat → Ev → Prop, J 0 ρ1 ∧ (∀ k z ρ, zs[k]? = some z → J k ρ → Tg.f z ρ fun ρ2 => S.f ⟨J (k + 1), r, n, J (k + 1)⟩ ρ2) ∧ ∀ ρ, J zs.length ρ → n ρ) : (xFor I Tg S).f ⟨n, r, b, c⟩ ρ := q
theorem i_while (J : Ev → Prop) (μ : Ev → Nat) (j0 : J ρ) (q : ∀ ρ, J ρ → U.f ρ fun k ρ1 => (k = true → S.f ⟨fun ρ' => J ρ' ∧ μ ρ' < μ ρ, r, n, fun ρ' => J ρ' ∧ μ ρ' < μ ρ⟩ ρ1) ∧ (k = false → n ρ1)) : (xWhile U S).f ⟨n, r, b, c⟩ ρ := ⟨J, μ, j0, q⟩
theorem i_lc {I : XI} {Tg : XG} {us : List Nat} (q : I.f ρ fun zs ρ1 => ∃ J : Nat → List D → Ev → Prop, J 0 [] (wipeD ρ1 us) ∧
    (∀ k z acc ρ2, zs[k]? = some z → J k acc ρ2 → Tg.f z ρ2 fun ρ3 => U.f ρ3 fun b ρ4 => (b = true → Ta.f ρ4 fun d ρ5 => acc.length < sizeLine ∧ J (k + 1) (acc ++ [d]) (wipeD ρ5 us)) ∧ (b = false → J (k + 1) acc (wipeD ρ4 us))) ∧
    ∀ acc ρ', J zs.length acc ρ' → Q (.own acc) (backD (heldD ρ1 us) ρ')) : (xLc I Tg U Ta us).f ρ Q := q
theorem i_yes (q : QT true ρ) : xYes.f ρ QT := q
theorem i_neP {ds : List D} {z d0 : D} {k : Bool} {m : Nat} (h : At ρ i (.own ds)) (h1 : ds[m]? = some z) (h2 : eqD z d0 = some k) (q : Q (.bl (!k)) ρ) : (xNeP i m d0).f ρ Q := ⟨ds, z, k, h.get, h1, h2, q⟩
theorem i_popP {ds es es2 ds2 : List D} {z : D} {m k : Nat} (h : At ρ i (.own ds)) (h1 : ds[m]? = some (.own es)) (h2 : es[k]? = some z) (h3 : es.eraseIdx k = es2) (hs : z.sh = true) (l : LSet ds m (.own es2) ds2) (p : Put ρ i (some (.own ds2)) ρ') (q : Q z ρ') : (xPopP i m k).f ρ Q := ⟨ds, es, z, h.get, h1, h2, hs, by rw [h3, l.eq, p.eq]; exact q⟩
end
theorem eqD_ii {i j : Int} : eqD (.int i) (.int j) = some (decide (i = j)) := by
  show (if (D.int i).lay = true ∧ (D.int j).lay = true ∧ min (D.int i).dep (D.int j).dep ≤ 64 then some (PyData.eqv (D.int i).py (D.int j).py) else none) = _
  rw [if_pos ⟨rfl, rfl, by simp [D.dep, D.py, PyData.depth]⟩]
  rfl
theorem eqD_ss {x y : Str} : eqD (.str x) (.str y) = some (decide (x = y)) := rfl
theorem eqD_bb {x y : Bool} : eqD (.bl x) (.bl y) = some (x == y) := by cases x <;> cases y <;> rfl
theorem eqM {d e : D} {k : Bool} {f : Bool → D} (h : eqD d e = some k) : (eqD d e).map f = some (f k) := by rw [h]; rfl
theorem ix_tup {xs : List D} {n : Int} {z : D} (h : atI xs n = some z) (hs : z.sh = true) : ixD (.tup xs) (.int n) = some z := by
  show (atI xs n).bind _ = _
  rw [h]
  show (if z.sh = true then some z else none) = _
  rw [if_pos hs]
theorem ix_lst {xs : List D} {n : Int} {z : D} (h : atI xs n = some z) (hs : z.sh = true) : ixD (.lst xs) (.int n) = some z := ix_tup h hs
theorem ix_frl {xs : List D} {n : Int} {z : D} (h : atI xs n = some z) (hs : z.sh = true) : ixD (.frl xs) (.int n) = some z := ix_tup h hs
theorem ix_own {xs : List D} {n : Int} {z : D} (h : atI xs n = some z) (hs : z.sh = true) : ixD (.own xs) (.int n) = some z := ix_tup h hs
theorem addM {xs ys : List D} (h : xs.length + ys.length ≤ sizeLine) : addD (.tup xs) (.tup ys) = some (.tup (xs ++ ys)) := if_pos h
theorem mul_ii {i j : Int} (h : i.natAbs.log2 + j.natAbs.log2 < 1000000) : mulD (.int i) (.int j) = some (.int (i * j)) := if_pos h
theorem div_ii {i j : Int} (h : 0 < j) (h2 : j.natAbs.log2 < 9000) : divD (.int i) (.int j) = some (.int (i / j)) := if_pos (by show (decide (0 < j) && decide (j.natAbs.log2 < 9000)) = true; rw [decide_eq_true h, decide_eq_true h2]; rfl)
theorem mod_ii {i j : Int} (h : 0 < j) : modD (.int i) (.int j) = some (.int (i % j)) := if_pos (decide_eq_true h)
theorem lg_b {i : Int} (h1 : -(2 ^ 200) < i) (h2 : i < 2 ^ 200) : i.natAbs.log2 < 200 := by
  by_cases h : i.natAbs = 0
  · rw [h]; decide +kernel
  · exact (Nat.log2_lt h).mpr (by omega)
theorem mul_b {i j : Int} (h1 : -(2 ^ 200) < i) (h2 : i < 2 ^ 200) (h3 : -(2 ^ 200) < j) (h4 : j < 2 ^ 200) : mulD (.int i) (.int j) = some (.int (i * j)) := mul_ii (by
  have := lg_b h1 h2
  have := lg_b h3 h4
  omega)
theorem div_b {i j : Int} (h : 0 < j) (h4 : j < 2 ^ 200) : divD (.int i) (.int j) = some (.int (i / j)) := div_ii h (by
  have := lg_b (by omega) h4
  omega)
mutual
/-- data: nothing owned, signs within the line -/
def nice : D → Bool
  | .non => true
  | .bl _ => true
  | .int _ => true
  | .str x => PyData.strOk x
  | .tup xs => nices xs
  | .lst xs => nices xs
  | .frl xs => nices xs
  | .own _ => false
def nices : List D → Bool
  | [] => true
  | d :: ds => nice d && nices ds
end
theorem nice_sh {d : D} (h : nice d = true) : d.sh = true := by
  cases d <;> first | rfl | exact absurd h (by simp [nice])
theorem nices_cons {x : D} {xs : List D} (h : nices (x :: xs) = true) : nice x = true ∧ nices xs = true := (Bool.and_eq_true _ _ ▸ (show (nice x && nices xs) = true by simpa only [nices] using h) : _ ∧ _)
theorem nices_get : ∀ {xs : List D} {k : Nat} {z : D}, nices xs = true → xs[k]? = some z → nice z = true
  | [], _, _, _, h => by cases h
  | x :: xs, 0, z, h, e => by
    cases e
    exact (nices_cons h).1
  | x :: xs, k + 1, z, h, e => nices_get (xs := xs) (k := k) (nices_cons h).2 (by simpa using e)
theorem nices_mem {xs : List D} {z : D} (h : nices xs = true) (e : z ∈ xs) : nice z = true := by
  obtain ⟨k, hk⟩ := List.getElem?_of_mem e
  exact nices_get h hk
theorem nices_of : ∀ {xs : List D}, (∀ z ∈ xs, nice z = true) → nices xs = true
  | [], _ => by simp only [nices]
  | x :: xs, h => by
    simp only [nices, h x List.mem_cons_self, nices_of fun z e => h z (List.mem_cons_of_mem _ e), Bool.and_self]
theorem nices_sh : ∀ {xs : List D}, nices xs = true → xs.all D.sh = true
  | [], _ => rfl
  | x :: xs, h => by
    rw [List.all_cons, nice_sh (nices_cons h).1, nices_sh (nices_cons h).2]
    rfl
def lays (ds : List D) : Bool := PyData.canLayAll0 (D.pys ds)
theorem lays_cons {x : D} {xs : List D} : lays (x :: xs) = (x.lay && lays xs) := by
  simp only [lays, D.pys, PyData.canLayAll0, D.lay]
mutual
theorem nice_lay : ∀ {d : D}, nice d = true → d.lay = true
  | .non, _ => rfl
  | .bl _, _ => rfl
  | .int _, _ => rfl
  | .str x, h => by simp only [nice] at h; simp only [D.lay, D.py, PyData.canLay0, h]
  | .tup xs, h => by
    simp only [nice] at h
    have := nices_lays h
    simp only [lays] at this
    simp only [D.lay, D.py, PyData.canLay0, this]
  | .lst xs, h => by
    simp only [nice] at h
    have := nices_lays h
    simp only [lays] at this
    simp only [D.lay, D.py, PyData.canLay0, this]
  | .frl xs, h => by
    simp only [nice] at h
    have := nices_lays h
    simp only [lays] at this
    simp only [D.lay, D.py, PyData.canLay0, this]
  | .own _, h => by simp [nice] at h
theorem nices_lays : ∀ {xs : List D}, nices xs = true → lays xs = true
  | [], _ => by simp only [lays, D.pys, PyData.canLayAll0]
  | x :: xs, h => by
    rw [lays_cons, nice_lay (nices_cons h).1, nices_lays (nices_cons h).2]
    rfl
end
theorem eqD_if {d e : D} (h1 : d.lay = true) (h2 : e.lay = true) (h3 : e.dep ≤ 64) (hn : ∀ x, d ≠ .str x) : eqD d e = some (PyData.eqv d.py e.py) := by
  have h : (if d.lay = true ∧ e.lay = true ∧ min d.dep e.dep ≤ 64 then some (PyData.eqv d.py e.py) else none) = some (PyData.eqv d.py e.py) := if_pos ⟨h1, h2, by omega⟩
  cases d with
  | str x => exact absurd rfl (hn x)
  | _ => exact h
theorem lay_nil : (D.own []).lay = true := by simp only [D.lay, D.py, D.pys, PyData.canLay0, PyData.canLayAll0]
theorem dep_nil : (D.own []).dep ≤ 64 := by simp only [D.dep, D.py, D.pys, PyData.depth, PyData.depthAll]; decide
theorem eqv_nil {ds : List D} : PyData.eqvAll (D.pys ds) [] = ds.isEmpty := by cases ds <;> simp [D.pys, PyData.eqvAll]
theorem eqD_oe {ds : List D} (h : lays ds = true) : eqD (.own ds) (.own []) = some ds.isEmpty := by
  rw [eqD_if (by simp only [lays] at h; simp only [D.lay, D.py, PyData.canLay0, h]) lay_nil dep_nil (by intro x e; cases e)]
  simp only [D.py, PyData.eqv, D.pys, eqv_nil]
theorem eqD_le {ds : List D} (h : lays ds = true) : eqD (.lst ds) (.own []) = some ds.isEmpty := by
  rw [eqD_if (by simp only [lays] at h; simp only [D.lay, D.py, PyData.canLay0, h]) lay_nil dep_nil (by intro x e; cases e)]
  simp only [D.py, PyData.eqv, D.pys, eqv_nil]
theorem eqD_te {ds : List D} (h : lays ds = true) : eqD (.tup ds) (.tup []) = some ds.isEmpty := by
  rw [eqD_if (by simp only [lays] at h; simp only [D.lay, D.py, PyData.canLay0, h]) (by simp only [D.lay, D.py, D.pys, PyData.canLay0, PyData.canLayAll0]) (by simp only [D.dep, D.py, D.pys, PyData.depth, PyData.depthAll]; decide) (by intro x e; cases e)]
  simp only [D.py, PyData.eqv, D.pys, eqv_nil]
theorem list1_seq {d : D} {zs : List D} (h : d.seq = some zs) (hs : zs.all D.sh = true) : list1 [d] = some (.own zs) := by
  show d.seq.bind _ = _
  rw [h]
  exact if_pos hs
theorem tuple1_seq {d : D} {zs : List D} (h : d.seq = some zs) (hs : zs.all D.sh = true) : tuple1 [d] = some (.tup zs) := by
  show d.seq.bind _ = _
  rw [h]
  exact if_pos hs
theorem i_le {m : Nat} {X : Prop} (h : m ≤ sizeLine) (q : X) : m ≤ sizeLine ∧ X := ⟨h, q⟩
theorem i_lt {m : Nat} {X : Prop} (h : m < sizeLine) (q : X) : m < sizeLine ∧ X := ⟨h, q⟩
theorem i_sh {ds : List D} {X : Prop} (h : ds.all D.sh = true) (q : X) : ds.all D.sh = true ∧ X := ⟨h, q⟩
theorem ints_nices : ∀ (ns : List Int), nices (ns.map D.int) = true
  | [] => by simp only [List.map_nil, nices]
  | _ :: ns => by simp only [List.map_cons, nices, nice, ints_nices ns, Bool.and_self]
theorem not_t {b : Bool} (h : b = false) : (!b) = true := by rw [h]; rfl
theorem not_f {b : Bool} (h : b = true) : (!b) = false := by rw [h]; rfl
theorem len_t {ds : List D} : len1 [.tup ds] = some (.int ds.length) := rfl
theorem len_l {ds : List D} : len1 [.lst ds] = some (.int ds.length) := rfl
theorem len_o {ds : List D} : len1 [.own ds] = some (.int ds.length) := rfl
theorem len_f {ds : List D} : len1 [.frl ds] = some (.int ds.length) := rfl
theorem in_f {d : D} {es : List D} (h : d.flat = true) (h2 : es.all D.flat = true) : inD false d (.tup es) = some (.bl (inF d es)) := if_pos ⟨h, h2⟩
theorem in_t {d : D} {es : List D} (h : d.flat = true) (h2 : es.all D.flat = true) : inD true d (.tup es) = some (.bl (!inF d es)) := if_pos ⟨h, h2⟩
theorem i_range {j : Int} {X : Int → Prop} (h : -(2 ^ 62) ≤ j) (h2 : j < 2 ^ 62) (q : X j) : ∃ i : Int, [D.int j] = [.int i] ∧ -(2 ^ 62) ≤ i ∧ i < 2 ^ 62 ∧ X i := ⟨j, rfl, h, h2, q⟩
theorem ix0 {a : D} {t : List D} (h : a.sh = true) : ixD (.tup (a :: t)) (.int 0) = some a := ix_tup (atI_nat (j := 0) rfl) h
theorem ix1 {a b : D} {t : List D} (h : b.sh = true) : ixD (.tup (a :: b :: t)) (.int 1) = some b := ix_tup (atI_nat (j := 1) rfl) h
theorem ix2 {a b c : D} {t : List D} (h : c.sh = true) : ixD (.tup (a :: b :: c :: t)) (.int 2) = some c := ix_tup (atI_nat (j := 2) rfl) h
theorem strOk_of (s : String) : PyData.strOk (Str.ofString s) = true := by
  rw [Str.ofString_eq_toList]
  unfold PyData.strOk
  rw [List.all_toArray, List.all_map, List.all_eq_true]
  intro c _
  exact decide_eq_true (by
    have := c.valid
    rcases this with h | h
    · show c.val.toNat < _
      omega
    · show c.val.toNat < _
      omega)
theorem len_cut {xs : List D} {n : Nat} {lo hi : Option Int} (h : xs.length ≤ n) : (cutL xs lo hi).length ≤ n := by
  unfold cutL
  rw [List.length_take, List.length_drop]
  omega
theorem len_app {xs ys : List D} {n m : Nat} (h : xs.length ≤ n) (h2 : ys.length ≤ m) : (xs ++ ys).length ≤ n + m := by
  rw [List.length_append]
  omega
theorem len_nil : ([] : List D).length ≤ 0 := Nat.le_refl 0
theorem len_cons {x : D} {xs : List D} {n : Nat} (h : xs.length ≤ n) : (x :: xs).length ≤ n + 1 := Nat.succ_le_succ h
theorem addM2 {xs ys : List D} {a b : Nat} (h : xs.length ≤ a) (h2 : ys.length ≤ b) (h3 : a + b ≤ sizeLine) : addD (.tup xs) (.tup ys) = some (.tup (xs ++ ys)) := addM (by omega)
theorem nices_app {xs ys : List D} : nices (xs ++ ys) = (nices xs && nices ys) := by
  induction xs with
  | nil => simp only [List.nil_append, nices, Bool.true_and]
  | cons x xs ih => simp only [List.cons_append, nices, ih, Bool.and_assoc]
theorem nices_cut {xs : List D} {lo hi : Option Int} (h : nices xs = true) : nices (cutL xs lo hi) = true := nices_of fun z hz => nices_mem h (List.mem_of_mem_drop (List.mem_of_mem_take hz))
theorem nices_rev {xs : List D} (h : nices xs = true) : nices xs.reverse = true := nices_of fun z hz => nices_mem h (List.mem_reverse.mp hz)
theorem ix_ex {xs : List D} {k : Int} (h : nices xs = true) (h0 : 0 ≤ k) (h1 : k < xs.length) : ∃ z, ixD (.tup xs) (.int k) = some z ∧ z ∈ xs := by
  obtain ⟨n, rfl⟩ := Int.eq_ofNat_of_zero_le h0
  have hn : n < xs.length := by omega
  exact ⟨xs[n], ix_tup (atI_nat (List.getElem?_eq_getElem hn)) (nice_sh (nices_mem h (List.getElem_mem hn))), List.getElem_mem hn⟩
theorem ix_exL {xs : List D} {k : Int} (h : nices xs = true) (h0 : 0 ≤ k) (h1 : k < xs.length) : ∃ z, ixD (.lst xs) (.int k) = some z ∧ z ∈ xs := ix_ex h h0 h1
theorem ix_exO {xs : List D} {k : Int} (h : nices xs = true) (h0 : 0 ≤ k) (h1 : k < xs.length) : ∃ z, ixD (.own xs) (.int k) = some z ∧ z ∈ xs := ix_ex h h0 h1
/-- one of a list's items -/
theorem i_pick {xs : List D} {k : Int} {P : D → Prop} (h : nices xs = true) (h0 : 0 ≤ k) (h1 : k < xs.length) (q : ∀ z, z ∈ xs → nice z = true → P z) : ∃ z, ixD (.lst xs) (.int k) = some z ∧ P z := by
  obtain ⟨z, e, m⟩ := ix_exL h h0 h1
  exact ⟨z, e, q z m (nices_mem h m)⟩
theorem i_pickT {xs : List D} {k : Int} {P : D → Prop} (h : nices xs = true) (h0 : 0 ≤ k) (h1 : k < xs.length) (q : ∀ z, z ∈ xs → nice z = true → P z) : ∃ z, ixD (.tup xs) (.int k) = some z ∧ P z := by
  obtain ⟨z, e, m⟩ := ix_ex h h0 h1
  exact ⟨z, e, q z m (nices_mem h m)⟩
theorem i_pickO {xs : List D} {k : Int} {P : D → Prop} (h : nices xs = true) (h0 : 0 ≤ k) (h1 : k < xs.length) (q : ∀ z, z ∈ xs → nice z = true → P z) : ∃ z, ixD (.own xs) (.int k) = some z ∧ P z := by
  obtain ⟨z, e, m⟩ := ix_exO h h0 h1
  exact ⟨z, e, q z m (nices_mem h m)⟩
section
variable {P : Program} {w : World} {K : Fg} {mg : Str → Option Value} {base : Heap}
/-- a promise that asks for what cannot be -/
theorem okf_false {x : Str} {st : Stmt} {f : Addr} {fd : FuncData} {ps : List Str} {k n : Nat} {ios : List Nat} {F : FS} (Fn : FnP K x st f fd) (g : mg x = some (.ref f))
    (b1 : ∀ (kV doc pm : Value) (an : Option Addr) (cdv ct : Value) (us : List Value), us.length = ps.length → bindArgs (PySem.W.fnOf x x (defArgs st) (defBody st) (defScope st) .none kV doc pm an cdv ct) ⟨us, []⟩ = pure (ps.zip us))
    (b2 : ∀ (kV doc pm : Value) (an : Option Addr) (cdv ct : Value) (us : List Value), us.length = ps.length → bindArgs (PySem.W.fnOf x x (defArgs st) (defBody st) (defScope st) .none kV doc pm an cdv ct) ⟨[], ps.zip us⟩ = pure (ps.zip us))
    (hF : ∀ ds Q, ¬ F.f ds Q) : OkF P w K mg base k x ps n ios F := by
  refine ⟨f, fd, g, Fn.kp, Fn.bindsN b1, fun s ws hl => ?_, ⟨fun vs H Q E h => ?_, fun A outer s H args us vs Q E _ _ _ _ h => ?_⟩⟩
  · obtain ⟨oc, od, dV, kV, doc, pm, an, cdv, ct, osl, rfl, lk, hcd, hD, hK⟩ := Fn.ex
    rcases hD with ⟨_, rfl⟩ | ⟨e, _⟩
    · exact .of_eq (b2 kV doc pm an cdv ct ws hl)
    · exact absurd rfl e
  · obtain ⟨_, _, _, _, _, _, _, h⟩ := h
    exact (hF _ _ h).elim
  · obtain ⟨_, _, _, _, _, _, _, h⟩ := h
    exact (hF _ _ h).elim
end
theorem addL {xs ys : List D} (h : xs.length + ys.length ≤ sizeLine) : addD (.lst xs) (.lst ys) = some (.own (xs ++ ys)) := if_pos h
theorem addLO {xs ys : List D} (h : xs.length + ys.length ≤ sizeLine) (h2 : ys.all D.sh = true) : addD (.lst xs) (.own ys) = some (.own (xs ++ ys)) := if_pos ⟨h, h2⟩
theorem addOO {xs ys : List D} (h : xs.length + ys.length ≤ sizeLine) (h1 : xs.all D.sh = true) (h2 : ys.all D.sh = true) : addD (.own xs) (.own ys) = some (.own (xs ++ ys)) := if_pos ⟨h, h1, h2⟩
theorem addOL {xs ys : List D} (h : xs.length + ys.length ≤ sizeLine) (h1 : xs.all D.sh = true) : addD (.own xs) (.lst ys) = some (.own (xs ++ ys)) := if_pos ⟨h, h1⟩
theorem sh_app {xs ys : List D} (h1 : xs.all D.sh = true) (h2 : ys.all D.sh = true) : (xs ++ ys).all D.sh = true := by rw [List.all_append, h1, h2]; rfl
theorem str_i {i : Int} (h : -(2 ^ 200) < i) (h2 : i < 2 ^ 200) : str1 [.int i] = some (.str (Str.ofString (toString i))) := if_pos (by
  have := lg_b h h2
  omega)
theorem str_s {x : Str} : str1 [.str x] = some (.str x) := rfl
theorem sub_ii {i j : Int} : subD (.int i) (.int j) = some (.int (i - j)) := rfl
theorem sh_cons {x : D} {xs : List D} (h1 : x.sh = true) (h2 : xs.all D.sh = true) : (x :: xs).all D.sh = true := by rw [List.all_cons, h1, h2]; rfl
theorem add_ii {i j : Int} : addD (.int i) (.int j) = some (.int (i + j)) := rfl
inductive Ints : List D → List Int → Prop
  | n : Ints [] []
  | c {i : Int} {ds : List D} {is : List Int} : Ints ds is → Ints (.int i :: ds) (i :: is)
theorem Ints.eq : ∀ {ds : List D} {is : List Int}, Ints ds is → ds = is.map D.int
  | _, _, .n => rfl
  | _, _, .c h => by rw [List.map_cons, ← h.eq]
theorem ix_ints {ns : List Int} {k : Int} (h0 : 0 ≤ k) (h1 : k < ns.length) : ∃ n, ixD (.own (ns.map D.int)) (.int k) = some (.int n) ∧ n ∈ ns := by
  obtain ⟨z, e, m⟩ := ix_exO (ints_nices ns) h0 (by rw [List.length_map]; exact h1)
  obtain ⟨n, hn, rfl⟩ := List.mem_map.mp m
  exact ⟨n, e, hn⟩
theorem i_pickZ {ds : List D} {ns : List Int} {k : Int} {P : D → Prop} (e : Ints ds ns) (h0 : 0 ≤ k) (h1 : k < ns.length) (q : ∀ n, n ∈ ns → P (.int n)) : ∃ z, ixD (.own ds) (.int k) = some z ∧ P z := by
  rw [e.eq]
  obtain ⟨n, e, m⟩ := ix_ints h0 h1
  exact ⟨_, e, q n m⟩
theorem i_max0 {x : Int} {P : D → Prop} (q : ∀ y, 0 ≤ y → (y = x ∨ y = 0) → P (.int y)) : ∃ z, BV.ints2 (fun i j => if j > i then j else i) [.int 0, .int x] = some z ∧ P z := by
  refine ⟨_, rfl, q _ ?_ ?_⟩
  · show 0 ≤ if x > 0 then x else 0
    split <;> omega
  · show (if x > 0 then x else 0) = x ∨ (if x > 0 then x else 0) = 0
    split
    · exact .inl rfl
    · exact .inr rfl
theorem i_mulL {k n : Int} {P : D → Prop} (h0 : 0 ≤ k) (h1 : k ≤ 100) (h : n = 1 ∨ n = -1) (q : ∀ v : Int, -1000 ≤ v → v ≤ 1000 → P (.int v)) : ∃ z, mulD (.int (1 + k)) (.int n) = some z ∧ P z := by
  rcases h with rfl | rfl
  · exact ⟨_, mul_b (by omega) (by omega) (by omega) (by omega), q _ (by omega) (by omega)⟩
  · exact ⟨_, mul_b (by omega) (by omega) (by omega) (by omega), q _ (by omega) (by omega)⟩
theorem i_leq {ds : List D} {m : Nat} {X : Prop} (h : ds.length = m) (q : X) : ds.length = m ∧ X := ⟨h, q⟩
theorem pow_20 : powD (.int 10) (.int 20) = some (.int (10 ^ 20)) := rfl
theorem pow_30 : powD (.int 10) (.int 30) = some (.int (10 ^ 30)) := rfl
theorem pow_40 : powD (.int 10) (.int 40) = some (.int (10 ^ 40)) := rfl
theorem len_rep {x : D} {n : Nat} : (List.replicate n [x]).flatten.length ≤ n := by
  induction n with
  | zero => exact Nat.le_refl 0
  | succ n ih =>
    rw [List.replicate_succ, List.flatten_cons, List.length_append]
    simp only [List.length_cons, List.length_nil]
    omega
theorem len_repE {x : D} {n : Nat} : (List.replicate n [x]).flatten.length = n := by
  induction n with
  | zero => rfl
  | succ n ih =>
    rw [List.replicate_succ, List.flatten_cons, List.length_append, ih]
    simp only [List.length_cons, List.length_nil]
    omega
theorem mul_t {x : D} {k : Int} (h : 2 ≤ k) (h2 : k < 2 ^ 20) : mulD (.tup [x]) (.int k) = some (.tup (List.replicate k.toNat [x]).flatten) := if_pos ⟨List.cons_ne_nil _ _, h, (by omega), (by rw [List.length_singleton]; omega)⟩
end BV

namespace K34
open PySem PySem.Spec PyProof.Rows L2 BV
def top (i : Nat) : Stmt := PySem.Challenge.pw_undoneall_k34_straight_texts_judged.main.body.getD i (.Pass ⟨0, 0, 0, 0⟩)
/-- what the text's names stand for -/
structure Tx (K : Fg) (mg : Str → Option Value) : Prop where
  b_abs : mg "abs" = none
  b_all : mg "all" = none
  b_bool : mg "bool" = none
  b_enumerate : mg "enumerate" = none
  b_int : mg "int" = none
  b_isinstance : mg "isinstance" = none
  b_len : mg "len" = none
  b_list : mg "list" = none
  b_max : mg "max" = none
  b_range : mg "range" = none
  b_str : mg "str" = none
  b_tuple : mg "tuple" = none
  c_MOST_LETTER : ∃ t, mg "MOST_LETTER" = some (.int 20 t)
  c_MOST_RULES : ∃ t, mg "MOST_RULES" = some (.int 4000 t)
abbrev s_is_int : Stmt := top 1
abbrev nm_is_int : List Str := ["thing"]
theorem sc_is_int : FnScope nm_is_int ["thing"] (defScope s_is_int) := ⟨rfl, rfl, rfl, by decide +kernel, rfl, by decide +kernel, by decide +kernel⟩
abbrev s_within : Stmt := top 2
abbrev nm_within : List Str := ["thing", "low", "high"]
theorem sc_within : FnScope nm_within ["thing", "low", "high"] (defScope s_within) := ⟨rfl, rfl, rfl, by decide +kernel, rfl, by decide +kernel, by decide +kernel⟩
abbrev s_is_row : Stmt := top 3
abbrev nm_is_row : List Str := ["thing", "low", "high"]
theorem sc_is_row : FnScope nm_is_row ["thing", "low", "high"] (defScope s_is_row) := ⟨rfl, rfl, rfl, by decide +kernel, rfl, by decide +kernel, by decide +kernel⟩
abbrev s_is_letter : Stmt := top 7
abbrev nm_is_letter : List Str := ["thing"]
theorem sc_is_letter : FnScope nm_is_letter ["thing"] (defScope s_is_letter) := ⟨rfl, rfl, rfl, by decide +kernel, rfl, by decide +kernel, by decide +kernel⟩
abbrev s_is_rule : Stmt := top 8
abbrev nm_is_rule : List Str := ["thing", "index"]
theorem sc_is_rule : FnScope nm_is_rule ["thing", "index"] (defScope s_is_rule) := ⟨rfl, rfl, rfl, by decide +kernel, rfl, by decide +kernel, by decide +kernel⟩
abbrev s_is_straight : Stmt := top 9
abbrev nm_is_straight : List Str := ["thing", "index", "rule"]
theorem sc_is_straight : FnScope nm_is_straight ["thing"] (defScope s_is_straight) := ⟨rfl, rfl, rfl, by decide +kernel, rfl, by decide +kernel, by decide +kernel⟩
abbrev s__law_cup : Stmt := top 11
abbrev nm__law_cup : List Str := ["script", "blend", "cell"]
theorem sc__law_cup : FnScope nm__law_cup ["script"] (defScope s__law_cup) := ⟨rfl, rfl, rfl, by decide +kernel, rfl, by decide +kernel, by decide +kernel⟩
abbrev s__law_sip : Stmt := top 12
abbrev nm__law_sip : List Str := ["cup", "many", "size", "drawn"]
theorem sc__law_sip : FnScope nm__law_sip ["cup", "many"] (defScope s__law_sip) := ⟨rfl, rfl, rfl, by decide +kernel, rfl, by decide +kernel, by decide +kernel⟩
abbrev s__law_same : Stmt := top 13
abbrev nm__law_same : List Str := ["found", "due", "k"]
theorem sc__law_same : FnScope nm__law_same ["found", "due"] (defScope s__law_same) := ⟨rfl, rfl, rfl, by decide +kernel, rfl, by decide +kernel, by decide +kernel⟩
abbrev s__law_is_whole : Stmt := top 14
abbrev nm__law_is_whole : List Str := ["found"]
theorem sc__law_is_whole : FnScope nm__law_is_whole ["found"] (defScope s__law_is_whole) := ⟨rfl, rfl, rfl, by decide +kernel, rfl, by decide +kernel, by decide +kernel⟩
abbrev s__law_bent : Stmt := top 15
abbrev nm__law_bent : List Str := ["cup", "thing", "k", "j", "some"]
theorem sc__law_bent : FnScope nm__law_bent ["cup", "thing"] (defScope s__law_bent) := ⟨rfl, rfl, rfl, by decide +kernel, rfl, by decide +kernel, by decide +kernel⟩
abbrev s__law_text : Stmt := top 16
abbrev nm__law_text : List Str := ["cup", "many", "cap", "kinds", "rules", "sizes", "turn", "way", "rule", "size", "back", "i", "j", "k"]
theorem sc__law_text : FnScope nm__law_text ["cup", "many", "cap"] (defScope s__law_text) := ⟨rfl, rfl, rfl, by decide +kernel, rfl, by decide +kernel, by decide +kernel⟩
abbrev s__law_is_straight : Stmt := top 17
abbrev nm__law_is_straight : List Str := ["found", "k", "rule", "one"]
theorem sc__law_is_straight : FnScope nm__law_is_straight ["found"] (defScope s__law_is_straight) := ⟨rfl, rfl, rfl, by decide +kernel, rfl, by decide +kernel, by decide +kernel⟩
abbrev s__law_near_one : Stmt := top 18
abbrev nm__law_near_one : List Str := ["cup", "rules", "k", "many", "some"]
theorem sc__law_near_one : FnScope nm__law_near_one ["cup", "rules"] (defScope s__law_near_one) := ⟨rfl, rfl, rfl, by decide +kernel, rfl, by decide +kernel, by decide +kernel⟩
abbrev s_law : Stmt := top 19
abbrev nm_law : List Str := ["script", "cup", "turn", "rules", "k", "some", "thing", "due", "rule", "many", "step"]
theorem sc_law : FnScope nm_law ["script"] (defScope s_law) := ⟨rfl, rfl, rfl, by decide +kernel, rfl, by decide +kernel, by decide +kernel⟩
/-! ### what the values are -/
mutual
/-- data of small numbers and short tuples, less than so deep -/
def small : Nat → D → Bool
  | 0, _ => false
  | _ + 1, .int i => decide (i.natAbs < 2 ^ 200)
  | _ + 1, .str x => PyData.strOk x
  | n + 1, .tup xs => decide (xs.length ≤ 1000) && smalls n xs
  | _, _ => false
def smalls : Nat → List D → Bool
  | _, [] => true
  | n, d :: ds => small n d && smalls n ds
end
def isI : D → Bool
  | .int _ => true
  | _ => false
def withinF (d : D) (lo hi : Int) : Bool := match d with
  | .int i => decide (lo ≤ i) && decide (i ≤ hi)
  | _ => false
def rowF (d : D) (lo hi : Int) : Bool := match d with
  | .tup xs => decide (lo ≤ (xs.length : Int)) && decide ((xs.length : Int) ≤ hi)
  | _ => false
def letF : D → Bool
  | .int i => decide (-20 ≤ i) && decide (i ≤ 20) && decide (i ≠ 0)
  | _ => false
def isS (s : Str) : D → Bool
  | .str x => decide (x = s)
  | _ => false
def bigF : D → Bool
  | .int j => decide (1 < j)
  | _ => false
/-- a rule with so many ahead of it -/
def ruleL (k : Nat) : List D → Bool
  | [a] => isS "none" a
  | [a, b] => isS "letter" a && letF b
  | [a, b, c] => (isS "pair" a && (withinF b 0 ((k : Int) - 1) && withinF c 0 ((k : Int) - 1))) || (isS "power" a && (withinF b 0 ((k : Int) - 1) && bigF c))
  | _ => false
def ruleF (k : Nat) : D → Bool
  | .tup xs => ruleL k xs
  | _ => false
def rulesF : Nat → List D → Bool
  | _, [] => true
  | k, d :: ds => ruleF k d && rulesF (k + 1) ds
def strF : D → Bool
  | .tup rs => decide (1 ≤ rs.length) && decide (rs.length ≤ 4000) && rulesF 0 rs
  | _ => false
/-- the cup of draws behind at most m of them -/
def Cup (m : Nat) (d : D) : Prop := ∃ (c0 b c2 : Int) (ns : List Int), d = .own [.int c0, .int b, .int c2, .own (ns.map D.int)] ∧ 0 ≤ c0 ∧ 0 ≤ b ∧ b < 2 ^ 31 ∧ 0 ≤ c2 ∧ c2 ≤ (m : Int)
def F_is_int : FS := FS.ex (α := D) (fun d => [d]) (fun d => d.sh = true) (fun d r o => r = .bl (isI d) ∧ o = [])
def F_within : FS := FS.ex (α := D × Int × Int) (fun x => [x.1, .int x.2.1, .int x.2.2]) (fun x => x.1.sh = true) (fun x r o => r = .bl (withinF x.1 x.2.1 x.2.2) ∧ o = [])
def F_is_row : FS := FS.ex (α := D × Int × Int) (fun x => [x.1, .int x.2.1, .int x.2.2]) (fun x => x.1.sh = true) (fun x r o => r = .bl (rowF x.1 x.2.1 x.2.2) ∧ o = [])
def F_is_letter : FS := FS.ex (α := D) (fun d => [d]) (fun d => d.sh = true) (fun d r o => r = .bl (letF d) ∧ o = [])
def F_is_rule : FS := FS.ex (α := D × Nat) (fun x => [x.1, .int x.2]) (fun x => nice x.1 = true) (fun x r o => r = .bl (ruleF x.2 x.1) ∧ o = [])
def F_is_straight : FS := FS.ex (α := D) (fun d => [d]) (fun d => nice d = true) (fun d r o => r = .bl (strF d) ∧ o = [])
def F_cup : FS := FS.ex (α := List Int) (fun ns => [.frl (ns.map D.int)]) (fun _ => True) (fun _ r o => Cup 0 r ∧ o = [])
def F_sip : FS := FS.ex (α := Nat × D × Int) (fun x => [x.2.1, .int x.2.2]) (fun x => Cup x.1 x.2.1 ∧ x.1 ≤ 1000000000 ∧ 0 < x.2.2 ∧ x.2.2 ≤ 10 ^ 30) (fun x r o => ∃ k c, r = .int k ∧ 0 ≤ k ∧ k < x.2.2 ∧ o = [c] ∧ Cup (x.1 + 1) c)
def F_same : FS := FS.ex (α := Bool × Bool) (fun x => [.bl x.1, .bl x.2]) (fun _ => True) (fun x r o => r = .bl (x.1 == x.2) ∧ o = [])
def F_whole : FS := FS.ex (α := D) (fun d => [d]) (fun d => d.sh = true) (fun d r o => r = .bl (isI d) ∧ o = [])
/-- .. of tuples j deep -/
def F_bentJ (j : Nat) : FS := FS.ex (α := Nat × D × D) (fun x => [x.2.1, x.2.2]) (fun x => Cup x.1 x.2.1 ∧ x.1 + 10 * j ≤ 100000000 ∧ small j x.2.2 = true) (fun x r o => ∃ c, nice r = true ∧ o = [c] ∧ Cup (x.1 + 10 * j + 10) c)
def F_text : FS := FS.ex (α := Nat × D) (fun x => [x.2, .int 40, .int (10 ^ 40)]) (fun x => Cup x.1 x.2 ∧ x.1 ≤ 100000000) (fun x r o => ∃ rs c, r = .tup rs ∧ rs ≠ [] ∧ rs.length ≤ 41 ∧ smalls 2 rs = true ∧ o = [c] ∧ Cup (x.1 + 1000) c)
def F_judge : FS := FS.ex (α := D) (fun d => [d]) (fun d => nice d = true) (fun d r o => r = .bl (strF d) ∧ o = [])
def F_near : FS := FS.ex (α := Nat × D × List D) (fun x => [x.2.1, .tup x.2.2]) (fun x => Cup x.1 x.2.1 ∧ x.1 ≤ 100000000 ∧ x.2.2 ≠ [] ∧ x.2.2.length ≤ 41 ∧ smalls 2 x.2.2 = true) (fun x r o => ∃ c, nice r = true ∧ o = [c] ∧ Cup (x.1 + 10) c)
def F_law : FS := FS.ex (α := List Int) (fun ns => [.frl (ns.map D.int)]) (fun _ => True) (fun _ r o => r = .bl true ∧ o = [])
def x_is_int : XS := (xRet (xAndV (xFn (fun d => .bl d.isInt) (xName 0)) (xNotV (xFn (fun d => .bl d.isBl) (xName 0)))))
def x_within : XS := (xRet (xAndV (xCall F_is_int [] (xCons (xName 0) xNil)) (xChain (fun i j => decide (i ≤ j)) (fun i j => decide (i ≤ j)) (xName 1) (xName 0) (xName 2))))
def x_is_row : XS := (xRet (xAndV (xFn (fun d => .bl d.isTup) (xName 0)) (xChain (fun i j => decide (i ≤ j)) (fun i j => decide (i ≤ j)) (xName 1) (xCal len1 (xCons (xName 0) xNil)) (xName 2))))
def x_is_letter : XS := (xRet (xAndV (xCall F_within [] (xCons (xName 0) (xCons (xUn negD (xC (.int 20))) (xCons (xC (.int 20)) xNil)))) (xBin (fun d e => (eqD d e).map fun b => D.bl (!b)) (xName 0) (xC (.int 0)))))
def x_is_rule : XS := (xSeq (xIfS (xOr (xNot (xTru (xCall F_is_row [] (xCons (xName 0) (xCons (xC (.int 1)) (xCons (xC (.int 3)) xNil)))))) (xNot (xTru (xFn (fun d => .bl d.isStr) (xBin ixD (xName 0) (xC (.int 0))))))) (xRet (xC (.bl false))) xNext)
    (xSeq (xIfS (xTst (xBin (fun d e => (eqD d e).map D.bl) (xBin ixD (xName 0) (xC (.int 0))) (xC (.str "none")))) (xRet (xBin (fun d e => (eqD d e).map D.bl) (xCal len1 (xCons (xName 0) xNil)) (xC (.int 1)))) xNext)
    (xSeq (xIfS (xTst (xBin (fun d e => (eqD d e).map D.bl) (xBin ixD (xName 0) (xC (.int 0))) (xC (.str "letter")))) (xRet (xAndV (xBin (fun d e => (eqD d e).map D.bl) (xCal len1 (xCons (xName 0) xNil)) (xC (.int 2))) (xCall F_is_letter [] (xCons (xBin ixD (xName 0) (xC (.int 1))) xNil)))) xNext)
    (xSeq (xIfS (xOr (xTst (xBin (fun d e => (eqD d e).map fun b => D.bl (!b)) (xCal len1 (xCons (xName 0) xNil)) (xC (.int 3)))) (xNot (xTru (xCall F_within [] (xCons (xBin ixD (xName 0) (xC (.int 1))) (xCons (xC (.int 0)) (xCons (xBin subD (xName 1) (xC (.int 1))) xNil))))))) (xRet (xC (.bl false))) xNext)
    (xSeq (xIfS (xTst (xBin (fun d e => (eqD d e).map D.bl) (xBin ixD (xName 0) (xC (.int 0))) (xC (.str "pair")))) (xRet (xCall F_within [] (xCons (xBin ixD (xName 0) (xC (.int 2))) (xCons (xC (.int 0)) (xCons (xBin subD (xName 1) (xC (.int 1))) xNil))))) xNext)
    (xRet (xAndV (xBin (fun d e => (eqD d e).map D.bl) (xBin ixD (xName 0) (xC (.int 0))) (xC (.str "power"))) (xAndV (xCall F_is_int [] (xCons (xBin ixD (xName 0) (xC (.int 2))) xNil)) (xBin gtD (xBin ixD (xName 0) (xC (.int 2))) (xC (.int 1)))))))))))
def x_is_straight : XS := (xRet (xAndV (xCall F_is_row [] (xCons (xName 0) (xCons (xC (.int 1)) (xCons (xC (.int 4000)) xNil)))) (xCal (allB fun bs => bs.all id) (xCons (xLc (xiEnum (xCons (xName 0) xNil)) (xgTup 2 (xgCons (xgName 1) (xgCons (xgName 2) xgNil))) xYes (xCall F_is_rule [] (xCons (xName 2) (xCons (xName 1) xNil))) [1, 2]) xNil))))
def x__law_cup : XS := (xSeq (xAsg (xC (.int 1)) (xgName 1))
    (xSeq (xFor (xiSeq (xName 0)) (xgName 2) (xAsg (xBin addD (xBin modD (xCal int1 (xCons (xBin addD (xBin mulD (xName 1) (xC (.int 31))) (xName 2)) xNil)) (xC (.int 2147483629))) (xC (.int 1))) (xgName 1)))
    (xRet (xLst (xCons (xC (.int 0)) (xCons (xName 1) (xCons (xC (.int 0)) (xCons (xCal list1 (xCons (xName 0) xNil)) xNil))))))))
def x__law_sip : XS := (xSeq (xIfS (xAnd (xTst (xBin (fun d e => (eqD d e).map D.bl) (xIxS 0 (xC (.int 0))) (xC (.int 0)))) (xTst (xNeP 0 3 (.own [])))) (xSeq (xAsg (xCal abs1 (xCons (xCal int1 (xCons (xPopP 0 3 0) xNil)) xNil)) (xgName 2))
    (xAsg (xIf (xTst (xBin geD (xName 2) (xBin powD (xC (.int 10)) (xC (.int 18))))) (xName 2) (xBin addD (xBin mulD (xBin divD (xBin mulD (xName 2) (xName 2)) (xC (.int 97))) (xC (.int 48271))) (xName 2))) (xSetS 0 (xC (.int 0))))) xNext)
    (xSeq (xIfS (xTst (xBin gtD (xIxS 0 (xC (.int 0))) (xC (.int 0)))) (xSeq (xAsg (xBin modD (xCal int1 (xCons (xIxS 0 (xC (.int 0))) xNil)) (xName 1)) (xgName 3))
    (xSeq (xAsg (xBin divD (xIxS 0 (xC (.int 0))) (xName 1)) (xSetS 0 (xC (.int 0))))
    (xRet (xName 3)))) xNext)
    (xSeq (xAsg (xBin addD (xIxS 0 (xC (.int 2))) (xC (.int 1))) (xSetS 0 (xC (.int 2))))
    (xSeq (xAsg (xBin modD (xCal int1 (xCons (xBin addD (xBin addD (xBin mulD (xIxS 0 (xC (.int 1))) (xC (.int 16807))) (xBin mulD (xBin mulD (xIxS 0 (xC (.int 2))) (xIxS 0 (xC (.int 2)))) (xC (.int 4099)))) (xC (.int 77))) xNil)) (xC (.int 2147483647))) (xSetS 0 (xC (.int 1))))
    (xRet (xBin modD (xBin divD (xBin modD (xCal int1 (xCons (xBin mulD (xIxS 0 (xC (.int 1))) (xBin addD (xBin divD (xIxS 0 (xC (.int 1))) (xC (.int 1009))) (xC (.int 5)))) xNil)) (xC (.int 2147483629))) (xC (.int 61))) (xName 1)))))))
def x__law_same : XS := (xSeq (xIfS (xTru (xFn (fun d => .bl d.isTup) (xName 1))) xNever xNext)
    (xSeq (xIfS (xTst (xFn (fun d => .bl d.isNon) (xName 1))) xNever xNext)
    (xSeq (xIfS (xTru (xFn (fun d => .bl d.isBl) (xName 1))) (xRet (xAndV (xFn (fun d => .bl d.isBl) (xName 0)) (xBin (fun d e => (eqD d e).map D.bl) (xName 0) (xName 1)))) xNext)
    (xSeq (xIfS (xTru (xFn (fun d => .bl d.isInt) (xName 1))) (xRet (xAndV (xFn (fun d => .bl d.isInt) (xName 0)) (xAndV (xNotV (xFn (fun d => .bl d.isBl) (xName 0))) (xBin (fun d e => (eqD d e).map D.bl) (xName 0) (xName 1))))) xNext)
    (xRet (xAndV (xFn (fun d => .bl d.isStr) (xName 0)) (xBin (fun d e => (eqD d e).map D.bl) (xName 0) (xName 1))))))))
def x__law_is_whole : XS := (xRet (xAndV (xFn (fun d => .bl d.isInt) (xName 0)) (xNotV (xFn (fun d => .bl d.isBl) (xName 0)))))
def x__law_bent (j : Nat) : XS := (xSeq (xIfS (xAnd (xTru (xFn (fun d => .bl d.isTup) (xName 1))) (xAnd (xTst (xBin (fun d e => (eqD d e).map fun b => D.bl (!b)) (xName 1) (xTup xNil))) (xTst (xBin gtD (xCall F_sip [some 0] (xLend 0 (xCons (xC (.int 5)) xNil))) (xC (.int 0)))))) (xSeq (xAsg (xCall F_sip [some 0] (xLend 0 (xCons (xCal len1 (xCons (xName 1) xNil)) xNil))) (xgName 2))
    (xRet (xBin addD (xBin addD (xSl (xName 1) xoNone (xoSome (xName 2))) (xTup (xCons (xCall (F_bentJ j) [some 0] (xLend 0 (xCons (xBin ixD (xName 1) (xName 2)) xNil))) xNil))) (xSl (xName 1) (xoSome (xBin addD (xName 2) (xC (.int 1)))) xoNone)))) xNext)
    (xSeq (xIfS (xTru (xFn (fun d => .bl d.isTup) (xName 1))) (xSeq (xPar [2, 3] (xCons (xCall F_sip [some 0] (xLend 0 (xCons (xBin addD (xCal len1 (xCons (xName 1) xNil)) (xC (.int 1))) xNil))) (xCons (xCall F_sip [some 0] (xLend 0 (xCons (xBin addD (xCal len1 (xCons (xName 1) xNil)) (xC (.int 1))) xNil))) xNil)))
    (xSeq (xAsg (xFrz (xLst (xCons (xBin addD (xSl (xName 1) xoNone (xoSome (xName 2))) (xSl (xName 1) (xoSome (xBin addD (xName 2) (xC (.int 1)))) xoNone)) (xCons (xBin addD (xBin addD (xSl (xName 1) xoNone (xoSome (xName 2))) (xSl (xName 1) (xoSome (xName 2)) (xoSome (xBin addD (xName 2) (xC (.int 1)))))) (xSl (xName 1) (xoSome (xName 2)) xoNone)) (xCons (xUn revD (xName 1)) (xCons (xFrz (xCal list1 (xCons (xName 1) xNil))) (xCons (xBin addD (xName 1) (xTup (xCons (xC (.int 0)) xNil))) xNil))))))) (xgName 4))
    (xSeq (xAsg (xFrz (xBin addD (xName 4) (xLst (xCons (xTup (xCons (xName 1) xNil)) (xCons (xBin addD (xBin addD (xSl (xName 1) xoNone (xoSome (xName 2))) (xSl (xName 1) (xoSome (xName 3)) (xoSome (xBin addD (xName 3) (xC (.int 1)))))) (xSl (xName 1) (xoSome (xBin addD (xName 2) (xC (.int 1)))) xoNone)) (xCons (xC .non) (xCons (xTup xNil) (xCons (xFrz (xLst xNil)) (xCons (xC (.str "")) (xCons (xBin addD (xName 1) (xTup (xCons (xTup (xCons (xC (.str "none")) xNil)) xNil))) (xCons (xBin addD (xName 1) (xTup (xCons (xTup xNil) xNil))) xNil))))))))))) (xgName 4))
    (xRet (xBin ixD (xName 4) (xCall F_sip [some 0] (xLend 0 (xCons (xC (.int 13)) xNil)))))))) xNext)
    (xSeq (xAsg (xFrz (xLst (xCons (xC .non) (xCons (xC (.bl true)) (xCons (xC (.bl false)) (xCons (xCal str1 (xCons (xName 1) xNil)) (xCons (xTup (xCons (xName 1) xNil)) (xCons (xFrz (xLst (xCons (xName 1) xNil))) (xCons (xC (.str "none")) (xCons (xC (.str "letter")) (xCons (xC (.str "pair")) (xCons (xC (.str "power")) (xCons (xC (.str "")) (xCons (xC (.int 0)) (xCons (xC (.int 1)) (xCons (xC (.int 2)) (xCons (xC (.int 20)) (xCons (xC (.int 21)) (xCons (xUn negD (xC (.int 20))) (xCons (xUn negD (xC (.int 21))) (xCons (xBin powD (xC (.int 10)) (xC (.int 30))) xNil))))))))))))))))))))) (xgName 4))
    (xSeq (xIfS (xTru (xFn (fun d => .bl d.isInt) (xName 1))) (xAsg (xFrz (xBin addD (xName 4) (xLst (xCons (xBin addD (xName 1) (xC (.int 1))) (xCons (xBin subD (xName 1) (xC (.int 1))) (xCons (xUn negD (xName 1)) (xCons (xBin mulD (xName 1) (xC (.int 2))) (xCons (xBin addD (xName 1) (xC (.int 1))) (xCons (xBin subD (xName 1) (xC (.int 1))) (xCons (xBin subD (xUn negD (xName 1)) (xC (.int 1))) xNil)))))))))) (xgName 4)) xNext)
    (xRet (xBin ixD (xName 4) (xCall F_sip [some 0] (xLend 0 (xCons (xCal len1 (xCons (xName 4) xNil)) xNil)))))))))
def x__law_text : XS := (xSeq (xPar [3, 4, 5] (xCons (xBin ixD (xLst (xCons (xC (.int 1)) (xCons (xC (.int 2)) (xCons (xC (.int 3)) (xCons (xC (.int 20)) xNil))))) (xCall F_sip [some 0] (xLend 0 (xCons (xC (.int 4)) xNil)))) (xCons (xLst xNil) (xCons (xLst xNil) xNil))))
    (xSeq (xFor (xiRng1 (xCons (xBin addD (xC (.int 1)) (xCall F_sip [some 0] (xLend 0 (xCons (xName 1) xNil)))) xNil)) (xgName 6) (xSeq (xPar [7, 8, 9] (xCons (xCall F_sip [some 0] (xLend 0 (xCons (xC (.int 12)) xNil))) (xCons (xTup (xCons (xC (.str "letter")) (xCons (xBin mulD (xBin addD (xC (.int 1)) (xCall F_sip [some 0] (xLend 0 (xCons (xName 3) xNil)))) (xBin ixD (xLst (xCons (xC (.int 1)) (xCons (xUn negD (xC (.int 1))) xNil))) (xCall F_sip [some 0] (xLend 0 (xCons (xC (.int 2)) xNil))))) xNil))) (xCons (xC (.int 1)) xNil))))
    (xSeq (xIfS (xTst (xBin (fun d e => (eqD d e).map D.bl) (xName 7) (xC (.int 0)))) (xTupAsg 2 (xCons (xTup (xCons (xC (.str "none")) xNil)) (xCons (xC (.int 0)) xNil)) (xgCons (xgName 8) (xgCons (xgName 9) xgNil))) xNext)
    (xSeq (xIfS (xAnd (xTst (xBin gtD (xName 7) (xC (.int 3)))) (xTst (xEqS 4 true (xLst xNil)))) (xSeq (xAsg (xBin ixD (xLst (xCons (xC (.int 2)) (xCons (xC (.int 3)) (xCons (xC (.int 6)) (xCons (xC (.int 60)) xNil))))) (xCall F_sip [some 0] (xLend 0 (xCons (xC (.int 4)) xNil)))) (xgName 10))
    (xSeq (xPar [11, 12] (xCons (xCal (ints2 fun i j => if j > i then j else i) (xCons (xC (.int 0)) (xCons (xBin subD (xBin subD (xLenS 4) (xC (.int 1))) (xCall F_sip [some 0] (xLend 0 (xCons (xName 10) xNil)))) xNil))) (xCons (xCal (ints2 fun i j => if j > i then j else i) (xCons (xC (.int 0)) (xCons (xBin subD (xBin subD (xLenS 4) (xC (.int 1))) (xCall F_sip [some 0] (xLend 0 (xCons (xName 10) xNil)))) xNil))) xNil)))
    (xSeq (xAsg (xBin ixD (xLst (xCons (xC (.int 2)) (xCons (xC (.int 3)) (xCons (xBin addD (xC (.int 2)) (xCall F_sip [some 0] (xLend 0 (xCons (xC (.int 40)) xNil)))) (xCons (xBin addD (xC (.int 2)) (xCall F_sip [some 0] (xLend 0 (xCons (xBin powD (xC (.int 10)) (xC (.int 20))) xNil)))) xNil))))) (xCall F_sip [some 0] (xLend 0 (xCons (xC (.int 4)) xNil)))) (xgName 13))
    (xSeq (xIfS (xAnd (xTst (xBin ltD (xName 7) (xC (.int 10)))) (xTst (xBin leD (xBin addD (xIxS 5 (xName 11)) (xIxS 5 (xName 12))) (xName 2)))) (xPar [8, 9] (xCons (xTup (xCons (xC (.str "pair")) (xCons (xName 11) (xCons (xName 12) xNil)))) (xCons (xBin addD (xIxS 5 (xName 11)) (xIxS 5 (xName 12))) xNil))) xNext)
    (xIfS (xAnd (xTst (xBin gtD (xName 7) (xC (.int 9)))) (xTst (xBin leD (xBin mulD (xIxS 5 (xName 11)) (xName 13)) (xName 2)))) (xPar [8, 9] (xCons (xTup (xCons (xC (.str "power")) (xCons (xName 11) (xCons (xName 13) xNil)))) (xCons (xBin mulD (xIxS 5 (xName 11)) (xName 13)) xNil))) xNext))))) xNext)
    (xSeq (xDo (xApp 4 (xName 8)))
    (xDo (xApp 5 (xName 9))))))))
    (xRet (xCal tuple1 (xCons (xMv 4) xNil)))))
def x__law_is_straight : XS := (xSeq (xIfS (xOr (xNot (xTru (xFn (fun d => .bl d.isTup) (xName 0)))) (xNot (xTst (xChain (fun i j => decide (i < j)) (fun i j => decide (i < j)) (xC (.int 0)) (xCal len1 (xCons (xName 0) xNil)) (xC (.int 4001)))))) (xRet (xC (.bl false))) xNext)
    (xSeq (xFor (xiRng1 (xCons (xCal len1 (xCons (xName 0) xNil)) xNil)) (xgName 1) (xSeq (xAsg (xBin ixD (xName 0) (xName 1)) (xgName 2))
    (xSeq (xIfS (xOr (xNot (xTru (xFn (fun d => .bl d.isTup) (xName 2)))) (xOr (xTst (xBin (fun d e => (eqD d e).map D.bl) (xCal len1 (xCons (xName 2) xNil)) (xC (.int 0)))) (xOr (xNot (xTru (xFn (fun d => .bl d.isStr) (xBin ixD (xName 2) (xC (.int 0)))))) (xTst (xBin gtD (xCal len1 (xCons (xName 2) xNil)) (xC (.int 3))))))) (xRet (xC (.bl false))) xNext)
    (xSeq (xIfS (xTst (xBin (fun d e => (eqD d e).map fun b => D.bl (!b)) (xLc (xiSeq (xSl (xName 2) (xoSome (xC (.int 1))) xoNone)) (xgName 3) (xNot (xTru (xCall F_whole [] (xCons (xName 3) xNil)))) (xName 3) [3]) (xLst xNil))) (xRet (xC (.bl false))) xNext)
    (xSeq (xIfS (xAnd (xTst (xBin (inD false) (xBin ixD (xName 2) (xC (.int 0))) (xTup (xCons (xC (.str "pair")) (xCons (xC (.str "power")) xNil))))) (xOr (xTst (xBin ltD (xCal len1 (xCons (xName 2) xNil)) (xC (.int 3)))) (xNot (xTst (xChain (fun i j => decide (i ≤ j)) (fun i j => decide (i < j)) (xC (.int 0)) (xBin ixD (xName 2) (xC (.int 1))) (xName 1)))))) (xRet (xC (.bl false))) xNext)
    (xSeq (xIfS (xOr (xAnd (xTst (xBin (fun d e => (eqD d e).map D.bl) (xBin ixD (xName 2) (xC (.int 0))) (xC (.str "pair")))) (xNot (xTst (xChain (fun i j => decide (i ≤ j)) (fun i j => decide (i < j)) (xC (.int 0)) (xBin ixD (xName 2) (xC (.int 2))) (xName 1))))) (xAnd (xTst (xBin (fun d e => (eqD d e).map D.bl) (xBin ixD (xName 2) (xC (.int 0))) (xC (.str "power")))) (xTst (xBin ltD (xBin ixD (xName 2) (xC (.int 2))) (xC (.int 2)))))) (xRet (xC (.bl false))) xNext)
    (xSeq (xIfS (xOr (xAnd (xTst (xBin (fun d e => (eqD d e).map D.bl) (xBin ixD (xName 2) (xC (.int 0))) (xC (.str "none")))) (xTst (xBin gtD (xCal len1 (xCons (xName 2) xNil)) (xC (.int 1))))) (xTst (xBin (inD true) (xBin ixD (xName 2) (xC (.int 0))) (xTup (xCons (xC (.str "none")) (xCons (xC (.str "letter")) (xCons (xC (.str "pair")) (xCons (xC (.str "power")) xNil)))))))) (xRet (xC (.bl false))) xNext)
    (xIfS (xAnd (xTst (xBin (fun d e => (eqD d e).map D.bl) (xBin ixD (xName 2) (xC (.int 0))) (xC (.str "letter")))) (xOr (xTst (xBin (fun d e => (eqD d e).map fun b => D.bl (!b)) (xCal len1 (xCons (xName 2) xNil)) (xC (.int 2)))) (xOr (xTst (xBin (fun d e => (eqD d e).map D.bl) (xBin ixD (xName 2) (xC (.int 1))) (xC (.int 0)))) (xTst (xBin gtD (xCal abs1 (xCons (xBin ixD (xName 2) (xC (.int 1))) xNil)) (xC (.int 20))))))) (xRet (xC (.bl false))) xNext))))))))
    (xRet (xC (.bl true)))))
def x__law_near_one : XS := (xSeq (xPar [2, 3] (xCons (xCall F_sip [some 0] (xLend 0 (xCons (xCal len1 (xCons (xName 1) xNil)) xNil))) (xCons (xCal len1 (xCons (xName 1) xNil)) xNil)))
    (xSeq (xAsg (xFrz (xLst (xCons (xTup (xCons (xC (.str "pair")) (xCons (xName 2) (xCons (xC (.int 0)) xNil)))) (xCons (xTup (xCons (xC (.str "pair")) (xCons (xC (.int 0)) (xCons (xName 2) xNil)))) (xCons (xTup (xCons (xC (.str "pair")) (xCons (xUn negD (xC (.int 1))) (xCons (xC (.int 0)) xNil)))) (xCons (xTup (xCons (xC (.str "pair")) (xCons (xC (.int 0)) (xCons (xUn negD (xC (.int 1))) xNil)))) (xCons (xTup (xCons (xC (.str "power")) (xCons (xName 2) (xCons (xC (.int 2)) xNil)))) (xCons (xTup (xCons (xC (.str "power")) (xCons (xC (.int 0)) (xCons (xC (.int 1)) xNil)))) (xCons (xTup (xCons (xC (.str "power")) (xCons (xC (.int 0)) (xCons (xC (.int 0)) xNil)))) xNil))))))))) (xgName 4))
    (xSeq (xAsg (xFrz (xBin addD (xName 4) (xLst (xCons (xTup (xCons (xC (.str "power")) (xCons (xUn negD (xC (.int 1))) (xCons (xC (.int 2)) xNil)))) (xCons (xTup (xCons (xC (.str "power")) (xCons (xC (.int 0)) (xCons (xC (.bl true)) xNil)))) (xCons (xTup (xCons (xC (.str "pair")) (xCons (xC (.int 0)) (xCons (xC (.bl false)) xNil)))) (xCons (xTup (xCons (xC (.str "letter")) (xCons (xC (.int 0)) xNil))) (xCons (xTup (xCons (xC (.str "letter")) (xCons (xC (.int 21)) xNil))) (xCons (xTup (xCons (xC (.str "letter")) (xCons (xUn negD (xC (.int 21))) xNil))) (xCons (xTup (xCons (xC (.str "letter")) (xCons (xC (.bl true)) xNil))) xNil)))))))))) (xgName 4))
    (xSeq (xAsg (xFrz (xBin addD (xName 4) (xLst (xCons (xTup (xCons (xC (.str "none")) (xCons (xC (.int 0)) xNil))) (xCons (xTup (xCons (xC (.str "none")) xNil)) (xCons (xTup (xCons (xC (.str "letter")) (xCons (xC (.int 20)) xNil))) (xCons (xTup (xCons (xC (.str "letter")) (xCons (xUn negD (xC (.int 20))) xNil))) (xCons (xTup (xCons (xC (.str "pair")) (xCons (xBin subD (xName 2) (xC (.int 1))) (xCons (xBin subD (xName 2) (xC (.int 1))) xNil)))) (xCons (xTup (xCons (xC (.str "power")) (xCons (xBin subD (xName 2) (xC (.int 1))) (xCons (xBin powD (xC (.int 10)) (xC (.int 30))) xNil)))) (xCons (xTup (xCons (xC (.str "pair")) (xCons (xName 3) (xCons (xC (.int 0)) xNil)))) xNil)))))))))) (xgName 4))
    (xSeq (xAsg (xFrz (xBin addD (xName 4) (xLst (xCons (xTup (xCons (xC (.str "letter")) (xCons (xC (.int 1)) (xCons (xC (.int 1)) xNil)))) (xCons (xTup (xCons (xC (.str "pair")) (xCons (xC (.int 0)) xNil))) (xCons (xTup (xCons (xC (.str "power")) (xCons (xC (.int 0)) xNil))) (xCons (xTup (xCons (xC (.str "letter")) xNil)) (xCons (xTup xNil) (xCons (xTup (xCons (xC (.str "Pair")) (xCons (xC (.int 0)) (xCons (xC (.int 0)) xNil)))) (xCons (xC (.str "none")) (xCons (xFrz (xLst (xCons (xC (.str "none")) xNil))) (xCons (xTup (xCons (xC (.str "pair")) (xCons (xC (.int 0)) (xCons (xC (.int 0)) (xCons (xC (.int 0)) xNil))))) (xCons (xTup (xCons (xTup (xCons (xC (.str "none")) xNil)) xNil)) (xCons (xC (.int 1)) xNil)))))))))))))) (xgName 4))
    (xRet (xBin addD (xBin addD (xSl (xName 1) xoNone (xoSome (xName 2))) (xTup (xCons (xBin ixD (xName 4) (xCall F_sip [some 0] (xLend 0 (xCons (xC (.int 32)) xNil)))) xNil))) (xSl (xName 1) (xoSome (xBin addD (xName 2) (xC (.int 1)))) xoNone))))))))
def x_law : XS := (xSeq (xAsg (xCall F_cup [] (xCons (xName 0) xNil)) (xgName 1))
    (xSeq (xFor (xiRng1 (xCons (xC (.int 5)) xNil)) (xgName 2) (xSeq (xAsg (xCall F_text [some 1] (xLend 1 (xCons (xC (.int 40)) (xCons (xBin powD (xC (.int 10)) (xC (.int 40))) xNil)))) (xgName 3))
    (xSeq (xAsg (xCall F_sip [some 1] (xLend 1 (xCons (xCal len1 (xCons (xName 3) xNil)) xNil))) (xgName 4))
    (xSeq (xAsg (xFrz (xLst (xCons (xName 3) (xCons (xSl (xName 3) xoNone (xoSome (xName 4))) (xCons (xSl (xName 3) (xoSome (xName 4)) xoNone) (xCons (xUn revD (xName 3)) (xCons (xBin addD (xBin addD (xSl (xName 3) xoNone (xoSome (xName 4))) (xSl (xName 3) (xoSome (xName 4)) (xoSome (xBin addD (xName 4) (xC (.int 1)))))) (xSl (xName 3) (xoSome (xName 4)) xoNone)) (xCons (xFrz (xCal list1 (xCons (xName 3) xNil))) (xCons (xBin addD (xName 3) (xName 3)) xNil))))))))) (xgName 5))
    (xSeq (xAsg (xFrz (xBin addD (xBin addD (xName 5) (xLc (xiRng1 (xCons (xC (.int 6)) xNil)) (xgName 10) xYes (xCall (F_bentJ 3) [some 1] (xLend 1 (xCons (xName 3) xNil))) [10])) (xLc (xiRng1 (xCons (xC (.int 6)) xNil)) (xgName 10) xYes (xCall F_near [some 1] (xLend 1 (xCons (xName 3) xNil))) [10]))) (xgName 5))
    (xSeq (xAsg (xFrz (xBin addD (xName 5) (xLst (xCons (xBin ixD (xLst (xCons (xTup xNil) (xCons (xC .non) (xCons (xTup (xCons (xTup (xCons (xC (.str "none")) xNil)) xNil)) (xCons (xTup (xCons (xTup xNil) xNil)) (xCons (xC (.str "none")) (xCons (xTup (xCons (xC (.str "none")) xNil)) (xCons (xC (.int 0)) xNil)))))))) (xCall F_sip [some 1] (xLend 1 (xCons (xC (.int 7)) xNil)))) xNil)))) (xgName 5))
    (xFor (xiSeq (xName 5)) (xgName 6) (xSeq (xAsg (xCall F_judge [] (xCons (xName 6) xNil)) (xgName 7))
    (xIfS (xOr (xNot (xTru (xCall F_same [] (xCons (xCall F_is_straight [] (xCons (xName 6) xNil)) (xCons (xName 7) xNil))))) (xNot (xTru (xCall F_same [] (xCons (xCall F_is_straight [] (xCons (xName 6) xNil)) (xCons (xName 7) xNil)))))) (xRet (xC (.bl false))) xNext)))))))))
    (xSeq (xAsg (xBin ixD (xLst (xCons (xTup (xCons (xC (.str "none")) xNil)) (xCons (xTup (xCons (xC (.str "letter")) (xCons (xUn negD (xC (.int 7))) xNil))) (xCons (xTup (xCons (xC (.str "pair")) (xCons (xC (.int 0)) (xCons (xC (.int 0)) xNil)))) (xCons (xTup (xCons (xC (.str "power")) (xCons (xC (.int 0)) (xCons (xC (.int 2)) xNil)))) xNil))))) (xCall F_sip [some 1] (xLend 1 (xCons (xC (.int 4)) xNil)))) (xgName 8))
    (xSeq (xFor (xiSeq (xTup (xCons (xC (.int 3999)) (xCons (xC (.int 4000)) xNil)))) (xgName 9) (xIfS (xNot (xTru (xCall F_same [] (xCons (xCall F_is_straight [] (xCons (xBin addD (xTup (xCons (xTup (xCons (xC (.str "letter")) (xCons (xC (.int 3)) xNil))) xNil)) (xBin mulD (xTup (xCons (xName 8) xNil)) (xName 9))) xNil)) (xCons (xBin (fun d e => (eqD d e).map D.bl) (xName 9) (xC (.int 3999))) xNil))))) (xRet (xC (.bl false))) xNext))
    (xRet (xC (.bl true)))))))
section
variable {P : Program} {w : World} {K : Fg} {mg : Str → Option Value} {base : Heap}
set_option maxHeartbeats 8000000 in
theorem ok_is_int {f : Addr} {fd : FuncData} (T : Tx K mg) (Dn : FnP K "is_int" s_is_int f fd) (g : mg "is_int" = some (.ref f)) (pf : ∀ (ds : List D) (Q : D → List D → Prop), (F_is_int).f ds Q → x_is_int.f { nx := fun ρ => ∃ outs, outsOf [] ρ = outs.map some ∧ Q .non outs, rt := fun r ρ => ∃ outs, outsOf [] ρ = outs.map some ∧ Q r outs, bk := fun _ => False, ct := fun _ => False } (ds.map some ++ List.replicate (1 - 1) none)) : OkF P w K mg base (1) "is_int" ["thing"] 1 [] F_is_int := by
  exact okf_mk (P := P) (w := w) (base := base) (k := (1 - 1)) Dn g sc_is_int rfl (by decide) (by decide) (fun _ _ _ _ _ _ us hl => match us, hl with | [_], _ => rfl) (fun _ _ _ _ _ _ us hl => match us, hl with | [_], _ => rfl) fun cdv A outer s H E C hC hr => ⟨_, x_is_int,
    (vb_one (vs_ret (ve_and (ve_isi kit_int (ve_name 0 (pv 0)) (by rfl) T.b_isinstance (pe_bltn (by rfl) T.b_int (by decide +kernel) rfl)) (ve_one (ve_not (ve_isi kit_bl (ve_name 0 (pv 0)) (by rfl) T.b_isinstance (pe_bltn (by rfl) T.b_bool (by decide +kernel) rfl))))))), pf⟩
set_option maxHeartbeats 8000000 in
theorem ok_within {f : Addr} {fd : FuncData} (T : Tx K mg) (Dn : FnP K "within" s_within f fd) (g : mg "within" = some (.ref f)) (G_is_int : OkF P w K mg base 1 "is_int" ["thing"] 1 [] F_is_int) (pf : ∀ (ds : List D) (Q : D → List D → Prop), (F_within).f ds Q → x_within.f { nx := fun ρ => ∃ outs, outsOf [] ρ = outs.map some ∧ Q .non outs, rt := fun r ρ => ∃ outs, outsOf [] ρ = outs.map some ∧ Q r outs, bk := fun _ => False, ct := fun _ => False } (ds.map some ++ List.replicate (3 - 3) none)) : OkF P w K mg base (2) "within" ["thing", "low", "high"] 3 [] F_within := by
  exact okf_mk (P := P) (w := w) (base := base) (k := (2 - 1)) Dn g sc_within rfl (by decide) (by decide) (fun _ _ _ _ _ _ us hl => match us, hl with | [_, _, _], _ => rfl) (fun _ _ _ _ _ _ us hl => match us, hl with | [_, _, _], _ => rfl) fun cdv A outer s H E C hC hr => ⟨_, x_within,
    (vb_one (vs_ret (ve_and (vf_call G_is_int (hr.mono (by first | omega | decide)) (by rfl) (va_cons (ve_name 0 (pv 0)) va_nil)) (ve_one (ve_chain (g := fun i j => decide (i ≤ j)) (g' := fun i j => decide (i ≤ j)) op_le op_le (ve_name 1 (pv 1)) (ve_name 0 (pv 0)) (ve_name 2 (pv 2))))))), pf⟩
set_option maxHeartbeats 8000000 in
theorem ok_is_row {f : Addr} {fd : FuncData} (T : Tx K mg) (Dn : FnP K "is_row" s_is_row f fd) (g : mg "is_row" = some (.ref f)) (pf : ∀ (ds : List D) (Q : D → List D → Prop), (F_is_row).f ds Q → x_is_row.f { nx := fun ρ => ∃ outs, outsOf [] ρ = outs.map some ∧ Q .non outs, rt := fun r ρ => ∃ outs, outsOf [] ρ = outs.map some ∧ Q r outs, bk := fun _ => False, ct := fun _ => False } (ds.map some ++ List.replicate (3 - 3) none)) : OkF P w K mg base (1) "is_row" ["thing", "low", "high"] 3 [] F_is_row := by
  exact okf_mk (P := P) (w := w) (base := base) (k := (1 - 1)) Dn g sc_is_row rfl (by decide) (by decide) (fun _ _ _ _ _ _ us hl => match us, hl with | [_, _, _], _ => rfl) (fun _ _ _ _ _ _ us hl => match us, hl with | [_, _, _], _ => rfl) fun cdv A outer s H E C hC hr => ⟨_, x_is_row,
    (vb_one (vs_ret (ve_and (ve_isi kit_tup (ve_name 0 (pv 0)) (by rfl) T.b_isinstance (pe_bltn (by rfl) T.b_tuple (by decide +kernel) rfl)) (ve_one (ve_chain (g := fun i j => decide (i ≤ j)) (g' := fun i j => decide (i ≤ j)) op_le op_le (ve_name 1 (pv 1)) (ve_callB call_len cal_len (by rfl) T.b_len PySem.boot_len (va_cons (ve_name 0 (pv 0)) va_nil)) (ve_name 2 (pv 2))))))), pf⟩
set_option maxHeartbeats 8000000 in
theorem ok_is_letter {f : Addr} {fd : FuncData} (T : Tx K mg) (Dn : FnP K "is_letter" s_is_letter f fd) (g : mg "is_letter" = some (.ref f)) (G_within : OkF P w K mg base 2 "within" ["thing", "low", "high"] 3 [] F_within) (pf : ∀ (ds : List D) (Q : D → List D → Prop), (F_is_letter).f ds Q → x_is_letter.f { nx := fun ρ => ∃ outs, outsOf [] ρ = outs.map some ∧ Q .non outs, rt := fun r ρ => ∃ outs, outsOf [] ρ = outs.map some ∧ Q r outs, bk := fun _ => False, ct := fun _ => False } (ds.map some ++ List.replicate (1 - 1) none)) : OkF P w K mg base (3) "is_letter" ["thing"] 1 [] F_is_letter := by
  exact okf_mk (P := P) (w := w) (base := base) (k := (3 - 1)) Dn g sc_is_letter rfl (by decide) (by decide) (fun _ _ _ _ _ _ us hl => match us, hl with | [_], _ => rfl) (fun _ _ _ _ _ _ us hl => match us, hl with | [_], _ => rfl) fun cdv A outer s H E C hC hr => ⟨_, x_is_letter,
    (vb_one (vs_ret (ve_and (vf_call G_within (hr.mono (by first | omega | decide)) (by rfl) (va_cons (ve_name 0 (pv 0)) (va_cons (ve_un un_neg uop_neg (ve_globI (by rfl) T.c_MOST_LETTER)) (va_cons (ve_globI (by rfl) T.c_MOST_LETTER) va_nil)))) (ve_one (ve_cmp (op_neX hr.units) bop_ne (ve_name 0 (pv 0)) ve_int (nomark _)))))), pf⟩
set_option maxHeartbeats 8000000 in
theorem ok_is_rule {f : Addr} {fd : FuncData} (T : Tx K mg) (Dn : FnP K "is_rule" s_is_rule f fd) (g : mg "is_rule" = some (.ref f)) (G_is_int : OkF P w K mg base 1 "is_int" ["thing"] 1 [] F_is_int) (G_is_letter : OkF P w K mg base 3 "is_letter" ["thing"] 1 [] F_is_letter) (G_is_row : OkF P w K mg base 1 "is_row" ["thing", "low", "high"] 3 [] F_is_row) (G_within : OkF P w K mg base 2 "within" ["thing", "low", "high"] 3 [] F_within) (pf : ∀ (ds : List D) (Q : D → List D → Prop), (F_is_rule).f ds Q → x_is_rule.f { nx := fun ρ => ∃ outs, outsOf [] ρ = outs.map some ∧ Q .non outs, rt := fun r ρ => ∃ outs, outsOf [] ρ = outs.map some ∧ Q r outs, bk := fun _ => False, ct := fun _ => False } (ds.map some ++ List.replicate (2 - 2) none)) : OkF P w K mg base (4) "is_rule" ["thing", "index"] 2 [] F_is_rule := by
  exact okf_mk (P := P) (w := w) (base := base) (k := (4 - 1)) Dn g sc_is_rule rfl (by decide) (by decide) (fun _ _ _ _ _ _ us hl => match us, hl with | [_, _], _ => rfl) (fun _ _ _ _ _ _ us hl => match us, hl with | [_, _], _ => rfl) fun cdv A outer s H E C hC hr => ⟨_, x_is_rule,
    (vb_cons (vs_if (VW.vt (vw_or (vt_not (vt_truth (vf_call G_is_row (hr.mono (by first | omega | decide)) (by rfl) (va_cons (ve_name 0 (pv 0)) (va_cons ve_int (va_cons ve_int va_nil)))))) (vw_or1 (vt_not (vt_truth (ve_isi kit_str (ve_ix (ve_name 0 (pv 0)) ve_int (fun _ _ => rfl)) (by rfl) T.b_isinstance (pe_bltn (by rfl) T.b_str (by decide +kernel) rfl))))))) (vb_one (vs_ret ve_bl)) vb_nil)
      (vb_cons (vs_if (vt_cmp (op_eqX hr.units) bop_eq (ve_ix (ve_name 0 (pv 0)) ve_int (fun _ _ => rfl)) ve_str (nomark _)) (vb_one (vs_ret (ve_cmp (op_eqX hr.units) bop_eq (ve_callB call_len cal_len (by rfl) T.b_len PySem.boot_len (va_cons (ve_name 0 (pv 0)) va_nil)) ve_int (nomark _)))) vb_nil)
      (vb_cons (vs_if (vt_cmp (op_eqX hr.units) bop_eq (ve_ix (ve_name 0 (pv 0)) ve_int (fun _ _ => rfl)) ve_str (nomark _)) (vb_one (vs_ret (ve_and (ve_cmp (op_eqX hr.units) bop_eq (ve_callB call_len cal_len (by rfl) T.b_len PySem.boot_len (va_cons (ve_name 0 (pv 0)) va_nil)) ve_int (nomark _)) (ve_one (vf_call G_is_letter (hr.mono (by first | omega | decide)) (by rfl) (va_cons (ve_ix (ve_name 0 (pv 0)) ve_int (fun _ _ => rfl)) va_nil)))))) vb_nil)
      (vb_cons (vs_if (VW.vt (vw_or (vt_cmp (op_neX hr.units) bop_ne (ve_callB call_len cal_len (by rfl) T.b_len PySem.boot_len (va_cons (ve_name 0 (pv 0)) va_nil)) ve_int (nomark _)) (vw_or1 (vt_not (vt_truth (vf_call G_within (hr.mono (by first | omega | decide)) (by rfl) (va_cons (ve_ix (ve_name 0 (pv 0)) ve_int (fun _ _ => rfl)) (va_cons ve_int (va_cons (ve_bin op_sub bop_sub (ve_name 1 (pv 1)) ve_int) va_nil))))))))) (vb_one (vs_ret ve_bl)) vb_nil)
      (vb_cons (vs_if (vt_cmp (op_eqX hr.units) bop_eq (ve_ix (ve_name 0 (pv 0)) ve_int (fun _ _ => rfl)) ve_str (nomark _)) (vb_one (vs_ret (vf_call G_within (hr.mono (by first | omega | decide)) (by rfl) (va_cons (ve_ix (ve_name 0 (pv 0)) ve_int (fun _ _ => rfl)) (va_cons ve_int (va_cons (ve_bin op_sub bop_sub (ve_name 1 (pv 1)) ve_int) va_nil)))))) vb_nil)
      (vb_one (vs_ret (ve_and (ve_cmp (op_eqX hr.units) bop_eq (ve_ix (ve_name 0 (pv 0)) ve_int (fun _ _ => rfl)) ve_str (nomark _)) (ve_and (vf_call G_is_int (hr.mono (by first | omega | decide)) (by rfl) (va_cons (ve_ix (ve_name 0 (pv 0)) ve_int (fun _ _ => rfl)) va_nil)) (ve_one (ve_cmp op_gt bop_gt (ve_ix (ve_name 0 (pv 0)) ve_int (fun _ _ => rfl)) ve_int (nomark _)))))))))))), pf⟩
set_option maxHeartbeats 8000000 in
theorem ok_is_straight {f : Addr} {fd : FuncData} (T : Tx K mg) (Dn : FnP K "is_straight" s_is_straight f fd) (g : mg "is_straight" = some (.ref f)) (G_is_row : OkF P w K mg base 1 "is_row" ["thing", "low", "high"] 3 [] F_is_row) (G_is_rule : OkF P w K mg base 4 "is_rule" ["thing", "index"] 2 [] F_is_rule) (pf : ∀ (ds : List D) (Q : D → List D → Prop), (F_is_straight).f ds Q → x_is_straight.f { nx := fun ρ => ∃ outs, outsOf [] ρ = outs.map some ∧ Q .non outs, rt := fun r ρ => ∃ outs, outsOf [] ρ = outs.map some ∧ Q r outs, bk := fun _ => False, ct := fun _ => False } (ds.map some ++ List.replicate (3 - 1) none)) : OkF P w K mg base (5) "is_straight" ["thing"] 1 [] F_is_straight := by
  exact okf_mk (P := P) (w := w) (base := base) (k := (5 - 1)) Dn g sc_is_straight rfl (by decide) (by decide) (fun _ _ _ _ _ _ us hl => match us, hl with | [_], _ => rfl) (fun _ _ _ _ _ _ us hl => match us, hl with | [_], _ => rfl) fun cdv A outer s H E C hC hr => ⟨_, x_is_straight,
    (vb_one (vs_ret (ve_and (vf_call G_is_row (hr.mono (by first | omega | decide)) (by rfl) (va_cons (ve_name 0 (pv 0)) (va_cons ve_int (va_cons (ve_globI (by rfl) T.c_MOST_RULES) va_nil)))) (ve_one (ve_callB (cr_all rfl) (cal_all (f := fun bs => bs.all id)) (by rfl) T.b_all (by decide +kernel) (va_cons (vf_lc rfl sc_is_straight.nd (blkOk_by (own := [("index", 1), ("rule", 2)]) (N := nm_is_straight) (sc := defScope s_is_straight) (by decide +kernel)) hC (by decide) (vi_enum (by rfl) T.b_enumerate (va_cons (ve_name 0 (pv 0)) va_nil)) (fun _ _ _ _ _ => (gw_tup (gw_cons (gw_name (by decide)) (gw_cons (gw_name (by decide)) gw_nil)))) (fun _ _ _ _ _ => (vg_tup rfl (vgs_cons (vg_name (pg_name (i := 1) sc_is_straight.nd rfl (by first | exact Or.inl rfl | exact Or.inr rfl)) hC (by decide)) (vgs_cons (vg_name (pg_name (i := 2) sc_is_straight.nd rfl (by first | exact Or.inl rfl | exact Or.inr rfl)) hC (by decide)) vgs_nil)))) (fun _ _ _ _ _ => vts_nil) (fun _ _ _ _ _ => (vf_call G_is_rule (hr.mono (by first | omega | decide)) (by rfl) (va_cons (ve_name 2 (pv 2)) (va_cons (ve_name 1 (pv 1)) va_nil)))) rfl (fun _ => rfl)) va_nil)))))), pf⟩
set_option maxHeartbeats 8000000 in
theorem ok__law_cup {f : Addr} {fd : FuncData} (T : Tx K mg) (Dn : FnP K "_law_cup" s__law_cup f fd) (g : mg "_law_cup" = some (.ref f)) (pf : ∀ (ds : List D) (Q : D → List D → Prop), (F_cup).f ds Q → x__law_cup.f { nx := fun ρ => ∃ outs, outsOf [] ρ = outs.map some ∧ Q .non outs, rt := fun r ρ => ∃ outs, outsOf [] ρ = outs.map some ∧ Q r outs, bk := fun _ => False, ct := fun _ => False } (ds.map some ++ List.replicate (3 - 1) none)) : OkF P w K mg base (1) "_law_cup" ["script"] 1 [] F_cup := by
  exact okf_mk (P := P) (w := w) (base := base) (k := (1 - 1)) Dn g sc__law_cup rfl (by decide) (by decide) (fun _ _ _ _ _ _ us hl => match us, hl with | [_], _ => rfl) (fun _ _ _ _ _ _ us hl => match us, hl with | [_], _ => rfl) fun cdv A outer s H E C hC hr => ⟨_, x__law_cup,
    (vb_cons (vs_setN (i := 1) sc__law_cup.nd rfl (by first | exact Or.inl rfl | exact Or.inr rfl) ve_int hC (by decide))
      (vb_cons (vs_for PassesOwn.never rfl (vi_seq (ve_name 0 (pv 0))) (vg_name (pg_name (i := 2) sc__law_cup.nd rfl (by first | exact Or.inl rfl | exact Or.inr rfl)) hC (by decide)) (vb_one (vs_setN (i := 1) sc__law_cup.nd rfl (by first | exact Or.inl rfl | exact Or.inr rfl) (ve_bin op_addX bop_add (ve_bin op_mod bop_mod (ve_callTy call_int1 cal_int (by rfl) T.b_int (by decide +kernel) (va_cons (ve_bin op_addX bop_add (ve_bin op_mulX bop_mul (ve_name 1 (pv 1)) ve_int) (ve_name 2 (pv 2))) va_nil)) ve_int) ve_int) hC (by decide))) (fun _ => rfl))
      (vb_one (vs_ret (ve_lst (va_cons ve_int (va_cons (ve_name 1 (pv 1)) (va_cons ve_int (va_cons (ve_callTy call_list_of cal_list (by rfl) T.b_list (by decide +kernel) (va_cons (ve_name 0 (pv 0)) va_nil)) va_nil))))))))), pf⟩
set_option maxHeartbeats 8000000 in
theorem ok__law_sip {f : Addr} {fd : FuncData} (T : Tx K mg) (Dn : FnP K "_law_sip" s__law_sip f fd) (g : mg "_law_sip" = some (.ref f)) (pf : ∀ (ds : List D) (Q : D → List D → Prop), (F_sip).f ds Q → x__law_sip.f { nx := fun ρ => ∃ outs, outsOf [0] ρ = outs.map some ∧ Q .non outs, rt := fun r ρ => ∃ outs, outsOf [0] ρ = outs.map some ∧ Q r outs, bk := fun _ => False, ct := fun _ => False } (ds.map some ++ List.replicate (4 - 2) none)) : OkF P w K mg base (1) "_law_sip" ["cup", "many"] 2 [0] F_sip := by
  exact okf_mk (P := P) (w := w) (base := base) (k := (1 - 1)) Dn g sc__law_sip rfl (by decide) (by decide) (fun _ _ _ _ _ _ us hl => match us, hl with | [_, _], _ => rfl) (fun _ _ _ _ _ _ us hl => match us, hl with | [_, _], _ => rfl) fun cdv A outer s H E C hC hr => ⟨_, x__law_sip,
    (vb_cons (vs_if (VW.vt (vw_and (vt_cmp (op_eqX hr.units) bop_eq (ve_ixS 0 (pv 0) ve_int (fun _ _ => rfl)) ve_int (nomark _)) (vw_and1 (vt_of (ve_nePempty 0 3 hr.units (pv 0)) (pt_cmpR (op_neX hr.units) (pe_ix ix_seq (pv 0) pe_int (fun _ _ => rfl)) (pe_lst pa_nil) (nomark _)))))) (vb_cons (vs_setN (i := 2) sc__law_sip.nd rfl (by first | exact Or.inl rfl | exact Or.inr rfl) (ve_callB call_abs cal_abs (by rfl) T.b_abs (by decide +kernel) (va_cons (ve_callTy call_int1 cal_int (by rfl) T.b_int (by decide +kernel) (va_cons (ve_popP 0 3 0 (pv 0) (by decide) (fun _ _ => rfl) (pe_bm PySem.F.plainAttrs_list PySem.F.slot_list_pop PySem.F.type_list_pop mt_popAt (pe_ix ix_seq (pv 0) pe_int (fun _ _ => rfl)) (pa_cons pe_int pa_nil))) va_nil)) va_nil)) hC (by decide))
      (vb_one (vs_asg (ve_if (vt_cmp op_ge bop_ge (ve_name 2 (pv 2)) (ve_bin op_pow bop_pow ve_int ve_int) (nomark _)) (ve_name 2 (pv 2)) (ve_bin op_addX bop_add (ve_bin op_mulX bop_mul (ve_bin op_fdivW bop_div (ve_bin op_mulX bop_mul (ve_name 2 (pv 2)) (ve_name 2 (pv 2))) ve_int) ve_int) (ve_name 2 (pv 2)))) (vg_setS 0 (pv 0) ve_int)))) vb_nil)
      (vb_cons (vs_if (vt_cmp op_gt bop_gt (ve_ixS 0 (pv 0) ve_int (fun _ _ => rfl)) ve_int (nomark _)) (vb_cons (vs_setN (i := 3) sc__law_sip.nd rfl (by first | exact Or.inl rfl | exact Or.inr rfl) (ve_bin op_mod bop_mod (ve_callTy call_int1 cal_int (by rfl) T.b_int (by decide +kernel) (va_cons (ve_ixS 0 (pv 0) ve_int (fun _ _ => rfl)) va_nil)) (ve_name 1 (pv 1))) hC (by decide))
      (vb_cons (vs_asg (ve_bin op_fdivW bop_div (ve_ixS 0 (pv 0) ve_int (fun _ _ => rfl)) (ve_name 1 (pv 1))) (vg_setS 0 (pv 0) ve_int))
      (vb_one (vs_ret (ve_name 3 (pv 3)))))) vb_nil)
      (vb_cons (vs_asg (ve_bin op_addX bop_add (ve_ixS 0 (pv 0) ve_int (fun _ _ => rfl)) ve_int) (vg_setS 0 (pv 0) ve_int))
      (vb_cons (vs_asg (ve_bin op_mod bop_mod (ve_callTy call_int1 cal_int (by rfl) T.b_int (by decide +kernel) (va_cons (ve_bin op_addX bop_add (ve_bin op_addX bop_add (ve_bin op_mulX bop_mul (ve_ixS 0 (pv 0) ve_int (fun _ _ => rfl)) ve_int) (ve_bin op_mulX bop_mul (ve_bin op_mulX bop_mul (ve_ixS 0 (pv 0) ve_int (fun _ _ => rfl)) (ve_ixS 0 (pv 0) ve_int (fun _ _ => rfl))) ve_int)) ve_int) va_nil)) ve_int) (vg_setS 0 (pv 0) ve_int))
      (vb_one (vs_ret (ve_bin op_mod bop_mod (ve_bin op_fdivW bop_div (ve_bin op_mod bop_mod (ve_callTy call_int1 cal_int (by rfl) T.b_int (by decide +kernel) (va_cons (ve_bin op_mulX bop_mul (ve_ixS 0 (pv 0) ve_int (fun _ _ => rfl)) (ve_bin op_addX bop_add (ve_bin op_fdivW bop_div (ve_ixS 0 (pv 0) ve_int (fun _ _ => rfl)) ve_int) ve_int)) va_nil)) ve_int) ve_int) (ve_name 1 (pv 1))))))))), pf⟩
set_option maxHeartbeats 8000000 in
theorem ok__law_same {f : Addr} {fd : FuncData} (T : Tx K mg) (Dn : FnP K "_law_same" s__law_same f fd) (g : mg "_law_same" = some (.ref f)) (pf : ∀ (ds : List D) (Q : D → List D → Prop), (F_same).f ds Q → x__law_same.f { nx := fun ρ => ∃ outs, outsOf [] ρ = outs.map some ∧ Q .non outs, rt := fun r ρ => ∃ outs, outsOf [] ρ = outs.map some ∧ Q r outs, bk := fun _ => False, ct := fun _ => False } (ds.map some ++ List.replicate (3 - 2) none)) : OkF P w K mg base (1) "_law_same" ["found", "due"] 2 [] F_same := by
  exact okf_mk (P := P) (w := w) (base := base) (k := (1 - 1)) Dn g sc__law_same rfl (by decide) (by decide) (fun _ _ _ _ _ _ us hl => match us, hl with | [_, _], _ => rfl) (fun _ _ _ _ _ _ us hl => match us, hl with | [_, _], _ => rfl) fun cdv A outer s H E C hC hr => ⟨_, x__law_same,
    (vb_cons (vs_if (vt_truth (ve_isi kit_tup (ve_name 1 (pv 1)) (by rfl) T.b_isinstance (pe_bltn (by rfl) T.b_tuple (by decide +kernel) rfl))) vb_never vb_nil)
      (vb_cons (vs_if (vt_isN (ve_name 1 (pv 1))) vb_never vb_nil)
      (vb_cons (vs_if (vt_truth (ve_isi kit_bl (ve_name 1 (pv 1)) (by rfl) T.b_isinstance (pe_bltn (by rfl) T.b_bool (by decide +kernel) rfl))) (vb_one (vs_ret (ve_and (ve_isi kit_bl (ve_name 0 (pv 0)) (by rfl) T.b_isinstance (pe_bltn (by rfl) T.b_bool (by decide +kernel) rfl)) (ve_one (ve_cmp (op_eqX hr.units) bop_eq (ve_name 0 (pv 0)) (ve_name 1 (pv 1)) (nomark _)))))) vb_nil)
      (vb_cons (vs_if (vt_truth (ve_isi kit_int (ve_name 1 (pv 1)) (by rfl) T.b_isinstance (pe_bltn (by rfl) T.b_int (by decide +kernel) rfl))) (vb_one (vs_ret (ve_and (ve_isi kit_int (ve_name 0 (pv 0)) (by rfl) T.b_isinstance (pe_bltn (by rfl) T.b_int (by decide +kernel) rfl)) (ve_and (ve_not (ve_isi kit_bl (ve_name 0 (pv 0)) (by rfl) T.b_isinstance (pe_bltn (by rfl) T.b_bool (by decide +kernel) rfl))) (ve_one (ve_cmp (op_eqX hr.units) bop_eq (ve_name 0 (pv 0)) (ve_name 1 (pv 1)) (nomark _))))))) vb_nil)
      (vb_one (vs_ret (ve_and (ve_isi kit_str (ve_name 0 (pv 0)) (by rfl) T.b_isinstance (pe_bltn (by rfl) T.b_str (by decide +kernel) rfl)) (ve_one (ve_cmp (op_eqX hr.units) bop_eq (ve_name 0 (pv 0)) (ve_name 1 (pv 1)) (nomark _)))))))))), pf⟩
set_option maxHeartbeats 8000000 in
theorem ok__law_is_whole {f : Addr} {fd : FuncData} (T : Tx K mg) (Dn : FnP K "_law_is_whole" s__law_is_whole f fd) (g : mg "_law_is_whole" = some (.ref f)) (pf : ∀ (ds : List D) (Q : D → List D → Prop), (F_whole).f ds Q → x__law_is_whole.f { nx := fun ρ => ∃ outs, outsOf [] ρ = outs.map some ∧ Q .non outs, rt := fun r ρ => ∃ outs, outsOf [] ρ = outs.map some ∧ Q r outs, bk := fun _ => False, ct := fun _ => False } (ds.map some ++ List.replicate (1 - 1) none)) : OkF P w K mg base (1) "_law_is_whole" ["found"] 1 [] F_whole := by
  exact okf_mk (P := P) (w := w) (base := base) (k := (1 - 1)) Dn g sc__law_is_whole rfl (by decide) (by decide) (fun _ _ _ _ _ _ us hl => match us, hl with | [_], _ => rfl) (fun _ _ _ _ _ _ us hl => match us, hl with | [_], _ => rfl) fun cdv A outer s H E C hC hr => ⟨_, x__law_is_whole,
    (vb_one (vs_ret (ve_and (ve_isi kit_int (ve_name 0 (pv 0)) (by rfl) T.b_isinstance (pe_bltn (by rfl) T.b_int (by decide +kernel) rfl)) (ve_one (ve_not (ve_isi kit_bl (ve_name 0 (pv 0)) (by rfl) T.b_isinstance (pe_bltn (by rfl) T.b_bool (by decide +kernel) rfl))))))), pf⟩
set_option maxHeartbeats 8000000 in
theorem ok__law_bent {j : Nat} {k : Nat} (hk : 1 ≤ k) {f : Addr} {fd : FuncData} (T : Tx K mg) (Dn : FnP K "_law_bent" s__law_bent f fd) (g : mg "_law_bent" = some (.ref f)) (G__law_bent : OkF P w K mg base k "_law_bent" ["cup", "thing"] 2 [0] (F_bentJ j)) (G__law_sip : OkF P w K mg base 1 "_law_sip" ["cup", "many"] 2 [0] F_sip) (pf : ∀ (ds : List D) (Q : D → List D → Prop), ((F_bentJ (j + 1))).f ds Q → (x__law_bent j).f { nx := fun ρ => ∃ outs, outsOf [0] ρ = outs.map some ∧ Q .non outs, rt := fun r ρ => ∃ outs, outsOf [0] ρ = outs.map some ∧ Q r outs, bk := fun _ => False, ct := fun _ => False } (ds.map some ++ List.replicate (5 - 2) none)) : OkF P w K mg base (k + 1) "_law_bent" ["cup", "thing"] 2 [0] (F_bentJ (j + 1)) := by
  exact okf_mk (P := P) (w := w) (base := base) (k := k) Dn g sc__law_bent rfl (by decide) (by decide) (fun _ _ _ _ _ _ us hl => match us, hl with | [_, _], _ => rfl) (fun _ _ _ _ _ _ us hl => match us, hl with | [_, _], _ => rfl) fun cdv A outer s H E C hC hr => ⟨_, (x__law_bent j),
    (vb_cons (vs_if (VW.vt (vw_and (vt_truth (ve_isi kit_tup (ve_name 1 (pv 1)) (by rfl) T.b_isinstance (pe_bltn (by rfl) T.b_tuple (by decide +kernel) rfl))) (vw_and (vt_cmp (op_neX hr.units) bop_ne (ve_name 1 (pv 1)) (ve_tup va_nil) (nomark _)) (vw_and1 (vt_cmp op_gt bop_gt (vf_call G__law_sip (hr.mono (by first | omega | decide)) (by rfl) (va_lend 0 (pv 0) (va_cons ve_int va_nil))) ve_int (nomark _)))))) (vb_cons (vs_setN (i := 2) sc__law_bent.nd rfl (by first | exact Or.inl rfl | exact Or.inr rfl) (vf_call G__law_sip (hr.mono (by first | omega | decide)) (by rfl) (va_lend 0 (pv 0) (va_cons (ve_callB call_len cal_len (by rfl) T.b_len PySem.boot_len (va_cons (ve_name 1 (pv 1)) va_nil)) va_nil))) hC (by decide))
      (vb_one (vs_ret (ve_bin op_addX bop_add (ve_bin op_addX bop_add (ve_sl (ve_name 1 (pv 1)) vo_none (vo_some (ve_name 2 (pv 2)))) (ve_tup (va_cons (vf_call G__law_bent hr (by rfl) (va_lend 0 (pv 0) (va_cons (ve_ix (ve_name 1 (pv 1)) (ve_name 2 (pv 2)) (fun _ _ => rfl)) va_nil))) va_nil))) (ve_sl (ve_name 1 (pv 1)) (vo_some (ve_bin op_addX bop_add (ve_name 2 (pv 2)) ve_int)) vo_none))))) vb_nil)
      (vb_cons (vs_if (vt_truth (ve_isi kit_tup (ve_name 1 (pv 1)) (by rfl) T.b_isinstance (pe_bltn (by rfl) T.b_tuple (by decide +kernel) rfl))) (vb_cons (vs_parN (i := 2) (j := 3) rfl sc__law_bent.nd rfl rfl (by decide) rfl rfl (va_cons (vf_call G__law_sip (hr.mono (by first | omega | decide)) (by rfl) (va_lend 0 (pv 0) (va_cons (ve_bin op_addX bop_add (ve_callB call_len cal_len (by rfl) T.b_len PySem.boot_len (va_cons (ve_name 1 (pv 1)) va_nil)) ve_int) va_nil))) (va_cons (vf_call G__law_sip (hr.mono (by first | omega | decide)) (by rfl) (va_lend 0 (pv 0) (va_cons (ve_bin op_addX bop_add (ve_callB call_len cal_len (by rfl) T.b_len PySem.boot_len (va_cons (ve_name 1 (pv 1)) va_nil)) ve_int) va_nil))) va_nil)) hC (by rfl) (by decide) (by decide))
      (vb_cons (vs_setN (i := 4) sc__law_bent.nd rfl (by first | exact Or.inl rfl | exact Or.inr rfl) (ve_frz (ve_lst (va_cons (ve_bin op_addX bop_add (ve_sl (ve_name 1 (pv 1)) vo_none (vo_some (ve_name 2 (pv 2)))) (ve_sl (ve_name 1 (pv 1)) (vo_some (ve_bin op_addX bop_add (ve_name 2 (pv 2)) ve_int)) vo_none)) (va_cons (ve_bin op_addX bop_add (ve_bin op_addX bop_add (ve_sl (ve_name 1 (pv 1)) vo_none (vo_some (ve_name 2 (pv 2)))) (ve_sl (ve_name 1 (pv 1)) (vo_some (ve_name 2 (pv 2))) (vo_some (ve_bin op_addX bop_add (ve_name 2 (pv 2)) ve_int)))) (ve_sl (ve_name 1 (pv 1)) (vo_some (ve_name 2 (pv 2))) vo_none)) (va_cons (ve_rev (ve_name 1 (pv 1))) (va_cons (ve_frz (ve_callTy call_list_of cal_list (by rfl) T.b_list (by decide +kernel) (va_cons (ve_name 1 (pv 1)) va_nil))) (va_cons (ve_bin op_addX bop_add (ve_name 1 (pv 1)) (ve_tup (va_cons ve_int va_nil))) va_nil))))))) hC (by decide))
      (vb_cons (vs_setN (i := 4) sc__law_bent.nd rfl (by first | exact Or.inl rfl | exact Or.inr rfl) (ve_frz (ve_bin op_addX bop_add (ve_name 4 (pv 4)) (ve_lst (va_cons (ve_tup (va_cons (ve_name 1 (pv 1)) va_nil)) (va_cons (ve_bin op_addX bop_add (ve_bin op_addX bop_add (ve_sl (ve_name 1 (pv 1)) vo_none (vo_some (ve_name 2 (pv 2)))) (ve_sl (ve_name 1 (pv 1)) (vo_some (ve_name 3 (pv 3))) (vo_some (ve_bin op_addX bop_add (ve_name 3 (pv 3)) ve_int)))) (ve_sl (ve_name 1 (pv 1)) (vo_some (ve_bin op_addX bop_add (ve_name 2 (pv 2)) ve_int)) vo_none)) (va_cons ve_non (va_cons (ve_tup va_nil) (va_cons (ve_frz (ve_lst va_nil)) (va_cons ve_str (va_cons (ve_bin op_addX bop_add (ve_name 1 (pv 1)) (ve_tup (va_cons (ve_tup (va_cons ve_str va_nil)) va_nil))) (va_cons (ve_bin op_addX bop_add (ve_name 1 (pv 1)) (ve_tup (va_cons (ve_tup va_nil) va_nil))) va_nil))))))))))) hC (by decide))
      (vb_one (vs_ret (ve_ix (ve_name 4 (pv 4)) (vf_call G__law_sip (hr.mono (by first | omega | decide)) (by rfl) (va_lend 0 (pv 0) (va_cons ve_int va_nil))) (fun _ _ => rfl))))))) vb_nil)
      (vb_cons (vs_setN (i := 4) sc__law_bent.nd rfl (by first | exact Or.inl rfl | exact Or.inr rfl) (ve_frz (ve_lst (va_cons ve_non (va_cons ve_bl (va_cons ve_bl (va_cons (ve_callTy cr_str cal_str (by rfl) T.b_str (by decide +kernel) (va_cons (ve_name 1 (pv 1)) va_nil)) (va_cons (ve_tup (va_cons (ve_name 1 (pv 1)) va_nil)) (va_cons (ve_frz (ve_lst (va_cons (ve_name 1 (pv 1)) va_nil))) (va_cons ve_str (va_cons ve_str (va_cons ve_str (va_cons ve_str (va_cons ve_str (va_cons ve_int (va_cons ve_int (va_cons ve_int (va_cons ve_int (va_cons ve_int (va_cons (ve_un un_neg uop_neg ve_int) (va_cons (ve_un un_neg uop_neg ve_int) (va_cons (ve_bin op_pow bop_pow ve_int ve_int) va_nil))))))))))))))))))))) hC (by decide))
      (vb_cons (vs_if (vt_truth (ve_isi kit_int (ve_name 1 (pv 1)) (by rfl) T.b_isinstance (pe_bltn (by rfl) T.b_int (by decide +kernel) rfl))) (vb_one (vs_setN (i := 4) sc__law_bent.nd rfl (by first | exact Or.inl rfl | exact Or.inr rfl) (ve_frz (ve_bin op_addX bop_add (ve_name 4 (pv 4)) (ve_lst (va_cons (ve_bin op_addX bop_add (ve_name 1 (pv 1)) ve_int) (va_cons (ve_bin op_sub bop_sub (ve_name 1 (pv 1)) ve_int) (va_cons (ve_un un_neg uop_neg (ve_name 1 (pv 1))) (va_cons (ve_bin op_mulX bop_mul (ve_name 1 (pv 1)) ve_int) (va_cons (ve_bin op_addX bop_add (ve_name 1 (pv 1)) ve_int) (va_cons (ve_bin op_sub bop_sub (ve_name 1 (pv 1)) ve_int) (va_cons (ve_bin op_sub bop_sub (ve_un un_neg uop_neg (ve_name 1 (pv 1))) ve_int) va_nil)))))))))) hC (by decide))) vb_nil)
      (vb_one (vs_ret (ve_ix (ve_name 4 (pv 4)) (vf_call G__law_sip (hr.mono (by first | omega | decide)) (by rfl) (va_lend 0 (pv 0) (va_cons (ve_callB call_len cal_len (by rfl) T.b_len PySem.boot_len (va_cons (ve_name 4 (pv 4)) va_nil)) va_nil))) (fun _ _ => rfl)))))))), pf⟩
set_option maxHeartbeats 8000000 in
theorem ok__law_text {f : Addr} {fd : FuncData} (T : Tx K mg) (Dn : FnP K "_law_text" s__law_text f fd) (g : mg "_law_text" = some (.ref f)) (G__law_sip : OkF P w K mg base 1 "_law_sip" ["cup", "many"] 2 [0] F_sip) (pf : ∀ (ds : List D) (Q : D → List D → Prop), (F_text).f ds Q → x__law_text.f { nx := fun ρ => ∃ outs, outsOf [0] ρ = outs.map some ∧ Q .non outs, rt := fun r ρ => ∃ outs, outsOf [0] ρ = outs.map some ∧ Q r outs, bk := fun _ => False, ct := fun _ => False } (ds.map some ++ List.replicate (14 - 3) none)) : OkF P w K mg base (2) "_law_text" ["cup", "many", "cap"] 3 [0] F_text := by
  exact okf_mk (P := P) (w := w) (base := base) (k := (2 - 1)) Dn g sc__law_text rfl (by decide) (by decide) (fun _ _ _ _ _ _ us hl => match us, hl with | [_, _, _], _ => rfl) (fun _ _ _ _ _ _ us hl => match us, hl with | [_, _, _], _ => rfl) fun cdv A outer s H E C hC hr => ⟨_, x__law_text,
    (vb_cons (vs_par3N (i := 3) (j := 4) (l := 5) rfl sc__law_text.nd rfl rfl rfl (by decide) (by decide) (by decide) rfl rfl rfl (va_cons (ve_ix (ve_lst (va_cons ve_int (va_cons ve_int (va_cons ve_int (va_cons ve_int va_nil))))) (vf_call G__law_sip (hr.mono (by first | omega | decide)) (by rfl) (va_lend 0 (pv 0) (va_cons ve_int va_nil))) (fun _ _ => rfl)) (va_cons (ve_lst va_nil) (va_cons (ve_lst va_nil) va_nil))) hC (by rfl) (by decide) (by decide) (by decide))
      (vb_cons (vs_for PassesOwn.never rfl (vi_rng1 (by rfl) T.b_range (va_cons (ve_bin op_addX bop_add ve_int (vf_call G__law_sip (hr.mono (by first | omega | decide)) (by rfl) (va_lend 0 (pv 0) (va_cons (ve_name 1 (pv 1)) va_nil)))) va_nil)) (vg_name (pg_name (i := 6) sc__law_text.nd rfl (by first | exact Or.inl rfl | exact Or.inr rfl)) hC (by decide)) (vb_cons (vs_par3N (i := 7) (j := 8) (l := 9) rfl sc__law_text.nd rfl rfl rfl (by decide) (by decide) (by decide) rfl rfl rfl (va_cons (vf_call G__law_sip (hr.mono (by first | omega | decide)) (by rfl) (va_lend 0 (pv 0) (va_cons ve_int va_nil))) (va_cons (ve_tup (va_cons ve_str (va_cons (ve_bin op_mulX bop_mul (ve_bin op_addX bop_add ve_int (vf_call G__law_sip (hr.mono (by first | omega | decide)) (by rfl) (va_lend 0 (pv 0) (va_cons (ve_name 3 (pv 3)) va_nil)))) (ve_ix (ve_lst (va_cons ve_int (va_cons (ve_un un_neg uop_neg ve_int) va_nil))) (vf_call G__law_sip (hr.mono (by first | omega | decide)) (by rfl) (va_lend 0 (pv 0) (va_cons ve_int va_nil))) (fun _ _ => rfl))) va_nil))) (va_cons ve_int va_nil))) hC (by rfl) (by decide) (by decide) (by decide))
      (vb_cons (vs_if (vt_cmp (op_eqX hr.units) bop_eq (ve_name 7 (pv 7)) ve_int (nomark _)) (vb_one (vs_tupN rfl (va_cons (ve_tup (va_cons ve_str va_nil)) (va_cons ve_int va_nil)) (vgs_cons (vg_name (pg_name (i := 8) sc__law_text.nd rfl (by first | exact Or.inl rfl | exact Or.inr rfl)) hC (by decide)) (vgs_cons (vg_name (pg_name (i := 9) sc__law_text.nd rfl (by first | exact Or.inl rfl | exact Or.inr rfl)) hC (by decide)) vgs_nil)))) vb_nil)
      (vb_cons (vs_if (VW.vt (vw_and (vt_cmp op_gt bop_gt (ve_name 7 (pv 7)) ve_int (nomark _)) (vw_and1 (vt_neS 4 hr.units (pv 4) (ve_lst va_nil) (nomark _))))) (vb_cons (vs_setN (i := 10) sc__law_text.nd rfl (by first | exact Or.inl rfl | exact Or.inr rfl) (ve_ix (ve_lst (va_cons ve_int (va_cons ve_int (va_cons ve_int (va_cons ve_int va_nil))))) (vf_call G__law_sip (hr.mono (by first | omega | decide)) (by rfl) (va_lend 0 (pv 0) (va_cons ve_int va_nil))) (fun _ _ => rfl)) hC (by decide))
      (vb_cons (vs_parN (i := 11) (j := 12) rfl sc__law_text.nd rfl rfl (by decide) rfl rfl (va_cons (ve_callB (call_max2 rfl) (cal_ints2 (g := fun i j => if j > i then j else i)) (by rfl) T.b_max (by decide +kernel) (va_cons ve_int (va_cons (ve_bin op_sub bop_sub (ve_bin op_sub bop_sub (ve_lenS 4 (pv 4) (by rfl) T.b_len PySem.boot_len) ve_int) (vf_call G__law_sip (hr.mono (by first | omega | decide)) (by rfl) (va_lend 0 (pv 0) (va_cons (ve_name 10 (pv 10)) va_nil)))) va_nil))) (va_cons (ve_callB (call_max2 rfl) (cal_ints2 (g := fun i j => if j > i then j else i)) (by rfl) T.b_max (by decide +kernel) (va_cons ve_int (va_cons (ve_bin op_sub bop_sub (ve_bin op_sub bop_sub (ve_lenS 4 (pv 4) (by rfl) T.b_len PySem.boot_len) ve_int) (vf_call G__law_sip (hr.mono (by first | omega | decide)) (by rfl) (va_lend 0 (pv 0) (va_cons (ve_name 10 (pv 10)) va_nil)))) va_nil))) va_nil)) hC (by rfl) (by decide) (by decide))
      (vb_cons (vs_setN (i := 13) sc__law_text.nd rfl (by first | exact Or.inl rfl | exact Or.inr rfl) (ve_ix (ve_lst (va_cons ve_int (va_cons ve_int (va_cons (ve_bin op_addX bop_add ve_int (vf_call G__law_sip (hr.mono (by first | omega | decide)) (by rfl) (va_lend 0 (pv 0) (va_cons ve_int va_nil)))) (va_cons (ve_bin op_addX bop_add ve_int (vf_call G__law_sip (hr.mono (by first | omega | decide)) (by rfl) (va_lend 0 (pv 0) (va_cons (ve_bin op_pow bop_pow ve_int ve_int) va_nil)))) va_nil))))) (vf_call G__law_sip (hr.mono (by first | omega | decide)) (by rfl) (va_lend 0 (pv 0) (va_cons ve_int va_nil))) (fun _ _ => rfl)) hC (by decide))
      (vb_cons (vs_if (VW.vt (vw_and (vt_cmp op_lt bop_lt (ve_name 7 (pv 7)) ve_int (nomark _)) (vw_and1 (vt_cmp op_le bop_le (ve_bin op_addX bop_add (ve_ixS 5 (pv 5) (ve_name 11 (pv 11)) (fun _ _ => rfl)) (ve_ixS 5 (pv 5) (ve_name 12 (pv 12)) (fun _ _ => rfl))) (ve_name 2 (pv 2)) (nomark _))))) (vb_one (vs_parN (i := 8) (j := 9) rfl sc__law_text.nd rfl rfl (by decide) rfl rfl (va_cons (ve_tup (va_cons ve_str (va_cons (ve_name 11 (pv 11)) (va_cons (ve_name 12 (pv 12)) va_nil)))) (va_cons (ve_bin op_addX bop_add (ve_ixS 5 (pv 5) (ve_name 11 (pv 11)) (fun _ _ => rfl)) (ve_ixS 5 (pv 5) (ve_name 12 (pv 12)) (fun _ _ => rfl))) va_nil)) hC (by rfl) (by decide) (by decide))) vb_nil)
      (vb_one (vs_if (VW.vt (vw_and (vt_cmp op_gt bop_gt (ve_name 7 (pv 7)) ve_int (nomark _)) (vw_and1 (vt_cmp op_le bop_le (ve_bin op_mulX bop_mul (ve_ixS 5 (pv 5) (ve_name 11 (pv 11)) (fun _ _ => rfl)) (ve_name 13 (pv 13))) (ve_name 2 (pv 2)) (nomark _))))) (vb_one (vs_parN (i := 8) (j := 9) rfl sc__law_text.nd rfl rfl (by decide) rfl rfl (va_cons (ve_tup (va_cons ve_str (va_cons (ve_name 11 (pv 11)) (va_cons (ve_name 13 (pv 13)) va_nil)))) (va_cons (ve_bin op_mulX bop_mul (ve_ixS 5 (pv 5) (ve_name 11 (pv 11)) (fun _ _ => rfl)) (ve_name 13 (pv 13))) va_nil)) hC (by rfl) (by decide) (by decide))) vb_nil)))))) vb_nil)
      (vb_cons (vs_expr (ve_appN 4 (pv 4) (ve_name 8 (pv 8))))
      (vb_one (vs_expr (ve_appN 5 (pv 5) (ve_name 9 (pv 9))))))))) (fun _ => rfl))
      (vb_one (vs_ret (ve_callTy call_tuple_of cal_tuple (by rfl) T.b_tuple (by decide +kernel) (va_cons (ve_mv 4 (pv 4)) va_nil)))))), pf⟩
set_option maxHeartbeats 8000000 in
theorem ok__law_is_straight {f : Addr} {fd : FuncData} (T : Tx K mg) (Dn : FnP K "_law_is_straight" s__law_is_straight f fd) (g : mg "_law_is_straight" = some (.ref f)) (G__law_is_whole : OkF P w K mg base 1 "_law_is_whole" ["found"] 1 [] F_whole) (pf : ∀ (ds : List D) (Q : D → List D → Prop), (F_judge).f ds Q → x__law_is_straight.f { nx := fun ρ => ∃ outs, outsOf [] ρ = outs.map some ∧ Q .non outs, rt := fun r ρ => ∃ outs, outsOf [] ρ = outs.map some ∧ Q r outs, bk := fun _ => False, ct := fun _ => False } (ds.map some ++ List.replicate (4 - 1) none)) : OkF P w K mg base (2) "_law_is_straight" ["found"] 1 [] F_judge := by
  exact okf_mk (P := P) (w := w) (base := base) (k := (2 - 1)) Dn g sc__law_is_straight rfl (by decide) (by decide) (fun _ _ _ _ _ _ us hl => match us, hl with | [_], _ => rfl) (fun _ _ _ _ _ _ us hl => match us, hl with | [_], _ => rfl) fun cdv A outer s H E C hC hr => ⟨_, x__law_is_straight,
    (vb_cons (vs_if (VW.vt (vw_or (vt_not (vt_truth (ve_isi kit_tup (ve_name 0 (pv 0)) (by rfl) T.b_isinstance (pe_bltn (by rfl) T.b_tuple (by decide +kernel) rfl)))) (vw_or1 (vt_not (vt_chain (g := fun i j => decide (i < j)) (g' := fun i j => decide (i < j)) op_lt op_lt ve_int (ve_callB call_len cal_len (by rfl) T.b_len PySem.boot_len (va_cons (ve_name 0 (pv 0)) va_nil)) ve_int))))) (vb_one (vs_ret ve_bl)) vb_nil)
      (vb_cons (vs_for PassesOwn.never rfl (vi_rng1 (by rfl) T.b_range (va_cons (ve_callB call_len cal_len (by rfl) T.b_len PySem.boot_len (va_cons (ve_name 0 (pv 0)) va_nil)) va_nil)) (vg_name (pg_name (i := 1) sc__law_is_straight.nd rfl (by first | exact Or.inl rfl | exact Or.inr rfl)) hC (by decide)) (vb_cons (vs_setN (i := 2) sc__law_is_straight.nd rfl (by first | exact Or.inl rfl | exact Or.inr rfl) (ve_ix (ve_name 0 (pv 0)) (ve_name 1 (pv 1)) (fun _ _ => rfl)) hC (by decide))
      (vb_cons (vs_if (VW.vt (vw_or (vt_not (vt_truth (ve_isi kit_tup (ve_name 2 (pv 2)) (by rfl) T.b_isinstance (pe_bltn (by rfl) T.b_tuple (by decide +kernel) rfl)))) (vw_or (vt_cmp (op_eqX hr.units) bop_eq (ve_callB call_len cal_len (by rfl) T.b_len PySem.boot_len (va_cons (ve_name 2 (pv 2)) va_nil)) ve_int (nomark _)) (vw_or (vt_not (vt_truth (ve_isi kit_str (ve_ix (ve_name 2 (pv 2)) ve_int (fun _ _ => rfl)) (by rfl) T.b_isinstance (pe_bltn (by rfl) T.b_str (by decide +kernel) rfl)))) (vw_or1 (vt_cmp op_gt bop_gt (ve_callB call_len cal_len (by rfl) T.b_len PySem.boot_len (va_cons (ve_name 2 (pv 2)) va_nil)) ve_int (nomark _))))))) (vb_one (vs_ret ve_bl)) vb_nil)
      (vb_cons (vs_if (vt_cmp (op_neX hr.units) bop_ne (vf_lc rfl sc__law_is_straight.nd (blkOk_by (own := [("one", 3)]) (N := nm__law_is_straight) (sc := defScope s__law_is_straight) (by decide +kernel)) hC (by decide) (vi_seq (ve_sl (ve_name 2 (pv 2)) (vo_some ve_int) vo_none)) (fun _ _ _ _ _ => (gw_name (by decide))) (fun _ _ _ _ _ => (vg_name (pg_name (i := 3) sc__law_is_straight.nd rfl (by first | exact Or.inl rfl | exact Or.inr rfl)) hC (by decide))) (fun _ _ _ _ _ => (vts_one (vt_not (vt_truth (vf_call G__law_is_whole (hr.mono (by first | omega | decide)) (by rfl) (va_cons (ve_name 3 (pv 3)) va_nil)))))) (fun _ _ _ _ _ => (ve_name 3 (pv 3))) rfl (fun _ => rfl)) (ve_lst va_nil) (nomark _)) (vb_one (vs_ret ve_bl)) vb_nil)
      (vb_cons (vs_if (VW.vt (vw_and (vt_cmp op_in_seq (bop_in (neg := false)) (ve_ix (ve_name 2 (pv 2)) ve_int (fun _ _ => rfl)) (ve_tup (va_cons ve_str (va_cons ve_str va_nil))) (by rfl)) (vw_and1 (VW.vt (vw_or (vt_cmp op_lt bop_lt (ve_callB call_len cal_len (by rfl) T.b_len PySem.boot_len (va_cons (ve_name 2 (pv 2)) va_nil)) ve_int (nomark _)) (vw_or1 (vt_not (vt_chain (g := fun i j => decide (i ≤ j)) (g' := fun i j => decide (i < j)) op_le op_lt ve_int (ve_ix (ve_name 2 (pv 2)) ve_int (fun _ _ => rfl)) (ve_name 1 (pv 1)))))))))) (vb_one (vs_ret ve_bl)) vb_nil)
      (vb_cons (vs_if (VW.vt (vw_or (VW.vt (vw_and (vt_cmp (op_eqX hr.units) bop_eq (ve_ix (ve_name 2 (pv 2)) ve_int (fun _ _ => rfl)) ve_str (nomark _)) (vw_and1 (vt_not (vt_chain (g := fun i j => decide (i ≤ j)) (g' := fun i j => decide (i < j)) op_le op_lt ve_int (ve_ix (ve_name 2 (pv 2)) ve_int (fun _ _ => rfl)) (ve_name 1 (pv 1))))))) (vw_or1 (VW.vt (vw_and (vt_cmp (op_eqX hr.units) bop_eq (ve_ix (ve_name 2 (pv 2)) ve_int (fun _ _ => rfl)) ve_str (nomark _)) (vw_and1 (vt_cmp op_lt bop_lt (ve_ix (ve_name 2 (pv 2)) ve_int (fun _ _ => rfl)) ve_int (nomark _)))))))) (vb_one (vs_ret ve_bl)) vb_nil)
      (vb_cons (vs_if (VW.vt (vw_or (VW.vt (vw_and (vt_cmp (op_eqX hr.units) bop_eq (ve_ix (ve_name 2 (pv 2)) ve_int (fun _ _ => rfl)) ve_str (nomark _)) (vw_and1 (vt_cmp op_gt bop_gt (ve_callB call_len cal_len (by rfl) T.b_len PySem.boot_len (va_cons (ve_name 2 (pv 2)) va_nil)) ve_int (nomark _))))) (vw_or1 (vt_cmp op_notIn_seq (bop_in (neg := true)) (ve_ix (ve_name 2 (pv 2)) ve_int (fun _ _ => rfl)) (ve_tup (va_cons ve_str (va_cons ve_str (va_cons ve_str (va_cons ve_str va_nil))))) (by rfl))))) (vb_one (vs_ret ve_bl)) vb_nil)
      (vb_one (vs_if (VW.vt (vw_and (vt_cmp (op_eqX hr.units) bop_eq (ve_ix (ve_name 2 (pv 2)) ve_int (fun _ _ => rfl)) ve_str (nomark _)) (vw_and1 (VW.vt (vw_or (vt_cmp (op_neX hr.units) bop_ne (ve_callB call_len cal_len (by rfl) T.b_len PySem.boot_len (va_cons (ve_name 2 (pv 2)) va_nil)) ve_int (nomark _)) (vw_or (vt_cmp (op_eqX hr.units) bop_eq (ve_ix (ve_name 2 (pv 2)) ve_int (fun _ _ => rfl)) ve_int (nomark _)) (vw_or1 (vt_cmp op_gt bop_gt (ve_callB call_abs cal_abs (by rfl) T.b_abs (by decide +kernel) (va_cons (ve_ix (ve_name 2 (pv 2)) ve_int (fun _ _ => rfl)) va_nil)) ve_int (nomark _))))))))) (vb_one (vs_ret ve_bl)) vb_nil)))))))) (fun _ => rfl))
      (vb_one (vs_ret ve_bl)))), pf⟩
set_option maxHeartbeats 8000000 in
theorem ok__law_near_one {f : Addr} {fd : FuncData} (T : Tx K mg) (Dn : FnP K "_law_near_one" s__law_near_one f fd) (g : mg "_law_near_one" = some (.ref f)) (G__law_sip : OkF P w K mg base 1 "_law_sip" ["cup", "many"] 2 [0] F_sip) (pf : ∀ (ds : List D) (Q : D → List D → Prop), (F_near).f ds Q → x__law_near_one.f { nx := fun ρ => ∃ outs, outsOf [0] ρ = outs.map some ∧ Q .non outs, rt := fun r ρ => ∃ outs, outsOf [0] ρ = outs.map some ∧ Q r outs, bk := fun _ => False, ct := fun _ => False } (ds.map some ++ List.replicate (5 - 2) none)) : OkF P w K mg base (2) "_law_near_one" ["cup", "rules"] 2 [0] F_near := by
  exact okf_mk (P := P) (w := w) (base := base) (k := (2 - 1)) Dn g sc__law_near_one rfl (by decide) (by decide) (fun _ _ _ _ _ _ us hl => match us, hl with | [_, _], _ => rfl) (fun _ _ _ _ _ _ us hl => match us, hl with | [_, _], _ => rfl) fun cdv A outer s H E C hC hr => ⟨_, x__law_near_one,
    (vb_cons (vs_parN (i := 2) (j := 3) rfl sc__law_near_one.nd rfl rfl (by decide) rfl rfl (va_cons (vf_call G__law_sip (hr.mono (by first | omega | decide)) (by rfl) (va_lend 0 (pv 0) (va_cons (ve_callB call_len cal_len (by rfl) T.b_len PySem.boot_len (va_cons (ve_name 1 (pv 1)) va_nil)) va_nil))) (va_cons (ve_callB call_len cal_len (by rfl) T.b_len PySem.boot_len (va_cons (ve_name 1 (pv 1)) va_nil)) va_nil)) hC (by rfl) (by decide) (by decide))
      (vb_cons (vs_setN (i := 4) sc__law_near_one.nd rfl (by first | exact Or.inl rfl | exact Or.inr rfl) (ve_frz (ve_lst (va_cons (ve_tup (va_cons ve_str (va_cons (ve_name 2 (pv 2)) (va_cons ve_int va_nil)))) (va_cons (ve_tup (va_cons ve_str (va_cons ve_int (va_cons (ve_name 2 (pv 2)) va_nil)))) (va_cons (ve_tup (va_cons ve_str (va_cons (ve_un un_neg uop_neg ve_int) (va_cons ve_int va_nil)))) (va_cons (ve_tup (va_cons ve_str (va_cons ve_int (va_cons (ve_un un_neg uop_neg ve_int) va_nil)))) (va_cons (ve_tup (va_cons ve_str (va_cons (ve_name 2 (pv 2)) (va_cons ve_int va_nil)))) (va_cons (ve_tup (va_cons ve_str (va_cons ve_int (va_cons ve_int va_nil)))) (va_cons (ve_tup (va_cons ve_str (va_cons ve_int (va_cons ve_int va_nil)))) va_nil))))))))) hC (by decide))
      (vb_cons (vs_setN (i := 4) sc__law_near_one.nd rfl (by first | exact Or.inl rfl | exact Or.inr rfl) (ve_frz (ve_bin op_addX bop_add (ve_name 4 (pv 4)) (ve_lst (va_cons (ve_tup (va_cons ve_str (va_cons (ve_un un_neg uop_neg ve_int) (va_cons ve_int va_nil)))) (va_cons (ve_tup (va_cons ve_str (va_cons ve_int (va_cons ve_bl va_nil)))) (va_cons (ve_tup (va_cons ve_str (va_cons ve_int (va_cons ve_bl va_nil)))) (va_cons (ve_tup (va_cons ve_str (va_cons ve_int va_nil))) (va_cons (ve_tup (va_cons ve_str (va_cons ve_int va_nil))) (va_cons (ve_tup (va_cons ve_str (va_cons (ve_un un_neg uop_neg ve_int) va_nil))) (va_cons (ve_tup (va_cons ve_str (va_cons ve_bl va_nil))) va_nil)))))))))) hC (by decide))
      (vb_cons (vs_setN (i := 4) sc__law_near_one.nd rfl (by first | exact Or.inl rfl | exact Or.inr rfl) (ve_frz (ve_bin op_addX bop_add (ve_name 4 (pv 4)) (ve_lst (va_cons (ve_tup (va_cons ve_str (va_cons ve_int va_nil))) (va_cons (ve_tup (va_cons ve_str va_nil)) (va_cons (ve_tup (va_cons ve_str (va_cons ve_int va_nil))) (va_cons (ve_tup (va_cons ve_str (va_cons (ve_un un_neg uop_neg ve_int) va_nil))) (va_cons (ve_tup (va_cons ve_str (va_cons (ve_bin op_sub bop_sub (ve_name 2 (pv 2)) ve_int) (va_cons (ve_bin op_sub bop_sub (ve_name 2 (pv 2)) ve_int) va_nil)))) (va_cons (ve_tup (va_cons ve_str (va_cons (ve_bin op_sub bop_sub (ve_name 2 (pv 2)) ve_int) (va_cons (ve_bin op_pow bop_pow ve_int ve_int) va_nil)))) (va_cons (ve_tup (va_cons ve_str (va_cons (ve_name 3 (pv 3)) (va_cons ve_int va_nil)))) va_nil)))))))))) hC (by decide))
      (vb_cons (vs_setN (i := 4) sc__law_near_one.nd rfl (by first | exact Or.inl rfl | exact Or.inr rfl) (ve_frz (ve_bin op_addX bop_add (ve_name 4 (pv 4)) (ve_lst (va_cons (ve_tup (va_cons ve_str (va_cons ve_int (va_cons ve_int va_nil)))) (va_cons (ve_tup (va_cons ve_str (va_cons ve_int va_nil))) (va_cons (ve_tup (va_cons ve_str (va_cons ve_int va_nil))) (va_cons (ve_tup (va_cons ve_str va_nil)) (va_cons (ve_tup va_nil) (va_cons (ve_tup (va_cons ve_str (va_cons ve_int (va_cons ve_int va_nil)))) (va_cons ve_str (va_cons (ve_frz (ve_lst (va_cons ve_str va_nil))) (va_cons (ve_tup (va_cons ve_str (va_cons ve_int (va_cons ve_int (va_cons ve_int va_nil))))) (va_cons (ve_tup (va_cons (ve_tup (va_cons ve_str va_nil)) va_nil)) (va_cons ve_int va_nil)))))))))))))) hC (by decide))
      (vb_one (vs_ret (ve_bin op_addX bop_add (ve_bin op_addX bop_add (ve_sl (ve_name 1 (pv 1)) vo_none (vo_some (ve_name 2 (pv 2)))) (ve_tup (va_cons (ve_ix (ve_name 4 (pv 4)) (vf_call G__law_sip (hr.mono (by first | omega | decide)) (by rfl) (va_lend 0 (pv 0) (va_cons ve_int va_nil))) (fun _ _ => rfl)) va_nil))) (ve_sl (ve_name 1 (pv 1)) (vo_some (ve_bin op_addX bop_add (ve_name 2 (pv 2)) ve_int)) vo_none))))))))), pf⟩
set_option maxHeartbeats 8000000 in
theorem ok_law {f : Addr} {fd : FuncData} (T : Tx K mg) (Dn : FnP K "law" s_law f fd) (g : mg "law" = some (.ref f)) (G__law_bent : OkF P w K mg base 10 "_law_bent" ["cup", "thing"] 2 [0] (F_bentJ 3)) (G__law_cup : OkF P w K mg base 1 "_law_cup" ["script"] 1 [] F_cup) (G__law_is_straight : OkF P w K mg base 2 "_law_is_straight" ["found"] 1 [] F_judge) (G__law_near_one : OkF P w K mg base 2 "_law_near_one" ["cup", "rules"] 2 [0] F_near) (G__law_same : OkF P w K mg base 1 "_law_same" ["found", "due"] 2 [] F_same) (G__law_sip : OkF P w K mg base 1 "_law_sip" ["cup", "many"] 2 [0] F_sip) (G__law_text : OkF P w K mg base 2 "_law_text" ["cup", "many", "cap"] 3 [0] F_text) (G_is_straight : OkF P w K mg base 5 "is_straight" ["thing"] 1 [] F_is_straight) (pf : ∀ (ds : List D) (Q : D → List D → Prop), (F_law).f ds Q → x_law.f { nx := fun ρ => ∃ outs, outsOf [] ρ = outs.map some ∧ Q .non outs, rt := fun r ρ => ∃ outs, outsOf [] ρ = outs.map some ∧ Q r outs, bk := fun _ => False, ct := fun _ => False } (ds.map some ++ List.replicate (11 - 1) none)) : FnOk P w K mg base CX0 (20) f fd ["script"] (spOf K 1 [] F_law) := by
  exact okf_fn (P := P) (w := w) (base := base) (k := (20 - 1)) Dn g sc_law rfl (by decide) (by decide) (fun _ _ _ _ _ _ us hl => match us, hl with | [_], _ => rfl) (fun _ _ _ _ _ _ us hl => match us, hl with | [_], _ => rfl) fun cdv A outer s H E C hC hr => ⟨_, x_law,
    (vb_cons (vs_setN (i := 1) sc_law.nd rfl (by first | exact Or.inl rfl | exact Or.inr rfl) (vf_call G__law_cup (hr.mono (by first | omega | decide)) (by rfl) (va_cons (ve_name 0 (pv 0)) va_nil)) hC (by decide))
      (vb_cons (vs_for PassesOwn.never rfl (vi_rng1 (by rfl) T.b_range (va_cons ve_int va_nil)) (vg_name (pg_name (i := 2) sc_law.nd rfl (by first | exact Or.inl rfl | exact Or.inr rfl)) hC (by decide)) (vb_cons (vs_setN (i := 3) sc_law.nd rfl (by first | exact Or.inl rfl | exact Or.inr rfl) (vf_call G__law_text (hr.mono (by first | omega | decide)) (by rfl) (va_lend 1 (pv 1) (va_cons ve_int (va_cons (ve_bin op_pow bop_pow ve_int ve_int) va_nil)))) hC (by decide))
      (vb_cons (vs_setN (i := 4) sc_law.nd rfl (by first | exact Or.inl rfl | exact Or.inr rfl) (vf_call G__law_sip (hr.mono (by first | omega | decide)) (by rfl) (va_lend 1 (pv 1) (va_cons (ve_callB call_len cal_len (by rfl) T.b_len PySem.boot_len (va_cons (ve_name 3 (pv 3)) va_nil)) va_nil))) hC (by decide))
      (vb_cons (vs_setN (i := 5) sc_law.nd rfl (by first | exact Or.inl rfl | exact Or.inr rfl) (ve_frz (ve_lst (va_cons (ve_name 3 (pv 3)) (va_cons (ve_sl (ve_name 3 (pv 3)) vo_none (vo_some (ve_name 4 (pv 4)))) (va_cons (ve_sl (ve_name 3 (pv 3)) (vo_some (ve_name 4 (pv 4))) vo_none) (va_cons (ve_rev (ve_name 3 (pv 3))) (va_cons (ve_bin op_addX bop_add (ve_bin op_addX bop_add (ve_sl (ve_name 3 (pv 3)) vo_none (vo_some (ve_name 4 (pv 4)))) (ve_sl (ve_name 3 (pv 3)) (vo_some (ve_name 4 (pv 4))) (vo_some (ve_bin op_addX bop_add (ve_name 4 (pv 4)) ve_int)))) (ve_sl (ve_name 3 (pv 3)) (vo_some (ve_name 4 (pv 4))) vo_none)) (va_cons (ve_frz (ve_callTy call_list_of cal_list (by rfl) T.b_list (by decide +kernel) (va_cons (ve_name 3 (pv 3)) va_nil))) (va_cons (ve_bin op_addX bop_add (ve_name 3 (pv 3)) (ve_name 3 (pv 3))) va_nil))))))))) hC (by decide))
      (vb_cons (vs_setN (i := 5) sc_law.nd rfl (by first | exact Or.inl rfl | exact Or.inr rfl) (ve_frz (ve_bin op_addX bop_add (ve_bin op_addX bop_add (ve_name 5 (pv 5)) (vf_lc rfl sc_law.nd (blkOk_by (own := [("step", 10)]) (N := nm_law) (sc := defScope s_law) (by decide +kernel)) hC (by decide) (vi_rng1 (by rfl) T.b_range (va_cons ve_int va_nil)) (fun _ _ _ _ _ => (gw_name (by decide))) (fun _ _ _ _ _ => (vg_name (pg_name (i := 10) sc_law.nd rfl (by first | exact Or.inl rfl | exact Or.inr rfl)) hC (by decide))) (fun _ _ _ _ _ => vts_nil) (fun _ _ _ _ _ => (vf_call G__law_bent (hr.mono (by first | omega | decide)) (by rfl) (va_lend 1 (pv 1) (va_cons (ve_name 3 (pv 3)) va_nil)))) rfl (fun _ => rfl))) (vf_lc rfl sc_law.nd (blkOk_by (own := [("step", 10)]) (N := nm_law) (sc := defScope s_law) (by decide +kernel)) hC (by decide) (vi_rng1 (by rfl) T.b_range (va_cons ve_int va_nil)) (fun _ _ _ _ _ => (gw_name (by decide))) (fun _ _ _ _ _ => (vg_name (pg_name (i := 10) sc_law.nd rfl (by first | exact Or.inl rfl | exact Or.inr rfl)) hC (by decide))) (fun _ _ _ _ _ => vts_nil) (fun _ _ _ _ _ => (vf_call G__law_near_one (hr.mono (by first | omega | decide)) (by rfl) (va_lend 1 (pv 1) (va_cons (ve_name 3 (pv 3)) va_nil)))) rfl (fun _ => rfl)))) hC (by decide))
      (vb_cons (vs_setN (i := 5) sc_law.nd rfl (by first | exact Or.inl rfl | exact Or.inr rfl) (ve_frz (ve_bin op_addX bop_add (ve_name 5 (pv 5)) (ve_lst (va_cons (ve_ix (ve_lst (va_cons (ve_tup va_nil) (va_cons ve_non (va_cons (ve_tup (va_cons (ve_tup (va_cons ve_str va_nil)) va_nil)) (va_cons (ve_tup (va_cons (ve_tup va_nil) va_nil)) (va_cons ve_str (va_cons (ve_tup (va_cons ve_str va_nil)) (va_cons ve_int va_nil)))))))) (vf_call G__law_sip (hr.mono (by first | omega | decide)) (by rfl) (va_lend 1 (pv 1) (va_cons ve_int va_nil))) (fun _ _ => rfl)) va_nil)))) hC (by decide))
      (vb_one (vs_for PassesOwn.never rfl (vi_seq (ve_name 5 (pv 5))) (vg_name (pg_name (i := 6) sc_law.nd rfl (by first | exact Or.inl rfl | exact Or.inr rfl)) hC (by decide)) (vb_cons (vs_setN (i := 7) sc_law.nd rfl (by first | exact Or.inl rfl | exact Or.inr rfl) (vf_call G__law_is_straight (hr.mono (by first | omega | decide)) (by rfl) (va_cons (ve_name 6 (pv 6)) va_nil)) hC (by decide))
      (vb_one (vs_if (VW.vt (vw_or (vt_not (vt_truth (vf_call G__law_same (hr.mono (by first | omega | decide)) (by rfl) (va_cons (vf_call G_is_straight (hr.mono (by first | omega | decide)) (by rfl) (va_cons (ve_name 6 (pv 6)) va_nil)) (va_cons (ve_name 7 (pv 7)) va_nil))))) (vw_or1 (vt_not (vt_truth (vf_call G__law_same (hr.mono (by first | omega | decide)) (by rfl) (va_cons (vf_callKw G_is_straight (hr.mono (by first | omega | decide)) (by rfl) (vk_cons (ve_name 6 (pv 6)) vk_nil)) (va_cons (ve_name 7 (pv 7)) va_nil)))))))) (vb_one (vs_ret ve_bl)) vb_nil))) (fun _ => rfl)))))))) (fun _ => rfl))
      (vb_cons (vs_setN (i := 8) sc_law.nd rfl (by first | exact Or.inl rfl | exact Or.inr rfl) (ve_ix (ve_lst (va_cons (ve_tup (va_cons ve_str va_nil)) (va_cons (ve_tup (va_cons ve_str (va_cons (ve_un un_neg uop_neg ve_int) va_nil))) (va_cons (ve_tup (va_cons ve_str (va_cons ve_int (va_cons ve_int va_nil)))) (va_cons (ve_tup (va_cons ve_str (va_cons ve_int (va_cons ve_int va_nil)))) va_nil))))) (vf_call G__law_sip (hr.mono (by first | omega | decide)) (by rfl) (va_lend 1 (pv 1) (va_cons ve_int va_nil))) (fun _ _ => rfl)) hC (by decide))
      (vb_cons (vs_for PassesOwn.never rfl (vi_seq (ve_tup (va_cons ve_int (va_cons ve_int va_nil)))) (vg_name (pg_name (i := 9) sc_law.nd rfl (by first | exact Or.inl rfl | exact Or.inr rfl)) hC (by decide)) (vb_one (vs_if (vt_not (vt_truth (vf_call G__law_same (hr.mono (by first | omega | decide)) (by rfl) (va_cons (vf_call G_is_straight (hr.mono (by first | omega | decide)) (by rfl) (va_cons (ve_bin op_addX bop_add (ve_tup (va_cons (ve_tup (va_cons ve_str (va_cons ve_int va_nil))) va_nil)) (ve_bin op_mulX bop_mul (ve_tup (va_cons (ve_name 8 (pv 8)) va_nil)) (ve_name 9 (pv 9)))) va_nil)) (va_cons (ve_cmp (op_eqX hr.units) bop_eq (ve_name 9 (pv 9)) ve_int (nomark _)) va_nil))))) (vb_one (vs_ret ve_bl)) vb_nil)) (fun _ => rfl))
      (vb_one (vs_ret ve_bl)))))), pf⟩
end
end K34

namespace K34
open PySem PySem.Spec PyProof.Rows L2 BV
theorem fe_is_int {d : D} {Q : D → List D → Prop} (h : d.sh = true) (q : Q (.bl (isI d)) []) : F_is_int.f [d] Q := ⟨_, rfl, h, fun _ _ ⟨e1, e2⟩ => by rw [e1, e2]; exact q⟩
theorem fe_whole {d : D} {Q : D → List D → Prop} (h : d.sh = true) (q : Q (.bl (isI d)) []) : F_whole.f [d] Q := ⟨_, rfl, h, fun _ _ ⟨e1, e2⟩ => by rw [e1, e2]; exact q⟩
theorem fe_within {d : D} {a b : Int} {Q : D → List D → Prop} (h : d.sh = true) (q : Q (.bl (withinF d a b)) []) : F_within.f [d, .int a, .int b] Q := ⟨(d, a, b), rfl, h, fun _ _ ⟨e1, e2⟩ => by rw [e1, e2]; exact q⟩
theorem fe_is_row {d : D} {a b : Int} {Q : D → List D → Prop} (h : d.sh = true) (q : Q (.bl (rowF d a b)) []) : F_is_row.f [d, .int a, .int b] Q := ⟨(d, a, b), rfl, h, fun _ _ ⟨e1, e2⟩ => by rw [e1, e2]; exact q⟩
theorem fe_is_letter {d : D} {Q : D → List D → Prop} (h : d.sh = true) (q : Q (.bl (letF d)) []) : F_is_letter.f [d] Q := ⟨_, rfl, h, fun _ _ ⟨e1, e2⟩ => by rw [e1, e2]; exact q⟩
theorem fe_is_rule {d : D} {k : Nat} {Q : D → List D → Prop} (h : nice d = true) (q : Q (.bl (ruleF k d)) []) : F_is_rule.f [d, .int k] Q := ⟨(d, k), rfl, h, fun _ _ ⟨e1, e2⟩ => by rw [e1, e2]; exact q⟩
theorem fe_is_straight {d : D} {Q : D → List D → Prop} (h : nice d = true) (q : Q (.bl (strF d)) []) : F_is_straight.f [d] Q := ⟨_, rfl, h, fun _ _ ⟨e1, e2⟩ => by rw [e1, e2]; exact q⟩
theorem fe_judge {d : D} {Q : D → List D → Prop} (h : nice d = true) (q : Q (.bl (strF d)) []) : F_judge.f [d] Q := ⟨_, rfl, h, fun _ _ ⟨e1, e2⟩ => by rw [e1, e2]; exact q⟩
theorem fe_same {a b : Bool} {Q : D → List D → Prop} (q : Q (.bl (a == b)) []) : F_same.f [.bl a, .bl b] Q := ⟨(a, b), rfl, True.intro, fun _ _ ⟨e1, e2⟩ => by rw [e1, e2]; exact q⟩
theorem pf_is_int : Pf F_is_int x_is_int [] (1 - 1) := pf_ex fun d h R N ok _ => by
  unfold x_is_int
  simp only [List.map_cons, List.map_nil, List.cons_append, List.nil_append, List.append_nil, List.replicate_succ, List.replicate_zero, Nat.reduceSub]
  cases d <;> (repeat' (first | ((with_reducible apply i_seq)) | ((with_reducible apply i_ret)) | ((with_reducible apply i_next)) | ((with_reducible apply i_ifs)) | ((with_reducible apply i_T); (first | rfl | (with_reducible assumption) | exact not_t (by with_reducible assumption) | exact not_f (by with_reducible assumption))) | ((with_reducible apply i_F); (first | rfl | (with_reducible assumption) | exact not_t (by with_reducible assumption) | exact not_f (by with_reducible assumption))) | ((with_reducible apply i_name); (repeat (first | exact At.z | apply At.s)); ((first | rfl | assumption))) | ((with_reducible apply i_C)) | ((with_reducible apply i_bin)) | ((with_reducible apply i_tst)) | ((with_reducible apply i_tru)) | ((with_reducible apply i_fn)) | ((with_reducible apply i_bl)) | ((with_reducible apply i_cons)) | ((with_reducible apply i_nil)) | ((with_reducible apply i_cal)) | ((with_reducible apply i_un)) | ((with_reducible apply i_some); (first | ((with_reducible apply len_t)) | ((with_reducible apply len_l)) | ((with_reducible apply len_o)) | ((with_reducible apply len_f)) | ((with_reducible apply in_f); (rfl); (rfl)) | ((with_reducible apply in_t); (rfl); (rfl)) | ((with_reducible apply eqM); (first | (with_reducible exact eqD_ss) | (with_reducible exact eqD_ii) | (with_reducible exact eqD_bb) | ((with_reducible apply eqD_oe); (first | rfl | assumption)) | ((with_reducible apply eqD_le); (first | rfl | assumption)) | ((with_reducible apply eqD_te); (first | rfl | assumption)))) | ((with_reducible apply list1_seq); (rfl); (first | rfl | assumption)) | ((with_reducible apply tuple1_seq); (rfl); (first | rfl | assumption)) | ((with_reducible apply ix0); (first | rfl | assumption)) | ((with_reducible apply ix1); (first | rfl | assumption)) | ((with_reducible apply ix2); (first | rfl | assumption)) | ((with_reducible apply addLO); (simp only [List.length_cons, List.length_nil, List.length_append, List.length_map, sizeLine_eq]; omega); (repeat (first | (with_reducible assumption) | rfl | apply sh_app | apply sh_cons))) | ((with_reducible apply addL); (simp only [List.length_cons, List.length_nil, List.length_append, List.length_map, sizeLine_eq]; omega)) | ((with_reducible apply addOO); (simp only [List.length_cons, List.length_nil, List.length_append, List.length_map, sizeLine_eq]; omega); (repeat (first | (with_reducible assumption) | rfl | apply sh_app | apply sh_cons)); (repeat (first | (with_reducible assumption) | rfl | apply sh_app | apply sh_cons))) | ((with_reducible apply addOL); (simp only [List.length_cons, List.length_nil, List.length_append, List.length_map, sizeLine_eq]; omega); (repeat (first | (with_reducible assumption) | rfl | apply sh_app | apply sh_cons))) | ((with_reducible apply str_s)) | ((with_reducible apply str_i); (omega); (omega)) | ((with_reducible apply addM2); (repeat (first | (with_reducible assumption) | exact len_nil | exact len_rep | apply len_cut | apply len_app | apply len_cons)); (repeat (first | (with_reducible assumption) | exact len_nil | exact len_rep | apply len_cut | apply len_app | apply len_cons)); (simp only [sizeLine_eq]; omega)) | ((with_reducible apply sub_ii)) | ((with_reducible apply add_ii)) | ((with_reducible apply pow_20)) | ((with_reducible apply pow_30)) | ((with_reducible apply pow_40)) | (first | (with_reducible exact eqD_ss) | (with_reducible exact eqD_ii) | (with_reducible exact eqD_bb) | ((with_reducible apply eqD_oe); (first | rfl | assumption)) | ((with_reducible apply eqD_le); (first | rfl | assumption)) | ((with_reducible apply eqD_te); (first | rfl | assumption))) | ((with_reducible apply mul_t); (omega); (omega)) | ((with_reducible apply mod_ii); (first | (with_reducible assumption) | omega | decide)) | ((with_reducible apply div_b); (first | (with_reducible assumption) | omega | decide); (first | (with_reducible assumption) | omega | decide)) | ((with_reducible apply mul_b); (omega); (omega); (omega); (omega)) | (exact ix_tup rfl (by first | rfl | assumption)) | rfl)) | ((with_reducible apply i_asg)) | ((with_reducible apply i_gname); (repeat (first | exact Put.z | apply Put.s))) | ((with_reducible apply i_not)) | ((with_reducible apply i_and)) | ((with_reducible apply i_or)) | ((with_reducible apply i_andV)) | ((with_reducible apply i_orV)) | ((with_reducible apply i_notV)) | ((with_reducible apply i_xif)) | ((with_reducible apply i_chain)) | ((with_reducible apply i_ints)) | ((with_reducible apply i_int)) | ((with_reducible apply i_call0)) | ((with_reducible apply i_call1)) | ((with_reducible apply i_lend); (repeat (first | exact At.z | apply At.s)); (repeat (first | exact Put.z | apply Put.s))) | ((with_reducible apply i_out0)) | ((with_reducible apply i_out1); (repeat (first | exact Put.z | apply Put.s))) | ((with_reducible apply i_tup)) | ((with_reducible apply i_lst)) | ((with_reducible apply i_frz)) | ((with_reducible apply i_le); (simp only [List.length_cons, List.length_nil, List.length_append, List.length_map, sizeLine_eq]; omega)) | ((with_reducible apply i_lt); (simp only [List.length_cons, List.length_nil, List.length_append, List.length_map, sizeLine_eq]; omega)) | ((with_reducible apply i_sh); (repeat (first | (with_reducible assumption) | rfl | apply sh_app | apply sh_cons))) | ((with_reducible apply i_frzO); (repeat (first | (with_reducible assumption) | rfl | apply sh_app | apply sh_cons))) | ((with_reducible apply i_do)) | ((with_reducible apply i_par)) | ((with_reducible apply i_puts); (repeat (first | exact Puts.n | exact Put.z | apply Put.s | apply Puts.c))) | ((with_reducible apply i_ixS); (repeat (first | exact At.z | apply At.s))) | ((with_reducible apply i_at); (repeat (first | exact At.z | apply At.s))) | ((with_reducible apply i_atO); (repeat (first | exact At.z | apply At.s))) | ((with_reducible apply i_put); (repeat (first | exact Put.z | apply Put.s))) | ((with_reducible apply i_lenS); (repeat (first | exact At.z | apply At.s)); (rfl)) | ((with_reducible apply i_leq); (rfl)) | ((with_reducible apply i_eqS); (repeat (first | exact At.z | apply At.s))) | ((with_reducible apply i_neS); (repeat (first | exact At.z | apply At.s))) | ((with_reducible apply i_app); (repeat (first | exact At.z | apply At.s))) | ((with_reducible apply i_sl)) | ((with_reducible apply i_oN)) | ((with_reducible apply i_oS)) | ((with_reducible apply i_setS); (repeat (first | exact At.z | apply At.s))) | ((with_reducible apply i_set); (rfl); (repeat (first | exact LSet.z | apply LSet.s)); (repeat (first | exact Put.z | apply Put.s))) | ((with_reducible apply i_iseq)) | ((with_reducible apply i_rng1)) | ((with_reducible apply i_range); (omega); (omega)) | ((with_reducible apply i_ienum)) | ((with_reducible apply i_for)) | ((with_reducible apply i_lc)) | ((with_reducible apply i_yes)) | ((with_reducible apply i_gcons)) | ((with_reducible apply i_gnil)) | ((with_reducible apply i_gtup); (rfl)) | ((with_reducible apply i_tupA)) | ((with_reducible apply i_retN)) | ((with_reducible apply i_brk)) | ((with_reducible apply i_cont)) | ((with_reducible apply i_mv); (repeat (first | exact At.z | apply At.s)); (repeat (first | exact Put.z | apply Put.s))) | ((with_reducible apply i_neP); (repeat (first | exact At.z | apply At.s)); (rfl); (first | exact eqD_oe (by first | assumption | rfl))) | ((with_reducible apply i_popP); (repeat (first | exact At.z | apply At.s)); (rfl); (rfl); (rfl); ((first | rfl | assumption)); (repeat (first | exact LSet.z | apply LSet.s)); (repeat (first | exact Put.z | apply Put.s))))) <;> first | exact Bool.noConfusion h | exact ok _ _ [] rfl ⟨rfl, rfl⟩
theorem pf_is_whole : Pf F_whole x__law_is_whole [] (1 - 1) := pf_is_int
theorem pf_within : Pf F_within x_within [] (3 - 3) := pf_ex fun ⟨d, a, b⟩ h R N ok _ => by
  unfold x_within
  simp only [List.map_cons, List.map_nil, List.cons_append, List.nil_append, List.append_nil, List.replicate_succ, List.replicate_zero, Nat.reduceSub]
  dsimp only at h ok
  cases d <;> (repeat' (first | ((with_reducible apply fe_is_int); ((first | rfl | assumption))) | ((with_reducible apply i_seq)) | ((with_reducible apply i_ret)) | ((with_reducible apply i_next)) | ((with_reducible apply i_ifs)) | ((with_reducible apply i_T); (first | rfl | (with_reducible assumption) | exact not_t (by with_reducible assumption) | exact not_f (by with_reducible assumption))) | ((with_reducible apply i_F); (first | rfl | (with_reducible assumption) | exact not_t (by with_reducible assumption) | exact not_f (by with_reducible assumption))) | ((with_reducible apply i_name); (repeat (first | exact At.z | apply At.s)); ((first | rfl | assumption))) | ((with_reducible apply i_C)) | ((with_reducible apply i_bin)) | ((with_reducible apply i_tst)) | ((with_reducible apply i_tru)) | ((with_reducible apply i_fn)) | ((with_reducible apply i_bl)) | ((with_reducible apply i_cons)) | ((with_reducible apply i_nil)) | ((with_reducible apply i_cal)) | ((with_reducible apply i_un)) | ((with_reducible apply i_some); (first | ((with_reducible apply len_t)) | ((with_reducible apply len_l)) | ((with_reducible apply len_o)) | ((with_reducible apply len_f)) | ((with_reducible apply in_f); (rfl); (rfl)) | ((with_reducible apply in_t); (rfl); (rfl)) | ((with_reducible apply eqM); (first | (with_reducible exact eqD_ss) | (with_reducible exact eqD_ii) | (with_reducible exact eqD_bb) | ((with_reducible apply eqD_oe); (first | rfl | assumption)) | ((with_reducible apply eqD_le); (first | rfl | assumption)) | ((with_reducible apply eqD_te); (first | rfl | assumption)))) | ((with_reducible apply list1_seq); (rfl); (first | rfl | assumption)) | ((with_reducible apply tuple1_seq); (rfl); (first | rfl | assumption)) | ((with_reducible apply ix0); (first | rfl | assumption)) | ((with_reducible apply ix1); (first | rfl | assumption)) | ((with_reducible apply ix2); (first | rfl | assumption)) | ((with_reducible apply addLO); (simp only [List.length_cons, List.length_nil, List.length_append, List.length_map, sizeLine_eq]; omega); (repeat (first | (with_reducible assumption) | rfl | apply sh_app | apply sh_cons))) | ((with_reducible apply addL); (simp only [List.length_cons, List.length_nil, List.length_append, List.length_map, sizeLine_eq]; omega)) | ((with_reducible apply addOO); (simp only [List.length_cons, List.length_nil, List.length_append, List.length_map, sizeLine_eq]; omega); (repeat (first | (with_reducible assumption) | rfl | apply sh_app | apply sh_cons)); (repeat (first | (with_reducible assumption) | rfl | apply sh_app | apply sh_cons))) | ((with_reducible apply addOL); (simp only [List.length_cons, List.length_nil, List.length_append, List.length_map, sizeLine_eq]; omega); (repeat (first | (with_reducible assumption) | rfl | apply sh_app | apply sh_cons))) | ((with_reducible apply str_s)) | ((with_reducible apply str_i); (omega); (omega)) | ((with_reducible apply addM2); (repeat (first | (with_reducible assumption) | exact len_nil | exact len_rep | apply len_cut | apply len_app | apply len_cons)); (repeat (first | (with_reducible assumption) | exact len_nil | exact len_rep | apply len_cut | apply len_app | apply len_cons)); (simp only [sizeLine_eq]; omega)) | ((with_reducible apply sub_ii)) | ((with_reducible apply add_ii)) | ((with_reducible apply pow_20)) | ((with_reducible apply pow_30)) | ((with_reducible apply pow_40)) | (first | (with_reducible exact eqD_ss) | (with_reducible exact eqD_ii) | (with_reducible exact eqD_bb) | ((with_reducible apply eqD_oe); (first | rfl | assumption)) | ((with_reducible apply eqD_le); (first | rfl | assumption)) | ((with_reducible apply eqD_te); (first | rfl | assumption))) | ((with_reducible apply mul_t); (omega); (omega)) | ((with_reducible apply mod_ii); (first | (with_reducible assumption) | omega | decide)) | ((with_reducible apply div_b); (first | (with_reducible assumption) | omega | decide); (first | (with_reducible assumption) | omega | decide)) | ((with_reducible apply mul_b); (omega); (omega); (omega); (omega)) | (exact ix_tup rfl (by first | rfl | assumption)) | rfl)) | ((with_reducible apply i_asg)) | ((with_reducible apply i_gname); (repeat (first | exact Put.z | apply Put.s))) | ((with_reducible apply i_not)) | ((with_reducible apply i_and)) | ((with_reducible apply i_or)) | ((with_reducible apply i_andV)) | ((with_reducible apply i_orV)) | ((with_reducible apply i_notV)) | ((with_reducible apply i_xif)) | ((with_reducible apply i_chain)) | ((with_reducible apply i_ints)) | ((with_reducible apply i_int)) | ((with_reducible apply i_call0)) | ((with_reducible apply i_call1)) | ((with_reducible apply i_lend); (repeat (first | exact At.z | apply At.s)); (repeat (first | exact Put.z | apply Put.s))) | ((with_reducible apply i_out0)) | ((with_reducible apply i_out1); (repeat (first | exact Put.z | apply Put.s))) | ((with_reducible apply i_tup)) | ((with_reducible apply i_lst)) | ((with_reducible apply i_frz)) | ((with_reducible apply i_le); (simp only [List.length_cons, List.length_nil, List.length_append, List.length_map, sizeLine_eq]; omega)) | ((with_reducible apply i_lt); (simp only [List.length_cons, List.length_nil, List.length_append, List.length_map, sizeLine_eq]; omega)) | ((with_reducible apply i_sh); (repeat (first | (with_reducible assumption) | rfl | apply sh_app | apply sh_cons))) | ((with_reducible apply i_frzO); (repeat (first | (with_reducible assumption) | rfl | apply sh_app | apply sh_cons))) | ((with_reducible apply i_do)) | ((with_reducible apply i_par)) | ((with_reducible apply i_puts); (repeat (first | exact Puts.n | exact Put.z | apply Put.s | apply Puts.c))) | ((with_reducible apply i_ixS); (repeat (first | exact At.z | apply At.s))) | ((with_reducible apply i_at); (repeat (first | exact At.z | apply At.s))) | ((with_reducible apply i_atO); (repeat (first | exact At.z | apply At.s))) | ((with_reducible apply i_put); (repeat (first | exact Put.z | apply Put.s))) | ((with_reducible apply i_lenS); (repeat (first | exact At.z | apply At.s)); (rfl)) | ((with_reducible apply i_leq); (rfl)) | ((with_reducible apply i_eqS); (repeat (first | exact At.z | apply At.s))) | ((with_reducible apply i_neS); (repeat (first | exact At.z | apply At.s))) | ((with_reducible apply i_app); (repeat (first | exact At.z | apply At.s))) | ((with_reducible apply i_sl)) | ((with_reducible apply i_oN)) | ((with_reducible apply i_oS)) | ((with_reducible apply i_setS); (repeat (first | exact At.z | apply At.s))) | ((with_reducible apply i_set); (rfl); (repeat (first | exact LSet.z | apply LSet.s)); (repeat (first | exact Put.z | apply Put.s))) | ((with_reducible apply i_iseq)) | ((with_reducible apply i_rng1)) | ((with_reducible apply i_range); (omega); (omega)) | ((with_reducible apply i_ienum)) | ((with_reducible apply i_for)) | ((with_reducible apply i_lc)) | ((with_reducible apply i_yes)) | ((with_reducible apply i_gcons)) | ((with_reducible apply i_gnil)) | ((with_reducible apply i_gtup); (rfl)) | ((with_reducible apply i_tupA)) | ((with_reducible apply i_retN)) | ((with_reducible apply i_brk)) | ((with_reducible apply i_cont)) | ((with_reducible apply i_mv); (repeat (first | exact At.z | apply At.s)); (repeat (first | exact Put.z | apply Put.s))) | ((with_reducible apply i_neP); (repeat (first | exact At.z | apply At.s)); (rfl); (first | exact eqD_oe (by first | assumption | rfl))) | ((with_reducible apply i_popP); (repeat (first | exact At.z | apply At.s)); (rfl); (rfl); (rfl); ((first | rfl | assumption)); (repeat (first | exact LSet.z | apply LSet.s)); (repeat (first | exact Put.z | apply Put.s))) | ((with_reducible apply i_B) <;> intro hb)))
  all_goals (refine ok _ _ [] rfl ⟨congrArg D.bl ?_, rfl⟩; clear ok; first | rfl | (simp_all [withinF] <;> omega))
theorem pf_is_row : Pf F_is_row x_is_row [] (3 - 3) := pf_ex fun ⟨d, a, b⟩ h R N ok _ => by
  unfold x_is_row
  simp only [List.map_cons, List.map_nil, List.cons_append, List.nil_append, List.append_nil, List.replicate_succ, List.replicate_zero, Nat.reduceSub]
  dsimp only at h ok
  cases d <;> (repeat' (first | ((with_reducible apply i_seq)) | ((with_reducible apply i_ret)) | ((with_reducible apply i_next)) | ((with_reducible apply i_ifs)) | ((with_reducible apply i_T); (first | rfl | (with_reducible assumption) | exact not_t (by with_reducible assumption) | exact not_f (by with_reducible assumption))) | ((with_reducible apply i_F); (first | rfl | (with_reducible assumption) | exact not_t (by with_reducible assumption) | exact not_f (by with_reducible assumption))) | ((with_reducible apply i_name); (repeat (first | exact At.z | apply At.s)); ((first | rfl | assumption))) | ((with_reducible apply i_C)) | ((with_reducible apply i_bin)) | ((with_reducible apply i_tst)) | ((with_reducible apply i_tru)) | ((with_reducible apply i_fn)) | ((with_reducible apply i_bl)) | ((with_reducible apply i_cons)) | ((with_reducible apply i_nil)) | ((with_reducible apply i_cal)) | ((with_reducible apply i_un)) | ((with_reducible apply i_some); (first | ((with_reducible apply len_t)) | ((with_reducible apply len_l)) | ((with_reducible apply len_o)) | ((with_reducible apply len_f)) | ((with_reducible apply in_f); (rfl); (rfl)) | ((with_reducible apply in_t); (rfl); (rfl)) | ((with_reducible apply eqM); (first | (with_reducible exact eqD_ss) | (with_reducible exact eqD_ii) | (with_reducible exact eqD_bb) | ((with_reducible apply eqD_oe); (first | rfl | assumption)) | ((with_reducible apply eqD_le); (first | rfl | assumption)) | ((with_reducible apply eqD_te); (first | rfl | assumption)))) | ((with_reducible apply list1_seq); (rfl); (first | rfl | assumption)) | ((with_reducible apply tuple1_seq); (rfl); (first | rfl | assumption)) | ((with_reducible apply ix0); (first | rfl | assumption)) | ((with_reducible apply ix1); (first | rfl | assumption)) | ((with_reducible apply ix2); (first | rfl | assumption)) | ((with_reducible apply addLO); (simp only [List.length_cons, List.length_nil, List.length_append, List.length_map, sizeLine_eq]; omega); (repeat (first | (with_reducible assumption) | rfl | apply sh_app | apply sh_cons))) | ((with_reducible apply addL); (simp only [List.length_cons, List.length_nil, List.length_append, List.length_map, sizeLine_eq]; omega)) | ((with_reducible apply addOO); (simp only [List.length_cons, List.length_nil, List.length_append, List.length_map, sizeLine_eq]; omega); (repeat (first | (with_reducible assumption) | rfl | apply sh_app | apply sh_cons)); (repeat (first | (with_reducible assumption) | rfl | apply sh_app | apply sh_cons))) | ((with_reducible apply addOL); (simp only [List.length_cons, List.length_nil, List.length_append, List.length_map, sizeLine_eq]; omega); (repeat (first | (with_reducible assumption) | rfl | apply sh_app | apply sh_cons))) | ((with_reducible apply str_s)) | ((with_reducible apply str_i); (omega); (omega)) | ((with_reducible apply addM2); (repeat (first | (with_reducible assumption) | exact len_nil | exact len_rep | apply len_cut | apply len_app | apply len_cons)); (repeat (first | (with_reducible assumption) | exact len_nil | exact len_rep | apply len_cut | apply len_app | apply len_cons)); (simp only [sizeLine_eq]; omega)) | ((with_reducible apply sub_ii)) | ((with_reducible apply add_ii)) | ((with_reducible apply pow_20)) | ((with_reducible apply pow_30)) | ((with_reducible apply pow_40)) | (first | (with_reducible exact eqD_ss) | (with_reducible exact eqD_ii) | (with_reducible exact eqD_bb) | ((with_reducible apply eqD_oe); (first | rfl | assumption)) | ((with_reducible apply eqD_le); (first | rfl | assumption)) | ((with_reducible apply eqD_te); (first | rfl | assumption))) | ((with_reducible apply mul_t); (omega); (omega)) | ((with_reducible apply mod_ii); (first | (with_reducible assumption) | omega | decide)) | ((with_reducible apply div_b); (first | (with_reducible assumption) | omega | decide); (first | (with_reducible assumption) | omega | decide)) | ((with_reducible apply mul_b); (omega); (omega); (omega); (omega)) | (exact ix_tup rfl (by first | rfl | assumption)) | rfl)) | ((with_reducible apply i_asg)) | ((with_reducible apply i_gname); (repeat (first | exact Put.z | apply Put.s))) | ((with_reducible apply i_not)) | ((with_reducible apply i_and)) | ((with_reducible apply i_or)) | ((with_reducible apply i_andV)) | ((with_reducible apply i_orV)) | ((with_reducible apply i_notV)) | ((with_reducible apply i_xif)) | ((with_reducible apply i_chain)) | ((with_reducible apply i_ints)) | ((with_reducible apply i_int)) | ((with_reducible apply i_call0)) | ((with_reducible apply i_call1)) | ((with_reducible apply i_lend); (repeat (first | exact At.z | apply At.s)); (repeat (first | exact Put.z | apply Put.s))) | ((with_reducible apply i_out0)) | ((with_reducible apply i_out1); (repeat (first | exact Put.z | apply Put.s))) | ((with_reducible apply i_tup)) | ((with_reducible apply i_lst)) | ((with_reducible apply i_frz)) | ((with_reducible apply i_le); (simp only [List.length_cons, List.length_nil, List.length_append, List.length_map, sizeLine_eq]; omega)) | ((with_reducible apply i_lt); (simp only [List.length_cons, List.length_nil, List.length_append, List.length_map, sizeLine_eq]; omega)) | ((with_reducible apply i_sh); (repeat (first | (with_reducible assumption) | rfl | apply sh_app | apply sh_cons))) | ((with_reducible apply i_frzO); (repeat (first | (with_reducible assumption) | rfl | apply sh_app | apply sh_cons))) | ((with_reducible apply i_do)) | ((with_reducible apply i_par)) | ((with_reducible apply i_puts); (repeat (first | exact Puts.n | exact Put.z | apply Put.s | apply Puts.c))) | ((with_reducible apply i_ixS); (repeat (first | exact At.z | apply At.s))) | ((with_reducible apply i_at); (repeat (first | exact At.z | apply At.s))) | ((with_reducible apply i_atO); (repeat (first | exact At.z | apply At.s))) | ((with_reducible apply i_put); (repeat (first | exact Put.z | apply Put.s))) | ((with_reducible apply i_lenS); (repeat (first | exact At.z | apply At.s)); (rfl)) | ((with_reducible apply i_leq); (rfl)) | ((with_reducible apply i_eqS); (repeat (first | exact At.z | apply At.s))) | ((with_reducible apply i_neS); (repeat (first | exact At.z | apply At.s))) | ((with_reducible apply i_app); (repeat (first | exact At.z | apply At.s))) | ((with_reducible apply i_sl)) | ((with_reducible apply i_oN)) | ((with_reducible apply i_oS)) | ((with_reducible apply i_setS); (repeat (first | exact At.z | apply At.s))) | ((with_reducible apply i_set); (rfl); (repeat (first | exact LSet.z | apply LSet.s)); (repeat (first | exact Put.z | apply Put.s))) | ((with_reducible apply i_iseq)) | ((with_reducible apply i_rng1)) | ((with_reducible apply i_range); (omega); (omega)) | ((with_reducible apply i_ienum)) | ((with_reducible apply i_for)) | ((with_reducible apply i_lc)) | ((with_reducible apply i_yes)) | ((with_reducible apply i_gcons)) | ((with_reducible apply i_gnil)) | ((with_reducible apply i_gtup); (rfl)) | ((with_reducible apply i_tupA)) | ((with_reducible apply i_retN)) | ((with_reducible apply i_brk)) | ((with_reducible apply i_cont)) | ((with_reducible apply i_mv); (repeat (first | exact At.z | apply At.s)); (repeat (first | exact Put.z | apply Put.s))) | ((with_reducible apply i_neP); (repeat (first | exact At.z | apply At.s)); (rfl); (first | exact eqD_oe (by first | assumption | rfl))) | ((with_reducible apply i_popP); (repeat (first | exact At.z | apply At.s)); (rfl); (rfl); (rfl); ((first | rfl | assumption)); (repeat (first | exact LSet.z | apply LSet.s)); (repeat (first | exact Put.z | apply Put.s))) | ((with_reducible apply i_B) <;> intro hb)))
  all_goals (refine ok _ _ [] rfl ⟨congrArg D.bl ?_, rfl⟩; clear ok; first | rfl | (simp_all [rowF] <;> omega))
theorem pf_is_letter : Pf F_is_letter x_is_letter [] (1 - 1) := pf_ex fun d h R N ok _ => by
  unfold x_is_letter
  simp only [List.map_cons, List.map_nil, List.cons_append, List.nil_append, List.append_nil, List.replicate_succ, List.replicate_zero, Nat.reduceSub]
  cases d <;> (repeat' (first | ((with_reducible apply fe_within); ((first | rfl | assumption))) | ((with_reducible apply i_seq)) | ((with_reducible apply i_ret)) | ((with_reducible apply i_next)) | ((with_reducible apply i_ifs)) | ((with_reducible apply i_T); (first | rfl | (with_reducible assumption) | exact not_t (by with_reducible assumption) | exact not_f (by with_reducible assumption))) | ((with_reducible apply i_F); (first | rfl | (with_reducible assumption) | exact not_t (by with_reducible assumption) | exact not_f (by with_reducible assumption))) | ((with_reducible apply i_name); (repeat (first | exact At.z | apply At.s)); ((first | rfl | assumption))) | ((with_reducible apply i_C)) | ((with_reducible apply i_bin)) | ((with_reducible apply i_tst)) | ((with_reducible apply i_tru)) | ((with_reducible apply i_fn)) | ((with_reducible apply i_bl)) | ((with_reducible apply i_cons)) | ((with_reducible apply i_nil)) | ((with_reducible apply i_cal)) | ((with_reducible apply i_un)) | ((with_reducible apply i_some); (first | ((with_reducible apply len_t)) | ((with_reducible apply len_l)) | ((with_reducible apply len_o)) | ((with_reducible apply len_f)) | ((with_reducible apply in_f); (rfl); (rfl)) | ((with_reducible apply in_t); (rfl); (rfl)) | ((with_reducible apply eqM); (first | (with_reducible exact eqD_ss) | (with_reducible exact eqD_ii) | (with_reducible exact eqD_bb) | ((with_reducible apply eqD_oe); (first | rfl | assumption)) | ((with_reducible apply eqD_le); (first | rfl | assumption)) | ((with_reducible apply eqD_te); (first | rfl | assumption)))) | ((with_reducible apply list1_seq); (rfl); (first | rfl | assumption)) | ((with_reducible apply tuple1_seq); (rfl); (first | rfl | assumption)) | ((with_reducible apply ix0); (first | rfl | assumption)) | ((with_reducible apply ix1); (first | rfl | assumption)) | ((with_reducible apply ix2); (first | rfl | assumption)) | ((with_reducible apply addLO); (simp only [List.length_cons, List.length_nil, List.length_append, List.length_map, sizeLine_eq]; omega); (repeat (first | (with_reducible assumption) | rfl | apply sh_app | apply sh_cons))) | ((with_reducible apply addL); (simp only [List.length_cons, List.length_nil, List.length_append, List.length_map, sizeLine_eq]; omega)) | ((with_reducible apply addOO); (simp only [List.length_cons, List.length_nil, List.length_append, List.length_map, sizeLine_eq]; omega); (repeat (first | (with_reducible assumption) | rfl | apply sh_app | apply sh_cons)); (repeat (first | (with_reducible assumption) | rfl | apply sh_app | apply sh_cons))) | ((with_reducible apply addOL); (simp only [List.length_cons, List.length_nil, List.length_append, List.length_map, sizeLine_eq]; omega); (repeat (first | (with_reducible assumption) | rfl | apply sh_app | apply sh_cons))) | ((with_reducible apply str_s)) | ((with_reducible apply str_i); (omega); (omega)) | ((with_reducible apply addM2); (repeat (first | (with_reducible assumption) | exact len_nil | exact len_rep | apply len_cut | apply len_app | apply len_cons)); (repeat (first | (with_reducible assumption) | exact len_nil | exact len_rep | apply len_cut | apply len_app | apply len_cons)); (simp only [sizeLine_eq]; omega)) | ((with_reducible apply sub_ii)) | ((with_reducible apply add_ii)) | ((with_reducible apply pow_20)) | ((with_reducible apply pow_30)) | ((with_reducible apply pow_40)) | (first | (with_reducible exact eqD_ss) | (with_reducible exact eqD_ii) | (with_reducible exact eqD_bb) | ((with_reducible apply eqD_oe); (first | rfl | assumption)) | ((with_reducible apply eqD_le); (first | rfl | assumption)) | ((with_reducible apply eqD_te); (first | rfl | assumption))) | ((with_reducible apply mul_t); (omega); (omega)) | ((with_reducible apply mod_ii); (first | (with_reducible assumption) | omega | decide)) | ((with_reducible apply div_b); (first | (with_reducible assumption) | omega | decide); (first | (with_reducible assumption) | omega | decide)) | ((with_reducible apply mul_b); (omega); (omega); (omega); (omega)) | (exact ix_tup rfl (by first | rfl | assumption)) | rfl)) | ((with_reducible apply i_asg)) | ((with_reducible apply i_gname); (repeat (first | exact Put.z | apply Put.s))) | ((with_reducible apply i_not)) | ((with_reducible apply i_and)) | ((with_reducible apply i_or)) | ((with_reducible apply i_andV)) | ((with_reducible apply i_orV)) | ((with_reducible apply i_notV)) | ((with_reducible apply i_xif)) | ((with_reducible apply i_chain)) | ((with_reducible apply i_ints)) | ((with_reducible apply i_int)) | ((with_reducible apply i_call0)) | ((with_reducible apply i_call1)) | ((with_reducible apply i_lend); (repeat (first | exact At.z | apply At.s)); (repeat (first | exact Put.z | apply Put.s))) | ((with_reducible apply i_out0)) | ((with_reducible apply i_out1); (repeat (first | exact Put.z | apply Put.s))) | ((with_reducible apply i_tup)) | ((with_reducible apply i_lst)) | ((with_reducible apply i_frz)) | ((with_reducible apply i_le); (simp only [List.length_cons, List.length_nil, List.length_append, List.length_map, sizeLine_eq]; omega)) | ((with_reducible apply i_lt); (simp only [List.length_cons, List.length_nil, List.length_append, List.length_map, sizeLine_eq]; omega)) | ((with_reducible apply i_sh); (repeat (first | (with_reducible assumption) | rfl | apply sh_app | apply sh_cons))) | ((with_reducible apply i_frzO); (repeat (first | (with_reducible assumption) | rfl | apply sh_app | apply sh_cons))) | ((with_reducible apply i_do)) | ((with_reducible apply i_par)) | ((with_reducible apply i_puts); (repeat (first | exact Puts.n | exact Put.z | apply Put.s | apply Puts.c))) | ((with_reducible apply i_ixS); (repeat (first | exact At.z | apply At.s))) | ((with_reducible apply i_at); (repeat (first | exact At.z | apply At.s))) | ((with_reducible apply i_atO); (repeat (first | exact At.z | apply At.s))) | ((with_reducible apply i_put); (repeat (first | exact Put.z | apply Put.s))) | ((with_reducible apply i_lenS); (repeat (first | exact At.z | apply At.s)); (rfl)) | ((with_reducible apply i_leq); (rfl)) | ((with_reducible apply i_eqS); (repeat (first | exact At.z | apply At.s))) | ((with_reducible apply i_neS); (repeat (first | exact At.z | apply At.s))) | ((with_reducible apply i_app); (repeat (first | exact At.z | apply At.s))) | ((with_reducible apply i_sl)) | ((with_reducible apply i_oN)) | ((with_reducible apply i_oS)) | ((with_reducible apply i_setS); (repeat (first | exact At.z | apply At.s))) | ((with_reducible apply i_set); (rfl); (repeat (first | exact LSet.z | apply LSet.s)); (repeat (first | exact Put.z | apply Put.s))) | ((with_reducible apply i_iseq)) | ((with_reducible apply i_rng1)) | ((with_reducible apply i_range); (omega); (omega)) | ((with_reducible apply i_ienum)) | ((with_reducible apply i_for)) | ((with_reducible apply i_lc)) | ((with_reducible apply i_yes)) | ((with_reducible apply i_gcons)) | ((with_reducible apply i_gnil)) | ((with_reducible apply i_gtup); (rfl)) | ((with_reducible apply i_tupA)) | ((with_reducible apply i_retN)) | ((with_reducible apply i_brk)) | ((with_reducible apply i_cont)) | ((with_reducible apply i_mv); (repeat (first | exact At.z | apply At.s)); (repeat (first | exact Put.z | apply Put.s))) | ((with_reducible apply i_neP); (repeat (first | exact At.z | apply At.s)); (rfl); (first | exact eqD_oe (by first | assumption | rfl))) | ((with_reducible apply i_popP); (repeat (first | exact At.z | apply At.s)); (rfl); (rfl); (rfl); ((first | rfl | assumption)); (repeat (first | exact LSet.z | apply LSet.s)); (repeat (first | exact Put.z | apply Put.s))) | ((with_reducible apply i_B) <;> intro hb)))
  all_goals (refine ok _ _ [] rfl ⟨congrArg D.bl ?_, rfl⟩; clear ok; first | rfl | (simp_all [withinF, letF] <;> omega))
theorem pf_same : Pf F_same x__law_same [] (3 - 2) := pf_ex fun ⟨a, b⟩ h R N ok _ => by
  unfold x__law_same
  simp only [List.map_cons, List.map_nil, List.cons_append, List.nil_append, List.append_nil, List.replicate_succ, List.replicate_zero, Nat.reduceSub]
  (repeat' (first | ((with_reducible apply i_seq)) | ((with_reducible apply i_ret)) | ((with_reducible apply i_next)) | ((with_reducible apply i_ifs)) | ((with_reducible apply i_T); (first | rfl | (with_reducible assumption) | exact not_t (by with_reducible assumption) | exact not_f (by with_reducible assumption))) | ((with_reducible apply i_F); (first | rfl | (with_reducible assumption) | exact not_t (by with_reducible assumption) | exact not_f (by with_reducible assumption))) | ((with_reducible apply i_name); (repeat (first | exact At.z | apply At.s)); ((first | rfl | assumption))) | ((with_reducible apply i_C)) | ((with_reducible apply i_bin)) | ((with_reducible apply i_tst)) | ((with_reducible apply i_tru)) | ((with_reducible apply i_fn)) | ((with_reducible apply i_bl)) | ((with_reducible apply i_cons)) | ((with_reducible apply i_nil)) | ((with_reducible apply i_cal)) | ((with_reducible apply i_un)) | ((with_reducible apply i_some); (first | ((with_reducible apply len_t)) | ((with_reducible apply len_l)) | ((with_reducible apply len_o)) | ((with_reducible apply len_f)) | ((with_reducible apply in_f); (rfl); (rfl)) | ((with_reducible apply in_t); (rfl); (rfl)) | ((with_reducible apply eqM); (first | (with_reducible exact eqD_ss) | (with_reducible exact eqD_ii) | (with_reducible exact eqD_bb) | ((with_reducible apply eqD_oe); (first | rfl | assumption)) | ((with_reducible apply eqD_le); (first | rfl | assumption)) | ((with_reducible apply eqD_te); (first | rfl | assumption)))) | ((with_reducible apply list1_seq); (rfl); (first | rfl | assumption)) | ((with_reducible apply tuple1_seq); (rfl); (first | rfl | assumption)) | ((with_reducible apply ix0); (first | rfl | assumption)) | ((with_reducible apply ix1); (first | rfl | assumption)) | ((with_reducible apply ix2); (first | rfl | assumption)) | ((with_reducible apply addLO); (simp only [List.length_cons, List.length_nil, List.length_append, List.length_map, sizeLine_eq]; omega); (repeat (first | (with_reducible assumption) | rfl | apply sh_app | apply sh_cons))) | ((with_reducible apply addL); (simp only [List.length_cons, List.length_nil, List.length_append, List.length_map, sizeLine_eq]; omega)) | ((with_reducible apply addOO); (simp only [List.length_cons, List.length_nil, List.length_append, List.length_map, sizeLine_eq]; omega); (repeat (first | (with_reducible assumption) | rfl | apply sh_app | apply sh_cons)); (repeat (first | (with_reducible assumption) | rfl | apply sh_app | apply sh_cons))) | ((with_reducible apply addOL); (simp only [List.length_cons, List.length_nil, List.length_append, List.length_map, sizeLine_eq]; omega); (repeat (first | (with_reducible assumption) | rfl | apply sh_app | apply sh_cons))) | ((with_reducible apply str_s)) | ((with_reducible apply str_i); (omega); (omega)) | ((with_reducible apply addM2); (repeat (first | (with_reducible assumption) | exact len_nil | exact len_rep | apply len_cut | apply len_app | apply len_cons)); (repeat (first | (with_reducible assumption) | exact len_nil | exact len_rep | apply len_cut | apply len_app | apply len_cons)); (simp only [sizeLine_eq]; omega)) | ((with_reducible apply sub_ii)) | ((with_reducible apply add_ii)) | ((with_reducible apply pow_20)) | ((with_reducible apply pow_30)) | ((with_reducible apply pow_40)) | (first | (with_reducible exact eqD_ss) | (with_reducible exact eqD_ii) | (with_reducible exact eqD_bb) | ((with_reducible apply eqD_oe); (first | rfl | assumption)) | ((with_reducible apply eqD_le); (first | rfl | assumption)) | ((with_reducible apply eqD_te); (first | rfl | assumption))) | ((with_reducible apply mul_t); (omega); (omega)) | ((with_reducible apply mod_ii); (first | (with_reducible assumption) | omega | decide)) | ((with_reducible apply div_b); (first | (with_reducible assumption) | omega | decide); (first | (with_reducible assumption) | omega | decide)) | ((with_reducible apply mul_b); (omega); (omega); (omega); (omega)) | (exact ix_tup rfl (by first | rfl | assumption)) | rfl)) | ((with_reducible apply i_asg)) | ((with_reducible apply i_gname); (repeat (first | exact Put.z | apply Put.s))) | ((with_reducible apply i_not)) | ((with_reducible apply i_and)) | ((with_reducible apply i_or)) | ((with_reducible apply i_andV)) | ((with_reducible apply i_orV)) | ((with_reducible apply i_notV)) | ((with_reducible apply i_xif)) | ((with_reducible apply i_chain)) | ((with_reducible apply i_ints)) | ((with_reducible apply i_int)) | ((with_reducible apply i_call0)) | ((with_reducible apply i_call1)) | ((with_reducible apply i_lend); (repeat (first | exact At.z | apply At.s)); (repeat (first | exact Put.z | apply Put.s))) | ((with_reducible apply i_out0)) | ((with_reducible apply i_out1); (repeat (first | exact Put.z | apply Put.s))) | ((with_reducible apply i_tup)) | ((with_reducible apply i_lst)) | ((with_reducible apply i_frz)) | ((with_reducible apply i_le); (simp only [List.length_cons, List.length_nil, List.length_append, List.length_map, sizeLine_eq]; omega)) | ((with_reducible apply i_lt); (simp only [List.length_cons, List.length_nil, List.length_append, List.length_map, sizeLine_eq]; omega)) | ((with_reducible apply i_sh); (repeat (first | (with_reducible assumption) | rfl | apply sh_app | apply sh_cons))) | ((with_reducible apply i_frzO); (repeat (first | (with_reducible assumption) | rfl | apply sh_app | apply sh_cons))) | ((with_reducible apply i_do)) | ((with_reducible apply i_par)) | ((with_reducible apply i_puts); (repeat (first | exact Puts.n | exact Put.z | apply Put.s | apply Puts.c))) | ((with_reducible apply i_ixS); (repeat (first | exact At.z | apply At.s))) | ((with_reducible apply i_at); (repeat (first | exact At.z | apply At.s))) | ((with_reducible apply i_atO); (repeat (first | exact At.z | apply At.s))) | ((with_reducible apply i_put); (repeat (first | exact Put.z | apply Put.s))) | ((with_reducible apply i_lenS); (repeat (first | exact At.z | apply At.s)); (rfl)) | ((with_reducible apply i_leq); (rfl)) | ((with_reducible apply i_eqS); (repeat (first | exact At.z | apply At.s))) | ((with_reducible apply i_neS); (repeat (first | exact At.z | apply At.s))) | ((with_reducible apply i_app); (repeat (first | exact At.z | apply At.s))) | ((with_reducible apply i_sl)) | ((with_reducible apply i_oN)) | ((with_reducible apply i_oS)) | ((with_reducible apply i_setS); (repeat (first | exact At.z | apply At.s))) | ((with_reducible apply i_set); (rfl); (repeat (first | exact LSet.z | apply LSet.s)); (repeat (first | exact Put.z | apply Put.s))) | ((with_reducible apply i_iseq)) | ((with_reducible apply i_rng1)) | ((with_reducible apply i_range); (omega); (omega)) | ((with_reducible apply i_ienum)) | ((with_reducible apply i_for)) | ((with_reducible apply i_lc)) | ((with_reducible apply i_yes)) | ((with_reducible apply i_gcons)) | ((with_reducible apply i_gnil)) | ((with_reducible apply i_gtup); (rfl)) | ((with_reducible apply i_tupA)) | ((with_reducible apply i_retN)) | ((with_reducible apply i_brk)) | ((with_reducible apply i_cont)) | ((with_reducible apply i_mv); (repeat (first | exact At.z | apply At.s)); (repeat (first | exact Put.z | apply Put.s))) | ((with_reducible apply i_neP); (repeat (first | exact At.z | apply At.s)); (rfl); (first | exact eqD_oe (by first | assumption | rfl))) | ((with_reducible apply i_popP); (repeat (first | exact At.z | apply At.s)); (rfl); (rfl); (rfl); ((first | rfl | assumption)); (repeat (first | exact LSet.z | apply LSet.s)); (repeat (first | exact Put.z | apply Put.s))) | ((with_reducible apply i_B) <;> intro hb)))
  exact ok _ _ [] rfl ⟨rfl, rfl⟩
theorem ne1 : ¬ (Str.ofString "none" = Str.ofString "letter") ∧ ¬ (Str.ofString "none" = Str.ofString "pair") ∧ ¬ (Str.ofString "none" = Str.ofString "power") ∧ ¬ (Str.ofString "letter" = Str.ofString "none") ∧ ¬ (Str.ofString "letter" = Str.ofString "pair") ∧ ¬ (Str.ofString "letter" = Str.ofString "power") ∧ ¬ (Str.ofString "pair" = Str.ofString "none") ∧ ¬ (Str.ofString "pair" = Str.ofString "letter") ∧ ¬ (Str.ofString "pair" = Str.ofString "power") ∧ ¬ (Str.ofString "power" = Str.ofString "none") ∧ ¬ (Str.ofString "power" = Str.ofString "letter") ∧ ¬ (Str.ofString "power" = Str.ofString "pair") := by decide +kernel
theorem pf_is_rule : Pf F_is_rule x_is_rule [] (2 - 2) := pf_ex fun ⟨d, k⟩ h R N ok _ => by
  unfold x_is_rule
  simp only [List.map_cons, List.map_nil, List.cons_append, List.nil_append, List.append_nil, List.replicate_succ, List.replicate_zero, Nat.reduceSub]
  dsimp only at h ok
  by_cases ht : d.isTup = true
  · cases d with
    | tup xs =>
      rcases xs with _ | ⟨a, _ | ⟨b, _ | ⟨c, _ | ⟨e, r⟩⟩⟩⟩
      · (repeat' (first | ((with_reducible apply fe_is_row); ((first | rfl | assumption))) | ((with_reducible apply i_seq)) | ((with_reducible apply i_ret)) | ((with_reducible apply i_next)) | ((with_reducible apply i_ifs)) | ((with_reducible apply i_T); (first | rfl | (with_reducible assumption) | exact not_t (by with_reducible assumption) | exact not_f (by with_reducible assumption))) | ((with_reducible apply i_F); (first | rfl | (with_reducible assumption) | exact not_t (by with_reducible assumption) | exact not_f (by with_reducible assumption))) | ((with_reducible apply i_name); (repeat (first | exact At.z | apply At.s)); ((first | rfl | assumption))) | ((with_reducible apply i_C)) | ((with_reducible apply i_bin)) | ((with_reducible apply i_tst)) | ((with_reducible apply i_tru)) | ((with_reducible apply i_fn)) | ((with_reducible apply i_bl)) | ((with_reducible apply i_cons)) | ((with_reducible apply i_nil)) | ((with_reducible apply i_cal)) | ((with_reducible apply i_un)) | ((with_reducible apply i_some); (first | ((with_reducible apply len_t)) | ((with_reducible apply len_l)) | ((with_reducible apply len_o)) | ((with_reducible apply len_f)) | ((with_reducible apply in_f); (rfl); (rfl)) | ((with_reducible apply in_t); (rfl); (rfl)) | ((with_reducible apply eqM); (first | (with_reducible exact eqD_ss) | (with_reducible exact eqD_ii) | (with_reducible exact eqD_bb) | ((with_reducible apply eqD_oe); (first | rfl | assumption)) | ((with_reducible apply eqD_le); (first | rfl | assumption)) | ((with_reducible apply eqD_te); (first | rfl | assumption)))) | ((with_reducible apply list1_seq); (rfl); (first | rfl | assumption)) | ((with_reducible apply tuple1_seq); (rfl); (first | rfl | assumption)) | ((with_reducible apply ix0); (first | rfl | assumption)) | ((with_reducible apply ix1); (first | rfl | assumption)) | ((with_reducible apply ix2); (first | rfl | assumption)) | ((with_reducible apply addLO); (simp only [List.length_cons, List.length_nil, List.length_append, List.length_map, sizeLine_eq]; omega); (repeat (first | (with_reducible assumption) | rfl | apply sh_app | apply sh_cons))) | ((with_reducible apply addL); (simp only [List.length_cons, List.length_nil, List.length_append, List.length_map, sizeLine_eq]; omega)) | ((with_reducible apply addOO); (simp only [List.length_cons, List.length_nil, List.length_append, List.length_map, sizeLine_eq]; omega); (repeat (first | (with_reducible assumption) | rfl | apply sh_app | apply sh_cons)); (repeat (first | (with_reducible assumption) | rfl | apply sh_app | apply sh_cons))) | ((with_reducible apply addOL); (simp only [List.length_cons, List.length_nil, List.length_append, List.length_map, sizeLine_eq]; omega); (repeat (first | (with_reducible assumption) | rfl | apply sh_app | apply sh_cons))) | ((with_reducible apply str_s)) | ((with_reducible apply str_i); (omega); (omega)) | ((with_reducible apply addM2); (repeat (first | (with_reducible assumption) | exact len_nil | exact len_rep | apply len_cut | apply len_app | apply len_cons)); (repeat (first | (with_reducible assumption) | exact len_nil | exact len_rep | apply len_cut | apply len_app | apply len_cons)); (simp only [sizeLine_eq]; omega)) | ((with_reducible apply sub_ii)) | ((with_reducible apply add_ii)) | ((with_reducible apply pow_20)) | ((with_reducible apply pow_30)) | ((with_reducible apply pow_40)) | (first | (with_reducible exact eqD_ss) | (with_reducible exact eqD_ii) | (with_reducible exact eqD_bb) | ((with_reducible apply eqD_oe); (first | rfl | assumption)) | ((with_reducible apply eqD_le); (first | rfl | assumption)) | ((with_reducible apply eqD_te); (first | rfl | assumption))) | ((with_reducible apply mul_t); (omega); (omega)) | ((with_reducible apply mod_ii); (first | (with_reducible assumption) | omega | decide)) | ((with_reducible apply div_b); (first | (with_reducible assumption) | omega | decide); (first | (with_reducible assumption) | omega | decide)) | ((with_reducible apply mul_b); (omega); (omega); (omega); (omega)) | (exact ix_tup rfl (by first | rfl | assumption)) | rfl)) | ((with_reducible apply i_asg)) | ((with_reducible apply i_gname); (repeat (first | exact Put.z | apply Put.s))) | ((with_reducible apply i_not)) | ((with_reducible apply i_and)) | ((with_reducible apply i_or)) | ((with_reducible apply i_andV)) | ((with_reducible apply i_orV)) | ((with_reducible apply i_notV)) | ((with_reducible apply i_xif)) | ((with_reducible apply i_chain)) | ((with_reducible apply i_ints)) | ((with_reducible apply i_int)) | ((with_reducible apply i_call0)) | ((with_reducible apply i_call1)) | ((with_reducible apply i_lend); (repeat (first | exact At.z | apply At.s)); (repeat (first | exact Put.z | apply Put.s))) | ((with_reducible apply i_out0)) | ((with_reducible apply i_out1); (repeat (first | exact Put.z | apply Put.s))) | ((with_reducible apply i_tup)) | ((with_reducible apply i_lst)) | ((with_reducible apply i_frz)) | ((with_reducible apply i_le); (simp only [List.length_cons, List.length_nil, List.length_append, List.length_map, sizeLine_eq]; omega)) | ((with_reducible apply i_lt); (simp only [List.length_cons, List.length_nil, List.length_append, List.length_map, sizeLine_eq]; omega)) | ((with_reducible apply i_sh); (repeat (first | (with_reducible assumption) | rfl | apply sh_app | apply sh_cons))) | ((with_reducible apply i_frzO); (repeat (first | (with_reducible assumption) | rfl | apply sh_app | apply sh_cons))) | ((with_reducible apply i_do)) | ((with_reducible apply i_par)) | ((with_reducible apply i_puts); (repeat (first | exact Puts.n | exact Put.z | apply Put.s | apply Puts.c))) | ((with_reducible apply i_ixS); (repeat (first | exact At.z | apply At.s))) | ((with_reducible apply i_at); (repeat (first | exact At.z | apply At.s))) | ((with_reducible apply i_atO); (repeat (first | exact At.z | apply At.s))) | ((with_reducible apply i_put); (repeat (first | exact Put.z | apply Put.s))) | ((with_reducible apply i_lenS); (repeat (first | exact At.z | apply At.s)); (rfl)) | ((with_reducible apply i_leq); (rfl)) | ((with_reducible apply i_eqS); (repeat (first | exact At.z | apply At.s))) | ((with_reducible apply i_neS); (repeat (first | exact At.z | apply At.s))) | ((with_reducible apply i_app); (repeat (first | exact At.z | apply At.s))) | ((with_reducible apply i_sl)) | ((with_reducible apply i_oN)) | ((with_reducible apply i_oS)) | ((with_reducible apply i_setS); (repeat (first | exact At.z | apply At.s))) | ((with_reducible apply i_set); (rfl); (repeat (first | exact LSet.z | apply LSet.s)); (repeat (first | exact Put.z | apply Put.s))) | ((with_reducible apply i_iseq)) | ((with_reducible apply i_rng1)) | ((with_reducible apply i_range); (omega); (omega)) | ((with_reducible apply i_ienum)) | ((with_reducible apply i_for)) | ((with_reducible apply i_lc)) | ((with_reducible apply i_yes)) | ((with_reducible apply i_gcons)) | ((with_reducible apply i_gnil)) | ((with_reducible apply i_gtup); (rfl)) | ((with_reducible apply i_tupA)) | ((with_reducible apply i_retN)) | ((with_reducible apply i_brk)) | ((with_reducible apply i_cont)) | ((with_reducible apply i_mv); (repeat (first | exact At.z | apply At.s)); (repeat (first | exact Put.z | apply Put.s))) | ((with_reducible apply i_neP); (repeat (first | exact At.z | apply At.s)); (rfl); (first | exact eqD_oe (by first | assumption | rfl))) | ((with_reducible apply i_popP); (repeat (first | exact At.z | apply At.s)); (rfl); (rfl); (rfl); ((first | rfl | assumption)); (repeat (first | exact LSet.z | apply LSet.s)); (repeat (first | exact Put.z | apply Put.s))) | ((with_reducible apply i_B) <;> intro hb)))
        exact ok _ _ [] rfl ⟨rfl, rfl⟩
      all_goals simp only [nice, nices, Bool.and_eq_true] at h
      · have ha := nice_sh h.1
        cases a <;> (repeat' (first | ((with_reducible apply fe_is_row); ((first | rfl | assumption))) | ((with_reducible apply i_seq)) | ((with_reducible apply i_ret)) | ((with_reducible apply i_next)) | ((with_reducible apply i_ifs)) | ((with_reducible apply i_T); (first | rfl | (with_reducible assumption) | exact not_t (by with_reducible assumption) | exact not_f (by with_reducible assumption))) | ((with_reducible apply i_F); (first | rfl | (with_reducible assumption) | exact not_t (by with_reducible assumption) | exact not_f (by with_reducible assumption))) | ((with_reducible apply i_name); (repeat (first | exact At.z | apply At.s)); ((first | rfl | assumption))) | ((with_reducible apply i_C)) | ((with_reducible apply i_bin)) | ((with_reducible apply i_tst)) | ((with_reducible apply i_tru)) | ((with_reducible apply i_fn)) | ((with_reducible apply i_bl)) | ((with_reducible apply i_cons)) | ((with_reducible apply i_nil)) | ((with_reducible apply i_cal)) | ((with_reducible apply i_un)) | ((with_reducible apply i_some); (first | ((with_reducible apply len_t)) | ((with_reducible apply len_l)) | ((with_reducible apply len_o)) | ((with_reducible apply len_f)) | ((with_reducible apply in_f); (rfl); (rfl)) | ((with_reducible apply in_t); (rfl); (rfl)) | ((with_reducible apply eqM); (first | (with_reducible exact eqD_ss) | (with_reducible exact eqD_ii) | (with_reducible exact eqD_bb) | ((with_reducible apply eqD_oe); (first | rfl | assumption)) | ((with_reducible apply eqD_le); (first | rfl | assumption)) | ((with_reducible apply eqD_te); (first | rfl | assumption)))) | ((with_reducible apply list1_seq); (rfl); (first | rfl | assumption)) | ((with_reducible apply tuple1_seq); (rfl); (first | rfl | assumption)) | ((with_reducible apply ix0); (first | rfl | assumption)) | ((with_reducible apply ix1); (first | rfl | assumption)) | ((with_reducible apply ix2); (first | rfl | assumption)) | ((with_reducible apply addLO); (simp only [List.length_cons, List.length_nil, List.length_append, List.length_map, sizeLine_eq]; omega); (repeat (first | (with_reducible assumption) | rfl | apply sh_app | apply sh_cons))) | ((with_reducible apply addL); (simp only [List.length_cons, List.length_nil, List.length_append, List.length_map, sizeLine_eq]; omega)) | ((with_reducible apply addOO); (simp only [List.length_cons, List.length_nil, List.length_append, List.length_map, sizeLine_eq]; omega); (repeat (first | (with_reducible assumption) | rfl | apply sh_app | apply sh_cons)); (repeat (first | (with_reducible assumption) | rfl | apply sh_app | apply sh_cons))) | ((with_reducible apply addOL); (simp only [List.length_cons, List.length_nil, List.length_append, List.length_map, sizeLine_eq]; omega); (repeat (first | (with_reducible assumption) | rfl | apply sh_app | apply sh_cons))) | ((with_reducible apply str_s)) | ((with_reducible apply str_i); (omega); (omega)) | ((with_reducible apply addM2); (repeat (first | (with_reducible assumption) | exact len_nil | exact len_rep | apply len_cut | apply len_app | apply len_cons)); (repeat (first | (with_reducible assumption) | exact len_nil | exact len_rep | apply len_cut | apply len_app | apply len_cons)); (simp only [sizeLine_eq]; omega)) | ((with_reducible apply sub_ii)) | ((with_reducible apply add_ii)) | ((with_reducible apply pow_20)) | ((with_reducible apply pow_30)) | ((with_reducible apply pow_40)) | (first | (with_reducible exact eqD_ss) | (with_reducible exact eqD_ii) | (with_reducible exact eqD_bb) | ((with_reducible apply eqD_oe); (first | rfl | assumption)) | ((with_reducible apply eqD_le); (first | rfl | assumption)) | ((with_reducible apply eqD_te); (first | rfl | assumption))) | ((with_reducible apply mul_t); (omega); (omega)) | ((with_reducible apply mod_ii); (first | (with_reducible assumption) | omega | decide)) | ((with_reducible apply div_b); (first | (with_reducible assumption) | omega | decide); (first | (with_reducible assumption) | omega | decide)) | ((with_reducible apply mul_b); (omega); (omega); (omega); (omega)) | (exact ix_tup rfl (by first | rfl | assumption)) | rfl)) | ((with_reducible apply i_asg)) | ((with_reducible apply i_gname); (repeat (first | exact Put.z | apply Put.s))) | ((with_reducible apply i_not)) | ((with_reducible apply i_and)) | ((with_reducible apply i_or)) | ((with_reducible apply i_andV)) | ((with_reducible apply i_orV)) | ((with_reducible apply i_notV)) | ((with_reducible apply i_xif)) | ((with_reducible apply i_chain)) | ((with_reducible apply i_ints)) | ((with_reducible apply i_int)) | ((with_reducible apply i_call0)) | ((with_reducible apply i_call1)) | ((with_reducible apply i_lend); (repeat (first | exact At.z | apply At.s)); (repeat (first | exact Put.z | apply Put.s))) | ((with_reducible apply i_out0)) | ((with_reducible apply i_out1); (repeat (first | exact Put.z | apply Put.s))) | ((with_reducible apply i_tup)) | ((with_reducible apply i_lst)) | ((with_reducible apply i_frz)) | ((with_reducible apply i_le); (simp only [List.length_cons, List.length_nil, List.length_append, List.length_map, sizeLine_eq]; omega)) | ((with_reducible apply i_lt); (simp only [List.length_cons, List.length_nil, List.length_append, List.length_map, sizeLine_eq]; omega)) | ((with_reducible apply i_sh); (repeat (first | (with_reducible assumption) | rfl | apply sh_app | apply sh_cons))) | ((with_reducible apply i_frzO); (repeat (first | (with_reducible assumption) | rfl | apply sh_app | apply sh_cons))) | ((with_reducible apply i_do)) | ((with_reducible apply i_par)) | ((with_reducible apply i_puts); (repeat (first | exact Puts.n | exact Put.z | apply Put.s | apply Puts.c))) | ((with_reducible apply i_ixS); (repeat (first | exact At.z | apply At.s))) | ((with_reducible apply i_at); (repeat (first | exact At.z | apply At.s))) | ((with_reducible apply i_atO); (repeat (first | exact At.z | apply At.s))) | ((with_reducible apply i_put); (repeat (first | exact Put.z | apply Put.s))) | ((with_reducible apply i_lenS); (repeat (first | exact At.z | apply At.s)); (rfl)) | ((with_reducible apply i_leq); (rfl)) | ((with_reducible apply i_eqS); (repeat (first | exact At.z | apply At.s))) | ((with_reducible apply i_neS); (repeat (first | exact At.z | apply At.s))) | ((with_reducible apply i_app); (repeat (first | exact At.z | apply At.s))) | ((with_reducible apply i_sl)) | ((with_reducible apply i_oN)) | ((with_reducible apply i_oS)) | ((with_reducible apply i_setS); (repeat (first | exact At.z | apply At.s))) | ((with_reducible apply i_set); (rfl); (repeat (first | exact LSet.z | apply LSet.s)); (repeat (first | exact Put.z | apply Put.s))) | ((with_reducible apply i_iseq)) | ((with_reducible apply i_rng1)) | ((with_reducible apply i_range); (omega); (omega)) | ((with_reducible apply i_ienum)) | ((with_reducible apply i_for)) | ((with_reducible apply i_lc)) | ((with_reducible apply i_yes)) | ((with_reducible apply i_gcons)) | ((with_reducible apply i_gnil)) | ((with_reducible apply i_gtup); (rfl)) | ((with_reducible apply i_tupA)) | ((with_reducible apply i_retN)) | ((with_reducible apply i_brk)) | ((with_reducible apply i_cont)) | ((with_reducible apply i_mv); (repeat (first | exact At.z | apply At.s)); (repeat (first | exact Put.z | apply Put.s))) | ((with_reducible apply i_neP); (repeat (first | exact At.z | apply At.s)); (rfl); (first | exact eqD_oe (by first | assumption | rfl))) | ((with_reducible apply i_popP); (repeat (first | exact At.z | apply At.s)); (rfl); (rfl); (rfl); ((first | rfl | assumption)); (repeat (first | exact LSet.z | apply LSet.s)); (repeat (first | exact Put.z | apply Put.s))) | ((with_reducible apply i_B) <;> intro hb)))
        all_goals (refine ok _ _ [] rfl ⟨congrArg D.bl ?_, rfl⟩; clear ok; first | rfl | (simp_all [ruleF, ruleL, isS, bigF, ne1]))
      · have ha := nice_sh h.1
        have hb := nice_sh h.2.1
        cases a <;> (repeat' (first | ((with_reducible apply fe_is_row); ((first | rfl | assumption))) | ((with_reducible apply fe_is_letter); ((first | rfl | assumption))) | ((with_reducible apply i_seq)) | ((with_reducible apply i_ret)) | ((with_reducible apply i_next)) | ((with_reducible apply i_ifs)) | ((with_reducible apply i_T); (first | rfl | (with_reducible assumption) | exact not_t (by with_reducible assumption) | exact not_f (by with_reducible assumption))) | ((with_reducible apply i_F); (first | rfl | (with_reducible assumption) | exact not_t (by with_reducible assumption) | exact not_f (by with_reducible assumption))) | ((with_reducible apply i_name); (repeat (first | exact At.z | apply At.s)); ((first | rfl | assumption))) | ((with_reducible apply i_C)) | ((with_reducible apply i_bin)) | ((with_reducible apply i_tst)) | ((with_reducible apply i_tru)) | ((with_reducible apply i_fn)) | ((with_reducible apply i_bl)) | ((with_reducible apply i_cons)) | ((with_reducible apply i_nil)) | ((with_reducible apply i_cal)) | ((with_reducible apply i_un)) | ((with_reducible apply i_some); (first | ((with_reducible apply len_t)) | ((with_reducible apply len_l)) | ((with_reducible apply len_o)) | ((with_reducible apply len_f)) | ((with_reducible apply in_f); (rfl); (rfl)) | ((with_reducible apply in_t); (rfl); (rfl)) | ((with_reducible apply eqM); (first | (with_reducible exact eqD_ss) | (with_reducible exact eqD_ii) | (with_reducible exact eqD_bb) | ((with_reducible apply eqD_oe); (first | rfl | assumption)) | ((with_reducible apply eqD_le); (first | rfl | assumption)) | ((with_reducible apply eqD_te); (first | rfl | assumption)))) | ((with_reducible apply list1_seq); (rfl); (first | rfl | assumption)) | ((with_reducible apply tuple1_seq); (rfl); (first | rfl | assumption)) | ((with_reducible apply ix0); (first | rfl | assumption)) | ((with_reducible apply ix1); (first | rfl | assumption)) | ((with_reducible apply ix2); (first | rfl | assumption)) | ((with_reducible apply addLO); (simp only [List.length_cons, List.length_nil, List.length_append, List.length_map, sizeLine_eq]; omega); (repeat (first | (with_reducible assumption) | rfl | apply sh_app | apply sh_cons))) | ((with_reducible apply addL); (simp only [List.length_cons, List.length_nil, List.length_append, List.length_map, sizeLine_eq]; omega)) | ((with_reducible apply addOO); (simp only [List.length_cons, List.length_nil, List.length_append, List.length_map, sizeLine_eq]; omega); (repeat (first | (with_reducible assumption) | rfl | apply sh_app | apply sh_cons)); (repeat (first | (with_reducible assumption) | rfl | apply sh_app | apply sh_cons))) | ((with_reducible apply addOL); (simp only [List.length_cons, List.length_nil, List.length_append, List.length_map, sizeLine_eq]; omega); (repeat (first | (with_reducible assumption) | rfl | apply sh_app | apply sh_cons))) | ((with_reducible apply str_s)) | ((with_reducible apply str_i); (omega); (omega)) | ((with_reducible apply addM2); (repeat (first | (with_reducible assumption) | exact len_nil | exact len_rep | apply len_cut | apply len_app | apply len_cons)); (repeat (first | (with_reducible assumption) | exact len_nil | exact len_rep | apply len_cut | apply len_app | apply len_cons)); (simp only [sizeLine_eq]; omega)) | ((with_reducible apply sub_ii)) | ((with_reducible apply add_ii)) | ((with_reducible apply pow_20)) | ((with_reducible apply pow_30)) | ((with_reducible apply pow_40)) | (first | (with_reducible exact eqD_ss) | (with_reducible exact eqD_ii) | (with_reducible exact eqD_bb) | ((with_reducible apply eqD_oe); (first | rfl | assumption)) | ((with_reducible apply eqD_le); (first | rfl | assumption)) | ((with_reducible apply eqD_te); (first | rfl | assumption))) | ((with_reducible apply mul_t); (omega); (omega)) | ((with_reducible apply mod_ii); (first | (with_reducible assumption) | omega | decide)) | ((with_reducible apply div_b); (first | (with_reducible assumption) | omega | decide); (first | (with_reducible assumption) | omega | decide)) | ((with_reducible apply mul_b); (omega); (omega); (omega); (omega)) | (exact ix_tup rfl (by first | rfl | assumption)) | rfl)) | ((with_reducible apply i_asg)) | ((with_reducible apply i_gname); (repeat (first | exact Put.z | apply Put.s))) | ((with_reducible apply i_not)) | ((with_reducible apply i_and)) | ((with_reducible apply i_or)) | ((with_reducible apply i_andV)) | ((with_reducible apply i_orV)) | ((with_reducible apply i_notV)) | ((with_reducible apply i_xif)) | ((with_reducible apply i_chain)) | ((with_reducible apply i_ints)) | ((with_reducible apply i_int)) | ((with_reducible apply i_call0)) | ((with_reducible apply i_call1)) | ((with_reducible apply i_lend); (repeat (first | exact At.z | apply At.s)); (repeat (first | exact Put.z | apply Put.s))) | ((with_reducible apply i_out0)) | ((with_reducible apply i_out1); (repeat (first | exact Put.z | apply Put.s))) | ((with_reducible apply i_tup)) | ((with_reducible apply i_lst)) | ((with_reducible apply i_frz)) | ((with_reducible apply i_le); (simp only [List.length_cons, List.length_nil, List.length_append, List.length_map, sizeLine_eq]; omega)) | ((with_reducible apply i_lt); (simp only [List.length_cons, List.length_nil, List.length_append, List.length_map, sizeLine_eq]; omega)) | ((with_reducible apply i_sh); (repeat (first | (with_reducible assumption) | rfl | apply sh_app | apply sh_cons))) | ((with_reducible apply i_frzO); (repeat (first | (with_reducible assumption) | rfl | apply sh_app | apply sh_cons))) | ((with_reducible apply i_do)) | ((with_reducible apply i_par)) | ((with_reducible apply i_puts); (repeat (first | exact Puts.n | exact Put.z | apply Put.s | apply Puts.c))) | ((with_reducible apply i_ixS); (repeat (first | exact At.z | apply At.s))) | ((with_reducible apply i_at); (repeat (first | exact At.z | apply At.s))) | ((with_reducible apply i_atO); (repeat (first | exact At.z | apply At.s))) | ((with_reducible apply i_put); (repeat (first | exact Put.z | apply Put.s))) | ((with_reducible apply i_lenS); (repeat (first | exact At.z | apply At.s)); (rfl)) | ((with_reducible apply i_leq); (rfl)) | ((with_reducible apply i_eqS); (repeat (first | exact At.z | apply At.s))) | ((with_reducible apply i_neS); (repeat (first | exact At.z | apply At.s))) | ((with_reducible apply i_app); (repeat (first | exact At.z | apply At.s))) | ((with_reducible apply i_sl)) | ((with_reducible apply i_oN)) | ((with_reducible apply i_oS)) | ((with_reducible apply i_setS); (repeat (first | exact At.z | apply At.s))) | ((with_reducible apply i_set); (rfl); (repeat (first | exact LSet.z | apply LSet.s)); (repeat (first | exact Put.z | apply Put.s))) | ((with_reducible apply i_iseq)) | ((with_reducible apply i_rng1)) | ((with_reducible apply i_range); (omega); (omega)) | ((with_reducible apply i_ienum)) | ((with_reducible apply i_for)) | ((with_reducible apply i_lc)) | ((with_reducible apply i_yes)) | ((with_reducible apply i_gcons)) | ((with_reducible apply i_gnil)) | ((with_reducible apply i_gtup); (rfl)) | ((with_reducible apply i_tupA)) | ((with_reducible apply i_retN)) | ((with_reducible apply i_brk)) | ((with_reducible apply i_cont)) | ((with_reducible apply i_mv); (repeat (first | exact At.z | apply At.s)); (repeat (first | exact Put.z | apply Put.s))) | ((with_reducible apply i_neP); (repeat (first | exact At.z | apply At.s)); (rfl); (first | exact eqD_oe (by first | assumption | rfl))) | ((with_reducible apply i_popP); (repeat (first | exact At.z | apply At.s)); (rfl); (rfl); (rfl); ((first | rfl | assumption)); (repeat (first | exact LSet.z | apply LSet.s)); (repeat (first | exact Put.z | apply Put.s))) | ((with_reducible apply i_B) <;> intro hb)))
        all_goals (refine ok _ _ [] rfl ⟨congrArg D.bl ?_, rfl⟩; clear ok; first | rfl | (simp_all [ruleF, ruleL, isS, bigF, ne1]))
      · have ha := nice_sh h.1
        have hb := nice_sh h.2.1
        have hc := nice_sh h.2.2.1
        cases a <;> (repeat' (first | ((with_reducible apply fe_is_row); ((first | rfl | assumption))) | ((with_reducible apply fe_is_letter); ((first | rfl | assumption))) | ((with_reducible apply fe_within); ((first | rfl | assumption))) | ((with_reducible apply fe_is_int); ((first | rfl | assumption))) | ((with_reducible apply i_seq)) | ((with_reducible apply i_ret)) | ((with_reducible apply i_next)) | ((with_reducible apply i_ifs)) | ((with_reducible apply i_T); (first | rfl | (with_reducible assumption) | exact not_t (by with_reducible assumption) | exact not_f (by with_reducible assumption))) | ((with_reducible apply i_F); (first | rfl | (with_reducible assumption) | exact not_t (by with_reducible assumption) | exact not_f (by with_reducible assumption))) | ((with_reducible apply i_name); (repeat (first | exact At.z | apply At.s)); ((first | rfl | assumption))) | ((with_reducible apply i_C)) | ((with_reducible apply i_bin)) | ((with_reducible apply i_tst)) | ((with_reducible apply i_tru)) | ((with_reducible apply i_fn)) | ((with_reducible apply i_bl)) | ((with_reducible apply i_cons)) | ((with_reducible apply i_nil)) | ((with_reducible apply i_cal)) | ((with_reducible apply i_un)) | ((with_reducible apply i_some); (first | ((with_reducible apply len_t)) | ((with_reducible apply len_l)) | ((with_reducible apply len_o)) | ((with_reducible apply len_f)) | ((with_reducible apply in_f); (rfl); (rfl)) | ((with_reducible apply in_t); (rfl); (rfl)) | ((with_reducible apply eqM); (first | (with_reducible exact eqD_ss) | (with_reducible exact eqD_ii) | (with_reducible exact eqD_bb) | ((with_reducible apply eqD_oe); (first | rfl | assumption)) | ((with_reducible apply eqD_le); (first | rfl | assumption)) | ((with_reducible apply eqD_te); (first | rfl | assumption)))) | ((with_reducible apply list1_seq); (rfl); (first | rfl | assumption)) | ((with_reducible apply tuple1_seq); (rfl); (first | rfl | assumption)) | ((with_reducible apply ix0); (first | rfl | assumption)) | ((with_reducible apply ix1); (first | rfl | assumption)) | ((with_reducible apply ix2); (first | rfl | assumption)) | ((with_reducible apply addLO); (simp only [List.length_cons, List.length_nil, List.length_append, List.length_map, sizeLine_eq]; omega); (repeat (first | (with_reducible assumption) | rfl | apply sh_app | apply sh_cons))) | ((with_reducible apply addL); (simp only [List.length_cons, List.length_nil, List.length_append, List.length_map, sizeLine_eq]; omega)) | ((with_reducible apply addOO); (simp only [List.length_cons, List.length_nil, List.length_append, List.length_map, sizeLine_eq]; omega); (repeat (first | (with_reducible assumption) | rfl | apply sh_app | apply sh_cons)); (repeat (first | (with_reducible assumption) | rfl | apply sh_app | apply sh_cons))) | ((with_reducible apply addOL); (simp only [List.length_cons, List.length_nil, List.length_append, List.length_map, sizeLine_eq]; omega); (repeat (first | (with_reducible assumption) | rfl | apply sh_app | apply sh_cons))) | ((with_reducible apply str_s)) | ((with_reducible apply str_i); (omega); (omega)) | ((with_reducible apply addM2); (repeat (first | (with_reducible assumption) | exact len_nil | exact len_rep | apply len_cut | apply len_app | apply len_cons)); (repeat (first | (with_reducible assumption) | exact len_nil | exact len_rep | apply len_cut | apply len_app | apply len_cons)); (simp only [sizeLine_eq]; omega)) | ((with_reducible apply sub_ii)) | ((with_reducible apply add_ii)) | ((with_reducible apply pow_20)) | ((with_reducible apply pow_30)) | ((with_reducible apply pow_40)) | (first | (with_reducible exact eqD_ss) | (with_reducible exact eqD_ii) | (with_reducible exact eqD_bb) | ((with_reducible apply eqD_oe); (first | rfl | assumption)) | ((with_reducible apply eqD_le); (first | rfl | assumption)) | ((with_reducible apply eqD_te); (first | rfl | assumption))) | ((with_reducible apply mul_t); (omega); (omega)) | ((with_reducible apply mod_ii); (first | (with_reducible assumption) | omega | decide)) | ((with_reducible apply div_b); (first | (with_reducible assumption) | omega | decide); (first | (with_reducible assumption) | omega | decide)) | ((with_reducible apply mul_b); (omega); (omega); (omega); (omega)) | (exact ix_tup rfl (by first | rfl | assumption)) | rfl)) | ((with_reducible apply i_asg)) | ((with_reducible apply i_gname); (repeat (first | exact Put.z | apply Put.s))) | ((with_reducible apply i_not)) | ((with_reducible apply i_and)) | ((with_reducible apply i_or)) | ((with_reducible apply i_andV)) | ((with_reducible apply i_orV)) | ((with_reducible apply i_notV)) | ((with_reducible apply i_xif)) | ((with_reducible apply i_chain)) | ((with_reducible apply i_ints)) | ((with_reducible apply i_int)) | ((with_reducible apply i_call0)) | ((with_reducible apply i_call1)) | ((with_reducible apply i_lend); (repeat (first | exact At.z | apply At.s)); (repeat (first | exact Put.z | apply Put.s))) | ((with_reducible apply i_out0)) | ((with_reducible apply i_out1); (repeat (first | exact Put.z | apply Put.s))) | ((with_reducible apply i_tup)) | ((with_reducible apply i_lst)) | ((with_reducible apply i_frz)) | ((with_reducible apply i_le); (simp only [List.length_cons, List.length_nil, List.length_append, List.length_map, sizeLine_eq]; omega)) | ((with_reducible apply i_lt); (simp only [List.length_cons, List.length_nil, List.length_append, List.length_map, sizeLine_eq]; omega)) | ((with_reducible apply i_sh); (repeat (first | (with_reducible assumption) | rfl | apply sh_app | apply sh_cons))) | ((with_reducible apply i_frzO); (repeat (first | (with_reducible assumption) | rfl | apply sh_app | apply sh_cons))) | ((with_reducible apply i_do)) | ((with_reducible apply i_par)) | ((with_reducible apply i_puts); (repeat (first | exact Puts.n | exact Put.z | apply Put.s | apply Puts.c))) | ((with_reducible apply i_ixS); (repeat (first | exact At.z | apply At.s))) | ((with_reducible apply i_at); (repeat (first | exact At.z | apply At.s))) | ((with_reducible apply i_atO); (repeat (first | exact At.z | apply At.s))) | ((with_reducible apply i_put); (repeat (first | exact Put.z | apply Put.s))) | ((with_reducible apply i_lenS); (repeat (first | exact At.z | apply At.s)); (rfl)) | ((with_reducible apply i_leq); (rfl)) | ((with_reducible apply i_eqS); (repeat (first | exact At.z | apply At.s))) | ((with_reducible apply i_neS); (repeat (first | exact At.z | apply At.s))) | ((with_reducible apply i_app); (repeat (first | exact At.z | apply At.s))) | ((with_reducible apply i_sl)) | ((with_reducible apply i_oN)) | ((with_reducible apply i_oS)) | ((with_reducible apply i_setS); (repeat (first | exact At.z | apply At.s))) | ((with_reducible apply i_set); (rfl); (repeat (first | exact LSet.z | apply LSet.s)); (repeat (first | exact Put.z | apply Put.s))) | ((with_reducible apply i_iseq)) | ((with_reducible apply i_rng1)) | ((with_reducible apply i_range); (omega); (omega)) | ((with_reducible apply i_ienum)) | ((with_reducible apply i_for)) | ((with_reducible apply i_lc)) | ((with_reducible apply i_yes)) | ((with_reducible apply i_gcons)) | ((with_reducible apply i_gnil)) | ((with_reducible apply i_gtup); (rfl)) | ((with_reducible apply i_tupA)) | ((with_reducible apply i_retN)) | ((with_reducible apply i_brk)) | ((with_reducible apply i_cont)) | ((with_reducible apply i_mv); (repeat (first | exact At.z | apply At.s)); (repeat (first | exact Put.z | apply Put.s))) | ((with_reducible apply i_neP); (repeat (first | exact At.z | apply At.s)); (rfl); (first | exact eqD_oe (by first | assumption | rfl))) | ((with_reducible apply i_popP); (repeat (first | exact At.z | apply At.s)); (rfl); (rfl); (rfl); ((first | rfl | assumption)); (repeat (first | exact LSet.z | apply LSet.s)); (repeat (first | exact Put.z | apply Put.s))) | ((with_reducible apply i_B) <;> intro hb)))
        case pos.tup.cons.cons.cons.nil.str.q.q.q.q.q.q.q.q.q.q.q.h2.q.q.q.h2.q.q.q.q.q.q.q.q.q.q.h2.q.q.q.h2.q.q.q.h1.q.q.q.h1.q.q =>
          cases c with
          | int j =>
            refine i_some rfl (ok _ _ [] rfl ⟨congrArg D.bl ?_, rfl⟩)
            clear ok
            simp_all [ruleF, ruleL, isS, bigF, ne1]
          | _ => cases hb
        all_goals (refine ok _ _ [] rfl ⟨congrArg D.bl ?_, rfl⟩; clear ok)
        case pos.tup.cons.cons.cons.nil.str.q.q.q.q.q.q.q.q.q.q.q.h2.q.q.q.h2.q.q.q.q.q.q.q.q.q.q.h2.q.q.q.h2.q.q.q.h1.q.q.q.h2 =>
          have e : bigF c = false := by cases c <;> first | rfl | cases hb
          simp_all [ruleF, ruleL, isS, ne1]
        all_goals first | rfl | (simp_all [ruleF, ruleL, isS, bigF, ne1])
      · have hr : rowF (.tup (a :: b :: c :: e :: r)) 1 3 = false := by
          simp only [rowF, List.length_cons]
          rw [Bool.and_eq_false_iff]
          right
          exact decide_eq_false (by omega)
        (repeat' (first | ((with_reducible apply fe_is_row); ((first | rfl | assumption))) | ((with_reducible apply i_seq)) | ((with_reducible apply i_ret)) | ((with_reducible apply i_next)) | ((with_reducible apply i_ifs)) | ((with_reducible apply i_T); (first | rfl | (with_reducible assumption) | exact not_t (by with_reducible assumption) | exact not_f (by with_reducible assumption))) | ((with_reducible apply i_F); (first | rfl | (with_reducible assumption) | exact not_t (by with_reducible assumption) | exact not_f (by with_reducible assumption))) | ((with_reducible apply i_name); (repeat (first | exact At.z | apply At.s)); ((first | rfl | assumption))) | ((with_reducible apply i_C)) | ((with_reducible apply i_bin)) | ((with_reducible apply i_tst)) | ((with_reducible apply i_tru)) | ((with_reducible apply i_fn)) | ((with_reducible apply i_bl)) | ((with_reducible apply i_cons)) | ((with_reducible apply i_nil)) | ((with_reducible apply i_cal)) | ((with_reducible apply i_un)) | ((with_reducible apply i_some); (first | ((with_reducible apply len_t)) | ((with_reducible apply len_l)) | ((with_reducible apply len_o)) | ((with_reducible apply len_f)) | ((with_reducible apply in_f); (rfl); (rfl)) | ((with_reducible apply in_t); (rfl); (rfl)) | ((with_reducible apply eqM); (first | (with_reducible exact eqD_ss) | (with_reducible exact eqD_ii) | (with_reducible exact eqD_bb) | ((with_reducible apply eqD_oe); (first | rfl | assumption)) | ((with_reducible apply eqD_le); (first | rfl | assumption)) | ((with_reducible apply eqD_te); (first | rfl | assumption)))) | ((with_reducible apply list1_seq); (rfl); (first | rfl | assumption)) | ((with_reducible apply tuple1_seq); (rfl); (first | rfl | assumption)) | ((with_reducible apply ix0); (first | rfl | assumption)) | ((with_reducible apply ix1); (first | rfl | assumption)) | ((with_reducible apply ix2); (first | rfl | assumption)) | ((with_reducible apply addLO); (simp only [List.length_cons, List.length_nil, List.length_append, List.length_map, sizeLine_eq]; omega); (repeat (first | (with_reducible assumption) | rfl | apply sh_app | apply sh_cons))) | ((with_reducible apply addL); (simp only [List.length_cons, List.length_nil, List.length_append, List.length_map, sizeLine_eq]; omega)) | ((with_reducible apply addOO); (simp only [List.length_cons, List.length_nil, List.length_append, List.length_map, sizeLine_eq]; omega); (repeat (first | (with_reducible assumption) | rfl | apply sh_app | apply sh_cons)); (repeat (first | (with_reducible assumption) | rfl | apply sh_app | apply sh_cons))) | ((with_reducible apply addOL); (simp only [List.length_cons, List.length_nil, List.length_append, List.length_map, sizeLine_eq]; omega); (repeat (first | (with_reducible assumption) | rfl | apply sh_app | apply sh_cons))) | ((with_reducible apply str_s)) | ((with_reducible apply str_i); (omega); (omega)) | ((with_reducible apply addM2); (repeat (first | (with_reducible assumption) | exact len_nil | exact len_rep | apply len_cut | apply len_app | apply len_cons)); (repeat (first | (with_reducible assumption) | exact len_nil | exact len_rep | apply len_cut | apply len_app | apply len_cons)); (simp only [sizeLine_eq]; omega)) | ((with_reducible apply sub_ii)) | ((with_reducible apply add_ii)) | ((with_reducible apply pow_20)) | ((with_reducible apply pow_30)) | ((with_reducible apply pow_40)) | (first | (with_reducible exact eqD_ss) | (with_reducible exact eqD_ii) | (with_reducible exact eqD_bb) | ((with_reducible apply eqD_oe); (first | rfl | assumption)) | ((with_reducible apply eqD_le); (first | rfl | assumption)) | ((with_reducible apply eqD_te); (first | rfl | assumption))) | ((with_reducible apply mul_t); (omega); (omega)) | ((with_reducible apply mod_ii); (first | (with_reducible assumption) | omega | decide)) | ((with_reducible apply div_b); (first | (with_reducible assumption) | omega | decide); (first | (with_reducible assumption) | omega | decide)) | ((with_reducible apply mul_b); (omega); (omega); (omega); (omega)) | (exact ix_tup rfl (by first | rfl | assumption)) | rfl)) | ((with_reducible apply i_asg)) | ((with_reducible apply i_gname); (repeat (first | exact Put.z | apply Put.s))) | ((with_reducible apply i_not)) | ((with_reducible apply i_and)) | ((with_reducible apply i_or)) | ((with_reducible apply i_andV)) | ((with_reducible apply i_orV)) | ((with_reducible apply i_notV)) | ((with_reducible apply i_xif)) | ((with_reducible apply i_chain)) | ((with_reducible apply i_ints)) | ((with_reducible apply i_int)) | ((with_reducible apply i_call0)) | ((with_reducible apply i_call1)) | ((with_reducible apply i_lend); (repeat (first | exact At.z | apply At.s)); (repeat (first | exact Put.z | apply Put.s))) | ((with_reducible apply i_out0)) | ((with_reducible apply i_out1); (repeat (first | exact Put.z | apply Put.s))) | ((with_reducible apply i_tup)) | ((with_reducible apply i_lst)) | ((with_reducible apply i_frz)) | ((with_reducible apply i_le); (simp only [List.length_cons, List.length_nil, List.length_append, List.length_map, sizeLine_eq]; omega)) | ((with_reducible apply i_lt); (simp only [List.length_cons, List.length_nil, List.length_append, List.length_map, sizeLine_eq]; omega)) | ((with_reducible apply i_sh); (repeat (first | (with_reducible assumption) | rfl | apply sh_app | apply sh_cons))) | ((with_reducible apply i_frzO); (repeat (first | (with_reducible assumption) | rfl | apply sh_app | apply sh_cons))) | ((with_reducible apply i_do)) | ((with_reducible apply i_par)) | ((with_reducible apply i_puts); (repeat (first | exact Puts.n | exact Put.z | apply Put.s | apply Puts.c))) | ((with_reducible apply i_ixS); (repeat (first | exact At.z | apply At.s))) | ((with_reducible apply i_at); (repeat (first | exact At.z | apply At.s))) | ((with_reducible apply i_atO); (repeat (first | exact At.z | apply At.s))) | ((with_reducible apply i_put); (repeat (first | exact Put.z | apply Put.s))) | ((with_reducible apply i_lenS); (repeat (first | exact At.z | apply At.s)); (rfl)) | ((with_reducible apply i_leq); (rfl)) | ((with_reducible apply i_eqS); (repeat (first | exact At.z | apply At.s))) | ((with_reducible apply i_neS); (repeat (first | exact At.z | apply At.s))) | ((with_reducible apply i_app); (repeat (first | exact At.z | apply At.s))) | ((with_reducible apply i_sl)) | ((with_reducible apply i_oN)) | ((with_reducible apply i_oS)) | ((with_reducible apply i_setS); (repeat (first | exact At.z | apply At.s))) | ((with_reducible apply i_set); (rfl); (repeat (first | exact LSet.z | apply LSet.s)); (repeat (first | exact Put.z | apply Put.s))) | ((with_reducible apply i_iseq)) | ((with_reducible apply i_rng1)) | ((with_reducible apply i_range); (omega); (omega)) | ((with_reducible apply i_ienum)) | ((with_reducible apply i_for)) | ((with_reducible apply i_lc)) | ((with_reducible apply i_yes)) | ((with_reducible apply i_gcons)) | ((with_reducible apply i_gnil)) | ((with_reducible apply i_gtup); (rfl)) | ((with_reducible apply i_tupA)) | ((with_reducible apply i_retN)) | ((with_reducible apply i_brk)) | ((with_reducible apply i_cont)) | ((with_reducible apply i_mv); (repeat (first | exact At.z | apply At.s)); (repeat (first | exact Put.z | apply Put.s))) | ((with_reducible apply i_neP); (repeat (first | exact At.z | apply At.s)); (rfl); (first | exact eqD_oe (by first | assumption | rfl))) | ((with_reducible apply i_popP); (repeat (first | exact At.z | apply At.s)); (rfl); (rfl); (rfl); ((first | rfl | assumption)); (repeat (first | exact LSet.z | apply LSet.s)); (repeat (first | exact Put.z | apply Put.s))) | ((with_reducible apply i_B) <;> intro hb)))
        refine ok _ _ [] rfl ⟨rfl, rfl⟩
    | _ => cases ht
  · cases d <;> (repeat' (first | ((with_reducible apply fe_is_row); ((first | rfl | assumption))) | ((with_reducible apply i_seq)) | ((with_reducible apply i_ret)) | ((with_reducible apply i_next)) | ((with_reducible apply i_ifs)) | ((with_reducible apply i_T); (first | rfl | (with_reducible assumption) | exact not_t (by with_reducible assumption) | exact not_f (by with_reducible assumption))) | ((with_reducible apply i_F); (first | rfl | (with_reducible assumption) | exact not_t (by with_reducible assumption) | exact not_f (by with_reducible assumption))) | ((with_reducible apply i_name); (repeat (first | exact At.z | apply At.s)); ((first | rfl | assumption))) | ((with_reducible apply i_C)) | ((with_reducible apply i_bin)) | ((with_reducible apply i_tst)) | ((with_reducible apply i_tru)) | ((with_reducible apply i_fn)) | ((with_reducible apply i_bl)) | ((with_reducible apply i_cons)) | ((with_reducible apply i_nil)) | ((with_reducible apply i_cal)) | ((with_reducible apply i_un)) | ((with_reducible apply i_some); (first | ((with_reducible apply len_t)) | ((with_reducible apply len_l)) | ((with_reducible apply len_o)) | ((with_reducible apply len_f)) | ((with_reducible apply in_f); (rfl); (rfl)) | ((with_reducible apply in_t); (rfl); (rfl)) | ((with_reducible apply eqM); (first | (with_reducible exact eqD_ss) | (with_reducible exact eqD_ii) | (with_reducible exact eqD_bb) | ((with_reducible apply eqD_oe); (first | rfl | assumption)) | ((with_reducible apply eqD_le); (first | rfl | assumption)) | ((with_reducible apply eqD_te); (first | rfl | assumption)))) | ((with_reducible apply list1_seq); (rfl); (first | rfl | assumption)) | ((with_reducible apply tuple1_seq); (rfl); (first | rfl | assumption)) | ((with_reducible apply ix0); (first | rfl | assumption)) | ((with_reducible apply ix1); (first | rfl | assumption)) | ((with_reducible apply ix2); (first | rfl | assumption)) | ((with_reducible apply addLO); (simp only [List.length_cons, List.length_nil, List.length_append, List.length_map, sizeLine_eq]; omega); (repeat (first | (with_reducible assumption) | rfl | apply sh_app | apply sh_cons))) | ((with_reducible apply addL); (simp only [List.length_cons, List.length_nil, List.length_append, List.length_map, sizeLine_eq]; omega)) | ((with_reducible apply addOO); (simp only [List.length_cons, List.length_nil, List.length_append, List.length_map, sizeLine_eq]; omega); (repeat (first | (with_reducible assumption) | rfl | apply sh_app | apply sh_cons)); (repeat (first | (with_reducible assumption) | rfl | apply sh_app | apply sh_cons))) | ((with_reducible apply addOL); (simp only [List.length_cons, List.length_nil, List.length_append, List.length_map, sizeLine_eq]; omega); (repeat (first | (with_reducible assumption) | rfl | apply sh_app | apply sh_cons))) | ((with_reducible apply str_s)) | ((with_reducible apply str_i); (omega); (omega)) | ((with_reducible apply addM2); (repeat (first | (with_reducible assumption) | exact len_nil | exact len_rep | apply len_cut | apply len_app | apply len_cons)); (repeat (first | (with_reducible assumption) | exact len_nil | exact len_rep | apply len_cut | apply len_app | apply len_cons)); (simp only [sizeLine_eq]; omega)) | ((with_reducible apply sub_ii)) | ((with_reducible apply add_ii)) | ((with_reducible apply pow_20)) | ((with_reducible apply pow_30)) | ((with_reducible apply pow_40)) | (first | (with_reducible exact eqD_ss) | (with_reducible exact eqD_ii) | (with_reducible exact eqD_bb) | ((with_reducible apply eqD_oe); (first | rfl | assumption)) | ((with_reducible apply eqD_le); (first | rfl | assumption)) | ((with_reducible apply eqD_te); (first | rfl | assumption))) | ((with_reducible apply mul_t); (omega); (omega)) | ((with_reducible apply mod_ii); (first | (with_reducible assumption) | omega | decide)) | ((with_reducible apply div_b); (first | (with_reducible assumption) | omega | decide); (first | (with_reducible assumption) | omega | decide)) | ((with_reducible apply mul_b); (omega); (omega); (omega); (omega)) | (exact ix_tup rfl (by first | rfl | assumption)) | rfl)) | ((with_reducible apply i_asg)) | ((with_reducible apply i_gname); (repeat (first | exact Put.z | apply Put.s))) | ((with_reducible apply i_not)) | ((with_reducible apply i_and)) | ((with_reducible apply i_or)) | ((with_reducible apply i_andV)) | ((with_reducible apply i_orV)) | ((with_reducible apply i_notV)) | ((with_reducible apply i_xif)) | ((with_reducible apply i_chain)) | ((with_reducible apply i_ints)) | ((with_reducible apply i_int)) | ((with_reducible apply i_call0)) | ((with_reducible apply i_call1)) | ((with_reducible apply i_lend); (repeat (first | exact At.z | apply At.s)); (repeat (first | exact Put.z | apply Put.s))) | ((with_reducible apply i_out0)) | ((with_reducible apply i_out1); (repeat (first | exact Put.z | apply Put.s))) | ((with_reducible apply i_tup)) | ((with_reducible apply i_lst)) | ((with_reducible apply i_frz)) | ((with_reducible apply i_le); (simp only [List.length_cons, List.length_nil, List.length_append, List.length_map, sizeLine_eq]; omega)) | ((with_reducible apply i_lt); (simp only [List.length_cons, List.length_nil, List.length_append, List.length_map, sizeLine_eq]; omega)) | ((with_reducible apply i_sh); (repeat (first | (with_reducible assumption) | rfl | apply sh_app | apply sh_cons))) | ((with_reducible apply i_frzO); (repeat (first | (with_reducible assumption) | rfl | apply sh_app | apply sh_cons))) | ((with_reducible apply i_do)) | ((with_reducible apply i_par)) | ((with_reducible apply i_puts); (repeat (first | exact Puts.n | exact Put.z | apply Put.s | apply Puts.c))) | ((with_reducible apply i_ixS); (repeat (first | exact At.z | apply At.s))) | ((with_reducible apply i_at); (repeat (first | exact At.z | apply At.s))) | ((with_reducible apply i_atO); (repeat (first | exact At.z | apply At.s))) | ((with_reducible apply i_put); (repeat (first | exact Put.z | apply Put.s))) | ((with_reducible apply i_lenS); (repeat (first | exact At.z | apply At.s)); (rfl)) | ((with_reducible apply i_leq); (rfl)) | ((with_reducible apply i_eqS); (repeat (first | exact At.z | apply At.s))) | ((with_reducible apply i_neS); (repeat (first | exact At.z | apply At.s))) | ((with_reducible apply i_app); (repeat (first | exact At.z | apply At.s))) | ((with_reducible apply i_sl)) | ((with_reducible apply i_oN)) | ((with_reducible apply i_oS)) | ((with_reducible apply i_setS); (repeat (first | exact At.z | apply At.s))) | ((with_reducible apply i_set); (rfl); (repeat (first | exact LSet.z | apply LSet.s)); (repeat (first | exact Put.z | apply Put.s))) | ((with_reducible apply i_iseq)) | ((with_reducible apply i_rng1)) | ((with_reducible apply i_range); (omega); (omega)) | ((with_reducible apply i_ienum)) | ((with_reducible apply i_for)) | ((with_reducible apply i_lc)) | ((with_reducible apply i_yes)) | ((with_reducible apply i_gcons)) | ((with_reducible apply i_gnil)) | ((with_reducible apply i_gtup); (rfl)) | ((with_reducible apply i_tupA)) | ((with_reducible apply i_retN)) | ((with_reducible apply i_brk)) | ((with_reducible apply i_cont)) | ((with_reducible apply i_mv); (repeat (first | exact At.z | apply At.s)); (repeat (first | exact Put.z | apply Put.s))) | ((with_reducible apply i_neP); (repeat (first | exact At.z | apply At.s)); (rfl); (first | exact eqD_oe (by first | assumption | rfl))) | ((with_reducible apply i_popP); (repeat (first | exact At.z | apply At.s)); (rfl); (rfl); (rfl); ((first | rfl | assumption)); (repeat (first | exact LSet.z | apply LSet.s)); (repeat (first | exact Put.z | apply Put.s))) | ((with_reducible apply i_B) <;> intro hb)))
    all_goals first | exact ok _ _ [] rfl ⟨rfl, rfl⟩ | exact absurd rfl ht
end K34

namespace BV
theorem bls_map : ∀ (bs : List Bool), D.bls (bs.map D.bl) = some bs
  | [] => rfl
  | b :: bs => by
    show (D.bls (bs.map D.bl)).map (b :: ·) = _
    rw [bls_map bs]
    rfl
end BV
namespace K34
open PySem PySem.Spec PyProof.Rows L2 BV
def rbs : Nat → List D → List Bool
  | _, [] => []
  | k, d :: ds => ruleF k d :: rbs (k + 1) ds
theorem rbs_len : ∀ (k : Nat) (ds : List D), (rbs k ds).length = ds.length
  | _, [] => rfl
  | k, d :: ds => congrArg (· + 1) (rbs_len (k + 1) ds)
theorem rbs_all : ∀ (k : Nat) (ds : List D), (rbs k ds).all id = rulesF k ds
  | _, [] => rfl
  | k, d :: ds => by
    show (ruleF k d && (rbs (k + 1) ds).all id) = _
    rw [rbs_all (k + 1) ds]
    rfl
theorem rbs_app : ∀ (k : Nat) (ds : List D) (d : D), rbs k (ds ++ [d]) = rbs k ds ++ [ruleF (k + ds.length) d]
  | _, [], _ => rfl
  | k, e :: ds, d => by
    show ruleF k e :: rbs (k + 1) (ds ++ [d]) = _
    rw [rbs_app (k + 1) ds d, List.length_cons, Nat.add_right_comm, Nat.add_assoc]
    rfl
theorem rowF_le {xs : List D} {a b : Int} (h : rowF (.tup xs) a b = true) : a ≤ xs.length ∧ (xs.length : Int) ≤ b := by
  have h' := (Bool.and_eq_true _ _ ▸ h : _ ∧ _)
  exact ⟨of_decide_eq_true h'.1, of_decide_eq_true h'.2⟩
theorem pf_is_straight : Pf F_is_straight x_is_straight [] (3 - 1) := pf_ex fun d h R N ok _ => by
  unfold x_is_straight
  simp only [List.map_cons, List.map_nil, List.cons_append, List.nil_append, List.append_nil, List.replicate_succ, List.replicate_zero, Nat.reduceSub]
  have hs := nice_sh h
  (repeat' (first | ((with_reducible apply fe_is_row); ((first | rfl | assumption))) | ((with_reducible apply i_seq)) | ((with_reducible apply i_ret)) | ((with_reducible apply i_next)) | ((with_reducible apply i_ifs)) | ((with_reducible apply i_T); (first | rfl | (with_reducible assumption) | exact not_t (by with_reducible assumption) | exact not_f (by with_reducible assumption))) | ((with_reducible apply i_F); (first | rfl | (with_reducible assumption) | exact not_t (by with_reducible assumption) | exact not_f (by with_reducible assumption))) | ((with_reducible apply i_name); (repeat (first | exact At.z | apply At.s)); ((first | rfl | assumption))) | ((with_reducible apply i_C)) | ((with_reducible apply i_bin)) | ((with_reducible apply i_tst)) | ((with_reducible apply i_tru)) | ((with_reducible apply i_fn)) | ((with_reducible apply i_bl)) | ((with_reducible apply i_cons)) | ((with_reducible apply i_nil)) | ((with_reducible apply i_cal)) | ((with_reducible apply i_un)) | ((with_reducible apply i_some); (first | ((with_reducible apply len_t)) | ((with_reducible apply len_l)) | ((with_reducible apply len_o)) | ((with_reducible apply len_f)) | ((with_reducible apply in_f); (rfl); (rfl)) | ((with_reducible apply in_t); (rfl); (rfl)) | ((with_reducible apply eqM); (first | (with_reducible exact eqD_ss) | (with_reducible exact eqD_ii) | (with_reducible exact eqD_bb) | ((with_reducible apply eqD_oe); (first | rfl | assumption)) | ((with_reducible apply eqD_le); (first | rfl | assumption)) | ((with_reducible apply eqD_te); (first | rfl | assumption)))) | ((with_reducible apply list1_seq); (rfl); (first | rfl | assumption)) | ((with_reducible apply tuple1_seq); (rfl); (first | rfl | assumption)) | ((with_reducible apply ix0); (first | rfl | assumption)) | ((with_reducible apply ix1); (first | rfl | assumption)) | ((with_reducible apply ix2); (first | rfl | assumption)) | ((with_reducible apply addLO); (simp only [List.length_cons, List.length_nil, List.length_append, List.length_map, sizeLine_eq]; omega); (repeat (first | (with_reducible assumption) | rfl | apply sh_app | apply sh_cons))) | ((with_reducible apply addL); (simp only [List.length_cons, List.length_nil, List.length_append, List.length_map, sizeLine_eq]; omega)) | ((with_reducible apply addOO); (simp only [List.length_cons, List.length_nil, List.length_append, List.length_map, sizeLine_eq]; omega); (repeat (first | (with_reducible assumption) | rfl | apply sh_app | apply sh_cons)); (repeat (first | (with_reducible assumption) | rfl | apply sh_app | apply sh_cons))) | ((with_reducible apply addOL); (simp only [List.length_cons, List.length_nil, List.length_append, List.length_map, sizeLine_eq]; omega); (repeat (first | (with_reducible assumption) | rfl | apply sh_app | apply sh_cons))) | ((with_reducible apply str_s)) | ((with_reducible apply str_i); (omega); (omega)) | ((with_reducible apply addM2); (repeat (first | (with_reducible assumption) | exact len_nil | exact len_rep | apply len_cut | apply len_app | apply len_cons)); (repeat (first | (with_reducible assumption) | exact len_nil | exact len_rep | apply len_cut | apply len_app | apply len_cons)); (simp only [sizeLine_eq]; omega)) | ((with_reducible apply sub_ii)) | ((with_reducible apply add_ii)) | ((with_reducible apply pow_20)) | ((with_reducible apply pow_30)) | ((with_reducible apply pow_40)) | (first | (with_reducible exact eqD_ss) | (with_reducible exact eqD_ii) | (with_reducible exact eqD_bb) | ((with_reducible apply eqD_oe); (first | rfl | assumption)) | ((with_reducible apply eqD_le); (first | rfl | assumption)) | ((with_reducible apply eqD_te); (first | rfl | assumption))) | ((with_reducible apply mul_t); (omega); (omega)) | ((with_reducible apply mod_ii); (first | (with_reducible assumption) | omega | decide)) | ((with_reducible apply div_b); (first | (with_reducible assumption) | omega | decide); (first | (with_reducible assumption) | omega | decide)) | ((with_reducible apply mul_b); (omega); (omega); (omega); (omega)) | (exact ix_tup rfl (by first | rfl | assumption)) | rfl)) | ((with_reducible apply i_asg)) | ((with_reducible apply i_gname); (repeat (first | exact Put.z | apply Put.s))) | ((with_reducible apply i_not)) | ((with_reducible apply i_and)) | ((with_reducible apply i_or)) | ((with_reducible apply i_andV)) | ((with_reducible apply i_orV)) | ((with_reducible apply i_notV)) | ((with_reducible apply i_xif)) | ((with_reducible apply i_chain)) | ((with_reducible apply i_ints)) | ((with_reducible apply i_int)) | ((with_reducible apply i_call0)) | ((with_reducible apply i_call1)) | ((with_reducible apply i_lend); (repeat (first | exact At.z | apply At.s)); (repeat (first | exact Put.z | apply Put.s))) | ((with_reducible apply i_out0)) | ((with_reducible apply i_out1); (repeat (first | exact Put.z | apply Put.s))) | ((with_reducible apply i_tup)) | ((with_reducible apply i_lst)) | ((with_reducible apply i_frz)) | ((with_reducible apply i_le); (simp only [List.length_cons, List.length_nil, List.length_append, List.length_map, sizeLine_eq]; omega)) | ((with_reducible apply i_lt); (simp only [List.length_cons, List.length_nil, List.length_append, List.length_map, sizeLine_eq]; omega)) | ((with_reducible apply i_sh); (repeat (first | (with_reducible assumption) | rfl | apply sh_app | apply sh_cons))) | ((with_reducible apply i_frzO); (repeat (first | (with_reducible assumption) | rfl | apply sh_app | apply sh_cons))) | ((with_reducible apply i_do)) | ((with_reducible apply i_par)) | ((with_reducible apply i_puts); (repeat (first | exact Puts.n | exact Put.z | apply Put.s | apply Puts.c))) | ((with_reducible apply i_ixS); (repeat (first | exact At.z | apply At.s))) | ((with_reducible apply i_at); (repeat (first | exact At.z | apply At.s))) | ((with_reducible apply i_atO); (repeat (first | exact At.z | apply At.s))) | ((with_reducible apply i_put); (repeat (first | exact Put.z | apply Put.s))) | ((with_reducible apply i_lenS); (repeat (first | exact At.z | apply At.s)); (rfl)) | ((with_reducible apply i_leq); (rfl)) | ((with_reducible apply i_eqS); (repeat (first | exact At.z | apply At.s))) | ((with_reducible apply i_neS); (repeat (first | exact At.z | apply At.s))) | ((with_reducible apply i_app); (repeat (first | exact At.z | apply At.s))) | ((with_reducible apply i_sl)) | ((with_reducible apply i_oN)) | ((with_reducible apply i_oS)) | ((with_reducible apply i_setS); (repeat (first | exact At.z | apply At.s))) | ((with_reducible apply i_set); (rfl); (repeat (first | exact LSet.z | apply LSet.s)); (repeat (first | exact Put.z | apply Put.s))) | ((with_reducible apply i_iseq)) | ((with_reducible apply i_rng1)) | ((with_reducible apply i_range); (omega); (omega)) | ((with_reducible apply i_ienum)) | ((with_reducible apply i_for)) | ((with_reducible apply i_lc)) | ((with_reducible apply i_yes)) | ((with_reducible apply i_gcons)) | ((with_reducible apply i_gnil)) | ((with_reducible apply i_gtup); (rfl)) | ((with_reducible apply i_tupA)) | ((with_reducible apply i_retN)) | ((with_reducible apply i_brk)) | ((with_reducible apply i_cont)) | ((with_reducible apply i_mv); (repeat (first | exact At.z | apply At.s)); (repeat (first | exact Put.z | apply Put.s))) | ((with_reducible apply i_neP); (repeat (first | exact At.z | apply At.s)); (rfl); (first | exact eqD_oe (by first | assumption | rfl))) | ((with_reducible apply i_popP); (repeat (first | exact At.z | apply At.s)); (rfl); (rfl); (rfl); ((first | rfl | assumption)); (repeat (first | exact LSet.z | apply LSet.s)); (repeat (first | exact Put.z | apply Put.s))) | ((with_reducible apply i_B) <;> intro hb)))
  · cases d with
    | tup xs =>
      have hl := (rowF_le hb).2
      have h1 := (rowF_le hb).1
      refine ⟨_, xs, rfl, rfl, nices_sh h, fun k acc ρ => acc = (rbs 0 (xs.take k)).map D.bl ∧ ρ = [some (.tup xs), none, none], ⟨rfl, rfl⟩, ?_, ?_⟩
      · rintro k z acc _ hz ⟨rfl, rfl⟩
        obtain ⟨d, hd, rfl⟩ := enumD_get hz
        rw [Nat.zero_add]
        have hn := nices_get h hd
        have hs := nice_sh hn
        (repeat' (first | ((with_reducible apply fe_is_rule); (assumption)) | ((with_reducible apply i_seq)) | ((with_reducible apply i_ret)) | ((with_reducible apply i_next)) | ((with_reducible apply i_ifs)) | ((with_reducible apply i_T); (first | rfl | (with_reducible assumption) | exact not_t (by with_reducible assumption) | exact not_f (by with_reducible assumption))) | ((with_reducible apply i_F); (first | rfl | (with_reducible assumption) | exact not_t (by with_reducible assumption) | exact not_f (by with_reducible assumption))) | ((with_reducible apply i_name); (repeat (first | exact At.z | apply At.s)); ((first | rfl | assumption))) | ((with_reducible apply i_C)) | ((with_reducible apply i_bin)) | ((with_reducible apply i_tst)) | ((with_reducible apply i_tru)) | ((with_reducible apply i_fn)) | ((with_reducible apply i_bl)) | ((with_reducible apply i_cons)) | ((with_reducible apply i_nil)) | ((with_reducible apply i_cal)) | ((with_reducible apply i_un)) | ((with_reducible apply i_some); (first | ((with_reducible apply len_t)) | ((with_reducible apply len_l)) | ((with_reducible apply len_o)) | ((with_reducible apply len_f)) | ((with_reducible apply in_f); (rfl); (rfl)) | ((with_reducible apply in_t); (rfl); (rfl)) | ((with_reducible apply eqM); (first | (with_reducible exact eqD_ss) | (with_reducible exact eqD_ii) | (with_reducible exact eqD_bb) | ((with_reducible apply eqD_oe); (first | rfl | assumption)) | ((with_reducible apply eqD_le); (first | rfl | assumption)) | ((with_reducible apply eqD_te); (first | rfl | assumption)))) | ((with_reducible apply list1_seq); (rfl); (first | rfl | assumption)) | ((with_reducible apply tuple1_seq); (rfl); (first | rfl | assumption)) | ((with_reducible apply ix0); (first | rfl | assumption)) | ((with_reducible apply ix1); (first | rfl | assumption)) | ((with_reducible apply ix2); (first | rfl | assumption)) | ((with_reducible apply addLO); (simp only [List.length_cons, List.length_nil, List.length_append, List.length_map, sizeLine_eq]; omega); (repeat (first | (with_reducible assumption) | rfl | apply sh_app | apply sh_cons))) | ((with_reducible apply addL); (simp only [List.length_cons, List.length_nil, List.length_append, List.length_map, sizeLine_eq]; omega)) | ((with_reducible apply addOO); (simp only [List.length_cons, List.length_nil, List.length_append, List.length_map, sizeLine_eq]; omega); (repeat (first | (with_reducible assumption) | rfl | apply sh_app | apply sh_cons)); (repeat (first | (with_reducible assumption) | rfl | apply sh_app | apply sh_cons))) | ((with_reducible apply addOL); (simp only [List.length_cons, List.length_nil, List.length_append, List.length_map, sizeLine_eq]; omega); (repeat (first | (with_reducible assumption) | rfl | apply sh_app | apply sh_cons))) | ((with_reducible apply str_s)) | ((with_reducible apply str_i); (omega); (omega)) | ((with_reducible apply addM2); (repeat (first | (with_reducible assumption) | exact len_nil | exact len_rep | apply len_cut | apply len_app | apply len_cons)); (repeat (first | (with_reducible assumption) | exact len_nil | exact len_rep | apply len_cut | apply len_app | apply len_cons)); (simp only [sizeLine_eq]; omega)) | ((with_reducible apply sub_ii)) | ((with_reducible apply add_ii)) | ((with_reducible apply pow_20)) | ((with_reducible apply pow_30)) | ((with_reducible apply pow_40)) | (first | (with_reducible exact eqD_ss) | (with_reducible exact eqD_ii) | (with_reducible exact eqD_bb) | ((with_reducible apply eqD_oe); (first | rfl | assumption)) | ((with_reducible apply eqD_le); (first | rfl | assumption)) | ((with_reducible apply eqD_te); (first | rfl | assumption))) | ((with_reducible apply mul_t); (omega); (omega)) | ((with_reducible apply mod_ii); (first | (with_reducible assumption) | omega | decide)) | ((with_reducible apply div_b); (first | (with_reducible assumption) | omega | decide); (first | (with_reducible assumption) | omega | decide)) | ((with_reducible apply mul_b); (omega); (omega); (omega); (omega)) | (exact ix_tup rfl (by first | rfl | assumption)) | rfl)) | ((with_reducible apply i_asg)) | ((with_reducible apply i_gname); (repeat (first | exact Put.z | apply Put.s))) | ((with_reducible apply i_not)) | ((with_reducible apply i_and)) | ((with_reducible apply i_or)) | ((with_reducible apply i_andV)) | ((with_reducible apply i_orV)) | ((with_reducible apply i_notV)) | ((with_reducible apply i_xif)) | ((with_reducible apply i_chain)) | ((with_reducible apply i_ints)) | ((with_reducible apply i_int)) | ((with_reducible apply i_call0)) | ((with_reducible apply i_call1)) | ((with_reducible apply i_lend); (repeat (first | exact At.z | apply At.s)); (repeat (first | exact Put.z | apply Put.s))) | ((with_reducible apply i_out0)) | ((with_reducible apply i_out1); (repeat (first | exact Put.z | apply Put.s))) | ((with_reducible apply i_tup)) | ((with_reducible apply i_lst)) | ((with_reducible apply i_frz)) | ((with_reducible apply i_le); (simp only [List.length_cons, List.length_nil, List.length_append, List.length_map, sizeLine_eq]; omega)) | ((with_reducible apply i_lt); (simp only [List.length_cons, List.length_nil, List.length_append, List.length_map, sizeLine_eq]; omega)) | ((with_reducible apply i_sh); (repeat (first | (with_reducible assumption) | rfl | apply sh_app | apply sh_cons))) | ((with_reducible apply i_frzO); (repeat (first | (with_reducible assumption) | rfl | apply sh_app | apply sh_cons))) | ((with_reducible apply i_do)) | ((with_reducible apply i_par)) | ((with_reducible apply i_puts); (repeat (first | exact Puts.n | exact Put.z | apply Put.s | apply Puts.c))) | ((with_reducible apply i_ixS); (repeat (first | exact At.z | apply At.s))) | ((with_reducible apply i_at); (repeat (first | exact At.z | apply At.s))) | ((with_reducible apply i_atO); (repeat (first | exact At.z | apply At.s))) | ((with_reducible apply i_put); (repeat (first | exact Put.z | apply Put.s))) | ((with_reducible apply i_lenS); (repeat (first | exact At.z | apply At.s)); (rfl)) | ((with_reducible apply i_leq); (rfl)) | ((with_reducible apply i_eqS); (repeat (first | exact At.z | apply At.s))) | ((with_reducible apply i_neS); (repeat (first | exact At.z | apply At.s))) | ((with_reducible apply i_app); (repeat (first | exact At.z | apply At.s))) | ((with_reducible apply i_sl)) | ((with_reducible apply i_oN)) | ((with_reducible apply i_oS)) | ((with_reducible apply i_setS); (repeat (first | exact At.z | apply At.s))) | ((with_reducible apply i_set); (rfl); (repeat (first | exact LSet.z | apply LSet.s)); (repeat (first | exact Put.z | apply Put.s))) | ((with_reducible apply i_iseq)) | ((with_reducible apply i_rng1)) | ((with_reducible apply i_range); (omega); (omega)) | ((with_reducible apply i_ienum)) | ((with_reducible apply i_for)) | ((with_reducible apply i_lc)) | ((with_reducible apply i_yes)) | ((with_reducible apply i_gcons)) | ((with_reducible apply i_gnil)) | ((with_reducible apply i_gtup); (rfl)) | ((with_reducible apply i_tupA)) | ((with_reducible apply i_retN)) | ((with_reducible apply i_brk)) | ((with_reducible apply i_cont)) | ((with_reducible apply i_mv); (repeat (first | exact At.z | apply At.s)); (repeat (first | exact Put.z | apply Put.s))) | ((with_reducible apply i_neP); (repeat (first | exact At.z | apply At.s)); (rfl); (first | exact eqD_oe (by first | assumption | rfl))) | ((with_reducible apply i_popP); (repeat (first | exact At.z | apply At.s)); (rfl); (rfl); (rfl); ((first | rfl | assumption)); (repeat (first | exact LSet.z | apply LSet.s)); (repeat (first | exact Put.z | apply Put.s))) | ((with_reducible apply i_B) <;> intro hb)))
        have hk : k < xs.length := (List.getElem?_eq_some_iff.mp hd).1
        refine ⟨?_, ?_, rfl⟩
        · rw [List.length_map, rbs_len, List.length_take, sizeLine_eq]
          omega
        · rw [List.take_add_one, hd, Option.toList_some, rbs_app, List.map_append]
          rw [List.length_take, Nat.min_eq_left (Nat.le_of_lt hk), Nat.zero_add]
          rfl
      · rintro acc _ ⟨rfl, rfl⟩
        rw [enumD_length, List.take_length]
        refine i_some (z := .bl (rulesF 0 xs)) ?_ (ok _ _ [] rfl ⟨congrArg D.bl ?_, rfl⟩)
        · show (D.bls ((rbs 0 xs).map D.bl)).map (fun bs => D.bl (bs.all id)) = _
          rw [bls_map, Option.map_some, rbs_all]
        · show _ = (decide (1 ≤ xs.length) && decide (xs.length ≤ 4000) && rulesF 0 xs)
          rw [decide_eq_true (by omega), decide_eq_true (by omega)]
          rfl
    | _ => cases hb
  · refine ok _ _ [] rfl ⟨congrArg D.bl ?_, rfl⟩
    cases d with
    | tup xs =>
      show false = (decide (1 ≤ xs.length) && decide (xs.length ≤ 4000) && rulesF 0 xs)
      have e : (decide (1 ≤ xs.length) && decide (xs.length ≤ 4000)) = false := by
        have e : rowF (.tup xs) 1 4000 = (decide (1 ≤ (xs.length : Int)) && decide ((xs.length : Int) ≤ 4000)) := rfl
        rw [e] at hb
        rw [← hb, Bool.eq_iff_iff]
        simp
        omega
      rw [e]
      rfl
    | _ => rfl
theorem pf_cup : Pf F_cup x__law_cup [] (3 - 1) := pf_ex fun ns h R N ok _ => by
  unfold x__law_cup
  simp only [List.map_cons, List.map_nil, List.cons_append, List.nil_append, List.append_nil, List.replicate_succ, List.replicate_zero, Nat.reduceSub]
  have hi := nices_sh (ints_nices ns)
  (repeat' (first | ((with_reducible apply i_seq)) | ((with_reducible apply i_ret)) | ((with_reducible apply i_next)) | ((with_reducible apply i_ifs)) | ((with_reducible apply i_T); (first | rfl | (with_reducible assumption) | exact not_t (by with_reducible assumption) | exact not_f (by with_reducible assumption))) | ((with_reducible apply i_F); (first | rfl | (with_reducible assumption) | exact not_t (by with_reducible assumption) | exact not_f (by with_reducible assumption))) | ((with_reducible apply i_name); (repeat (first | exact At.z | apply At.s)); ((first | rfl | assumption))) | ((with_reducible apply i_C)) | ((with_reducible apply i_bin)) | ((with_reducible apply i_tst)) | ((with_reducible apply i_tru)) | ((with_reducible apply i_fn)) | ((with_reducible apply i_bl)) | ((with_reducible apply i_cons)) | ((with_reducible apply i_nil)) | ((with_reducible apply i_cal)) | ((with_reducible apply i_un)) | ((with_reducible apply i_some); (first | ((with_reducible apply len_t)) | ((with_reducible apply len_l)) | ((with_reducible apply len_o)) | ((with_reducible apply len_f)) | ((with_reducible apply in_f); (rfl); (rfl)) | ((with_reducible apply in_t); (rfl); (rfl)) | ((with_reducible apply eqM); (first | (with_reducible exact eqD_ss) | (with_reducible exact eqD_ii) | (with_reducible exact eqD_bb) | ((with_reducible apply eqD_oe); (first | rfl | assumption)) | ((with_reducible apply eqD_le); (first | rfl | assumption)) | ((with_reducible apply eqD_te); (first | rfl | assumption)))) | ((with_reducible apply list1_seq); (rfl); (first | rfl | assumption)) | ((with_reducible apply tuple1_seq); (rfl); (first | rfl | assumption)) | ((with_reducible apply ix0); (first | rfl | assumption)) | ((with_reducible apply ix1); (first | rfl | assumption)) | ((with_reducible apply ix2); (first | rfl | assumption)) | ((with_reducible apply addLO); (simp only [List.length_cons, List.length_nil, List.length_append, List.length_map, sizeLine_eq]; omega); (repeat (first | (with_reducible assumption) | rfl | apply sh_app | apply sh_cons))) | ((with_reducible apply addL); (simp only [List.length_cons, List.length_nil, List.length_append, List.length_map, sizeLine_eq]; omega)) | ((with_reducible apply addOO); (simp only [List.length_cons, List.length_nil, List.length_append, List.length_map, sizeLine_eq]; omega); (repeat (first | (with_reducible assumption) | rfl | apply sh_app | apply sh_cons)); (repeat (first | (with_reducible assumption) | rfl | apply sh_app | apply sh_cons))) | ((with_reducible apply addOL); (simp only [List.length_cons, List.length_nil, List.length_append, List.length_map, sizeLine_eq]; omega); (repeat (first | (with_reducible assumption) | rfl | apply sh_app | apply sh_cons))) | ((with_reducible apply str_s)) | ((with_reducible apply str_i); (omega); (omega)) | ((with_reducible apply addM2); (repeat (first | (with_reducible assumption) | exact len_nil | exact len_rep | apply len_cut | apply len_app | apply len_cons)); (repeat (first | (with_reducible assumption) | exact len_nil | exact len_rep | apply len_cut | apply len_app | apply len_cons)); (simp only [sizeLine_eq]; omega)) | ((with_reducible apply sub_ii)) | ((with_reducible apply add_ii)) | ((with_reducible apply pow_20)) | ((with_reducible apply pow_30)) | ((with_reducible apply pow_40)) | (first | (with_reducible exact eqD_ss) | (with_reducible exact eqD_ii) | (with_reducible exact eqD_bb) | ((with_reducible apply eqD_oe); (first | rfl | assumption)) | ((with_reducible apply eqD_le); (first | rfl | assumption)) | ((with_reducible apply eqD_te); (first | rfl | assumption))) | ((with_reducible apply mul_t); (omega); (omega)) | ((with_reducible apply mod_ii); (first | (with_reducible assumption) | omega | decide)) | ((with_reducible apply div_b); (first | (with_reducible assumption) | omega | decide); (first | (with_reducible assumption) | omega | decide)) | ((with_reducible apply mul_b); (omega); (omega); (omega); (omega)) | (exact ix_tup rfl (by first | rfl | assumption)) | rfl)) | ((with_reducible apply i_asg)) | ((with_reducible apply i_gname); (repeat (first | exact Put.z | apply Put.s))) | ((with_reducible apply i_not)) | ((with_reducible apply i_and)) | ((with_reducible apply i_or)) | ((with_reducible apply i_andV)) | ((with_reducible apply i_orV)) | ((with_reducible apply i_notV)) | ((with_reducible apply i_xif)) | ((with_reducible apply i_chain)) | ((with_reducible apply i_ints)) | ((with_reducible apply i_int)) | ((with_reducible apply i_call0)) | ((with_reducible apply i_call1)) | ((with_reducible apply i_lend); (repeat (first | exact At.z | apply At.s)); (repeat (first | exact Put.z | apply Put.s))) | ((with_reducible apply i_out0)) | ((with_reducible apply i_out1); (repeat (first | exact Put.z | apply Put.s))) | ((with_reducible apply i_tup)) | ((with_reducible apply i_lst)) | ((with_reducible apply i_frz)) | ((with_reducible apply i_le); (simp only [List.length_cons, List.length_nil, List.length_append, List.length_map, sizeLine_eq]; omega)) | ((with_reducible apply i_lt); (simp only [List.length_cons, List.length_nil, List.length_append, List.length_map, sizeLine_eq]; omega)) | ((with_reducible apply i_sh); (repeat (first | (with_reducible assumption) | rfl | apply sh_app | apply sh_cons))) | ((with_reducible apply i_frzO); (repeat (first | (with_reducible assumption) | rfl | apply sh_app | apply sh_cons))) | ((with_reducible apply i_do)) | ((with_reducible apply i_par)) | ((with_reducible apply i_puts); (repeat (first | exact Puts.n | exact Put.z | apply Put.s | apply Puts.c))) | ((with_reducible apply i_ixS); (repeat (first | exact At.z | apply At.s))) | ((with_reducible apply i_at); (repeat (first | exact At.z | apply At.s))) | ((with_reducible apply i_atO); (repeat (first | exact At.z | apply At.s))) | ((with_reducible apply i_put); (repeat (first | exact Put.z | apply Put.s))) | ((with_reducible apply i_lenS); (repeat (first | exact At.z | apply At.s)); (rfl)) | ((with_reducible apply i_leq); (rfl)) | ((with_reducible apply i_eqS); (repeat (first | exact At.z | apply At.s))) | ((with_reducible apply i_neS); (repeat (first | exact At.z | apply At.s))) | ((with_reducible apply i_app); (repeat (first | exact At.z | apply At.s))) | ((with_reducible apply i_sl)) | ((with_reducible apply i_oN)) | ((with_reducible apply i_oS)) | ((with_reducible apply i_setS); (repeat (first | exact At.z | apply At.s))) | ((with_reducible apply i_set); (rfl); (repeat (first | exact LSet.z | apply LSet.s)); (repeat (first | exact Put.z | apply Put.s))) | ((with_reducible apply i_iseq)) | ((with_reducible apply i_rng1)) | ((with_reducible apply i_range); (omega); (omega)) | ((with_reducible apply i_ienum)) | ((with_reducible apply i_for)) | ((with_reducible apply i_lc)) | ((with_reducible apply i_yes)) | ((with_reducible apply i_gcons)) | ((with_reducible apply i_gnil)) | ((with_reducible apply i_gtup); (rfl)) | ((with_reducible apply i_tupA)) | ((with_reducible apply i_retN)) | ((with_reducible apply i_brk)) | ((with_reducible apply i_cont)) | ((with_reducible apply i_mv); (repeat (first | exact At.z | apply At.s)); (repeat (first | exact Put.z | apply Put.s))) | ((with_reducible apply i_neP); (repeat (first | exact At.z | apply At.s)); (rfl); (first | exact eqD_oe (by first | assumption | rfl))) | ((with_reducible apply i_popP); (repeat (first | exact At.z | apply At.s)); (rfl); (rfl); (rfl); ((first | rfl | assumption)); (repeat (first | exact LSet.z | apply LSet.s)); (repeat (first | exact Put.z | apply Put.s))) | ((with_reducible apply i_B) <;> intro hb)))
  refine ⟨fun k ρ => ∃ b s, 0 ≤ b ∧ b < 2 ^ 31 ∧ ρ = [some (.frl (ns.map D.int)), some (.int b), s], ⟨1, _, by decide, by decide, rfl⟩, ?_, ?_⟩
  · rintro k z _ hz ⟨b, s, h1, h2, rfl⟩
    rw [List.getElem?_map] at hz
    cases hk : ns[k]? with
    | none => rw [hk] at hz; cases hz
    | some c =>
      rw [hk] at hz
      cases hz
      (repeat' (first | ((with_reducible apply i_seq)) | ((with_reducible apply i_ret)) | ((with_reducible apply i_next)) | ((with_reducible apply i_ifs)) | ((with_reducible apply i_T); (first | rfl | (with_reducible assumption) | exact not_t (by with_reducible assumption) | exact not_f (by with_reducible assumption))) | ((with_reducible apply i_F); (first | rfl | (with_reducible assumption) | exact not_t (by with_reducible assumption) | exact not_f (by with_reducible assumption))) | ((with_reducible apply i_name); (repeat (first | exact At.z | apply At.s)); ((first | rfl | assumption))) | ((with_reducible apply i_C)) | ((with_reducible apply i_bin)) | ((with_reducible apply i_tst)) | ((with_reducible apply i_tru)) | ((with_reducible apply i_fn)) | ((with_reducible apply i_bl)) | ((with_reducible apply i_cons)) | ((with_reducible apply i_nil)) | ((with_reducible apply i_cal)) | ((with_reducible apply i_un)) | ((with_reducible apply i_some); (first | ((with_reducible apply len_t)) | ((with_reducible apply len_l)) | ((with_reducible apply len_o)) | ((with_reducible apply len_f)) | ((with_reducible apply in_f); (rfl); (rfl)) | ((with_reducible apply in_t); (rfl); (rfl)) | ((with_reducible apply eqM); (first | (with_reducible exact eqD_ss) | (with_reducible exact eqD_ii) | (with_reducible exact eqD_bb) | ((with_reducible apply eqD_oe); (first | rfl | assumption)) | ((with_reducible apply eqD_le); (first | rfl | assumption)) | ((with_reducible apply eqD_te); (first | rfl | assumption)))) | ((with_reducible apply list1_seq); (rfl); (first | rfl | assumption)) | ((with_reducible apply tuple1_seq); (rfl); (first | rfl | assumption)) | ((with_reducible apply ix0); (first | rfl | assumption)) | ((with_reducible apply ix1); (first | rfl | assumption)) | ((with_reducible apply ix2); (first | rfl | assumption)) | ((with_reducible apply addLO); (simp only [List.length_cons, List.length_nil, List.length_append, List.length_map, sizeLine_eq]; omega); (repeat (first | (with_reducible assumption) | rfl | apply sh_app | apply sh_cons))) | ((with_reducible apply addL); (simp only [List.length_cons, List.length_nil, List.length_append, List.length_map, sizeLine_eq]; omega)) | ((with_reducible apply addOO); (simp only [List.length_cons, List.length_nil, List.length_append, List.length_map, sizeLine_eq]; omega); (repeat (first | (with_reducible assumption) | rfl | apply sh_app | apply sh_cons)); (repeat (first | (with_reducible assumption) | rfl | apply sh_app | apply sh_cons))) | ((with_reducible apply addOL); (simp only [List.length_cons, List.length_nil, List.length_append, List.length_map, sizeLine_eq]; omega); (repeat (first | (with_reducible assumption) | rfl | apply sh_app | apply sh_cons))) | ((with_reducible apply str_s)) | ((with_reducible apply str_i); (omega); (omega)) | ((with_reducible apply addM2); (repeat (first | (with_reducible assumption) | exact len_nil | exact len_rep | apply len_cut | apply len_app | apply len_cons)); (repeat (first | (with_reducible assumption) | exact len_nil | exact len_rep | apply len_cut | apply len_app | apply len_cons)); (simp only [sizeLine_eq]; omega)) | ((with_reducible apply sub_ii)) | ((with_reducible apply add_ii)) | ((with_reducible apply pow_20)) | ((with_reducible apply pow_30)) | ((with_reducible apply pow_40)) | (first | (with_reducible exact eqD_ss) | (with_reducible exact eqD_ii) | (with_reducible exact eqD_bb) | ((with_reducible apply eqD_oe); (first | rfl | assumption)) | ((with_reducible apply eqD_le); (first | rfl | assumption)) | ((with_reducible apply eqD_te); (first | rfl | assumption))) | ((with_reducible apply mul_t); (omega); (omega)) | ((with_reducible apply mod_ii); (first | (with_reducible assumption) | omega | decide)) | ((with_reducible apply div_b); (first | (with_reducible assumption) | omega | decide); (first | (with_reducible assumption) | omega | decide)) | ((with_reducible apply mul_b); (omega); (omega); (omega); (omega)) | (exact ix_tup rfl (by first | rfl | assumption)) | rfl)) | ((with_reducible apply i_asg)) | ((with_reducible apply i_gname); (repeat (first | exact Put.z | apply Put.s))) | ((with_reducible apply i_not)) | ((with_reducible apply i_and)) | ((with_reducible apply i_or)) | ((with_reducible apply i_andV)) | ((with_reducible apply i_orV)) | ((with_reducible apply i_notV)) | ((with_reducible apply i_xif)) | ((with_reducible apply i_chain)) | ((with_reducible apply i_ints)) | ((with_reducible apply i_int)) | ((with_reducible apply i_call0)) | ((with_reducible apply i_call1)) | ((with_reducible apply i_lend); (repeat (first | exact At.z | apply At.s)); (repeat (first | exact Put.z | apply Put.s))) | ((with_reducible apply i_out0)) | ((with_reducible apply i_out1); (repeat (first | exact Put.z | apply Put.s))) | ((with_reducible apply i_tup)) | ((with_reducible apply i_lst)) | ((with_reducible apply i_frz)) | ((with_reducible apply i_le); (simp only [List.length_cons, List.length_nil, List.length_append, List.length_map, sizeLine_eq]; omega)) | ((with_reducible apply i_lt); (simp only [List.length_cons, List.length_nil, List.length_append, List.length_map, sizeLine_eq]; omega)) | ((with_reducible apply i_sh); (repeat (first | (with_reducible assumption) | rfl | apply sh_app | apply sh_cons))) | ((with_reducible apply i_frzO); (repeat (first | (with_reducible assumption) | rfl | apply sh_app | apply sh_cons))) | ((with_reducible apply i_do)) | ((with_reducible apply i_par)) | ((with_reducible apply i_puts); (repeat (first | exact Puts.n | exact Put.z | apply Put.s | apply Puts.c))) | ((with_reducible apply i_ixS); (repeat (first | exact At.z | apply At.s))) | ((with_reducible apply i_at); (repeat (first | exact At.z | apply At.s))) | ((with_reducible apply i_atO); (repeat (first | exact At.z | apply At.s))) | ((with_reducible apply i_put); (repeat (first | exact Put.z | apply Put.s))) | ((with_reducible apply i_lenS); (repeat (first | exact At.z | apply At.s)); (rfl)) | ((with_reducible apply i_leq); (rfl)) | ((with_reducible apply i_eqS); (repeat (first | exact At.z | apply At.s))) | ((with_reducible apply i_neS); (repeat (first | exact At.z | apply At.s))) | ((with_reducible apply i_app); (repeat (first | exact At.z | apply At.s))) | ((with_reducible apply i_sl)) | ((with_reducible apply i_oN)) | ((with_reducible apply i_oS)) | ((with_reducible apply i_setS); (repeat (first | exact At.z | apply At.s))) | ((with_reducible apply i_set); (rfl); (repeat (first | exact LSet.z | apply LSet.s)); (repeat (first | exact Put.z | apply Put.s))) | ((with_reducible apply i_iseq)) | ((with_reducible apply i_rng1)) | ((with_reducible apply i_range); (omega); (omega)) | ((with_reducible apply i_ienum)) | ((with_reducible apply i_for)) | ((with_reducible apply i_lc)) | ((with_reducible apply i_yes)) | ((with_reducible apply i_gcons)) | ((with_reducible apply i_gnil)) | ((with_reducible apply i_gtup); (rfl)) | ((with_reducible apply i_tupA)) | ((with_reducible apply i_retN)) | ((with_reducible apply i_brk)) | ((with_reducible apply i_cont)) | ((with_reducible apply i_mv); (repeat (first | exact At.z | apply At.s)); (repeat (first | exact Put.z | apply Put.s))) | ((with_reducible apply i_neP); (repeat (first | exact At.z | apply At.s)); (rfl); (first | exact eqD_oe (by first | assumption | rfl))) | ((with_reducible apply i_popP); (repeat (first | exact At.z | apply At.s)); (rfl); (rfl); (rfl); ((first | rfl | assumption)); (repeat (first | exact LSet.z | apply LSet.s)); (repeat (first | exact Put.z | apply Put.s))) | ((with_reducible apply i_B) <;> intro hb)))
      refine ⟨_, _, ?_, ?_, rfl⟩ <;> omega
  · rintro _ ⟨b, s, h1, h2, rfl⟩
    (repeat' (first | ((with_reducible apply i_seq)) | ((with_reducible apply i_ret)) | ((with_reducible apply i_next)) | ((with_reducible apply i_ifs)) | ((with_reducible apply i_T); (first | rfl | (with_reducible assumption) | exact not_t (by with_reducible assumption) | exact not_f (by with_reducible assumption))) | ((with_reducible apply i_F); (first | rfl | (with_reducible assumption) | exact not_t (by with_reducible assumption) | exact not_f (by with_reducible assumption))) | ((with_reducible apply i_name); (repeat (first | exact At.z | apply At.s)); ((first | rfl | assumption))) | ((with_reducible apply i_C)) | ((with_reducible apply i_bin)) | ((with_reducible apply i_tst)) | ((with_reducible apply i_tru)) | ((with_reducible apply i_fn)) | ((with_reducible apply i_bl)) | ((with_reducible apply i_cons)) | ((with_reducible apply i_nil)) | ((with_reducible apply i_cal)) | ((with_reducible apply i_un)) | ((with_reducible apply i_some); (first | ((with_reducible apply len_t)) | ((with_reducible apply len_l)) | ((with_reducible apply len_o)) | ((with_reducible apply len_f)) | ((with_reducible apply in_f); (rfl); (rfl)) | ((with_reducible apply in_t); (rfl); (rfl)) | ((with_reducible apply eqM); (first | (with_reducible exact eqD_ss) | (with_reducible exact eqD_ii) | (with_reducible exact eqD_bb) | ((with_reducible apply eqD_oe); (first | rfl | assumption)) | ((with_reducible apply eqD_le); (first | rfl | assumption)) | ((with_reducible apply eqD_te); (first | rfl | assumption)))) | ((with_reducible apply list1_seq); (rfl); (first | rfl | assumption)) | ((with_reducible apply tuple1_seq); (rfl); (first | rfl | assumption)) | ((with_reducible apply ix0); (first | rfl | assumption)) | ((with_reducible apply ix1); (first | rfl | assumption)) | ((with_reducible apply ix2); (first | rfl | assumption)) | ((with_reducible apply addLO); (simp only [List.length_cons, List.length_nil, List.length_append, List.length_map, sizeLine_eq]; omega); (repeat (first | (with_reducible assumption) | rfl | apply sh_app | apply sh_cons))) | ((with_reducible apply addL); (simp only [List.length_cons, List.length_nil, List.length_append, List.length_map, sizeLine_eq]; omega)) | ((with_reducible apply addOO); (simp only [List.length_cons, List.length_nil, List.length_append, List.length_map, sizeLine_eq]; omega); (repeat (first | (with_reducible assumption) | rfl | apply sh_app | apply sh_cons)); (repeat (first | (with_reducible assumption) | rfl | apply sh_app | apply sh_cons))) | ((with_reducible apply addOL); (simp only [List.length_cons, List.length_nil, List.length_append, List.length_map, sizeLine_eq]; omega); (repeat (first | (with_reducible assumption) | rfl | apply sh_app | apply sh_cons))) | ((with_reducible apply str_s)) | ((with_reducible apply str_i); (omega); (omega)) | ((with_reducible apply addM2); (repeat (first | (with_reducible assumption) | exact len_nil | exact len_rep | apply len_cut | apply len_app | apply len_cons)); (repeat (first | (with_reducible assumption) | exact len_nil | exact len_rep | apply len_cut | apply len_app | apply len_cons)); (simp only [sizeLine_eq]; omega)) | ((with_reducible apply sub_ii)) | ((with_reducible apply add_ii)) | ((with_reducible apply pow_20)) | ((with_reducible apply pow_30)) | ((with_reducible apply pow_40)) | (first | (with_reducible exact eqD_ss) | (with_reducible exact eqD_ii) | (with_reducible exact eqD_bb) | ((with_reducible apply eqD_oe); (first | rfl | assumption)) | ((with_reducible apply eqD_le); (first | rfl | assumption)) | ((with_reducible apply eqD_te); (first | rfl | assumption))) | ((with_reducible apply mul_t); (omega); (omega)) | ((with_reducible apply mod_ii); (first | (with_reducible assumption) | omega | decide)) | ((with_reducible apply div_b); (first | (with_reducible assumption) | omega | decide); (first | (with_reducible assumption) | omega | decide)) | ((with_reducible apply mul_b); (omega); (omega); (omega); (omega)) | (exact ix_tup rfl (by first | rfl | assumption)) | rfl)) | ((with_reducible apply i_asg)) | ((with_reducible apply i_gname); (repeat (first | exact Put.z | apply Put.s))) | ((with_reducible apply i_not)) | ((with_reducible apply i_and)) | ((with_reducible apply i_or)) | ((with_reducible apply i_andV)) | ((with_reducible apply i_orV)) | ((with_reducible apply i_notV)) | ((with_reducible apply i_xif)) | ((with_reducible apply i_chain)) | ((with_reducible apply i_ints)) | ((with_reducible apply i_int)) | ((with_reducible apply i_call0)) | ((with_reducible apply i_call1)) | ((with_reducible apply i_lend); (repeat (first | exact At.z | apply At.s)); (repeat (first | exact Put.z | apply Put.s))) | ((with_reducible apply i_out0)) | ((with_reducible apply i_out1); (repeat (first | exact Put.z | apply Put.s))) | ((with_reducible apply i_tup)) | ((with_reducible apply i_lst)) | ((with_reducible apply i_frz)) | ((with_reducible apply i_le); (simp only [List.length_cons, List.length_nil, List.length_append, List.length_map, sizeLine_eq]; omega)) | ((with_reducible apply i_lt); (simp only [List.length_cons, List.length_nil, List.length_append, List.length_map, sizeLine_eq]; omega)) | ((with_reducible apply i_sh); (repeat (first | (with_reducible assumption) | rfl | apply sh_app | apply sh_cons))) | ((with_reducible apply i_frzO); (repeat (first | (with_reducible assumption) | rfl | apply sh_app | apply sh_cons))) | ((with_reducible apply i_do)) | ((with_reducible apply i_par)) | ((with_reducible apply i_puts); (repeat (first | exact Puts.n | exact Put.z | apply Put.s | apply Puts.c))) | ((with_reducible apply i_ixS); (repeat (first | exact At.z | apply At.s))) | ((with_reducible apply i_at); (repeat (first | exact At.z | apply At.s))) | ((with_reducible apply i_atO); (repeat (first | exact At.z | apply At.s))) | ((with_reducible apply i_put); (repeat (first | exact Put.z | apply Put.s))) | ((with_reducible apply i_lenS); (repeat (first | exact At.z | apply At.s)); (rfl)) | ((with_reducible apply i_leq); (rfl)) | ((with_reducible apply i_eqS); (repeat (first | exact At.z | apply At.s))) | ((with_reducible apply i_neS); (repeat (first | exact At.z | apply At.s))) | ((with_reducible apply i_app); (repeat (first | exact At.z | apply At.s))) | ((with_reducible apply i_sl)) | ((with_reducible apply i_oN)) | ((with_reducible apply i_oS)) | ((with_reducible apply i_setS); (repeat (first | exact At.z | apply At.s))) | ((with_reducible apply i_set); (rfl); (repeat (first | exact LSet.z | apply LSet.s)); (repeat (first | exact Put.z | apply Put.s))) | ((with_reducible apply i_iseq)) | ((with_reducible apply i_rng1)) | ((with_reducible apply i_range); (omega); (omega)) | ((with_reducible apply i_ienum)) | ((with_reducible apply i_for)) | ((with_reducible apply i_lc)) | ((with_reducible apply i_yes)) | ((with_reducible apply i_gcons)) | ((with_reducible apply i_gnil)) | ((with_reducible apply i_gtup); (rfl)) | ((with_reducible apply i_tupA)) | ((with_reducible apply i_retN)) | ((with_reducible apply i_brk)) | ((with_reducible apply i_cont)) | ((with_reducible apply i_mv); (repeat (first | exact At.z | apply At.s)); (repeat (first | exact Put.z | apply Put.s))) | ((with_reducible apply i_neP); (repeat (first | exact At.z | apply At.s)); (rfl); (first | exact eqD_oe (by first | assumption | rfl))) | ((with_reducible apply i_popP); (repeat (first | exact At.z | apply At.s)); (rfl); (rfl); (rfl); ((first | rfl | assumption)); (repeat (first | exact LSet.z | apply LSet.s)); (repeat (first | exact Put.z | apply Put.s))) | ((with_reducible apply i_B) <;> intro hb)))
    exact ok _ _ [] rfl ⟨⟨0, b, 0, ns, rfl, by decide, h1, h2, by decide, by decide⟩, rfl⟩
theorem pf_sip : Pf F_sip x__law_sip [0] (4 - 2) := pf_ex fun ⟨m, c, n⟩ h R N ok _ => by
  unfold x__law_sip
  simp only [List.map_cons, List.map_nil, List.cons_append, List.nil_append, List.append_nil, List.replicate_succ, List.replicate_zero, Nat.reduceSub]
  obtain ⟨⟨c0, b, c2, ns, rfl, p0, p1, p2, p3, p4⟩, hm, hn, hn2⟩ := h
  dsimp only at *
  have hn3 : n < 2 ^ 200 := by omega
  refine i_join (fun ρ => ∃ (c0 : Int) (ns : List Int) (s : Option D), 0 ≤ c0 ∧ ρ = [some (.own [.int c0, .int b, .int c2, .own (ns.map .int)]), some (.int n), s, none]) ?_ ?_
  · cases ns with
    | nil =>
      simp only [List.map_nil]
      have hy : lays [] = true := rfl
      (repeat' (first | ((with_reducible apply i_seq)) | ((with_reducible apply i_ret)) | ((with_reducible apply i_next)) | ((with_reducible apply i_ifs)) | ((with_reducible apply i_T); (first | rfl | (with_reducible assumption) | exact not_t (by with_reducible assumption) | exact not_f (by with_reducible assumption))) | ((with_reducible apply i_F); (first | rfl | (with_reducible assumption) | exact not_t (by with_reducible assumption) | exact not_f (by with_reducible assumption))) | ((with_reducible apply i_name); (repeat (first | exact At.z | apply At.s)); ((first | rfl | assumption))) | ((with_reducible apply i_C)) | ((with_reducible apply i_bin)) | ((with_reducible apply i_tst)) | ((with_reducible apply i_tru)) | ((with_reducible apply i_fn)) | ((with_reducible apply i_bl)) | ((with_reducible apply i_cons)) | ((with_reducible apply i_nil)) | ((with_reducible apply i_cal)) | ((with_reducible apply i_un)) | ((with_reducible apply i_some); (first | ((with_reducible apply len_t)) | ((with_reducible apply len_l)) | ((with_reducible apply len_o)) | ((with_reducible apply len_f)) | ((with_reducible apply in_f); (rfl); (rfl)) | ((with_reducible apply in_t); (rfl); (rfl)) | ((with_reducible apply eqM); (first | (with_reducible exact eqD_ss) | (with_reducible exact eqD_ii) | (with_reducible exact eqD_bb) | ((with_reducible apply eqD_oe); (first | rfl | assumption)) | ((with_reducible apply eqD_le); (first | rfl | assumption)) | ((with_reducible apply eqD_te); (first | rfl | assumption)))) | ((with_reducible apply list1_seq); (rfl); (first | rfl | assumption)) | ((with_reducible apply tuple1_seq); (rfl); (first | rfl | assumption)) | ((with_reducible apply ix0); (first | rfl | assumption)) | ((with_reducible apply ix1); (first | rfl | assumption)) | ((with_reducible apply ix2); (first | rfl | assumption)) | ((with_reducible apply addLO); (simp only [List.length_cons, List.length_nil, List.length_append, List.length_map, sizeLine_eq]; omega); (repeat (first | (with_reducible assumption) | rfl | apply sh_app | apply sh_cons))) | ((with_reducible apply addL); (simp only [List.length_cons, List.length_nil, List.length_append, List.length_map, sizeLine_eq]; omega)) | ((with_reducible apply addOO); (simp only [List.length_cons, List.length_nil, List.length_append, List.length_map, sizeLine_eq]; omega); (repeat (first | (with_reducible assumption) | rfl | apply sh_app | apply sh_cons)); (repeat (first | (with_reducible assumption) | rfl | apply sh_app | apply sh_cons))) | ((with_reducible apply addOL); (simp only [List.length_cons, List.length_nil, List.length_append, List.length_map, sizeLine_eq]; omega); (repeat (first | (with_reducible assumption) | rfl | apply sh_app | apply sh_cons))) | ((with_reducible apply str_s)) | ((with_reducible apply str_i); (omega); (omega)) | ((with_reducible apply addM2); (repeat (first | (with_reducible assumption) | exact len_nil | exact len_rep | apply len_cut | apply len_app | apply len_cons)); (repeat (first | (with_reducible assumption) | exact len_nil | exact len_rep | apply len_cut | apply len_app | apply len_cons)); (simp only [sizeLine_eq]; omega)) | ((with_reducible apply sub_ii)) | ((with_reducible apply add_ii)) | ((with_reducible apply pow_20)) | ((with_reducible apply pow_30)) | ((with_reducible apply pow_40)) | (first | (with_reducible exact eqD_ss) | (with_reducible exact eqD_ii) | (with_reducible exact eqD_bb) | ((with_reducible apply eqD_oe); (first | rfl | assumption)) | ((with_reducible apply eqD_le); (first | rfl | assumption)) | ((with_reducible apply eqD_te); (first | rfl | assumption))) | ((with_reducible apply mul_t); (omega); (omega)) | ((with_reducible apply mod_ii); (first | (with_reducible assumption) | omega | decide)) | ((with_reducible apply div_b); (first | (with_reducible assumption) | omega | decide); (first | (with_reducible assumption) | omega | decide)) | ((with_reducible apply mul_b); (omega); (omega); (omega); (omega)) | (exact ix_tup rfl (by first | rfl | assumption)) | rfl)) | ((with_reducible apply i_asg)) | ((with_reducible apply i_gname); (repeat (first | exact Put.z | apply Put.s))) | ((with_reducible apply i_not)) | ((with_reducible apply i_and)) | ((with_reducible apply i_or)) | ((with_reducible apply i_andV)) | ((with_reducible apply i_orV)) | ((with_reducible apply i_notV)) | ((with_reducible apply i_xif)) | ((with_reducible apply i_chain)) | ((with_reducible apply i_ints)) | ((with_reducible apply i_int)) | ((with_reducible apply i_call0)) | ((with_reducible apply i_call1)) | ((with_reducible apply i_lend); (repeat (first | exact At.z | apply At.s)); (repeat (first | exact Put.z | apply Put.s))) | ((with_reducible apply i_out0)) | ((with_reducible apply i_out1); (repeat (first | exact Put.z | apply Put.s))) | ((with_reducible apply i_tup)) | ((with_reducible apply i_lst)) | ((with_reducible apply i_frz)) | ((with_reducible apply i_le); (simp only [List.length_cons, List.length_nil, List.length_append, List.length_map, sizeLine_eq]; omega)) | ((with_reducible apply i_lt); (simp only [List.length_cons, List.length_nil, List.length_append, List.length_map, sizeLine_eq]; omega)) | ((with_reducible apply i_sh); (repeat (first | (with_reducible assumption) | rfl | apply sh_app | apply sh_cons))) | ((with_reducible apply i_frzO); (repeat (first | (with_reducible assumption) | rfl | apply sh_app | apply sh_cons))) | ((with_reducible apply i_do)) | ((with_reducible apply i_par)) | ((with_reducible apply i_puts); (repeat (first | exact Puts.n | exact Put.z | apply Put.s | apply Puts.c))) | ((with_reducible apply i_ixS); (repeat (first | exact At.z | apply At.s))) | ((with_reducible apply i_at); (repeat (first | exact At.z | apply At.s))) | ((with_reducible apply i_atO); (repeat (first | exact At.z | apply At.s))) | ((with_reducible apply i_put); (repeat (first | exact Put.z | apply Put.s))) | ((with_reducible apply i_lenS); (repeat (first | exact At.z | apply At.s)); (rfl)) | ((with_reducible apply i_leq); (rfl)) | ((with_reducible apply i_eqS); (repeat (first | exact At.z | apply At.s))) | ((with_reducible apply i_neS); (repeat (first | exact At.z | apply At.s))) | ((with_reducible apply i_app); (repeat (first | exact At.z | apply At.s))) | ((with_reducible apply i_sl)) | ((with_reducible apply i_oN)) | ((with_reducible apply i_oS)) | ((with_reducible apply i_setS); (repeat (first | exact At.z | apply At.s))) | ((with_reducible apply i_set); (rfl); (repeat (first | exact LSet.z | apply LSet.s)); (repeat (first | exact Put.z | apply Put.s))) | ((with_reducible apply i_iseq)) | ((with_reducible apply i_rng1)) | ((with_reducible apply i_range); (omega); (omega)) | ((with_reducible apply i_ienum)) | ((with_reducible apply i_for)) | ((with_reducible apply i_lc)) | ((with_reducible apply i_yes)) | ((with_reducible apply i_gcons)) | ((with_reducible apply i_gnil)) | ((with_reducible apply i_gtup); (rfl)) | ((with_reducible apply i_tupA)) | ((with_reducible apply i_retN)) | ((with_reducible apply i_brk)) | ((with_reducible apply i_cont)) | ((with_reducible apply i_mv); (repeat (first | exact At.z | apply At.s)); (repeat (first | exact Put.z | apply Put.s))) | ((with_reducible apply i_neP); (repeat (first | exact At.z | apply At.s)); (rfl); (first | exact eqD_oe (by first | assumption | rfl))) | ((with_reducible apply i_popP); (repeat (first | exact At.z | apply At.s)); (rfl); (rfl); (rfl); ((first | rfl | assumption)); (repeat (first | exact LSet.z | apply LSet.s)); (repeat (first | exact Put.z | apply Put.s))) | ((with_reducible apply i_B) <;> intro hb)))
      · exact ⟨c0, [], none, p0, rfl⟩
      · exact ⟨c0, [], none, p0, rfl⟩
    | cons x ns =>
      have hy := nices_lays (ints_nices (x :: ns))
      simp only [List.map_cons] at hy ⊢
      have e0 : 0 ≤ if x < 0 then -x else x := by split <;> omega
      (repeat' (first | ((with_reducible apply i_seq)) | ((with_reducible apply i_ret)) | ((with_reducible apply i_next)) | ((with_reducible apply i_ifs)) | ((with_reducible apply i_T); (first | rfl | (with_reducible assumption) | exact not_t (by with_reducible assumption) | exact not_f (by with_reducible assumption))) | ((with_reducible apply i_F); (first | rfl | (with_reducible assumption) | exact not_t (by with_reducible assumption) | exact not_f (by with_reducible assumption))) | ((with_reducible apply i_name); (repeat (first | exact At.z | apply At.s)); ((first | rfl | assumption))) | ((with_reducible apply i_C)) | ((with_reducible apply i_bin)) | ((with_reducible apply i_tst)) | ((with_reducible apply i_tru)) | ((with_reducible apply i_fn)) | ((with_reducible apply i_bl)) | ((with_reducible apply i_cons)) | ((with_reducible apply i_nil)) | ((with_reducible apply i_cal)) | ((with_reducible apply i_un)) | ((with_reducible apply i_some); (first | ((with_reducible apply len_t)) | ((with_reducible apply len_l)) | ((with_reducible apply len_o)) | ((with_reducible apply len_f)) | ((with_reducible apply in_f); (rfl); (rfl)) | ((with_reducible apply in_t); (rfl); (rfl)) | ((with_reducible apply eqM); (first | (with_reducible exact eqD_ss) | (with_reducible exact eqD_ii) | (with_reducible exact eqD_bb) | ((with_reducible apply eqD_oe); (first | rfl | assumption)) | ((with_reducible apply eqD_le); (first | rfl | assumption)) | ((with_reducible apply eqD_te); (first | rfl | assumption)))) | ((with_reducible apply list1_seq); (rfl); (first | rfl | assumption)) | ((with_reducible apply tuple1_seq); (rfl); (first | rfl | assumption)) | ((with_reducible apply ix0); (first | rfl | assumption)) | ((with_reducible apply ix1); (first | rfl | assumption)) | ((with_reducible apply ix2); (first | rfl | assumption)) | ((with_reducible apply addLO); (simp only [List.length_cons, List.length_nil, List.length_append, List.length_map, sizeLine_eq]; omega); (repeat (first | (with_reducible assumption) | rfl | apply sh_app | apply sh_cons))) | ((with_reducible apply addL); (simp only [List.length_cons, List.length_nil, List.length_append, List.length_map, sizeLine_eq]; omega)) | ((with_reducible apply addOO); (simp only [List.length_cons, List.length_nil, List.length_append, List.length_map, sizeLine_eq]; omega); (repeat (first | (with_reducible assumption) | rfl | apply sh_app | apply sh_cons)); (repeat (first | (with_reducible assumption) | rfl | apply sh_app | apply sh_cons))) | ((with_reducible apply addOL); (simp only [List.length_cons, List.length_nil, List.length_append, List.length_map, sizeLine_eq]; omega); (repeat (first | (with_reducible assumption) | rfl | apply sh_app | apply sh_cons))) | ((with_reducible apply str_s)) | ((with_reducible apply str_i); (omega); (omega)) | ((with_reducible apply addM2); (repeat (first | (with_reducible assumption) | exact len_nil | exact len_rep | apply len_cut | apply len_app | apply len_cons)); (repeat (first | (with_reducible assumption) | exact len_nil | exact len_rep | apply len_cut | apply len_app | apply len_cons)); (simp only [sizeLine_eq]; omega)) | ((with_reducible apply sub_ii)) | ((with_reducible apply add_ii)) | ((with_reducible apply pow_20)) | ((with_reducible apply pow_30)) | ((with_reducible apply pow_40)) | (first | (with_reducible exact eqD_ss) | (with_reducible exact eqD_ii) | (with_reducible exact eqD_bb) | ((with_reducible apply eqD_oe); (first | rfl | assumption)) | ((with_reducible apply eqD_le); (first | rfl | assumption)) | ((with_reducible apply eqD_te); (first | rfl | assumption))) | ((with_reducible apply mul_t); (omega); (omega)) | ((with_reducible apply mod_ii); (first | (with_reducible assumption) | omega | decide)) | ((with_reducible apply div_b); (first | (with_reducible assumption) | omega | decide); (first | (with_reducible assumption) | omega | decide)) | ((with_reducible apply mul_b); (omega); (omega); (omega); (omega)) | (exact ix_tup rfl (by first | rfl | assumption)) | rfl)) | ((with_reducible apply i_asg)) | ((with_reducible apply i_gname); (repeat (first | exact Put.z | apply Put.s))) | ((with_reducible apply i_not)) | ((with_reducible apply i_and)) | ((with_reducible apply i_or)) | ((with_reducible apply i_andV)) | ((with_reducible apply i_orV)) | ((with_reducible apply i_notV)) | ((with_reducible apply i_xif)) | ((with_reducible apply i_chain)) | ((with_reducible apply i_ints)) | ((with_reducible apply i_int)) | ((with_reducible apply i_call0)) | ((with_reducible apply i_call1)) | ((with_reducible apply i_lend); (repeat (first | exact At.z | apply At.s)); (repeat (first | exact Put.z | apply Put.s))) | ((with_reducible apply i_out0)) | ((with_reducible apply i_out1); (repeat (first | exact Put.z | apply Put.s))) | ((with_reducible apply i_tup)) | ((with_reducible apply i_lst)) | ((with_reducible apply i_frz)) | ((with_reducible apply i_le); (simp only [List.length_cons, List.length_nil, List.length_append, List.length_map, sizeLine_eq]; omega)) | ((with_reducible apply i_lt); (simp only [List.length_cons, List.length_nil, List.length_append, List.length_map, sizeLine_eq]; omega)) | ((with_reducible apply i_sh); (repeat (first | (with_reducible assumption) | rfl | apply sh_app | apply sh_cons))) | ((with_reducible apply i_frzO); (repeat (first | (with_reducible assumption) | rfl | apply sh_app | apply sh_cons))) | ((with_reducible apply i_do)) | ((with_reducible apply i_par)) | ((with_reducible apply i_puts); (repeat (first | exact Puts.n | exact Put.z | apply Put.s | apply Puts.c))) | ((with_reducible apply i_ixS); (repeat (first | exact At.z | apply At.s))) | ((with_reducible apply i_at); (repeat (first | exact At.z | apply At.s))) | ((with_reducible apply i_atO); (repeat (first | exact At.z | apply At.s))) | ((with_reducible apply i_put); (repeat (first | exact Put.z | apply Put.s))) | ((with_reducible apply i_lenS); (repeat (first | exact At.z | apply At.s)); (rfl)) | ((with_reducible apply i_leq); (rfl)) | ((with_reducible apply i_eqS); (repeat (first | exact At.z | apply At.s))) | ((with_reducible apply i_neS); (repeat (first | exact At.z | apply At.s))) | ((with_reducible apply i_app); (repeat (first | exact At.z | apply At.s))) | ((with_reducible apply i_sl)) | ((with_reducible apply i_oN)) | ((with_reducible apply i_oS)) | ((with_reducible apply i_setS); (repeat (first | exact At.z | apply At.s))) | ((with_reducible apply i_set); (rfl); (repeat (first | exact LSet.z | apply LSet.s)); (repeat (first | exact Put.z | apply Put.s))) | ((with_reducible apply i_iseq)) | ((with_reducible apply i_rng1)) | ((with_reducible apply i_range); (omega); (omega)) | ((with_reducible apply i_ienum)) | ((with_reducible apply i_for)) | ((with_reducible apply i_lc)) | ((with_reducible apply i_yes)) | ((with_reducible apply i_gcons)) | ((with_reducible apply i_gnil)) | ((with_reducible apply i_gtup); (rfl)) | ((with_reducible apply i_tupA)) | ((with_reducible apply i_retN)) | ((with_reducible apply i_brk)) | ((with_reducible apply i_cont)) | ((with_reducible apply i_mv); (repeat (first | exact At.z | apply At.s)); (repeat (first | exact Put.z | apply Put.s))) | ((with_reducible apply i_neP); (repeat (first | exact At.z | apply At.s)); (rfl); (first | exact eqD_oe (by first | assumption | rfl))) | ((with_reducible apply i_popP); (repeat (first | exact At.z | apply At.s)); (rfl); (rfl); (rfl); ((first | rfl | assumption)); (repeat (first | exact LSet.z | apply LSet.s)); (repeat (first | exact Put.z | apply Put.s))) | ((with_reducible apply i_B) <;> intro hb)))
      · exact ⟨_, ns, _, e0, rfl⟩
      · generalize (if x < 0 then -x else x) = s at *
        have hb := of_decide_eq_false hb
        rw [show (10 : Int) ^ Int.toNat 18 = 1000000000000000000 from rfl] at hb
        have h1 : s * s ≤ 1000000000000000000 * 1000000000000000000 := Int.mul_le_mul (by omega) (by omega) (by omega) (by omega)
        have h0 : 0 ≤ s * s := Int.mul_nonneg e0 e0
        (repeat' (first | ((with_reducible apply i_seq)) | ((with_reducible apply i_ret)) | ((with_reducible apply i_next)) | ((with_reducible apply i_ifs)) | ((with_reducible apply i_T); (first | rfl | (with_reducible assumption) | exact not_t (by with_reducible assumption) | exact not_f (by with_reducible assumption))) | ((with_reducible apply i_F); (first | rfl | (with_reducible assumption) | exact not_t (by with_reducible assumption) | exact not_f (by with_reducible assumption))) | ((with_reducible apply i_name); (repeat (first | exact At.z | apply At.s)); ((first | rfl | assumption))) | ((with_reducible apply i_C)) | ((with_reducible apply i_bin)) | ((with_reducible apply i_tst)) | ((with_reducible apply i_tru)) | ((with_reducible apply i_fn)) | ((with_reducible apply i_bl)) | ((with_reducible apply i_cons)) | ((with_reducible apply i_nil)) | ((with_reducible apply i_cal)) | ((with_reducible apply i_un)) | ((with_reducible apply i_some); (first | ((with_reducible apply len_t)) | ((with_reducible apply len_l)) | ((with_reducible apply len_o)) | ((with_reducible apply len_f)) | ((with_reducible apply in_f); (rfl); (rfl)) | ((with_reducible apply in_t); (rfl); (rfl)) | ((with_reducible apply eqM); (first | (with_reducible exact eqD_ss) | (with_reducible exact eqD_ii) | (with_reducible exact eqD_bb) | ((with_reducible apply eqD_oe); (first | rfl | assumption)) | ((with_reducible apply eqD_le); (first | rfl | assumption)) | ((with_reducible apply eqD_te); (first | rfl | assumption)))) | ((with_reducible apply list1_seq); (rfl); (first | rfl | assumption)) | ((with_reducible apply tuple1_seq); (rfl); (first | rfl | assumption)) | ((with_reducible apply ix0); (first | rfl | assumption)) | ((with_reducible apply ix1); (first | rfl | assumption)) | ((with_reducible apply ix2); (first | rfl | assumption)) | ((with_reducible apply addLO); (simp only [List.length_cons, List.length_nil, List.length_append, List.length_map, sizeLine_eq]; omega); (repeat (first | (with_reducible assumption) | rfl | apply sh_app | apply sh_cons))) | ((with_reducible apply addL); (simp only [List.length_cons, List.length_nil, List.length_append, List.length_map, sizeLine_eq]; omega)) | ((with_reducible apply addOO); (simp only [List.length_cons, List.length_nil, List.length_append, List.length_map, sizeLine_eq]; omega); (repeat (first | (with_reducible assumption) | rfl | apply sh_app | apply sh_cons)); (repeat (first | (with_reducible assumption) | rfl | apply sh_app | apply sh_cons))) | ((with_reducible apply addOL); (simp only [List.length_cons, List.length_nil, List.length_append, List.length_map, sizeLine_eq]; omega); (repeat (first | (with_reducible assumption) | rfl | apply sh_app | apply sh_cons))) | ((with_reducible apply str_s)) | ((with_reducible apply str_i); (omega); (omega)) | ((with_reducible apply addM2); (repeat (first | (with_reducible assumption) | exact len_nil | exact len_rep | apply len_cut | apply len_app | apply len_cons)); (repeat (first | (with_reducible assumption) | exact len_nil | exact len_rep | apply len_cut | apply len_app | apply len_cons)); (simp only [sizeLine_eq]; omega)) | ((with_reducible apply sub_ii)) | ((with_reducible apply add_ii)) | ((with_reducible apply pow_20)) | ((with_reducible apply pow_30)) | ((with_reducible apply pow_40)) | (first | (with_reducible exact eqD_ss) | (with_reducible exact eqD_ii) | (with_reducible exact eqD_bb) | ((with_reducible apply eqD_oe); (first | rfl | assumption)) | ((with_reducible apply eqD_le); (first | rfl | assumption)) | ((with_reducible apply eqD_te); (first | rfl | assumption))) | ((with_reducible apply mul_t); (omega); (omega)) | ((with_reducible apply mod_ii); (first | (with_reducible assumption) | omega | decide)) | ((with_reducible apply div_b); (first | (with_reducible assumption) | omega | decide); (first | (with_reducible assumption) | omega | decide)) | ((with_reducible apply mul_b); (omega); (omega); (omega); (omega)) | (exact ix_tup rfl (by first | rfl | assumption)) | rfl)) | ((with_reducible apply i_asg)) | ((with_reducible apply i_gname); (repeat (first | exact Put.z | apply Put.s))) | ((with_reducible apply i_not)) | ((with_reducible apply i_and)) | ((with_reducible apply i_or)) | ((with_reducible apply i_andV)) | ((with_reducible apply i_orV)) | ((with_reducible apply i_notV)) | ((with_reducible apply i_xif)) | ((with_reducible apply i_chain)) | ((with_reducible apply i_ints)) | ((with_reducible apply i_int)) | ((with_reducible apply i_call0)) | ((with_reducible apply i_call1)) | ((with_reducible apply i_lend); (repeat (first | exact At.z | apply At.s)); (repeat (first | exact Put.z | apply Put.s))) | ((with_reducible apply i_out0)) | ((with_reducible apply i_out1); (repeat (first | exact Put.z | apply Put.s))) | ((with_reducible apply i_tup)) | ((with_reducible apply i_lst)) | ((with_reducible apply i_frz)) | ((with_reducible apply i_le); (simp only [List.length_cons, List.length_nil, List.length_append, List.length_map, sizeLine_eq]; omega)) | ((with_reducible apply i_lt); (simp only [List.length_cons, List.length_nil, List.length_append, List.length_map, sizeLine_eq]; omega)) | ((with_reducible apply i_sh); (repeat (first | (with_reducible assumption) | rfl | apply sh_app | apply sh_cons))) | ((with_reducible apply i_frzO); (repeat (first | (with_reducible assumption) | rfl | apply sh_app | apply sh_cons))) | ((with_reducible apply i_do)) | ((with_reducible apply i_par)) | ((with_reducible apply i_puts); (repeat (first | exact Puts.n | exact Put.z | apply Put.s | apply Puts.c))) | ((with_reducible apply i_ixS); (repeat (first | exact At.z | apply At.s))) | ((with_reducible apply i_at); (repeat (first | exact At.z | apply At.s))) | ((with_reducible apply i_atO); (repeat (first | exact At.z | apply At.s))) | ((with_reducible apply i_put); (repeat (first | exact Put.z | apply Put.s))) | ((with_reducible apply i_lenS); (repeat (first | exact At.z | apply At.s)); (rfl)) | ((with_reducible apply i_leq); (rfl)) | ((with_reducible apply i_eqS); (repeat (first | exact At.z | apply At.s))) | ((with_reducible apply i_neS); (repeat (first | exact At.z | apply At.s))) | ((with_reducible apply i_app); (repeat (first | exact At.z | apply At.s))) | ((with_reducible apply i_sl)) | ((with_reducible apply i_oN)) | ((with_reducible apply i_oS)) | ((with_reducible apply i_setS); (repeat (first | exact At.z | apply At.s))) | ((with_reducible apply i_set); (rfl); (repeat (first | exact LSet.z | apply LSet.s)); (repeat (first | exact Put.z | apply Put.s))) | ((with_reducible apply i_iseq)) | ((with_reducible apply i_rng1)) | ((with_reducible apply i_range); (omega); (omega)) | ((with_reducible apply i_ienum)) | ((with_reducible apply i_for)) | ((with_reducible apply i_lc)) | ((with_reducible apply i_yes)) | ((with_reducible apply i_gcons)) | ((with_reducible apply i_gnil)) | ((with_reducible apply i_gtup); (rfl)) | ((with_reducible apply i_tupA)) | ((with_reducible apply i_retN)) | ((with_reducible apply i_brk)) | ((with_reducible apply i_cont)) | ((with_reducible apply i_mv); (repeat (first | exact At.z | apply At.s)); (repeat (first | exact Put.z | apply Put.s))) | ((with_reducible apply i_neP); (repeat (first | exact At.z | apply At.s)); (rfl); (first | exact eqD_oe (by first | assumption | rfl))) | ((with_reducible apply i_popP); (repeat (first | exact At.z | apply At.s)); (rfl); (rfl); (rfl); ((first | rfl | assumption)); (repeat (first | exact LSet.z | apply LSet.s)); (repeat (first | exact Put.z | apply Put.s))) | ((with_reducible apply i_B) <;> intro hb)))
        exact ⟨_, ns, _, by omega, rfl⟩
      · exact ⟨c0, x :: ns, none, p0, rfl⟩
  · rintro _ ⟨c0, ns, s, p0, rfl⟩
    have hq : (c2 + 1) * (c2 + 1) ≤ 1000000001 * 1000000001 := Int.mul_le_mul (by omega) (by omega) (by omega) (by omega)
    have hq0 : 0 ≤ (c2 + 1) * (c2 + 1) := Int.mul_nonneg (by omega) (by omega)
    have hl := Int.emod_lt_of_pos c0 hn
    have hg := Int.emod_nonneg c0 (Int.ne_of_gt hn)
    (repeat' (first | ((with_reducible apply i_seq)) | ((with_reducible apply i_ret)) | ((with_reducible apply i_next)) | ((with_reducible apply i_ifs)) | ((with_reducible apply i_T); (first | rfl | (with_reducible assumption) | exact not_t (by with_reducible assumption) | exact not_f (by with_reducible assumption))) | ((with_reducible apply i_F); (first | rfl | (with_reducible assumption) | exact not_t (by with_reducible assumption) | exact not_f (by with_reducible assumption))) | ((with_reducible apply i_name); (repeat (first | exact At.z | apply At.s)); ((first | rfl | assumption))) | ((with_reducible apply i_C)) | ((with_reducible apply i_bin)) | ((with_reducible apply i_tst)) | ((with_reducible apply i_tru)) | ((with_reducible apply i_fn)) | ((with_reducible apply i_bl)) | ((with_reducible apply i_cons)) | ((with_reducible apply i_nil)) | ((with_reducible apply i_cal)) | ((with_reducible apply i_un)) | ((with_reducible apply i_some); (first | ((with_reducible apply len_t)) | ((with_reducible apply len_l)) | ((with_reducible apply len_o)) | ((with_reducible apply len_f)) | ((with_reducible apply in_f); (rfl); (rfl)) | ((with_reducible apply in_t); (rfl); (rfl)) | ((with_reducible apply eqM); (first | (with_reducible exact eqD_ss) | (with_reducible exact eqD_ii) | (with_reducible exact eqD_bb) | ((with_reducible apply eqD_oe); (first | rfl | assumption)) | ((with_reducible apply eqD_le); (first | rfl | assumption)) | ((with_reducible apply eqD_te); (first | rfl | assumption)))) | ((with_reducible apply list1_seq); (rfl); (first | rfl | assumption)) | ((with_reducible apply tuple1_seq); (rfl); (first | rfl | assumption)) | ((with_reducible apply ix0); (first | rfl | assumption)) | ((with_reducible apply ix1); (first | rfl | assumption)) | ((with_reducible apply ix2); (first | rfl | assumption)) | ((with_reducible apply addLO); (simp only [List.length_cons, List.length_nil, List.length_append, List.length_map, sizeLine_eq]; omega); (repeat (first | (with_reducible assumption) | rfl | apply sh_app | apply sh_cons))) | ((with_reducible apply addL); (simp only [List.length_cons, List.length_nil, List.length_append, List.length_map, sizeLine_eq]; omega)) | ((with_reducible apply addOO); (simp only [List.length_cons, List.length_nil, List.length_append, List.length_map, sizeLine_eq]; omega); (repeat (first | (with_reducible assumption) | rfl | apply sh_app | apply sh_cons)); (repeat (first | (with_reducible assumption) | rfl | apply sh_app | apply sh_cons))) | ((with_reducible apply addOL); (simp only [List.length_cons, List.length_nil, List.length_append, List.length_map, sizeLine_eq]; omega); (repeat (first | (with_reducible assumption) | rfl | apply sh_app | apply sh_cons))) | ((with_reducible apply str_s)) | ((with_reducible apply str_i); (omega); (omega)) | ((with_reducible apply addM2); (repeat (first | (with_reducible assumption) | exact len_nil | exact len_rep | apply len_cut | apply len_app | apply len_cons)); (repeat (first | (with_reducible assumption) | exact len_nil | exact len_rep | apply len_cut | apply len_app | apply len_cons)); (simp only [sizeLine_eq]; omega)) | ((with_reducible apply sub_ii)) | ((with_reducible apply add_ii)) | ((with_reducible apply pow_20)) | ((with_reducible apply pow_30)) | ((with_reducible apply pow_40)) | (first | (with_reducible exact eqD_ss) | (with_reducible exact eqD_ii) | (with_reducible exact eqD_bb) | ((with_reducible apply eqD_oe); (first | rfl | assumption)) | ((with_reducible apply eqD_le); (first | rfl | assumption)) | ((with_reducible apply eqD_te); (first | rfl | assumption))) | ((with_reducible apply mul_t); (omega); (omega)) | ((with_reducible apply mod_ii); (first | (with_reducible assumption) | omega | decide)) | ((with_reducible apply div_b); (first | (with_reducible assumption) | omega | decide); (first | (with_reducible assumption) | omega | decide)) | ((with_reducible apply mul_b); (omega); (omega); (omega); (omega)) | (exact ix_tup rfl (by first | rfl | assumption)) | rfl)) | ((with_reducible apply i_asg)) | ((with_reducible apply i_gname); (repeat (first | exact Put.z | apply Put.s))) | ((with_reducible apply i_not)) | ((with_reducible apply i_and)) | ((with_reducible apply i_or)) | ((with_reducible apply i_andV)) | ((with_reducible apply i_orV)) | ((with_reducible apply i_notV)) | ((with_reducible apply i_xif)) | ((with_reducible apply i_chain)) | ((with_reducible apply i_ints)) | ((with_reducible apply i_int)) | ((with_reducible apply i_call0)) | ((with_reducible apply i_call1)) | ((with_reducible apply i_lend); (repeat (first | exact At.z | apply At.s)); (repeat (first | exact Put.z | apply Put.s))) | ((with_reducible apply i_out0)) | ((with_reducible apply i_out1); (repeat (first | exact Put.z | apply Put.s))) | ((with_reducible apply i_tup)) | ((with_reducible apply i_lst)) | ((with_reducible apply i_frz)) | ((with_reducible apply i_le); (simp only [List.length_cons, List.length_nil, List.length_append, List.length_map, sizeLine_eq]; omega)) | ((with_reducible apply i_lt); (simp only [List.length_cons, List.length_nil, List.length_append, List.length_map, sizeLine_eq]; omega)) | ((with_reducible apply i_sh); (repeat (first | (with_reducible assumption) | rfl | apply sh_app | apply sh_cons))) | ((with_reducible apply i_frzO); (repeat (first | (with_reducible assumption) | rfl | apply sh_app | apply sh_cons))) | ((with_reducible apply i_do)) | ((with_reducible apply i_par)) | ((with_reducible apply i_puts); (repeat (first | exact Puts.n | exact Put.z | apply Put.s | apply Puts.c))) | ((with_reducible apply i_ixS); (repeat (first | exact At.z | apply At.s))) | ((with_reducible apply i_at); (repeat (first | exact At.z | apply At.s))) | ((with_reducible apply i_atO); (repeat (first | exact At.z | apply At.s))) | ((with_reducible apply i_put); (repeat (first | exact Put.z | apply Put.s))) | ((with_reducible apply i_lenS); (repeat (first | exact At.z | apply At.s)); (rfl)) | ((with_reducible apply i_leq); (rfl)) | ((with_reducible apply i_eqS); (repeat (first | exact At.z | apply At.s))) | ((with_reducible apply i_neS); (repeat (first | exact At.z | apply At.s))) | ((with_reducible apply i_app); (repeat (first | exact At.z | apply At.s))) | ((with_reducible apply i_sl)) | ((with_reducible apply i_oN)) | ((with_reducible apply i_oS)) | ((with_reducible apply i_setS); (repeat (first | exact At.z | apply At.s))) | ((with_reducible apply i_set); (rfl); (repeat (first | exact LSet.z | apply LSet.s)); (repeat (first | exact Put.z | apply Put.s))) | ((with_reducible apply i_iseq)) | ((with_reducible apply i_rng1)) | ((with_reducible apply i_range); (omega); (omega)) | ((with_reducible apply i_ienum)) | ((with_reducible apply i_for)) | ((with_reducible apply i_lc)) | ((with_reducible apply i_yes)) | ((with_reducible apply i_gcons)) | ((with_reducible apply i_gnil)) | ((with_reducible apply i_gtup); (rfl)) | ((with_reducible apply i_tupA)) | ((with_reducible apply i_retN)) | ((with_reducible apply i_brk)) | ((with_reducible apply i_cont)) | ((with_reducible apply i_mv); (repeat (first | exact At.z | apply At.s)); (repeat (first | exact Put.z | apply Put.s))) | ((with_reducible apply i_neP); (repeat (first | exact At.z | apply At.s)); (rfl); (first | exact eqD_oe (by first | assumption | rfl))) | ((with_reducible apply i_popP); (repeat (first | exact At.z | apply At.s)); (rfl); (rfl); (rfl); ((first | rfl | assumption)); (repeat (first | exact LSet.z | apply LSet.s)); (repeat (first | exact Put.z | apply Put.s))) | ((with_reducible apply i_B) <;> intro hb)))
    · exact ok _ _ [_] rfl ⟨_, _, rfl, hg, hl, rfl, _, _, _, ns, rfl, Int.ediv_nonneg p0 (Int.le_of_lt hn), p1, p2, p3, by omega⟩
    · refine ok _ _ [_] rfl ⟨_, _, rfl, Int.emod_nonneg _ (Int.ne_of_gt hn), Int.emod_lt_of_pos _ hn, rfl, _, _, _, ns, rfl, p0, ?_, ?_, ?_, ?_⟩ <;> omega
end K34

namespace K34
open PySem PySem.Spec PyProof.Rows L2 BV
theorem cut1 {r : List D} : cutL r (some 1) none = r.tail := by
  unfold cutL HT.sIx
  cases r with
  | nil => rfl
  | cons a r => simp
theorem nices_tail {r : List D} (h : nices r = true) : nices r.tail = true := by
  cases r with
  | nil => exact h
  | cons a r => exact (nices_cons h).2
theorem lc_whole {a b : Option D} {r : List D} {Q : D → Ev → Prop} (hr : nices r = true) (hl : r.length ≤ 1000) (q : Q (.own (r.tail.filter fun d => !isI d)) [a, b, some (.tup r), none]) :
    (xLc (xiSeq (xSl (xName 2) (xoSome (xC (.int 1))) xoNone)) (xgName 3) (xNot (xTru (xCall F_whole [] (xCons (xName 3) xNil)))) (xName 3) [3]).f [a, b, some (.tup r), none] Q := by
  have ht := nices_tail hr
  (repeat' (first | ((with_reducible apply i_seq)) | ((with_reducible apply i_ret)) | ((with_reducible apply i_next)) | ((with_reducible apply i_ifs)) | ((with_reducible apply i_T); (first | rfl | (with_reducible assumption) | exact not_t (by with_reducible assumption) | exact not_f (by with_reducible assumption))) | ((with_reducible apply i_F); (first | rfl | (with_reducible assumption) | exact not_t (by with_reducible assumption) | exact not_f (by with_reducible assumption))) | ((with_reducible apply i_name); (repeat (first | exact At.z | apply At.s)); ((first | rfl | assumption))) | ((with_reducible apply i_C)) | ((with_reducible apply i_bin)) | ((with_reducible apply i_tst)) | ((with_reducible apply i_tru)) | ((with_reducible apply i_fn)) | ((with_reducible apply i_bl)) | ((with_reducible apply i_cons)) | ((with_reducible apply i_nil)) | ((with_reducible apply i_cal)) | ((with_reducible apply i_un)) | ((with_reducible apply i_some); (first | exact len_t | exact len_l | exact len_o | exact len_f | exact in_f rfl rfl | exact in_t rfl rfl | exact eqM eqD_ss | exact eqM eqD_ii | exact eqM eqD_bb | exact eqM (eqD_oe (by first | assumption | rfl)) | exact eqM (eqD_le (by first | assumption | rfl)) | exact eqM (eqD_te (by first | assumption | rfl)) | exact list1_seq rfl (by first | assumption | rfl) | exact tuple1_seq rfl (by first | assumption | rfl) | exact ix0 (by first | rfl | assumption) | exact ix1 (by first | rfl | assumption) | exact ix2 (by first | rfl | assumption) | exact ix_tup rfl (by first | rfl | assumption) | rfl | exact mod_ii (by first | assumption | decide) | exact div_b (by first | assumption | decide) (by first | assumption | decide | omega) | exact mul_b (by omega) (by omega) (by omega) (by omega))) | ((with_reducible apply i_asg)) | ((with_reducible apply i_gname); (repeat (first | exact Put.z | apply Put.s))) | ((with_reducible apply i_not)) | ((with_reducible apply i_and)) | ((with_reducible apply i_or)) | ((with_reducible apply i_andV)) | ((with_reducible apply i_orV)) | ((with_reducible apply i_notV)) | ((with_reducible apply i_xif)) | ((with_reducible apply i_chain)) | ((with_reducible apply i_ints)) | ((with_reducible apply i_int)) | ((with_reducible apply i_call0)) | ((with_reducible apply i_call1)) | ((with_reducible apply i_lend); (repeat (first | exact At.z | apply At.s)); (repeat (first | exact Put.z | apply Put.s))) | ((with_reducible apply i_out0)) | ((with_reducible apply i_out1); (repeat (first | exact Put.z | apply Put.s))) | ((with_reducible apply i_tup)) | ((with_reducible apply i_lst)) | ((with_reducible apply i_frz)) | ((with_reducible apply i_le); (simp only [List.length_cons, List.length_nil, List.length_append, List.length_map, sizeLine_eq]; omega)) | ((with_reducible apply i_lt); (simp only [List.length_cons, List.length_nil, List.length_append, List.length_map, sizeLine_eq]; omega)) | ((with_reducible apply i_sh); ((first | rfl | assumption | (simp only [List.all_cons, List.all_nil, Bool.and_true, Bool.and_eq_true, List.all_append]; simp [D.sh, *])))) | ((with_reducible apply i_frzO); ((first | rfl | assumption))) | ((with_reducible apply i_do)) | ((with_reducible apply i_par)) | ((with_reducible apply i_puts); (repeat (first | exact Puts.n | exact Put.z | apply Put.s | refine Puts.c ?_ ?_))) | ((with_reducible apply i_ixS); (repeat (first | exact At.z | apply At.s))) | ((with_reducible apply i_at); (repeat (first | exact At.z | apply At.s))) | ((with_reducible apply i_atO); (repeat (first | exact At.z | apply At.s))) | ((with_reducible apply i_put); (repeat (first | exact Put.z | apply Put.s))) | ((with_reducible apply i_lenS); (repeat (first | exact At.z | apply At.s)); (rfl)) | ((with_reducible apply i_eqS); (repeat (first | exact At.z | apply At.s))) | ((with_reducible apply i_app); (repeat (first | exact At.z | apply At.s))) | ((with_reducible apply i_sl)) | ((with_reducible apply i_oN)) | ((with_reducible apply i_oS)) | ((with_reducible apply i_setS); (repeat (first | exact At.z | apply At.s))) | ((with_reducible apply i_set); (rfl); (repeat (first | exact LSet.z | apply LSet.s)); (repeat (first | exact Put.z | apply Put.s))) | ((with_reducible apply i_iseq)) | ((with_reducible apply i_rng1)) | ((with_reducible apply i_range); (omega); (omega)) | ((with_reducible apply i_ienum)) | ((with_reducible apply i_for)) | ((with_reducible apply i_lc)) | ((with_reducible apply i_yes)) | ((with_reducible apply i_gcons)) | ((with_reducible apply i_gnil)) | ((with_reducible apply i_gtup); (rfl)) | ((with_reducible apply i_tupA)) | ((with_reducible apply i_retN)) | ((with_reducible apply i_brk)) | ((with_reducible apply i_cont)) | ((with_reducible apply i_mv); (repeat (first | exact At.z | apply At.s)); (repeat (first | exact Put.z | apply Put.s))) | ((with_reducible apply i_neP); (repeat (first | exact At.z | apply At.s)); (rfl); (first | exact eqD_oe (by first | assumption | rfl))) | ((with_reducible apply i_popP); (repeat (first | exact At.z | apply At.s)); (rfl); (rfl); (rfl); ((first | rfl | assumption)); (repeat (first | exact LSet.z | apply LSet.s)); (repeat (first | exact Put.z | apply Put.s)))))
  rw [cut1]
  refine ⟨nices_sh ht, fun k acc ρ => acc = (r.tail.take k).filter (fun d => !isI d) ∧ ρ = [a, b, some (.tup r), none], ⟨rfl, rfl⟩, ?_, ?_⟩
  · rintro k z acc _ hz ⟨rfl, rfl⟩
    have hn := nices_get ht hz
    have hs := nice_sh hn
    (repeat' (first | ((with_reducible apply fe_whole); (assumption)) | ((with_reducible apply i_seq)) | ((with_reducible apply i_ret)) | ((with_reducible apply i_next)) | ((with_reducible apply i_ifs)) | ((with_reducible apply i_T); (first | rfl | (with_reducible assumption) | exact not_t (by with_reducible assumption) | exact not_f (by with_reducible assumption))) | ((with_reducible apply i_F); (first | rfl | (with_reducible assumption) | exact not_t (by with_reducible assumption) | exact not_f (by with_reducible assumption))) | ((with_reducible apply i_name); (repeat (first | exact At.z | apply At.s)); ((first | rfl | assumption))) | ((with_reducible apply i_C)) | ((with_reducible apply i_bin)) | ((with_reducible apply i_tst)) | ((with_reducible apply i_tru)) | ((with_reducible apply i_fn)) | ((with_reducible apply i_bl)) | ((with_reducible apply i_cons)) | ((with_reducible apply i_nil)) | ((with_reducible apply i_cal)) | ((with_reducible apply i_un)) | ((with_reducible apply i_some); (first | exact len_t | exact len_l | exact len_o | exact len_f | exact in_f rfl rfl | exact in_t rfl rfl | exact eqM eqD_ss | exact eqM eqD_ii | exact eqM eqD_bb | exact eqM (eqD_oe (by first | assumption | rfl)) | exact eqM (eqD_le (by first | assumption | rfl)) | exact eqM (eqD_te (by first | assumption | rfl)) | exact list1_seq rfl (by first | assumption | rfl) | exact tuple1_seq rfl (by first | assumption | rfl) | exact ix0 (by first | rfl | assumption) | exact ix1 (by first | rfl | assumption) | exact ix2 (by first | rfl | assumption) | exact ix_tup rfl (by first | rfl | assumption) | rfl | exact mod_ii (by first | assumption | decide) | exact div_b (by first | assumption | decide) (by first | assumption | decide | omega) | exact mul_b (by omega) (by omega) (by omega) (by omega))) | ((with_reducible apply i_asg)) | ((with_reducible apply i_gname); (repeat (first | exact Put.z | apply Put.s))) | ((with_reducible apply i_not)) | ((with_reducible apply i_and)) | ((with_reducible apply i_or)) | ((with_reducible apply i_andV)) | ((with_reducible apply i_orV)) | ((with_reducible apply i_notV)) | ((with_reducible apply i_xif)) | ((with_reducible apply i_chain)) | ((with_reducible apply i_ints)) | ((with_reducible apply i_int)) | ((with_reducible apply i_call0)) | ((with_reducible apply i_call1)) | ((with_reducible apply i_lend); (repeat (first | exact At.z | apply At.s)); (repeat (first | exact Put.z | apply Put.s))) | ((with_reducible apply i_out0)) | ((with_reducible apply i_out1); (repeat (first | exact Put.z | apply Put.s))) | ((with_reducible apply i_tup)) | ((with_reducible apply i_lst)) | ((with_reducible apply i_frz)) | ((with_reducible apply i_le); (simp only [List.length_cons, List.length_nil, List.length_append, List.length_map, sizeLine_eq]; omega)) | ((with_reducible apply i_lt); (simp only [List.length_cons, List.length_nil, List.length_append, List.length_map, sizeLine_eq]; omega)) | ((with_reducible apply i_sh); ((first | rfl | assumption | (simp only [List.all_cons, List.all_nil, Bool.and_true, Bool.and_eq_true, List.all_append]; simp [D.sh, *])))) | ((with_reducible apply i_frzO); ((first | rfl | assumption))) | ((with_reducible apply i_do)) | ((with_reducible apply i_par)) | ((with_reducible apply i_puts); (repeat (first | exact Puts.n | exact Put.z | apply Put.s | refine Puts.c ?_ ?_))) | ((with_reducible apply i_ixS); (repeat (first | exact At.z | apply At.s))) | ((with_reducible apply i_at); (repeat (first | exact At.z | apply At.s))) | ((with_reducible apply i_atO); (repeat (first | exact At.z | apply At.s))) | ((with_reducible apply i_put); (repeat (first | exact Put.z | apply Put.s))) | ((with_reducible apply i_lenS); (repeat (first | exact At.z | apply At.s)); (rfl)) | ((with_reducible apply i_eqS); (repeat (first | exact At.z | apply At.s))) | ((with_reducible apply i_app); (repeat (first | exact At.z | apply At.s))) | ((with_reducible apply i_sl)) | ((with_reducible apply i_oN)) | ((with_reducible apply i_oS)) | ((with_reducible apply i_setS); (repeat (first | exact At.z | apply At.s))) | ((with_reducible apply i_set); (rfl); (repeat (first | exact LSet.z | apply LSet.s)); (repeat (first | exact Put.z | apply Put.s))) | ((with_reducible apply i_iseq)) | ((with_reducible apply i_rng1)) | ((with_reducible apply i_range); (omega); (omega)) | ((with_reducible apply i_ienum)) | ((with_reducible apply i_for)) | ((with_reducible apply i_lc)) | ((with_reducible apply i_yes)) | ((with_reducible apply i_gcons)) | ((with_reducible apply i_gnil)) | ((with_reducible apply i_gtup); (rfl)) | ((with_reducible apply i_tupA)) | ((with_reducible apply i_retN)) | ((with_reducible apply i_brk)) | ((with_reducible apply i_cont)) | ((with_reducible apply i_mv); (repeat (first | exact At.z | apply At.s)); (repeat (first | exact Put.z | apply Put.s))) | ((with_reducible apply i_neP); (repeat (first | exact At.z | apply At.s)); (rfl); (first | exact eqD_oe (by first | assumption | rfl))) | ((with_reducible apply i_popP); (repeat (first | exact At.z | apply At.s)); (rfl); (rfl); (rfl); ((first | rfl | assumption)); (repeat (first | exact LSet.z | apply LSet.s)); (repeat (first | exact Put.z | apply Put.s)))))
    refine ⟨fun hb => ?_, fun hb => ?_⟩
    · (repeat' (first | ((with_reducible apply i_seq)) | ((with_reducible apply i_ret)) | ((with_reducible apply i_next)) | ((with_reducible apply i_ifs)) | ((with_reducible apply i_T); (first | rfl | (with_reducible assumption) | exact not_t (by with_reducible assumption) | exact not_f (by with_reducible assumption))) | ((with_reducible apply i_F); (first | rfl | (with_reducible assumption) | exact not_t (by with_reducible assumption) | exact not_f (by with_reducible assumption))) | ((with_reducible apply i_name); (repeat (first | exact At.z | apply At.s)); ((first | rfl | assumption))) | ((with_reducible apply i_C)) | ((with_reducible apply i_bin)) | ((with_reducible apply i_tst)) | ((with_reducible apply i_tru)) | ((with_reducible apply i_fn)) | ((with_reducible apply i_bl)) | ((with_reducible apply i_cons)) | ((with_reducible apply i_nil)) | ((with_reducible apply i_cal)) | ((with_reducible apply i_un)) | ((with_reducible apply i_some); (first | exact len_t | exact len_l | exact len_o | exact len_f | exact in_f rfl rfl | exact in_t rfl rfl | exact eqM eqD_ss | exact eqM eqD_ii | exact eqM eqD_bb | exact eqM (eqD_oe (by first | assumption | rfl)) | exact eqM (eqD_le (by first | assumption | rfl)) | exact eqM (eqD_te (by first | assumption | rfl)) | exact list1_seq rfl (by first | assumption | rfl) | exact tuple1_seq rfl (by first | assumption | rfl) | exact ix0 (by first | rfl | assumption) | exact ix1 (by first | rfl | assumption) | exact ix2 (by first | rfl | assumption) | exact ix_tup rfl (by first | rfl | assumption) | rfl | exact mod_ii (by first | assumption | decide) | exact div_b (by first | assumption | decide) (by first | assumption | decide | omega) | exact mul_b (by omega) (by omega) (by omega) (by omega))) | ((with_reducible apply i_asg)) | ((with_reducible apply i_gname); (repeat (first | exact Put.z | apply Put.s))) | ((with_reducible apply i_not)) | ((with_reducible apply i_and)) | ((with_reducible apply i_or)) | ((with_reducible apply i_andV)) | ((with_reducible apply i_orV)) | ((with_reducible apply i_notV)) | ((with_reducible apply i_xif)) | ((with_reducible apply i_chain)) | ((with_reducible apply i_ints)) | ((with_reducible apply i_int)) | ((with_reducible apply i_call0)) | ((with_reducible apply i_call1)) | ((with_reducible apply i_lend); (repeat (first | exact At.z | apply At.s)); (repeat (first | exact Put.z | apply Put.s))) | ((with_reducible apply i_out0)) | ((with_reducible apply i_out1); (repeat (first | exact Put.z | apply Put.s))) | ((with_reducible apply i_tup)) | ((with_reducible apply i_lst)) | ((with_reducible apply i_frz)) | ((with_reducible apply i_le); (simp only [List.length_cons, List.length_nil, List.length_append, List.length_map, sizeLine_eq]; omega)) | ((with_reducible apply i_lt); (simp only [List.length_cons, List.length_nil, List.length_append, List.length_map, sizeLine_eq]; omega)) | ((with_reducible apply i_sh); ((first | rfl | assumption | (simp only [List.all_cons, List.all_nil, Bool.and_true, Bool.and_eq_true, List.all_append]; simp [D.sh, *])))) | ((with_reducible apply i_frzO); ((first | rfl | assumption))) | ((with_reducible apply i_do)) | ((with_reducible apply i_par)) | ((with_reducible apply i_puts); (repeat (first | exact Puts.n | exact Put.z | apply Put.s | refine Puts.c ?_ ?_))) | ((with_reducible apply i_ixS); (repeat (first | exact At.z | apply At.s))) | ((with_reducible apply i_at); (repeat (first | exact At.z | apply At.s))) | ((with_reducible apply i_atO); (repeat (first | exact At.z | apply At.s))) | ((with_reducible apply i_put); (repeat (first | exact Put.z | apply Put.s))) | ((with_reducible apply i_lenS); (repeat (first | exact At.z | apply At.s)); (rfl)) | ((with_reducible apply i_eqS); (repeat (first | exact At.z | apply At.s))) | ((with_reducible apply i_app); (repeat (first | exact At.z | apply At.s))) | ((with_reducible apply i_sl)) | ((with_reducible apply i_oN)) | ((with_reducible apply i_oS)) | ((with_reducible apply i_setS); (repeat (first | exact At.z | apply At.s))) | ((with_reducible apply i_set); (rfl); (repeat (first | exact LSet.z | apply LSet.s)); (repeat (first | exact Put.z | apply Put.s))) | ((with_reducible apply i_iseq)) | ((with_reducible apply i_rng1)) | ((with_reducible apply i_range); (omega); (omega)) | ((with_reducible apply i_ienum)) | ((with_reducible apply i_for)) | ((with_reducible apply i_lc)) | ((with_reducible apply i_yes)) | ((with_reducible apply i_gcons)) | ((with_reducible apply i_gnil)) | ((with_reducible apply i_gtup); (rfl)) | ((with_reducible apply i_tupA)) | ((with_reducible apply i_retN)) | ((with_reducible apply i_brk)) | ((with_reducible apply i_cont)) | ((with_reducible apply i_mv); (repeat (first | exact At.z | apply At.s)); (repeat (first | exact Put.z | apply Put.s))) | ((with_reducible apply i_neP); (repeat (first | exact At.z | apply At.s)); (rfl); (first | exact eqD_oe (by first | assumption | rfl))) | ((with_reducible apply i_popP); (repeat (first | exact At.z | apply At.s)); (rfl); (rfl); (rfl); ((first | rfl | assumption)); (repeat (first | exact LSet.z | apply LSet.s)); (repeat (first | exact Put.z | apply Put.s)))))
      refine ⟨?_, ?_, rfl⟩
      · have h1 := List.length_filter_le (fun d => !isI d) (r.tail.take k)
        have h2 := List.length_take_le k r.tail
        have h3 : r.tail.length = r.length - 1 := List.length_tail
        rw [sizeLine_eq]
        have h4 : (r.tail.take k).length ≤ r.tail.length := by rw [List.length_take]; omega
        omega
      · rw [List.take_add_one, hz, Option.toList_some, List.filter_append, List.filter_cons, if_pos hb, List.filter_nil]
    · refine ⟨?_, rfl⟩
      rw [List.take_add_one, hz, Option.toList_some, List.filter_append, List.filter_cons, if_neg (by rw [hb]; decide), List.filter_nil, List.append_nil]
  · rintro acc _ ⟨rfl, rfl⟩
    rw [List.take_length]
    exact q
theorem isI_int {d : D} (h : isI d = true) : ∃ i, d = .int i := by
  cases d <;> first | exact ⟨_, rfl⟩ | cases h
theorem isStr_str {d : D} (h : d.isStr = true) : ∃ i, d = .str i := by
  cases d <;> first | exact ⟨_, rfl⟩ | cases h
theorem rulesF_all : ∀ {j : Nat} {xs : List D}, (∀ i z, xs[i]? = some z → ruleF (j + i) z = true) → rulesF j xs = true
  | _, [], _ => rfl
  | j, x :: xs, h => by
    show (ruleF j x && rulesF (j + 1) xs) = true
    rw [show ruleF j x = true from h 0 x rfl, rulesF_all (j := j + 1) (xs := xs) fun i z e => by
      rw [Nat.add_right_comm]
      exact h (i + 1) z (by simpa using e)]
    rfl
theorem rulesF_no : ∀ {j : Nat} {xs : List D} {i : Nat} {z : D}, xs[i]? = some z → ruleF (j + i) z = false → rulesF j xs = false
  | _, [], _, _, e, _ => by cases e
  | j, x :: xs, 0, z, e, h => by
    cases e
    show (ruleF j x && rulesF (j + 1) xs) = false
    rw [show ruleF j x = false from h]
    rfl
  | j, x :: xs, i + 1, z, e, h => by
    show (ruleF j x && rulesF (j + 1) xs) = false
    rw [rulesF_no (j := j + 1) (xs := xs) (i := i) (z := z) (by simpa using e) (by rw [Nat.add_right_comm]; exact h), Bool.and_false]
theorem kinds (s : Str) : ∃ n l p w : Bool, decide (s = Str.ofString "none") = n ∧ decide (s = Str.ofString "letter") = l ∧ decide (s = Str.ofString "pair") = p ∧ decide (s = Str.ofString "power") = w ∧ inF (.str s) [.str (Str.ofString "pair"), .str (Str.ofString "power")] = (p || w) ∧
    inF (.str s) [.str (Str.ofString "none"), .str (Str.ofString "letter"), .str (Str.ofString "pair"), .str (Str.ofString "power")] = (n || (l || (p || w))) ∧
    ((n = true ∧ l = false ∧ p = false ∧ w = false) ∨ (n = false ∧ l = true ∧ p = false ∧ w = false) ∨ (n = false ∧ l = false ∧ p = true ∧ w = false) ∨ (n = false ∧ l = false ∧ p = false ∧ w = true) ∨ (n = false ∧ l = false ∧ p = false ∧ w = false)) := by
  have e : ∀ t : Str, (t == s) = decide (s = t) := fun t => by
    rw [Bool.eq_iff_iff, beq_iff_eq, decide_eq_true_eq]
    exact eq_comm
  refine ⟨_, _, _, _, rfl, rfl, rfl, rfl, ?_, ?_, ?_⟩
  · simp only [inF, List.any_cons, List.any_nil, eqF, e, Bool.or_false]
  · simp only [inF, List.any_cons, List.any_nil, eqF, e, Bool.or_false]
  · by_cases h1 : s = Str.ofString "none"
    · subst h1; simp [ne1]
    · by_cases h2 : s = Str.ofString "letter"
      · subst h2; simp [ne1]
      · by_cases h3 : s = Str.ofString "pair"
        · subst h3; simp [ne1]
        · simp [h1, h2, h3, Decidable.em]
theorem pf_judge : Pf F_judge x__law_is_straight [] (4 - 1) := pf_ex fun d h R N ok _ => by
  unfold x__law_is_straight
  simp only [List.map_cons, List.map_nil, List.cons_append, List.nil_append, List.append_nil, List.replicate_succ, List.replicate_zero, Nat.reduceSub]
  have hs := nice_sh h
  cases d with
  | tup xs =>
    simp only [nice] at h
    (repeat' (first | ((with_reducible apply i_seq)) | ((with_reducible apply i_ret)) | ((with_reducible apply i_next)) | ((with_reducible apply i_ifs)) | ((with_reducible apply i_T); (first | rfl | (with_reducible assumption) | exact not_t (by with_reducible assumption) | exact not_f (by with_reducible assumption))) | ((with_reducible apply i_F); (first | rfl | (with_reducible assumption) | exact not_t (by with_reducible assumption) | exact not_f (by with_reducible assumption))) | ((with_reducible apply i_name); (repeat (first | exact At.z | apply At.s)); ((first | rfl | assumption))) | ((with_reducible apply i_C)) | ((with_reducible apply i_bin)) | ((with_reducible apply i_tst)) | ((with_reducible apply i_tru)) | ((with_reducible apply i_fn)) | ((with_reducible apply i_bl)) | ((with_reducible apply i_cons)) | ((with_reducible apply i_nil)) | ((with_reducible apply i_cal)) | ((with_reducible apply i_un)) | ((with_reducible apply i_some); (first | exact len_t | exact len_l | exact len_o | exact len_f | exact in_f rfl rfl | exact in_t rfl rfl | exact eqM eqD_ss | exact eqM eqD_ii | exact eqM eqD_bb | exact eqM (eqD_oe (by first | assumption | rfl)) | exact eqM (eqD_le (by first | assumption | rfl)) | exact eqM (eqD_te (by first | assumption | rfl)) | exact list1_seq rfl (by first | assumption | rfl) | exact tuple1_seq rfl (by first | assumption | rfl) | exact ix0 (by first | rfl | assumption) | exact ix1 (by first | rfl | assumption) | exact ix2 (by first | rfl | assumption) | exact ix_tup rfl (by first | rfl | assumption) | rfl | exact mod_ii (by first | assumption | decide) | exact div_b (by first | assumption | decide) (by first | assumption | decide | omega) | exact mul_b (by omega) (by omega) (by omega) (by omega))) | ((with_reducible apply i_asg)) | ((with_reducible apply i_gname); (repeat (first | exact Put.z | apply Put.s))) | ((with_reducible apply i_not)) | ((with_reducible apply i_and)) | ((with_reducible apply i_or)) | ((with_reducible apply i_andV)) | ((with_reducible apply i_orV)) | ((with_reducible apply i_notV)) | ((with_reducible apply i_xif)) | ((with_reducible apply i_chain)) | ((with_reducible apply i_ints)) | ((with_reducible apply i_int)) | ((with_reducible apply i_call0)) | ((with_reducible apply i_call1)) | ((with_reducible apply i_lend); (repeat (first | exact At.z | apply At.s)); (repeat (first | exact Put.z | apply Put.s))) | ((with_reducible apply i_out0)) | ((with_reducible apply i_out1); (repeat (first | exact Put.z | apply Put.s))) | ((with_reducible apply i_tup)) | ((with_reducible apply i_lst)) | ((with_reducible apply i_frz)) | ((with_reducible apply i_le); (simp only [List.length_cons, List.length_nil, List.length_append, List.length_map, sizeLine_eq]; omega)) | ((with_reducible apply i_lt); (simp only [List.length_cons, List.length_nil, List.length_append, List.length_map, sizeLine_eq]; omega)) | ((with_reducible apply i_sh); ((first | rfl | assumption | (simp only [List.all_cons, List.all_nil, Bool.and_true, Bool.and_eq_true, List.all_append]; simp [D.sh, *])))) | ((with_reducible apply i_frzO); ((first | rfl | assumption))) | ((with_reducible apply i_do)) | ((with_reducible apply i_par)) | ((with_reducible apply i_puts); (repeat (first | exact Puts.n | exact Put.z | apply Put.s | refine Puts.c ?_ ?_))) | ((with_reducible apply i_ixS); (repeat (first | exact At.z | apply At.s))) | ((with_reducible apply i_at); (repeat (first | exact At.z | apply At.s))) | ((with_reducible apply i_atO); (repeat (first | exact At.z | apply At.s))) | ((with_reducible apply i_put); (repeat (first | exact Put.z | apply Put.s))) | ((with_reducible apply i_lenS); (repeat (first | exact At.z | apply At.s)); (rfl)) | ((with_reducible apply i_eqS); (repeat (first | exact At.z | apply At.s))) | ((with_reducible apply i_app); (repeat (first | exact At.z | apply At.s))) | ((with_reducible apply i_sl)) | ((with_reducible apply i_oN)) | ((with_reducible apply i_oS)) | ((with_reducible apply i_setS); (repeat (first | exact At.z | apply At.s))) | ((with_reducible apply i_set); (rfl); (repeat (first | exact LSet.z | apply LSet.s)); (repeat (first | exact Put.z | apply Put.s))) | ((with_reducible apply i_iseq)) | ((with_reducible apply i_rng1)) | ((with_reducible apply i_range); (omega); (omega)) | ((with_reducible apply i_ienum)) | ((with_reducible apply i_for)) | ((with_reducible apply i_lc)) | ((with_reducible apply i_yes)) | ((with_reducible apply i_gcons)) | ((with_reducible apply i_gnil)) | ((with_reducible apply i_gtup); (rfl)) | ((with_reducible apply i_tupA)) | ((with_reducible apply i_retN)) | ((with_reducible apply i_brk)) | ((with_reducible apply i_cont)) | ((with_reducible apply i_mv); (repeat (first | exact At.z | apply At.s)); (repeat (first | exact Put.z | apply Put.s))) | ((with_reducible apply i_neP); (repeat (first | exact At.z | apply At.s)); (rfl); (first | exact eqD_oe (by first | assumption | rfl))) | ((with_reducible apply i_popP); (repeat (first | exact At.z | apply At.s)); (rfl); (rfl); (rfl); ((first | rfl | assumption)); (repeat (first | exact LSet.z | apply LSet.s)); (repeat (first | exact Put.z | apply Put.s))) | ((with_reducible apply i_B) <;> intro hb)))
    · refine ok _ _ [] rfl ⟨congrArg D.bl ?_, rfl⟩
      simp at hb
      simp [strF]
      omega
    · have hl : xs.length < 4001 := by simp at hb; omega
      have hp : 1 ≤ xs.length := by simp at *; omega
      have no1 : ∀ (k : Nat) (z : D), xs[k]? = some z → ruleF k z = false → ∀ ρ, R (.bl false) ρ := fun k z e e2 ρ => by
        refine ok _ _ [] rfl ⟨congrArg D.bl ?_, rfl⟩
        simp [strF, rulesF_no (j := 0) e (by rw [Nat.zero_add]; exact e2)]
      (repeat' (first | ((with_reducible apply i_seq)) | ((with_reducible apply i_ret)) | ((with_reducible apply i_next)) | ((with_reducible apply i_ifs)) | ((with_reducible apply i_T); (first | rfl | (with_reducible assumption) | exact not_t (by with_reducible assumption) | exact not_f (by with_reducible assumption))) | ((with_reducible apply i_F); (first | rfl | (with_reducible assumption) | exact not_t (by with_reducible assumption) | exact not_f (by with_reducible assumption))) | ((with_reducible apply i_name); (repeat (first | exact At.z | apply At.s)); ((first | rfl | assumption))) | ((with_reducible apply i_C)) | ((with_reducible apply i_bin)) | ((with_reducible apply i_tst)) | ((with_reducible apply i_tru)) | ((with_reducible apply i_fn)) | ((with_reducible apply i_bl)) | ((with_reducible apply i_cons)) | ((with_reducible apply i_nil)) | ((with_reducible apply i_cal)) | ((with_reducible apply i_un)) | ((with_reducible apply i_some); (first | exact len_t | exact len_l | exact len_o | exact len_f | exact in_f rfl rfl | exact in_t rfl rfl | exact eqM eqD_ss | exact eqM eqD_ii | exact eqM eqD_bb | exact eqM (eqD_oe (by first | assumption | rfl)) | exact eqM (eqD_le (by first | assumption | rfl)) | exact eqM (eqD_te (by first | assumption | rfl)) | exact list1_seq rfl (by first | assumption | rfl) | exact tuple1_seq rfl (by first | assumption | rfl) | exact ix0 (by first | rfl | assumption) | exact ix1 (by first | rfl | assumption) | exact ix2 (by first | rfl | assumption) | exact ix_tup rfl (by first | rfl | assumption) | rfl | exact mod_ii (by first | assumption | decide) | exact div_b (by first | assumption | decide) (by first | assumption | decide | omega) | exact mul_b (by omega) (by omega) (by omega) (by omega))) | ((with_reducible apply i_asg)) | ((with_reducible apply i_gname); (repeat (first | exact Put.z | apply Put.s))) | ((with_reducible apply i_not)) | ((with_reducible apply i_and)) | ((with_reducible apply i_or)) | ((with_reducible apply i_andV)) | ((with_reducible apply i_orV)) | ((with_reducible apply i_notV)) | ((with_reducible apply i_xif)) | ((with_reducible apply i_chain)) | ((with_reducible apply i_ints)) | ((with_reducible apply i_int)) | ((with_reducible apply i_call0)) | ((with_reducible apply i_call1)) | ((with_reducible apply i_lend); (repeat (first | exact At.z | apply At.s)); (repeat (first | exact Put.z | apply Put.s))) | ((with_reducible apply i_out0)) | ((with_reducible apply i_out1); (repeat (first | exact Put.z | apply Put.s))) | ((with_reducible apply i_tup)) | ((with_reducible apply i_lst)) | ((with_reducible apply i_frz)) | ((with_reducible apply i_le); (simp only [List.length_cons, List.length_nil, List.length_append, List.length_map, sizeLine_eq]; omega)) | ((with_reducible apply i_lt); (simp only [List.length_cons, List.length_nil, List.length_append, List.length_map, sizeLine_eq]; omega)) | ((with_reducible apply i_sh); ((first | rfl | assumption | (simp only [List.all_cons, List.all_nil, Bool.and_true, Bool.and_eq_true, List.all_append]; simp [D.sh, *])))) | ((with_reducible apply i_frzO); ((first | rfl | assumption))) | ((with_reducible apply i_do)) | ((with_reducible apply i_par)) | ((with_reducible apply i_puts); (repeat (first | exact Puts.n | exact Put.z | apply Put.s | refine Puts.c ?_ ?_))) | ((with_reducible apply i_ixS); (repeat (first | exact At.z | apply At.s))) | ((with_reducible apply i_at); (repeat (first | exact At.z | apply At.s))) | ((with_reducible apply i_atO); (repeat (first | exact At.z | apply At.s))) | ((with_reducible apply i_put); (repeat (first | exact Put.z | apply Put.s))) | ((with_reducible apply i_lenS); (repeat (first | exact At.z | apply At.s)); (rfl)) | ((with_reducible apply i_eqS); (repeat (first | exact At.z | apply At.s))) | ((with_reducible apply i_app); (repeat (first | exact At.z | apply At.s))) | ((with_reducible apply i_sl)) | ((with_reducible apply i_oN)) | ((with_reducible apply i_oS)) | ((with_reducible apply i_setS); (repeat (first | exact At.z | apply At.s))) | ((with_reducible apply i_set); (rfl); (repeat (first | exact LSet.z | apply LSet.s)); (repeat (first | exact Put.z | apply Put.s))) | ((with_reducible apply i_iseq)) | ((with_reducible apply i_rng1)) | ((with_reducible apply i_range); (omega); (omega)) | ((with_reducible apply i_ienum)) | ((with_reducible apply i_for)) | ((with_reducible apply i_lc)) | ((with_reducible apply i_yes)) | ((with_reducible apply i_gcons)) | ((with_reducible apply i_gnil)) | ((with_reducible apply i_gtup); (rfl)) | ((with_reducible apply i_tupA)) | ((with_reducible apply i_retN)) | ((with_reducible apply i_brk)) | ((with_reducible apply i_cont)) | ((with_reducible apply i_mv); (repeat (first | exact At.z | apply At.s)); (repeat (first | exact Put.z | apply Put.s))) | ((with_reducible apply i_neP); (repeat (first | exact At.z | apply At.s)); (rfl); (first | exact eqD_oe (by first | assumption | rfl))) | ((with_reducible apply i_popP); (repeat (first | exact At.z | apply At.s)); (rfl); (rfl); (rfl); ((first | rfl | assumption)); (repeat (first | exact LSet.z | apply LSet.s)); (repeat (first | exact Put.z | apply Put.s))) | ((with_reducible apply i_B) <;> intro hb)))
      refine ⟨fun k ρ => (∀ i z, i < k → xs[i]? = some z → ruleF i z = true) ∧ ∃ s1 s2, ρ = [some (.tup xs), s1, s2, none], ⟨fun i z e => absurd e (Nat.not_lt_zero i), _, _, rfl⟩, ?_, ?_⟩
      · rintro k z _ hz ⟨hk, s1, s2, rfl⟩
        obtain ⟨hk1, rfl⟩ := rngD_get hz
        rw [Int.zero_add]
        have hk2 : k < xs.length := by simp at hk1; exact hk1
        have he : xs[k]? = some xs[k] := List.getElem?_eq_getElem hk2
        generalize xs[k] = y at he
        have hn := nices_get h he
        have hys := nice_sh hn
        have hix : ixD (.tup xs) (.int k) = some y := ix_tup (atI_nat he) hys
        have no := no1 k y he
        have yes : ∀ ρ, ruleF k y = true → (∃ s1 s2, ρ = [some (D.tup xs), s1, s2, none]) → (∀ i z, i < k + 1 → xs[i]? = some z → ruleF i z = true) ∧ ∃ s1 s2, ρ = [some (.tup xs), s1, s2, none] := fun ρ e1 e2 => ⟨fun i z hi hz2 => by
          by_cases e : i = k
          · rw [e, he] at hz2
            cases hz2
            rw [e]
            exact e1
          · exact hk i z (by omega) hz2, e2⟩
        clear ok hk
        by_cases ht : y.isTup = true
        · cases y with
          | tup r =>
            simp only [nice] at hn
            cases r with
            | nil =>
              (repeat' (first | ((with_reducible apply i_some); (exact hix)) | ((with_reducible apply i_seq)) | ((with_reducible apply i_ret)) | ((with_reducible apply i_next)) | ((with_reducible apply i_ifs)) | ((with_reducible apply i_T); (first | rfl | (with_reducible assumption) | exact not_t (by with_reducible assumption) | exact not_f (by with_reducible assumption))) | ((with_reducible apply i_F); (first | rfl | (with_reducible assumption) | exact not_t (by with_reducible assumption) | exact not_f (by with_reducible assumption))) | ((with_reducible apply i_name); (repeat (first | exact At.z | apply At.s)); ((first | rfl | assumption))) | ((with_reducible apply i_C)) | ((with_reducible apply i_bin)) | ((with_reducible apply i_tst)) | ((with_reducible apply i_tru)) | ((with_reducible apply i_fn)) | ((with_reducible apply i_bl)) | ((with_reducible apply i_cons)) | ((with_reducible apply i_nil)) | ((with_reducible apply i_cal)) | ((with_reducible apply i_un)) | ((with_reducible apply i_some); (first | exact len_t | exact len_l | exact len_o | exact len_f | exact in_f rfl rfl | exact in_t rfl rfl | exact eqM eqD_ss | exact eqM eqD_ii | exact eqM eqD_bb | exact eqM (eqD_oe (by first | assumption | rfl)) | exact eqM (eqD_le (by first | assumption | rfl)) | exact eqM (eqD_te (by first | assumption | rfl)) | exact list1_seq rfl (by first | assumption | rfl) | exact tuple1_seq rfl (by first | assumption | rfl) | exact ix0 (by first | rfl | assumption) | exact ix1 (by first | rfl | assumption) | exact ix2 (by first | rfl | assumption) | exact ix_tup rfl (by first | rfl | assumption) | rfl | exact mod_ii (by first | assumption | decide) | exact div_b (by first | assumption | decide) (by first | assumption | decide | omega) | exact mul_b (by omega) (by omega) (by omega) (by omega))) | ((with_reducible apply i_asg)) | ((with_reducible apply i_gname); (repeat (first | exact Put.z | apply Put.s))) | ((with_reducible apply i_not)) | ((with_reducible apply i_and)) | ((with_reducible apply i_or)) | ((with_reducible apply i_andV)) | ((with_reducible apply i_orV)) | ((with_reducible apply i_notV)) | ((with_reducible apply i_xif)) | ((with_reducible apply i_chain)) | ((with_reducible apply i_ints)) | ((with_reducible apply i_int)) | ((with_reducible apply i_call0)) | ((with_reducible apply i_call1)) | ((with_reducible apply i_lend); (repeat (first | exact At.z | apply At.s)); (repeat (first | exact Put.z | apply Put.s))) | ((with_reducible apply i_out0)) | ((with_reducible apply i_out1); (repeat (first | exact Put.z | apply Put.s))) | ((with_reducible apply i_tup)) | ((with_reducible apply i_lst)) | ((with_reducible apply i_frz)) | ((with_reducible apply i_le); (simp only [List.length_cons, List.length_nil, List.length_append, List.length_map, sizeLine_eq]; omega)) | ((with_reducible apply i_lt); (simp only [List.length_cons, List.length_nil, List.length_append, List.length_map, sizeLine_eq]; omega)) | ((with_reducible apply i_sh); ((first | rfl | assumption | (simp only [List.all_cons, List.all_nil, Bool.and_true, Bool.and_eq_true, List.all_append]; simp [D.sh, *])))) | ((with_reducible apply i_frzO); ((first | rfl | assumption))) | ((with_reducible apply i_do)) | ((with_reducible apply i_par)) | ((with_reducible apply i_puts); (repeat (first | exact Puts.n | exact Put.z | apply Put.s | refine Puts.c ?_ ?_))) | ((with_reducible apply i_ixS); (repeat (first | exact At.z | apply At.s))) | ((with_reducible apply i_at); (repeat (first | exact At.z | apply At.s))) | ((with_reducible apply i_atO); (repeat (first | exact At.z | apply At.s))) | ((with_reducible apply i_put); (repeat (first | exact Put.z | apply Put.s))) | ((with_reducible apply i_lenS); (repeat (first | exact At.z | apply At.s)); (rfl)) | ((with_reducible apply i_eqS); (repeat (first | exact At.z | apply At.s))) | ((with_reducible apply i_app); (repeat (first | exact At.z | apply At.s))) | ((with_reducible apply i_sl)) | ((with_reducible apply i_oN)) | ((with_reducible apply i_oS)) | ((with_reducible apply i_setS); (repeat (first | exact At.z | apply At.s))) | ((with_reducible apply i_set); (rfl); (repeat (first | exact LSet.z | apply LSet.s)); (repeat (first | exact Put.z | apply Put.s))) | ((with_reducible apply i_iseq)) | ((with_reducible apply i_rng1)) | ((with_reducible apply i_range); (omega); (omega)) | ((with_reducible apply i_ienum)) | ((with_reducible apply i_for)) | ((with_reducible apply i_lc)) | ((with_reducible apply i_yes)) | ((with_reducible apply i_gcons)) | ((with_reducible apply i_gnil)) | ((with_reducible apply i_gtup); (rfl)) | ((with_reducible apply i_tupA)) | ((with_reducible apply i_retN)) | ((with_reducible apply i_brk)) | ((with_reducible apply i_cont)) | ((with_reducible apply i_mv); (repeat (first | exact At.z | apply At.s)); (repeat (first | exact Put.z | apply Put.s))) | ((with_reducible apply i_neP); (repeat (first | exact At.z | apply At.s)); (rfl); (first | exact eqD_oe (by first | assumption | rfl))) | ((with_reducible apply i_popP); (repeat (first | exact At.z | apply At.s)); (rfl); (rfl); (rfl); ((first | rfl | assumption)); (repeat (first | exact LSet.z | apply LSet.s)); (repeat (first | exact Put.z | apply Put.s))) | ((with_reducible apply i_B) <;> intro hb)))
              exact no rfl _
            | cons a t =>
              have ha := nice_sh (nices_cons hn).1
              by_cases hst : a.isStr = true
              · obtain ⟨s, rfl⟩ := isStr_str hst
                obtain ⟨n, l, p, w, e1, e2, e3, e4, e5, e6, hk⟩ := kinds s
                rcases t with _ | ⟨b, _ | ⟨c, _ | ⟨e, t⟩⟩⟩
                · have hy : lays ([D.str s].tail.filter fun d => !isI d) = true := rfl
                  rcases hk with ⟨rfl, rfl, rfl, rfl⟩ | ⟨rfl, rfl, rfl, rfl⟩ | ⟨rfl, rfl, rfl, rfl⟩ | ⟨rfl, rfl, rfl, rfl⟩ | ⟨rfl, rfl, rfl, rfl⟩ <;> simp only [Bool.or_false, Bool.or_true, Bool.or_self] at e5 e6 <;> (repeat' (first | ((with_reducible apply i_some); (exact hix)) | ((with_reducible apply lc_whole); (assumption); (exact Nat.le_of_ble_eq_true rfl)) | ((with_reducible apply i_seq)) | ((with_reducible apply i_ret)) | ((with_reducible apply i_next)) | ((with_reducible apply i_ifs)) | ((with_reducible apply i_T); (first | rfl | (with_reducible assumption) | exact not_t (by with_reducible assumption) | exact not_f (by with_reducible assumption))) | ((with_reducible apply i_F); (first | rfl | (with_reducible assumption) | exact not_t (by with_reducible assumption) | exact not_f (by with_reducible assumption))) | ((with_reducible apply i_name); (repeat (first | exact At.z | apply At.s)); ((first | rfl | assumption))) | ((with_reducible apply i_C)) | ((with_reducible apply i_bin)) | ((with_reducible apply i_tst)) | ((with_reducible apply i_tru)) | ((with_reducible apply i_fn)) | ((with_reducible apply i_bl)) | ((with_reducible apply i_cons)) | ((with_reducible apply i_nil)) | ((with_reducible apply i_cal)) | ((with_reducible apply i_un)) | ((with_reducible apply i_some); (first | exact len_t | exact len_l | exact len_o | exact len_f | exact in_f rfl rfl | exact in_t rfl rfl | exact eqM eqD_ss | exact eqM eqD_ii | exact eqM eqD_bb | exact eqM (eqD_oe (by first | assumption | rfl)) | exact eqM (eqD_le (by first | assumption | rfl)) | exact eqM (eqD_te (by first | assumption | rfl)) | exact list1_seq rfl (by first | assumption | rfl) | exact tuple1_seq rfl (by first | assumption | rfl) | exact ix0 (by first | rfl | assumption) | exact ix1 (by first | rfl | assumption) | exact ix2 (by first | rfl | assumption) | exact ix_tup rfl (by first | rfl | assumption) | rfl | exact mod_ii (by first | assumption | decide) | exact div_b (by first | assumption | decide) (by first | assumption | decide | omega) | exact mul_b (by omega) (by omega) (by omega) (by omega))) | ((with_reducible apply i_asg)) | ((with_reducible apply i_gname); (repeat (first | exact Put.z | apply Put.s))) | ((with_reducible apply i_not)) | ((with_reducible apply i_and)) | ((with_reducible apply i_or)) | ((with_reducible apply i_andV)) | ((with_reducible apply i_orV)) | ((with_reducible apply i_notV)) | ((with_reducible apply i_xif)) | ((with_reducible apply i_chain)) | ((with_reducible apply i_ints)) | ((with_reducible apply i_int)) | ((with_reducible apply i_call0)) | ((with_reducible apply i_call1)) | ((with_reducible apply i_lend); (repeat (first | exact At.z | apply At.s)); (repeat (first | exact Put.z | apply Put.s))) | ((with_reducible apply i_out0)) | ((with_reducible apply i_out1); (repeat (first | exact Put.z | apply Put.s))) | ((with_reducible apply i_tup)) | ((with_reducible apply i_lst)) | ((with_reducible apply i_frz)) | ((with_reducible apply i_le); (simp only [List.length_cons, List.length_nil, List.length_append, List.length_map, sizeLine_eq]; omega)) | ((with_reducible apply i_lt); (simp only [List.length_cons, List.length_nil, List.length_append, List.length_map, sizeLine_eq]; omega)) | ((with_reducible apply i_sh); ((first | rfl | assumption | (simp only [List.all_cons, List.all_nil, Bool.and_true, Bool.and_eq_true, List.all_append]; simp [D.sh, *])))) | ((with_reducible apply i_frzO); ((first | rfl | assumption))) | ((with_reducible apply i_do)) | ((with_reducible apply i_par)) | ((with_reducible apply i_puts); (repeat (first | exact Puts.n | exact Put.z | apply Put.s | refine Puts.c ?_ ?_))) | ((with_reducible apply i_ixS); (repeat (first | exact At.z | apply At.s))) | ((with_reducible apply i_at); (repeat (first | exact At.z | apply At.s))) | ((with_reducible apply i_atO); (repeat (first | exact At.z | apply At.s))) | ((with_reducible apply i_put); (repeat (first | exact Put.z | apply Put.s))) | ((with_reducible apply i_lenS); (repeat (first | exact At.z | apply At.s)); (rfl)) | ((with_reducible apply i_eqS); (repeat (first | exact At.z | apply At.s))) | ((with_reducible apply i_app); (repeat (first | exact At.z | apply At.s))) | ((with_reducible apply i_sl)) | ((with_reducible apply i_oN)) | ((with_reducible apply i_oS)) | ((with_reducible apply i_setS); (repeat (first | exact At.z | apply At.s))) | ((with_reducible apply i_set); (rfl); (repeat (first | exact LSet.z | apply LSet.s)); (repeat (first | exact Put.z | apply Put.s))) | ((with_reducible apply i_iseq)) | ((with_reducible apply i_rng1)) | ((with_reducible apply i_range); (omega); (omega)) | ((with_reducible apply i_ienum)) | ((with_reducible apply i_for)) | ((with_reducible apply i_lc)) | ((with_reducible apply i_yes)) | ((with_reducible apply i_gcons)) | ((with_reducible apply i_gnil)) | ((with_reducible apply i_gtup); (rfl)) | ((with_reducible apply i_tupA)) | ((with_reducible apply i_retN)) | ((with_reducible apply i_brk)) | ((with_reducible apply i_cont)) | ((with_reducible apply i_mv); (repeat (first | exact At.z | apply At.s)); (repeat (first | exact Put.z | apply Put.s))) | ((with_reducible apply i_neP); (repeat (first | exact At.z | apply At.s)); (rfl); (first | exact eqD_oe (by first | assumption | rfl))) | ((with_reducible apply i_popP); (repeat (first | exact At.z | apply At.s)); (rfl); (rfl); (rfl); ((first | rfl | assumption)); (repeat (first | exact LSet.z | apply LSet.s)); (repeat (first | exact Put.z | apply Put.s))) | ((with_reducible apply i_B) <;> intro hb)))
                  all_goals first | exact no (by clear no yes no1; simp_all [ruleF, ruleL, isS]) _ | exact yes _ (by clear no yes no1; simp_all [ruleF, ruleL, isS]) ⟨_, _, rfl⟩
                · by_cases hI : isI b = true
                  · obtain ⟨j, rfl⟩ := isI_int hI
                    have hy : lays ([D.str s, D.int j].tail.filter fun d => !isI d) = true := rfl
                    rcases hk with ⟨rfl, rfl, rfl, rfl⟩ | ⟨rfl, rfl, rfl, rfl⟩ | ⟨rfl, rfl, rfl, rfl⟩ | ⟨rfl, rfl, rfl, rfl⟩ | ⟨rfl, rfl, rfl, rfl⟩ <;> simp only [Bool.or_false, Bool.or_true, Bool.or_self] at e5 e6 <;> (repeat' (first | ((with_reducible apply i_some); (exact hix)) | ((with_reducible apply lc_whole); (assumption); (exact Nat.le_of_ble_eq_true rfl)) | ((with_reducible apply i_seq)) | ((with_reducible apply i_ret)) | ((with_reducible apply i_next)) | ((with_reducible apply i_ifs)) | ((with_reducible apply i_T); (first | rfl | (with_reducible assumption) | exact not_t (by with_reducible assumption) | exact not_f (by with_reducible assumption))) | ((with_reducible apply i_F); (first | rfl | (with_reducible assumption) | exact not_t (by with_reducible assumption) | exact not_f (by with_reducible assumption))) | ((with_reducible apply i_name); (repeat (first | exact At.z | apply At.s)); ((first | rfl | assumption))) | ((with_reducible apply i_C)) | ((with_reducible apply i_bin)) | ((with_reducible apply i_tst)) | ((with_reducible apply i_tru)) | ((with_reducible apply i_fn)) | ((with_reducible apply i_bl)) | ((with_reducible apply i_cons)) | ((with_reducible apply i_nil)) | ((with_reducible apply i_cal)) | ((with_reducible apply i_un)) | ((with_reducible apply i_some); (first | exact len_t | exact len_l | exact len_o | exact len_f | exact in_f rfl rfl | exact in_t rfl rfl | exact eqM eqD_ss | exact eqM eqD_ii | exact eqM eqD_bb | exact eqM (eqD_oe (by first | assumption | rfl)) | exact eqM (eqD_le (by first | assumption | rfl)) | exact eqM (eqD_te (by first | assumption | rfl)) | exact list1_seq rfl (by first | assumption | rfl) | exact tuple1_seq rfl (by first | assumption | rfl) | exact ix0 (by first | rfl | assumption) | exact ix1 (by first | rfl | assumption) | exact ix2 (by first | rfl | assumption) | exact ix_tup rfl (by first | rfl | assumption) | rfl | exact mod_ii (by first | assumption | decide) | exact div_b (by first | assumption | decide) (by first | assumption | decide | omega) | exact mul_b (by omega) (by omega) (by omega) (by omega))) | ((with_reducible apply i_asg)) | ((with_reducible apply i_gname); (repeat (first | exact Put.z | apply Put.s))) | ((with_reducible apply i_not)) | ((with_reducible apply i_and)) | ((with_reducible apply i_or)) | ((with_reducible apply i_andV)) | ((with_reducible apply i_orV)) | ((with_reducible apply i_notV)) | ((with_reducible apply i_xif)) | ((with_reducible apply i_chain)) | ((with_reducible apply i_ints)) | ((with_reducible apply i_int)) | ((with_reducible apply i_call0)) | ((with_reducible apply i_call1)) | ((with_reducible apply i_lend); (repeat (first | exact At.z | apply At.s)); (repeat (first | exact Put.z | apply Put.s))) | ((with_reducible apply i_out0)) | ((with_reducible apply i_out1); (repeat (first | exact Put.z | apply Put.s))) | ((with_reducible apply i_tup)) | ((with_reducible apply i_lst)) | ((with_reducible apply i_frz)) | ((with_reducible apply i_le); (simp only [List.length_cons, List.length_nil, List.length_append, List.length_map, sizeLine_eq]; omega)) | ((with_reducible apply i_lt); (simp only [List.length_cons, List.length_nil, List.length_append, List.length_map, sizeLine_eq]; omega)) | ((with_reducible apply i_sh); ((first | rfl | assumption | (simp only [List.all_cons, List.all_nil, Bool.and_true, Bool.and_eq_true, List.all_append]; simp [D.sh, *])))) | ((with_reducible apply i_frzO); ((first | rfl | assumption))) | ((with_reducible apply i_do)) | ((with_reducible apply i_par)) | ((with_reducible apply i_puts); (repeat (first | exact Puts.n | exact Put.z | apply Put.s | refine Puts.c ?_ ?_))) | ((with_reducible apply i_ixS); (repeat (first | exact At.z | apply At.s))) | ((with_reducible apply i_at); (repeat (first | exact At.z | apply At.s))) | ((with_reducible apply i_atO); (repeat (first | exact At.z | apply At.s))) | ((with_reducible apply i_put); (repeat (first | exact Put.z | apply Put.s))) | ((with_reducible apply i_lenS); (repeat (first | exact At.z | apply At.s)); (rfl)) | ((with_reducible apply i_eqS); (repeat (first | exact At.z | apply At.s))) | ((with_reducible apply i_app); (repeat (first | exact At.z | apply At.s))) | ((with_reducible apply i_sl)) | ((with_reducible apply i_oN)) | ((with_reducible apply i_oS)) | ((with_reducible apply i_setS); (repeat (first | exact At.z | apply At.s))) | ((with_reducible apply i_set); (rfl); (repeat (first | exact LSet.z | apply LSet.s)); (repeat (first | exact Put.z | apply Put.s))) | ((with_reducible apply i_iseq)) | ((with_reducible apply i_rng1)) | ((with_reducible apply i_range); (omega); (omega)) | ((with_reducible apply i_ienum)) | ((with_reducible apply i_for)) | ((with_reducible apply i_lc)) | ((with_reducible apply i_yes)) | ((with_reducible apply i_gcons)) | ((with_reducible apply i_gnil)) | ((with_reducible apply i_gtup); (rfl)) | ((with_reducible apply i_tupA)) | ((with_reducible apply i_retN)) | ((with_reducible apply i_brk)) | ((with_reducible apply i_cont)) | ((with_reducible apply i_mv); (repeat (first | exact At.z | apply At.s)); (repeat (first | exact Put.z | apply Put.s))) | ((with_reducible apply i_neP); (repeat (first | exact At.z | apply At.s)); (rfl); (first | exact eqD_oe (by first | assumption | rfl))) | ((with_reducible apply i_popP); (repeat (first | exact At.z | apply At.s)); (rfl); (rfl); (rfl); ((first | rfl | assumption)); (repeat (first | exact LSet.z | apply LSet.s)); (repeat (first | exact Put.z | apply Put.s))) | ((with_reducible apply i_B) <;> intro hb)))
                    all_goals first | exact no (by clear no yes no1 h; simp_all [ruleF, ruleL, isS, letF] <;> omega) _ | exact yes _ (by clear no yes no1 h; simp_all [ruleF, ruleL, isS, letF] <;> omega) ⟨_, _, rfl⟩
                  · have hI : isI b = false := by simpa using hI
                    have hy : lays ([D.str s, b].tail.filter fun d => !isI d) = true := by
                      simp only [List.tail_cons, List.filter_cons, hI, Bool.not_false, if_true, List.filter_nil, lays_cons, nice_lay (nices_cons (nices_cons hn).2).1]
                      rfl
                    have hz : ([D.str s, b].tail.filter fun d => !isI d).isEmpty = false := by
                      simp only [List.tail_cons, List.filter_cons, hI, Bool.not_false, if_true, List.isEmpty_cons]
                    have hF : ruleF k (.tup [D.str s, b]) = false := by
                      cases b <;> first | (simp [ruleF, ruleL, letF]; done) | cases hI
                    (repeat' (first | ((with_reducible apply i_some); (exact hix)) | ((with_reducible apply lc_whole); (assumption); (exact Nat.le_of_ble_eq_true rfl)) | ((with_reducible apply i_seq)) | ((with_reducible apply i_ret)) | ((with_reducible apply i_next)) | ((with_reducible apply i_ifs)) | ((with_reducible apply i_T); (first | rfl | (with_reducible assumption) | exact not_t (by with_reducible assumption) | exact not_f (by with_reducible assumption))) | ((with_reducible apply i_F); (first | rfl | (with_reducible assumption) | exact not_t (by with_reducible assumption) | exact not_f (by with_reducible assumption))) | ((with_reducible apply i_name); (repeat (first | exact At.z | apply At.s)); ((first | rfl | assumption))) | ((with_reducible apply i_C)) | ((with_reducible apply i_bin)) | ((with_reducible apply i_tst)) | ((with_reducible apply i_tru)) | ((with_reducible apply i_fn)) | ((with_reducible apply i_bl)) | ((with_reducible apply i_cons)) | ((with_reducible apply i_nil)) | ((with_reducible apply i_cal)) | ((with_reducible apply i_un)) | ((with_reducible apply i_some); (first | exact len_t | exact len_l | exact len_o | exact len_f | exact in_f rfl rfl | exact in_t rfl rfl | exact eqM eqD_ss | exact eqM eqD_ii | exact eqM eqD_bb | exact eqM (eqD_oe (by first | assumption | rfl)) | exact eqM (eqD_le (by first | assumption | rfl)) | exact eqM (eqD_te (by first | assumption | rfl)) | exact list1_seq rfl (by first | assumption | rfl) | exact tuple1_seq rfl (by first | assumption | rfl) | exact ix0 (by first | rfl | assumption) | exact ix1 (by first | rfl | assumption) | exact ix2 (by first | rfl | assumption) | exact ix_tup rfl (by first | rfl | assumption) | rfl | exact mod_ii (by first | assumption | decide) | exact div_b (by first | assumption | decide) (by first | assumption | decide | omega) | exact mul_b (by omega) (by omega) (by omega) (by omega))) | ((with_reducible apply i_asg)) | ((with_reducible apply i_gname); (repeat (first | exact Put.z | apply Put.s))) | ((with_reducible apply i_not)) | ((with_reducible apply i_and)) | ((with_reducible apply i_or)) | ((with_reducible apply i_andV)) | ((with_reducible apply i_orV)) | ((with_reducible apply i_notV)) | ((with_reducible apply i_xif)) | ((with_reducible apply i_chain)) | ((with_reducible apply i_ints)) | ((with_reducible apply i_int)) | ((with_reducible apply i_call0)) | ((with_reducible apply i_call1)) | ((with_reducible apply i_lend); (repeat (first | exact At.z | apply At.s)); (repeat (first | exact Put.z | apply Put.s))) | ((with_reducible apply i_out0)) | ((with_reducible apply i_out1); (repeat (first | exact Put.z | apply Put.s))) | ((with_reducible apply i_tup)) | ((with_reducible apply i_lst)) | ((with_reducible apply i_frz)) | ((with_reducible apply i_le); (simp only [List.length_cons, List.length_nil, List.length_append, List.length_map, sizeLine_eq]; omega)) | ((with_reducible apply i_lt); (simp only [List.length_cons, List.length_nil, List.length_append, List.length_map, sizeLine_eq]; omega)) | ((with_reducible apply i_sh); ((first | rfl | assumption | (simp only [List.all_cons, List.all_nil, Bool.and_true, Bool.and_eq_true, List.all_append]; simp [D.sh, *])))) | ((with_reducible apply i_frzO); ((first | rfl | assumption))) | ((with_reducible apply i_do)) | ((with_reducible apply i_par)) | ((with_reducible apply i_puts); (repeat (first | exact Puts.n | exact Put.z | apply Put.s | refine Puts.c ?_ ?_))) | ((with_reducible apply i_ixS); (repeat (first | exact At.z | apply At.s))) | ((with_reducible apply i_at); (repeat (first | exact At.z | apply At.s))) | ((with_reducible apply i_atO); (repeat (first | exact At.z | apply At.s))) | ((with_reducible apply i_put); (repeat (first | exact Put.z | apply Put.s))) | ((with_reducible apply i_lenS); (repeat (first | exact At.z | apply At.s)); (rfl)) | ((with_reducible apply i_eqS); (repeat (first | exact At.z | apply At.s))) | ((with_reducible apply i_app); (repeat (first | exact At.z | apply At.s))) | ((with_reducible apply i_sl)) | ((with_reducible apply i_oN)) | ((with_reducible apply i_oS)) | ((with_reducible apply i_setS); (repeat (first | exact At.z | apply At.s))) | ((with_reducible apply i_set); (rfl); (repeat (first | exact LSet.z | apply LSet.s)); (repeat (first | exact Put.z | apply Put.s))) | ((with_reducible apply i_iseq)) | ((with_reducible apply i_rng1)) | ((with_reducible apply i_range); (omega); (omega)) | ((with_reducible apply i_ienum)) | ((with_reducible apply i_for)) | ((with_reducible apply i_lc)) | ((with_reducible apply i_yes)) | ((with_reducible apply i_gcons)) | ((with_reducible apply i_gnil)) | ((with_reducible apply i_gtup); (rfl)) | ((with_reducible apply i_tupA)) | ((with_reducible apply i_retN)) | ((with_reducible apply i_brk)) | ((with_reducible apply i_cont)) | ((with_reducible apply i_mv); (repeat (first | exact At.z | apply At.s)); (repeat (first | exact Put.z | apply Put.s))) | ((with_reducible apply i_neP); (repeat (first | exact At.z | apply At.s)); (rfl); (first | exact eqD_oe (by first | assumption | rfl))) | ((with_reducible apply i_popP); (repeat (first | exact At.z | apply At.s)); (rfl); (rfl); (rfl); ((first | rfl | assumption)); (repeat (first | exact LSet.z | apply LSet.s)); (repeat (first | exact Put.z | apply Put.s))) | ((with_reducible apply i_B) <;> intro hb)))
                    all_goals exact no hF _
                · have hb := nice_sh (nices_cons (nices_cons hn).2).1
                  have hc := nice_sh (nices_cons (nices_cons (nices_cons hn).2).2).1
                  by_cases hI : (isI b && isI c) = true
                  · rw [Bool.and_eq_true] at hI
                    obtain ⟨i, rfl⟩ := isI_int hI.1
                    obtain ⟨j, rfl⟩ := isI_int hI.2
                    have hy : lays ([D.str s, D.int i, D.int j].tail.filter fun d => !isI d) = true := rfl
                    rcases hk with ⟨rfl, rfl, rfl, rfl⟩ | ⟨rfl, rfl, rfl, rfl⟩ | ⟨rfl, rfl, rfl, rfl⟩ | ⟨rfl, rfl, rfl, rfl⟩ | ⟨rfl, rfl, rfl, rfl⟩ <;> simp only [Bool.or_false, Bool.or_true, Bool.or_self] at e5 e6 <;> (repeat' (first | ((with_reducible apply i_some); (exact hix)) | ((with_reducible apply lc_whole); (assumption); (exact Nat.le_of_ble_eq_true rfl)) | ((with_reducible apply i_seq)) | ((with_reducible apply i_ret)) | ((with_reducible apply i_next)) | ((with_reducible apply i_ifs)) | ((with_reducible apply i_T); (first | rfl | (with_reducible assumption) | exact not_t (by with_reducible assumption) | exact not_f (by with_reducible assumption))) | ((with_reducible apply i_F); (first | rfl | (with_reducible assumption) | exact not_t (by with_reducible assumption) | exact not_f (by with_reducible assumption))) | ((with_reducible apply i_name); (repeat (first | exact At.z | apply At.s)); ((first | rfl | assumption))) | ((with_reducible apply i_C)) | ((with_reducible apply i_bin)) | ((with_reducible apply i_tst)) | ((with_reducible apply i_tru)) | ((with_reducible apply i_fn)) | ((with_reducible apply i_bl)) | ((with_reducible apply i_cons)) | ((with_reducible apply i_nil)) | ((with_reducible apply i_cal)) | ((with_reducible apply i_un)) | ((with_reducible apply i_some); (first | exact len_t | exact len_l | exact len_o | exact len_f | exact in_f rfl rfl | exact in_t rfl rfl | exact eqM eqD_ss | exact eqM eqD_ii | exact eqM eqD_bb | exact eqM (eqD_oe (by first | assumption | rfl)) | exact eqM (eqD_le (by first | assumption | rfl)) | exact eqM (eqD_te (by first | assumption | rfl)) | exact list1_seq rfl (by first | assumption | rfl) | exact tuple1_seq rfl (by first | assumption | rfl) | exact ix0 (by first | rfl | assumption) | exact ix1 (by first | rfl | assumption) | exact ix2 (by first | rfl | assumption) | exact ix_tup rfl (by first | rfl | assumption) | rfl | exact mod_ii (by first | assumption | decide) | exact div_b (by first | assumption | decide) (by first | assumption | decide | omega) | exact mul_b (by omega) (by omega) (by omega) (by omega))) | ((with_reducible apply i_asg)) | ((with_reducible apply i_gname); (repeat (first | exact Put.z | apply Put.s))) | ((with_reducible apply i_not)) | ((with_reducible apply i_and)) | ((with_reducible apply i_or)) | ((with_reducible apply i_andV)) | ((with_reducible apply i_orV)) | ((with_reducible apply i_notV)) | ((with_reducible apply i_xif)) | ((with_reducible apply i_chain)) | ((with_reducible apply i_ints)) | ((with_reducible apply i_int)) | ((with_reducible apply i_call0)) | ((with_reducible apply i_call1)) | ((with_reducible apply i_lend); (repeat (first | exact At.z | apply At.s)); (repeat (first | exact Put.z | apply Put.s))) | ((with_reducible apply i_out0)) | ((with_reducible apply i_out1); (repeat (first | exact Put.z | apply Put.s))) | ((with_reducible apply i_tup)) | ((with_reducible apply i_lst)) | ((with_reducible apply i_frz)) | ((with_reducible apply i_le); (simp only [List.length_cons, List.length_nil, List.length_append, List.length_map, sizeLine_eq]; omega)) | ((with_reducible apply i_lt); (simp only [List.length_cons, List.length_nil, List.length_append, List.length_map, sizeLine_eq]; omega)) | ((with_reducible apply i_sh); ((first | rfl | assumption | (simp only [List.all_cons, List.all_nil, Bool.and_true, Bool.and_eq_true, List.all_append]; simp [D.sh, *])))) | ((with_reducible apply i_frzO); ((first | rfl | assumption))) | ((with_reducible apply i_do)) | ((with_reducible apply i_par)) | ((with_reducible apply i_puts); (repeat (first | exact Puts.n | exact Put.z | apply Put.s | refine Puts.c ?_ ?_))) | ((with_reducible apply i_ixS); (repeat (first | exact At.z | apply At.s))) | ((with_reducible apply i_at); (repeat (first | exact At.z | apply At.s))) | ((with_reducible apply i_atO); (repeat (first | exact At.z | apply At.s))) | ((with_reducible apply i_put); (repeat (first | exact Put.z | apply Put.s))) | ((with_reducible apply i_lenS); (repeat (first | exact At.z | apply At.s)); (rfl)) | ((with_reducible apply i_eqS); (repeat (first | exact At.z | apply At.s))) | ((with_reducible apply i_app); (repeat (first | exact At.z | apply At.s))) | ((with_reducible apply i_sl)) | ((with_reducible apply i_oN)) | ((with_reducible apply i_oS)) | ((with_reducible apply i_setS); (repeat (first | exact At.z | apply At.s))) | ((with_reducible apply i_set); (rfl); (repeat (first | exact LSet.z | apply LSet.s)); (repeat (first | exact Put.z | apply Put.s))) | ((with_reducible apply i_iseq)) | ((with_reducible apply i_rng1)) | ((with_reducible apply i_range); (omega); (omega)) | ((with_reducible apply i_ienum)) | ((with_reducible apply i_for)) | ((with_reducible apply i_lc)) | ((with_reducible apply i_yes)) | ((with_reducible apply i_gcons)) | ((with_reducible apply i_gnil)) | ((with_reducible apply i_gtup); (rfl)) | ((with_reducible apply i_tupA)) | ((with_reducible apply i_retN)) | ((with_reducible apply i_brk)) | ((with_reducible apply i_cont)) | ((with_reducible apply i_mv); (repeat (first | exact At.z | apply At.s)); (repeat (first | exact Put.z | apply Put.s))) | ((with_reducible apply i_neP); (repeat (first | exact At.z | apply At.s)); (rfl); (first | exact eqD_oe (by first | assumption | rfl))) | ((with_reducible apply i_popP); (repeat (first | exact At.z | apply At.s)); (rfl); (rfl); (rfl); ((first | rfl | assumption)); (repeat (first | exact LSet.z | apply LSet.s)); (repeat (first | exact Put.z | apply Put.s))) | ((with_reducible apply i_B) <;> intro hb)))
                    all_goals first | exact no (by clear no yes no1 h; simp_all [ruleF, ruleL, isS, letF, withinF, bigF] <;> omega) _ | exact yes _ (by clear no yes no1 h; simp_all [ruleF, ruleL, isS, letF, withinF, bigF] <;> omega) ⟨_, _, rfl⟩
                  · have hI : (isI b && isI c) = false := by simpa using hI
                    have hy : lays ([D.str s, b, c].tail.filter fun d => !isI d) = true := nices_lays (nices_of fun z hz => nices_mem (nices_cons hn).2 (List.mem_filter.mp hz).1)
                    have hz : ([D.str s, b, c].tail.filter fun d => !isI d).isEmpty = false := by
                      simp only [List.tail_cons, List.filter_cons]
                      cases h1 : isI b with
                      | false => simp
                      | true =>
                        rw [h1] at hI
                        simp only [Bool.true_and] at hI
                        simp [hI]
                    have hF : ruleF k (.tup [D.str s, b, c]) = false := by
                      cases h1 : isI b with
                      | false => cases b <;> first | (simp [ruleF, ruleL, withinF]; done) | cases h1
                      | true =>
                        rw [h1] at hI
                        cases c <;> first | (simp [ruleF, ruleL, withinF, bigF]; done) | cases hI
                    (repeat' (first | ((with_reducible apply i_some); (exact hix)) | ((with_reducible apply lc_whole); (assumption); (exact Nat.le_of_ble_eq_true rfl)) | ((with_reducible apply i_seq)) | ((with_reducible apply i_ret)) | ((with_reducible apply i_next)) | ((with_reducible apply i_ifs)) | ((with_reducible apply i_T); (first | rfl | (with_reducible assumption) | exact not_t (by with_reducible assumption) | exact not_f (by with_reducible assumption))) | ((with_reducible apply i_F); (first | rfl | (with_reducible assumption) | exact not_t (by with_reducible assumption) | exact not_f (by with_reducible assumption))) | ((with_reducible apply i_name); (repeat (first | exact At.z | apply At.s)); ((first | rfl | assumption))) | ((with_reducible apply i_C)) | ((with_reducible apply i_bin)) | ((with_reducible apply i_tst)) | ((with_reducible apply i_tru)) | ((with_reducible apply i_fn)) | ((with_reducible apply i_bl)) | ((with_reducible apply i_cons)) | ((with_reducible apply i_nil)) | ((with_reducible apply i_cal)) | ((with_reducible apply i_un)) | ((with_reducible apply i_some); (first | exact len_t | exact len_l | exact len_o | exact len_f | exact in_f rfl rfl | exact in_t rfl rfl | exact eqM eqD_ss | exact eqM eqD_ii | exact eqM eqD_bb | exact eqM (eqD_oe (by first | assumption | rfl)) | exact eqM (eqD_le (by first | assumption | rfl)) | exact eqM (eqD_te (by first | assumption | rfl)) | exact list1_seq rfl (by first | assumption | rfl) | exact tuple1_seq rfl (by first | assumption | rfl) | exact ix0 (by first | rfl | assumption) | exact ix1 (by first | rfl | assumption) | exact ix2 (by first | rfl | assumption) | exact ix_tup rfl (by first | rfl | assumption) | rfl | exact mod_ii (by first | assumption | decide) | exact div_b (by first | assumption | decide) (by first | assumption | decide | omega) | exact mul_b (by omega) (by omega) (by omega) (by omega))) | ((with_reducible apply i_asg)) | ((with_reducible apply i_gname); (repeat (first | exact Put.z | apply Put.s))) | ((with_reducible apply i_not)) | ((with_reducible apply i_and)) | ((with_reducible apply i_or)) | ((with_reducible apply i_andV)) | ((with_reducible apply i_orV)) | ((with_reducible apply i_notV)) | ((with_reducible apply i_xif)) | ((with_reducible apply i_chain)) | ((with_reducible apply i_ints)) | ((with_reducible apply i_int)) | ((with_reducible apply i_call0)) | ((with_reducible apply i_call1)) | ((with_reducible apply i_lend); (repeat (first | exact At.z | apply At.s)); (repeat (first | exact Put.z | apply Put.s))) | ((with_reducible apply i_out0)) | ((with_reducible apply i_out1); (repeat (first | exact Put.z | apply Put.s))) | ((with_reducible apply i_tup)) | ((with_reducible apply i_lst)) | ((with_reducible apply i_frz)) | ((with_reducible apply i_le); (simp only [List.length_cons, List.length_nil, List.length_append, List.length_map, sizeLine_eq]; omega)) | ((with_reducible apply i_lt); (simp only [List.length_cons, List.length_nil, List.length_append, List.length_map, sizeLine_eq]; omega)) | ((with_reducible apply i_sh); ((first | rfl | assumption | (simp only [List.all_cons, List.all_nil, Bool.and_true, Bool.and_eq_true, List.all_append]; simp [D.sh, *])))) | ((with_reducible apply i_frzO); ((first | rfl | assumption))) | ((with_reducible apply i_do)) | ((with_reducible apply i_par)) | ((with_reducible apply i_puts); (repeat (first | exact Puts.n | exact Put.z | apply Put.s | refine Puts.c ?_ ?_))) | ((with_reducible apply i_ixS); (repeat (first | exact At.z | apply At.s))) | ((with_reducible apply i_at); (repeat (first | exact At.z | apply At.s))) | ((with_reducible apply i_atO); (repeat (first | exact At.z | apply At.s))) | ((with_reducible apply i_put); (repeat (first | exact Put.z | apply Put.s))) | ((with_reducible apply i_lenS); (repeat (first | exact At.z | apply At.s)); (rfl)) | ((with_reducible apply i_eqS); (repeat (first | exact At.z | apply At.s))) | ((with_reducible apply i_app); (repeat (first | exact At.z | apply At.s))) | ((with_reducible apply i_sl)) | ((with_reducible apply i_oN)) | ((with_reducible apply i_oS)) | ((with_reducible apply i_setS); (repeat (first | exact At.z | apply At.s))) | ((with_reducible apply i_set); (rfl); (repeat (first | exact LSet.z | apply LSet.s)); (repeat (first | exact Put.z | apply Put.s))) | ((with_reducible apply i_iseq)) | ((with_reducible apply i_rng1)) | ((with_reducible apply i_range); (omega); (omega)) | ((with_reducible apply i_ienum)) | ((with_reducible apply i_for)) | ((with_reducible apply i_lc)) | ((with_reducible apply i_yes)) | ((with_reducible apply i_gcons)) | ((with_reducible apply i_gnil)) | ((with_reducible apply i_gtup); (rfl)) | ((with_reducible apply i_tupA)) | ((with_reducible apply i_retN)) | ((with_reducible apply i_brk)) | ((with_reducible apply i_cont)) | ((with_reducible apply i_mv); (repeat (first | exact At.z | apply At.s)); (repeat (first | exact Put.z | apply Put.s))) | ((with_reducible apply i_neP); (repeat (first | exact At.z | apply At.s)); (rfl); (first | exact eqD_oe (by first | assumption | rfl))) | ((with_reducible apply i_popP); (repeat (first | exact At.z | apply At.s)); (rfl); (rfl); (rfl); ((first | rfl | assumption)); (repeat (first | exact LSet.z | apply LSet.s)); (repeat (first | exact Put.z | apply Put.s))) | ((with_reducible apply i_B) <;> intro hb)))
                    all_goals exact no hF _
                · (repeat' (first | ((with_reducible apply i_some); (exact hix)) | ((with_reducible apply i_seq)) | ((with_reducible apply i_ret)) | ((with_reducible apply i_next)) | ((with_reducible apply i_ifs)) | ((with_reducible apply i_T); (first | rfl | (with_reducible assumption) | exact not_t (by with_reducible assumption) | exact not_f (by with_reducible assumption))) | ((with_reducible apply i_F); (first | rfl | (with_reducible assumption) | exact not_t (by with_reducible assumption) | exact not_f (by with_reducible assumption))) | ((with_reducible apply i_name); (repeat (first | exact At.z | apply At.s)); ((first | rfl | assumption))) | ((with_reducible apply i_C)) | ((with_reducible apply i_bin)) | ((with_reducible apply i_tst)) | ((with_reducible apply i_tru)) | ((with_reducible apply i_fn)) | ((with_reducible apply i_bl)) | ((with_reducible apply i_cons)) | ((with_reducible apply i_nil)) | ((with_reducible apply i_cal)) | ((with_reducible apply i_un)) | ((with_reducible apply i_some); (first | exact len_t | exact len_l | exact len_o | exact len_f | exact in_f rfl rfl | exact in_t rfl rfl | exact eqM eqD_ss | exact eqM eqD_ii | exact eqM eqD_bb | exact eqM (eqD_oe (by first | assumption | rfl)) | exact eqM (eqD_le (by first | assumption | rfl)) | exact eqM (eqD_te (by first | assumption | rfl)) | exact list1_seq rfl (by first | assumption | rfl) | exact tuple1_seq rfl (by first | assumption | rfl) | exact ix0 (by first | rfl | assumption) | exact ix1 (by first | rfl | assumption) | exact ix2 (by first | rfl | assumption) | exact ix_tup rfl (by first | rfl | assumption) | rfl | exact mod_ii (by first | assumption | decide) | exact div_b (by first | assumption | decide) (by first | assumption | decide | omega) | exact mul_b (by omega) (by omega) (by omega) (by omega))) | ((with_reducible apply i_asg)) | ((with_reducible apply i_gname); (repeat (first | exact Put.z | apply Put.s))) | ((with_reducible apply i_not)) | ((with_reducible apply i_and)) | ((with_reducible apply i_or)) | ((with_reducible apply i_andV)) | ((with_reducible apply i_orV)) | ((with_reducible apply i_notV)) | ((with_reducible apply i_xif)) | ((with_reducible apply i_chain)) | ((with_reducible apply i_ints)) | ((with_reducible apply i_int)) | ((with_reducible apply i_call0)) | ((with_reducible apply i_call1)) | ((with_reducible apply i_lend); (repeat (first | exact At.z | apply At.s)); (repeat (first | exact Put.z | apply Put.s))) | ((with_reducible apply i_out0)) | ((with_reducible apply i_out1); (repeat (first | exact Put.z | apply Put.s))) | ((with_reducible apply i_tup)) | ((with_reducible apply i_lst)) | ((with_reducible apply i_frz)) | ((with_reducible apply i_le); (simp only [List.length_cons, List.length_nil, List.length_append, List.length_map, sizeLine_eq]; omega)) | ((with_reducible apply i_lt); (simp only [List.length_cons, List.length_nil, List.length_append, List.length_map, sizeLine_eq]; omega)) | ((with_reducible apply i_sh); ((first | rfl | assumption | (simp only [List.all_cons, List.all_nil, Bool.and_true, Bool.and_eq_true, List.all_append]; simp [D.sh, *])))) | ((with_reducible apply i_frzO); ((first | rfl | assumption))) | ((with_reducible apply i_do)) | ((with_reducible apply i_par)) | ((with_reducible apply i_puts); (repeat (first | exact Puts.n | exact Put.z | apply Put.s | refine Puts.c ?_ ?_))) | ((with_reducible apply i_ixS); (repeat (first | exact At.z | apply At.s))) | ((with_reducible apply i_at); (repeat (first | exact At.z | apply At.s))) | ((with_reducible apply i_atO); (repeat (first | exact At.z | apply At.s))) | ((with_reducible apply i_put); (repeat (first | exact Put.z | apply Put.s))) | ((with_reducible apply i_lenS); (repeat (first | exact At.z | apply At.s)); (rfl)) | ((with_reducible apply i_eqS); (repeat (first | exact At.z | apply At.s))) | ((with_reducible apply i_app); (repeat (first | exact At.z | apply At.s))) | ((with_reducible apply i_sl)) | ((with_reducible apply i_oN)) | ((with_reducible apply i_oS)) | ((with_reducible apply i_setS); (repeat (first | exact At.z | apply At.s))) | ((with_reducible apply i_set); (rfl); (repeat (first | exact LSet.z | apply LSet.s)); (repeat (first | exact Put.z | apply Put.s))) | ((with_reducible apply i_iseq)) | ((with_reducible apply i_rng1)) | ((with_reducible apply i_range); (omega); (omega)) | ((with_reducible apply i_ienum)) | ((with_reducible apply i_for)) | ((with_reducible apply i_lc)) | ((with_reducible apply i_yes)) | ((with_reducible apply i_gcons)) | ((with_reducible apply i_gnil)) | ((with_reducible apply i_gtup); (rfl)) | ((with_reducible apply i_tupA)) | ((with_reducible apply i_retN)) | ((with_reducible apply i_brk)) | ((with_reducible apply i_cont)) | ((with_reducible apply i_mv); (repeat (first | exact At.z | apply At.s)); (repeat (first | exact Put.z | apply Put.s))) | ((with_reducible apply i_neP); (repeat (first | exact At.z | apply At.s)); (rfl); (first | exact eqD_oe (by first | assumption | rfl))) | ((with_reducible apply i_popP); (repeat (first | exact At.z | apply At.s)); (rfl); (rfl); (rfl); ((first | rfl | assumption)); (repeat (first | exact LSet.z | apply LSet.s)); (repeat (first | exact Put.z | apply Put.s))) | ((with_reducible apply i_B) <;> intro hb)))
                  all_goals first | exact no rfl _ | (exfalso; simp at hb; omega)
              · have hsf : a.isStr = false := by simpa using hst
                have hF : ruleF k (.tup (a :: t)) = false := by
                  rcases t with _ | ⟨b, _ | ⟨c, _ | ⟨e, t⟩⟩⟩ <;> cases a <;> first | rfl | cases hsf
                (repeat' (first | ((with_reducible apply i_some); (exact hix)) | ((with_reducible apply i_seq)) | ((with_reducible apply i_ret)) | ((with_reducible apply i_next)) | ((with_reducible apply i_ifs)) | ((with_reducible apply i_T); (first | rfl | (with_reducible assumption) | exact not_t (by with_reducible assumption) | exact not_f (by with_reducible assumption))) | ((with_reducible apply i_F); (first | rfl | (with_reducible assumption) | exact not_t (by with_reducible assumption) | exact not_f (by with_reducible assumption))) | ((with_reducible apply i_name); (repeat (first | exact At.z | apply At.s)); ((first | rfl | assumption))) | ((with_reducible apply i_C)) | ((with_reducible apply i_bin)) | ((with_reducible apply i_tst)) | ((with_reducible apply i_tru)) | ((with_reducible apply i_fn)) | ((with_reducible apply i_bl)) | ((with_reducible apply i_cons)) | ((with_reducible apply i_nil)) | ((with_reducible apply i_cal)) | ((with_reducible apply i_un)) | ((with_reducible apply i_some); (first | exact len_t | exact len_l | exact len_o | exact len_f | exact in_f rfl rfl | exact in_t rfl rfl | exact eqM eqD_ss | exact eqM eqD_ii | exact eqM eqD_bb | exact eqM (eqD_oe (by first | assumption | rfl)) | exact eqM (eqD_le (by first | assumption | rfl)) | exact eqM (eqD_te (by first | assumption | rfl)) | exact list1_seq rfl (by first | assumption | rfl) | exact tuple1_seq rfl (by first | assumption | rfl) | exact ix0 (by first | rfl | assumption) | exact ix1 (by first | rfl | assumption) | exact ix2 (by first | rfl | assumption) | exact ix_tup rfl (by first | rfl | assumption) | rfl | exact mod_ii (by first | assumption | decide) | exact div_b (by first | assumption | decide) (by first | assumption | decide | omega) | exact mul_b (by omega) (by omega) (by omega) (by omega))) | ((with_reducible apply i_asg)) | ((with_reducible apply i_gname); (repeat (first | exact Put.z | apply Put.s))) | ((with_reducible apply i_not)) | ((with_reducible apply i_and)) | ((with_reducible apply i_or)) | ((with_reducible apply i_andV)) | ((with_reducible apply i_orV)) | ((with_reducible apply i_notV)) | ((with_reducible apply i_xif)) | ((with_reducible apply i_chain)) | ((with_reducible apply i_ints)) | ((with_reducible apply i_int)) | ((with_reducible apply i_call0)) | ((with_reducible apply i_call1)) | ((with_reducible apply i_lend); (repeat (first | exact At.z | apply At.s)); (repeat (first | exact Put.z | apply Put.s))) | ((with_reducible apply i_out0)) | ((with_reducible apply i_out1); (repeat (first | exact Put.z | apply Put.s))) | ((with_reducible apply i_tup)) | ((with_reducible apply i_lst)) | ((with_reducible apply i_frz)) | ((with_reducible apply i_le); (simp only [List.length_cons, List.length_nil, List.length_append, List.length_map, sizeLine_eq]; omega)) | ((with_reducible apply i_lt); (simp only [List.length_cons, List.length_nil, List.length_append, List.length_map, sizeLine_eq]; omega)) | ((with_reducible apply i_sh); ((first | rfl | assumption | (simp only [List.all_cons, List.all_nil, Bool.and_true, Bool.and_eq_true, List.all_append]; simp [D.sh, *])))) | ((with_reducible apply i_frzO); ((first | rfl | assumption))) | ((with_reducible apply i_do)) | ((with_reducible apply i_par)) | ((with_reducible apply i_puts); (repeat (first | exact Puts.n | exact Put.z | apply Put.s | refine Puts.c ?_ ?_))) | ((with_reducible apply i_ixS); (repeat (first | exact At.z | apply At.s))) | ((with_reducible apply i_at); (repeat (first | exact At.z | apply At.s))) | ((with_reducible apply i_atO); (repeat (first | exact At.z | apply At.s))) | ((with_reducible apply i_put); (repeat (first | exact Put.z | apply Put.s))) | ((with_reducible apply i_lenS); (repeat (first | exact At.z | apply At.s)); (rfl)) | ((with_reducible apply i_eqS); (repeat (first | exact At.z | apply At.s))) | ((with_reducible apply i_app); (repeat (first | exact At.z | apply At.s))) | ((with_reducible apply i_sl)) | ((with_reducible apply i_oN)) | ((with_reducible apply i_oS)) | ((with_reducible apply i_setS); (repeat (first | exact At.z | apply At.s))) | ((with_reducible apply i_set); (rfl); (repeat (first | exact LSet.z | apply LSet.s)); (repeat (first | exact Put.z | apply Put.s))) | ((with_reducible apply i_iseq)) | ((with_reducible apply i_rng1)) | ((with_reducible apply i_range); (omega); (omega)) | ((with_reducible apply i_ienum)) | ((with_reducible apply i_for)) | ((with_reducible apply i_lc)) | ((with_reducible apply i_yes)) | ((with_reducible apply i_gcons)) | ((with_reducible apply i_gnil)) | ((with_reducible apply i_gtup); (rfl)) | ((with_reducible apply i_tupA)) | ((with_reducible apply i_retN)) | ((with_reducible apply i_brk)) | ((with_reducible apply i_cont)) | ((with_reducible apply i_mv); (repeat (first | exact At.z | apply At.s)); (repeat (first | exact Put.z | apply Put.s))) | ((with_reducible apply i_neP); (repeat (first | exact At.z | apply At.s)); (rfl); (first | exact eqD_oe (by first | assumption | rfl))) | ((with_reducible apply i_popP); (repeat (first | exact At.z | apply At.s)); (rfl); (rfl); (rfl); ((first | rfl | assumption)); (repeat (first | exact LSet.z | apply LSet.s)); (repeat (first | exact Put.z | apply Put.s))) | ((with_reducible apply i_B) <;> intro hb)))
                all_goals exact no hF _
          | _ => cases ht
        · have hty : y.isTup = false := by simpa using ht
          (repeat' (first | ((with_reducible apply i_some); (exact hix)) | ((with_reducible apply i_seq)) | ((with_reducible apply i_ret)) | ((with_reducible apply i_next)) | ((with_reducible apply i_ifs)) | ((with_reducible apply i_T); (first | rfl | (with_reducible assumption) | exact not_t (by with_reducible assumption) | exact not_f (by with_reducible assumption))) | ((with_reducible apply i_F); (first | rfl | (with_reducible assumption) | exact not_t (by with_reducible assumption) | exact not_f (by with_reducible assumption))) | ((with_reducible apply i_name); (repeat (first | exact At.z | apply At.s)); ((first | rfl | assumption))) | ((with_reducible apply i_C)) | ((with_reducible apply i_bin)) | ((with_reducible apply i_tst)) | ((with_reducible apply i_tru)) | ((with_reducible apply i_fn)) | ((with_reducible apply i_bl)) | ((with_reducible apply i_cons)) | ((with_reducible apply i_nil)) | ((with_reducible apply i_cal)) | ((with_reducible apply i_un)) | ((with_reducible apply i_some); (first | exact len_t | exact len_l | exact len_o | exact len_f | exact in_f rfl rfl | exact in_t rfl rfl | exact eqM eqD_ss | exact eqM eqD_ii | exact eqM eqD_bb | exact eqM (eqD_oe (by first | assumption | rfl)) | exact eqM (eqD_le (by first | assumption | rfl)) | exact eqM (eqD_te (by first | assumption | rfl)) | exact list1_seq rfl (by first | assumption | rfl) | exact tuple1_seq rfl (by first | assumption | rfl) | exact ix0 (by first | rfl | assumption) | exact ix1 (by first | rfl | assumption) | exact ix2 (by first | rfl | assumption) | exact ix_tup rfl (by first | rfl | assumption) | rfl | exact mod_ii (by first | assumption | decide) | exact div_b (by first | assumption | decide) (by first | assumption | decide | omega) | exact mul_b (by omega) (by omega) (by omega) (by omega))) | ((with_reducible apply i_asg)) | ((with_reducible apply i_gname); (repeat (first | exact Put.z | apply Put.s))) | ((with_reducible apply i_not)) | ((with_reducible apply i_and)) | ((with_reducible apply i_or)) | ((with_reducible apply i_andV)) | ((with_reducible apply i_orV)) | ((with_reducible apply i_notV)) | ((with_reducible apply i_xif)) | ((with_reducible apply i_chain)) | ((with_reducible apply i_ints)) | ((with_reducible apply i_int)) | ((with_reducible apply i_call0)) | ((with_reducible apply i_call1)) | ((with_reducible apply i_lend); (repeat (first | exact At.z | apply At.s)); (repeat (first | exact Put.z | apply Put.s))) | ((with_reducible apply i_out0)) | ((with_reducible apply i_out1); (repeat (first | exact Put.z | apply Put.s))) | ((with_reducible apply i_tup)) | ((with_reducible apply i_lst)) | ((with_reducible apply i_frz)) | ((with_reducible apply i_le); (simp only [List.length_cons, List.length_nil, List.length_append, List.length_map, sizeLine_eq]; omega)) | ((with_reducible apply i_lt); (simp only [List.length_cons, List.length_nil, List.length_append, List.length_map, sizeLine_eq]; omega)) | ((with_reducible apply i_sh); ((first | rfl | assumption | (simp only [List.all_cons, List.all_nil, Bool.and_true, Bool.and_eq_true, List.all_append]; simp [D.sh, *])))) | ((with_reducible apply i_frzO); ((first | rfl | assumption))) | ((with_reducible apply i_do)) | ((with_reducible apply i_par)) | ((with_reducible apply i_puts); (repeat (first | exact Puts.n | exact Put.z | apply Put.s | refine Puts.c ?_ ?_))) | ((with_reducible apply i_ixS); (repeat (first | exact At.z | apply At.s))) | ((with_reducible apply i_at); (repeat (first | exact At.z | apply At.s))) | ((with_reducible apply i_atO); (repeat (first | exact At.z | apply At.s))) | ((with_reducible apply i_put); (repeat (first | exact Put.z | apply Put.s))) | ((with_reducible apply i_lenS); (repeat (first | exact At.z | apply At.s)); (rfl)) | ((with_reducible apply i_eqS); (repeat (first | exact At.z | apply At.s))) | ((with_reducible apply i_app); (repeat (first | exact At.z | apply At.s))) | ((with_reducible apply i_sl)) | ((with_reducible apply i_oN)) | ((with_reducible apply i_oS)) | ((with_reducible apply i_setS); (repeat (first | exact At.z | apply At.s))) | ((with_reducible apply i_set); (rfl); (repeat (first | exact LSet.z | apply LSet.s)); (repeat (first | exact Put.z | apply Put.s))) | ((with_reducible apply i_iseq)) | ((with_reducible apply i_rng1)) | ((with_reducible apply i_range); (omega); (omega)) | ((with_reducible apply i_ienum)) | ((with_reducible apply i_for)) | ((with_reducible apply i_lc)) | ((with_reducible apply i_yes)) | ((with_reducible apply i_gcons)) | ((with_reducible apply i_gnil)) | ((with_reducible apply i_gtup); (rfl)) | ((with_reducible apply i_tupA)) | ((with_reducible apply i_retN)) | ((with_reducible apply i_brk)) | ((with_reducible apply i_cont)) | ((with_reducible apply i_mv); (repeat (first | exact At.z | apply At.s)); (repeat (first | exact Put.z | apply Put.s))) | ((with_reducible apply i_neP); (repeat (first | exact At.z | apply At.s)); (rfl); (first | exact eqD_oe (by first | assumption | rfl))) | ((with_reducible apply i_popP); (repeat (first | exact At.z | apply At.s)); (rfl); (rfl); (rfl); ((first | rfl | assumption)); (repeat (first | exact LSet.z | apply LSet.s)); (repeat (first | exact Put.z | apply Put.s))) | ((with_reducible apply i_B) <;> intro hb)))
          refine no ?_ _
          cases y <;> first | rfl | cases hty
      · rintro _ ⟨h1, s1, s2, rfl⟩
        (repeat' (first | ((with_reducible apply i_seq)) | ((with_reducible apply i_ret)) | ((with_reducible apply i_next)) | ((with_reducible apply i_ifs)) | ((with_reducible apply i_T); (first | rfl | (with_reducible assumption) | exact not_t (by with_reducible assumption) | exact not_f (by with_reducible assumption))) | ((with_reducible apply i_F); (first | rfl | (with_reducible assumption) | exact not_t (by with_reducible assumption) | exact not_f (by with_reducible assumption))) | ((with_reducible apply i_name); (repeat (first | exact At.z | apply At.s)); ((first | rfl | assumption))) | ((with_reducible apply i_C)) | ((with_reducible apply i_bin)) | ((with_reducible apply i_tst)) | ((with_reducible apply i_tru)) | ((with_reducible apply i_fn)) | ((with_reducible apply i_bl)) | ((with_reducible apply i_cons)) | ((with_reducible apply i_nil)) | ((with_reducible apply i_cal)) | ((with_reducible apply i_un)) | ((with_reducible apply i_some); (first | exact len_t | exact len_l | exact len_o | exact len_f | exact in_f rfl rfl | exact in_t rfl rfl | exact eqM eqD_ss | exact eqM eqD_ii | exact eqM eqD_bb | exact eqM (eqD_oe (by first | assumption | rfl)) | exact eqM (eqD_le (by first | assumption | rfl)) | exact eqM (eqD_te (by first | assumption | rfl)) | exact list1_seq rfl (by first | assumption | rfl) | exact tuple1_seq rfl (by first | assumption | rfl) | exact ix0 (by first | rfl | assumption) | exact ix1 (by first | rfl | assumption) | exact ix2 (by first | rfl | assumption) | exact ix_tup rfl (by first | rfl | assumption) | rfl | exact mod_ii (by first | assumption | decide) | exact div_b (by first | assumption | decide) (by first | assumption | decide | omega) | exact mul_b (by omega) (by omega) (by omega) (by omega))) | ((with_reducible apply i_asg)) | ((with_reducible apply i_gname); (repeat (first | exact Put.z | apply Put.s))) | ((with_reducible apply i_not)) | ((with_reducible apply i_and)) | ((with_reducible apply i_or)) | ((with_reducible apply i_andV)) | ((with_reducible apply i_orV)) | ((with_reducible apply i_notV)) | ((with_reducible apply i_xif)) | ((with_reducible apply i_chain)) | ((with_reducible apply i_ints)) | ((with_reducible apply i_int)) | ((with_reducible apply i_call0)) | ((with_reducible apply i_call1)) | ((with_reducible apply i_lend); (repeat (first | exact At.z | apply At.s)); (repeat (first | exact Put.z | apply Put.s))) | ((with_reducible apply i_out0)) | ((with_reducible apply i_out1); (repeat (first | exact Put.z | apply Put.s))) | ((with_reducible apply i_tup)) | ((with_reducible apply i_lst)) | ((with_reducible apply i_frz)) | ((with_reducible apply i_le); (simp only [List.length_cons, List.length_nil, List.length_append, List.length_map, sizeLine_eq]; omega)) | ((with_reducible apply i_lt); (simp only [List.length_cons, List.length_nil, List.length_append, List.length_map, sizeLine_eq]; omega)) | ((with_reducible apply i_sh); ((first | rfl | assumption | (simp only [List.all_cons, List.all_nil, Bool.and_true, Bool.and_eq_true, List.all_append]; simp [D.sh, *])))) | ((with_reducible apply i_frzO); ((first | rfl | assumption))) | ((with_reducible apply i_do)) | ((with_reducible apply i_par)) | ((with_reducible apply i_puts); (repeat (first | exact Puts.n | exact Put.z | apply Put.s | refine Puts.c ?_ ?_))) | ((with_reducible apply i_ixS); (repeat (first | exact At.z | apply At.s))) | ((with_reducible apply i_at); (repeat (first | exact At.z | apply At.s))) | ((with_reducible apply i_atO); (repeat (first | exact At.z | apply At.s))) | ((with_reducible apply i_put); (repeat (first | exact Put.z | apply Put.s))) | ((with_reducible apply i_lenS); (repeat (first | exact At.z | apply At.s)); (rfl)) | ((with_reducible apply i_eqS); (repeat (first | exact At.z | apply At.s))) | ((with_reducible apply i_app); (repeat (first | exact At.z | apply At.s))) | ((with_reducible apply i_sl)) | ((with_reducible apply i_oN)) | ((with_reducible apply i_oS)) | ((with_reducible apply i_setS); (repeat (first | exact At.z | apply At.s))) | ((with_reducible apply i_set); (rfl); (repeat (first | exact LSet.z | apply LSet.s)); (repeat (first | exact Put.z | apply Put.s))) | ((with_reducible apply i_iseq)) | ((with_reducible apply i_rng1)) | ((with_reducible apply i_range); (omega); (omega)) | ((with_reducible apply i_ienum)) | ((with_reducible apply i_for)) | ((with_reducible apply i_lc)) | ((with_reducible apply i_yes)) | ((with_reducible apply i_gcons)) | ((with_reducible apply i_gnil)) | ((with_reducible apply i_gtup); (rfl)) | ((with_reducible apply i_tupA)) | ((with_reducible apply i_retN)) | ((with_reducible apply i_brk)) | ((with_reducible apply i_cont)) | ((with_reducible apply i_mv); (repeat (first | exact At.z | apply At.s)); (repeat (first | exact Put.z | apply Put.s))) | ((with_reducible apply i_neP); (repeat (first | exact At.z | apply At.s)); (rfl); (first | exact eqD_oe (by first | assumption | rfl))) | ((with_reducible apply i_popP); (repeat (first | exact At.z | apply At.s)); (rfl); (rfl); (rfl); ((first | rfl | assumption)); (repeat (first | exact LSet.z | apply LSet.s)); (repeat (first | exact Put.z | apply Put.s))) | ((with_reducible apply i_B) <;> intro hb)))
        refine ok _ _ [] rfl ⟨congrArg D.bl ?_, rfl⟩
        have := rulesF_all (j := 0) (xs := xs) fun i z e => by
          rw [Nat.zero_add]
          exact h1 i z (by rw [rngD_length]; simp; exact (List.getElem?_eq_some_iff.mp e).1) e
        simp [strF, this]
        omega
    · refine ok _ _ [] rfl ⟨congrArg D.bl ?_, rfl⟩
      simp at hb
      simp [strF, hb]
  | _ =>
    (repeat' (first | ((with_reducible apply i_seq)) | ((with_reducible apply i_ret)) | ((with_reducible apply i_next)) | ((with_reducible apply i_ifs)) | ((with_reducible apply i_T); (first | rfl | (with_reducible assumption) | exact not_t (by with_reducible assumption) | exact not_f (by with_reducible assumption))) | ((with_reducible apply i_F); (first | rfl | (with_reducible assumption) | exact not_t (by with_reducible assumption) | exact not_f (by with_reducible assumption))) | ((with_reducible apply i_name); (repeat (first | exact At.z | apply At.s)); ((first | rfl | assumption))) | ((with_reducible apply i_C)) | ((with_reducible apply i_bin)) | ((with_reducible apply i_tst)) | ((with_reducible apply i_tru)) | ((with_reducible apply i_fn)) | ((with_reducible apply i_bl)) | ((with_reducible apply i_cons)) | ((with_reducible apply i_nil)) | ((with_reducible apply i_cal)) | ((with_reducible apply i_un)) | ((with_reducible apply i_some); (first | exact len_t | exact len_l | exact len_o | exact len_f | exact in_f rfl rfl | exact in_t rfl rfl | exact eqM eqD_ss | exact eqM eqD_ii | exact eqM eqD_bb | exact eqM (eqD_oe (by first | assumption | rfl)) | exact eqM (eqD_le (by first | assumption | rfl)) | exact eqM (eqD_te (by first | assumption | rfl)) | exact list1_seq rfl (by first | assumption | rfl) | exact tuple1_seq rfl (by first | assumption | rfl) | exact ix0 (by first | rfl | assumption) | exact ix1 (by first | rfl | assumption) | exact ix2 (by first | rfl | assumption) | exact ix_tup rfl (by first | rfl | assumption) | rfl | exact mod_ii (by first | assumption | decide) | exact div_b (by first | assumption | decide) (by first | assumption | decide | omega) | exact mul_b (by omega) (by omega) (by omega) (by omega))) | ((with_reducible apply i_asg)) | ((with_reducible apply i_gname); (repeat (first | exact Put.z | apply Put.s))) | ((with_reducible apply i_not)) | ((with_reducible apply i_and)) | ((with_reducible apply i_or)) | ((with_reducible apply i_andV)) | ((with_reducible apply i_orV)) | ((with_reducible apply i_notV)) | ((with_reducible apply i_xif)) | ((with_reducible apply i_chain)) | ((with_reducible apply i_ints)) | ((with_reducible apply i_int)) | ((with_reducible apply i_call0)) | ((with_reducible apply i_call1)) | ((with_reducible apply i_lend); (repeat (first | exact At.z | apply At.s)); (repeat (first | exact Put.z | apply Put.s))) | ((with_reducible apply i_out0)) | ((with_reducible apply i_out1); (repeat (first | exact Put.z | apply Put.s))) | ((with_reducible apply i_tup)) | ((with_reducible apply i_lst)) | ((with_reducible apply i_frz)) | ((with_reducible apply i_le); (simp only [List.length_cons, List.length_nil, List.length_append, List.length_map, sizeLine_eq]; omega)) | ((with_reducible apply i_lt); (simp only [List.length_cons, List.length_nil, List.length_append, List.length_map, sizeLine_eq]; omega)) | ((with_reducible apply i_sh); ((first | rfl | assumption | (simp only [List.all_cons, List.all_nil, Bool.and_true, Bool.and_eq_true, List.all_append]; simp [D.sh, *])))) | ((with_reducible apply i_frzO); ((first | rfl | assumption))) | ((with_reducible apply i_do)) | ((with_reducible apply i_par)) | ((with_reducible apply i_puts); (repeat (first | exact Puts.n | exact Put.z | apply Put.s | refine Puts.c ?_ ?_))) | ((with_reducible apply i_ixS); (repeat (first | exact At.z | apply At.s))) | ((with_reducible apply i_at); (repeat (first | exact At.z | apply At.s))) | ((with_reducible apply i_atO); (repeat (first | exact At.z | apply At.s))) | ((with_reducible apply i_put); (repeat (first | exact Put.z | apply Put.s))) | ((with_reducible apply i_lenS); (repeat (first | exact At.z | apply At.s)); (rfl)) | ((with_reducible apply i_eqS); (repeat (first | exact At.z | apply At.s))) | ((with_reducible apply i_app); (repeat (first | exact At.z | apply At.s))) | ((with_reducible apply i_sl)) | ((with_reducible apply i_oN)) | ((with_reducible apply i_oS)) | ((with_reducible apply i_setS); (repeat (first | exact At.z | apply At.s))) | ((with_reducible apply i_set); (rfl); (repeat (first | exact LSet.z | apply LSet.s)); (repeat (first | exact Put.z | apply Put.s))) | ((with_reducible apply i_iseq)) | ((with_reducible apply i_rng1)) | ((with_reducible apply i_range); (omega); (omega)) | ((with_reducible apply i_ienum)) | ((with_reducible apply i_for)) | ((with_reducible apply i_lc)) | ((with_reducible apply i_yes)) | ((with_reducible apply i_gcons)) | ((with_reducible apply i_gnil)) | ((with_reducible apply i_gtup); (rfl)) | ((with_reducible apply i_tupA)) | ((with_reducible apply i_retN)) | ((with_reducible apply i_brk)) | ((with_reducible apply i_cont)) | ((with_reducible apply i_mv); (repeat (first | exact At.z | apply At.s)); (repeat (first | exact Put.z | apply Put.s))) | ((with_reducible apply i_neP); (repeat (first | exact At.z | apply At.s)); (rfl); (first | exact eqD_oe (by first | assumption | rfl))) | ((with_reducible apply i_popP); (repeat (first | exact At.z | apply At.s)); (rfl); (rfl); (rfl); ((first | rfl | assumption)); (repeat (first | exact LSet.z | apply LSet.s)); (repeat (first | exact Put.z | apply Put.s))) | ((with_reducible apply i_B) <;> intro hb)))
    exact ok _ _ [] rfl ⟨rfl, rfl⟩
end K34

namespace K34
open PySem PySem.Spec PyProof.Rows L2 BV
theorem fe_sip {c : D} {n : Int} {m : Nat} {Q : D → List D → Prop} (h : Cup m c) (hm : m ≤ 1000000000) (h1 : 0 < n) (h2 : n ≤ 10 ^ 30) (q : ∀ k c', 0 ≤ k → k < n → Cup (m + 1) c' → Q (.int k) [c']) : F_sip.f [c, .int n] Q :=
  ⟨(m, c, n), rfl, ⟨h, hm, h1, h2⟩, fun _ _ ⟨k, c', e1, h1, h2, e2, h3⟩ => by rw [e1, e2]; exact q k c' h1 h2 h3⟩
theorem fe_bent {j : Nat} {c d : D} {m : Nat} {Q : D → List D → Prop} (h : Cup m c) (hm : m + 10 * j ≤ 100000000) (h1 : small j d = true) (q : ∀ r c', nice r = true → Cup (m + 10 * j + 10) c' → Q r [c']) : (F_bentJ j).f [c, d] Q :=
  ⟨(m, c, d), rfl, ⟨h, hm, h1⟩, fun _ _ ⟨c', h1, e2, h3⟩ => by rw [e2]; exact q _ c' h1 h3⟩
mutual
theorem small_nice : ∀ {n : Nat} {d : D}, small n d = true → nice d = true
  | 0, _, h => by simp [small] at h
  | n + 1, .int _, _ => by simp only [nice]
  | n + 1, .str _, h => by simp only [small] at h; simp only [nice, h]
  | n + 1, .tup xs, h => by
    simp only [small, Bool.and_eq_true] at h
    simp only [nice, smalls_nices h.2]
  | n + 1, .non, h => by simp [small] at h
  | n + 1, .bl _, h => by simp [small] at h
  | n + 1, .lst _, h => by simp [small] at h
  | n + 1, .frl _, h => by simp [small] at h
  | n + 1, .own _, h => by simp [small] at h
theorem smalls_nices : ∀ {n : Nat} {xs : List D}, smalls n xs = true → nices xs = true
  | _, [], _ => by simp only [nices]
  | n, x :: xs, h => by
    simp only [smalls, Bool.and_eq_true] at h
    simp only [nices, small_nice h.1, smalls_nices h.2, Bool.and_self]
end
theorem smalls_mem {n : Nat} : ∀ {xs : List D} {z : D}, smalls n xs = true → z ∈ xs → small n z = true
  | [], _, _, e => by cases e
  | x :: xs, z, h, e => by
    simp only [smalls, Bool.and_eq_true] at h
    rcases List.mem_cons.mp e with rfl | e
    · exact h.1
    · exact smalls_mem h.2 e
theorem Cup.le {m n : Nat} {c : D} (h : Cup m c) (hn : m ≤ n) : Cup n c := by
  obtain ⟨c0, b, c2, ns, e, h1, h2, h3, h4, h5⟩ := h
  exact ⟨c0, b, c2, ns, e, h1, h2, h3, h4, by omega⟩
theorem pf_bent (j : Nat) : Pf (F_bentJ (j + 1)) (x__law_bent j) [0] (5 - 2) := pf_ex fun ⟨m, c, d⟩ h R N ok _ => by
  unfold x__law_bent
  simp only [List.map_cons, List.map_nil, List.cons_append, List.nil_append, List.append_nil, List.replicate_succ, List.replicate_zero, Nat.reduceSub]
  obtain ⟨hc, hm, hd⟩ := h
  dsimp only at *
  have hn := small_nice hd
  have hs := nice_sh hn
  by_cases ht : d.isTup = true
  · cases d with
    | tup xs =>
      simp only [small, Bool.and_eq_true] at hd
      have hl := of_decide_eq_true hd.1
      have hd2 := hd.2
      have hy := smalls_nices hd.2
      have hly := nices_lays hy
      have hr := nices_rev hy
      have hsh := nices_sh hy
      have hcut : ∀ lo hi, nices (cutL xs lo hi) = true := fun lo hi => nices_cut hy
      clear hd hn
      by_cases he : xs.isEmpty = true
      · (repeat' (first | ((with_reducible apply fe_sip); (assumption); (omega); ((first | (with_reducible assumption) | omega | (simp only [List.length_append, List.length_cons, List.length_nil]; omega))); ((first | (with_reducible assumption) | omega | (simp only [List.length_append, List.length_cons, List.length_nil]; omega))); (intro k c hk0 hk1 hc)) | ((with_reducible apply i_pick); ((simp only [nices, nice, nices_app, strOk_of, Bool.and_true, Bool.and_self, List.cons_append, List.nil_append, hcut, hy, hr])); ((first | (with_reducible assumption) | omega)); ((first | (with_reducible assumption) | omega | (simp only [List.length_append, List.length_cons, List.length_nil]; omega))); (intro z hz hzn; have hzs := nice_sh hzn)) | ((with_reducible apply i_seq)) | ((with_reducible apply i_ret)) | ((with_reducible apply i_next)) | ((with_reducible apply i_ifs)) | ((with_reducible apply i_T); (first | rfl | (with_reducible assumption) | exact not_t (by with_reducible assumption) | exact not_f (by with_reducible assumption))) | ((with_reducible apply i_F); (first | rfl | (with_reducible assumption) | exact not_t (by with_reducible assumption) | exact not_f (by with_reducible assumption))) | ((with_reducible apply i_name); (repeat (first | exact At.z | apply At.s)); ((first | rfl | assumption))) | ((with_reducible apply i_C)) | ((with_reducible apply i_bin)) | ((with_reducible apply i_tst)) | ((with_reducible apply i_tru)) | ((with_reducible apply i_fn)) | ((with_reducible apply i_bl)) | ((with_reducible apply i_cons)) | ((with_reducible apply i_nil)) | ((with_reducible apply i_cal)) | ((with_reducible apply i_un)) | ((with_reducible apply i_some); (first | ((with_reducible apply len_t)) | ((with_reducible apply len_l)) | ((with_reducible apply len_o)) | ((with_reducible apply len_f)) | ((with_reducible apply in_f); (rfl); (rfl)) | ((with_reducible apply in_t); (rfl); (rfl)) | ((with_reducible apply eqM); (first | (with_reducible exact eqD_ss) | (with_reducible exact eqD_ii) | (with_reducible exact eqD_bb) | ((with_reducible apply eqD_oe); (first | rfl | assumption)) | ((with_reducible apply eqD_le); (first | rfl | assumption)) | ((with_reducible apply eqD_te); (first | rfl | assumption)))) | ((with_reducible apply list1_seq); (rfl); (first | rfl | assumption)) | ((with_reducible apply tuple1_seq); (rfl); (first | rfl | assumption)) | ((with_reducible apply ix0); (first | rfl | assumption)) | ((with_reducible apply ix1); (first | rfl | assumption)) | ((with_reducible apply ix2); (first | rfl | assumption)) | ((with_reducible apply addLO); (simp only [List.length_cons, List.length_nil, List.length_append, List.length_map, sizeLine_eq]; omega); (repeat (first | (with_reducible assumption) | rfl | apply sh_app | apply sh_cons))) | ((with_reducible apply addL); (simp only [List.length_cons, List.length_nil, List.length_append, List.length_map, sizeLine_eq]; omega)) | ((with_reducible apply addOO); (simp only [List.length_cons, List.length_nil, List.length_append, List.length_map, sizeLine_eq]; omega); (repeat (first | (with_reducible assumption) | rfl | apply sh_app | apply sh_cons)); (repeat (first | (with_reducible assumption) | rfl | apply sh_app | apply sh_cons))) | ((with_reducible apply addOL); (simp only [List.length_cons, List.length_nil, List.length_append, List.length_map, sizeLine_eq]; omega); (repeat (first | (with_reducible assumption) | rfl | apply sh_app | apply sh_cons))) | ((with_reducible apply str_s)) | ((with_reducible apply str_i); (omega); (omega)) | ((with_reducible apply addM2); (repeat (first | (with_reducible assumption) | exact len_nil | exact len_rep | apply len_cut | apply len_app | apply len_cons)); (repeat (first | (with_reducible assumption) | exact len_nil | exact len_rep | apply len_cut | apply len_app | apply len_cons)); (simp only [sizeLine_eq]; omega)) | ((with_reducible apply sub_ii)) | ((with_reducible apply add_ii)) | ((with_reducible apply pow_20)) | ((with_reducible apply pow_30)) | ((with_reducible apply pow_40)) | (first | (with_reducible exact eqD_ss) | (with_reducible exact eqD_ii) | (with_reducible exact eqD_bb) | ((with_reducible apply eqD_oe); (first | rfl | assumption)) | ((with_reducible apply eqD_le); (first | rfl | assumption)) | ((with_reducible apply eqD_te); (first | rfl | assumption))) | ((with_reducible apply mul_t); (omega); (omega)) | ((with_reducible apply mod_ii); (first | (with_reducible assumption) | omega | decide)) | ((with_reducible apply div_b); (first | (with_reducible assumption) | omega | decide); (first | (with_reducible assumption) | omega | decide)) | ((with_reducible apply mul_b); (omega); (omega); (omega); (omega)) | (exact ix_tup rfl (by first | rfl | assumption)) | rfl)) | ((with_reducible apply i_asg)) | ((with_reducible apply i_gname); (repeat (first | exact Put.z | apply Put.s))) | ((with_reducible apply i_not)) | ((with_reducible apply i_and)) | ((with_reducible apply i_or)) | ((with_reducible apply i_andV)) | ((with_reducible apply i_orV)) | ((with_reducible apply i_notV)) | ((with_reducible apply i_xif)) | ((with_reducible apply i_chain)) | ((with_reducible apply i_ints)) | ((with_reducible apply i_int)) | ((with_reducible apply i_call0)) | ((with_reducible apply i_call1)) | ((with_reducible apply i_lend); (repeat (first | exact At.z | apply At.s)); (repeat (first | exact Put.z | apply Put.s))) | ((with_reducible apply i_out0)) | ((with_reducible apply i_out1); (repeat (first | exact Put.z | apply Put.s))) | ((with_reducible apply i_tup)) | ((with_reducible apply i_lst)) | ((with_reducible apply i_frz)) | ((with_reducible apply i_le); (simp only [List.length_cons, List.length_nil, List.length_append, List.length_map, sizeLine_eq]; omega)) | ((with_reducible apply i_lt); (simp only [List.length_cons, List.length_nil, List.length_append, List.length_map, sizeLine_eq]; omega)) | ((with_reducible apply i_sh); (repeat (first | (with_reducible assumption) | rfl | apply sh_app | apply sh_cons))) | ((with_reducible apply i_frzO); (repeat (first | (with_reducible assumption) | rfl | apply sh_app | apply sh_cons))) | ((with_reducible apply i_do)) | ((with_reducible apply i_par)) | ((with_reducible apply i_puts); (repeat (first | exact Puts.n | exact Put.z | apply Put.s | apply Puts.c))) | ((with_reducible apply i_ixS); (repeat (first | exact At.z | apply At.s))) | ((with_reducible apply i_at); (repeat (first | exact At.z | apply At.s))) | ((with_reducible apply i_atO); (repeat (first | exact At.z | apply At.s))) | ((with_reducible apply i_put); (repeat (first | exact Put.z | apply Put.s))) | ((with_reducible apply i_lenS); (repeat (first | exact At.z | apply At.s)); (rfl)) | ((with_reducible apply i_leq); (rfl)) | ((with_reducible apply i_eqS); (repeat (first | exact At.z | apply At.s))) | ((with_reducible apply i_neS); (repeat (first | exact At.z | apply At.s))) | ((with_reducible apply i_app); (repeat (first | exact At.z | apply At.s))) | ((with_reducible apply i_sl)) | ((with_reducible apply i_oN)) | ((with_reducible apply i_oS)) | ((with_reducible apply i_setS); (repeat (first | exact At.z | apply At.s))) | ((with_reducible apply i_set); (rfl); (repeat (first | exact LSet.z | apply LSet.s)); (repeat (first | exact Put.z | apply Put.s))) | ((with_reducible apply i_iseq)) | ((with_reducible apply i_rng1)) | ((with_reducible apply i_range); (omega); (omega)) | ((with_reducible apply i_ienum)) | ((with_reducible apply i_for)) | ((with_reducible apply i_lc)) | ((with_reducible apply i_yes)) | ((with_reducible apply i_gcons)) | ((with_reducible apply i_gnil)) | ((with_reducible apply i_gtup); (rfl)) | ((with_reducible apply i_tupA)) | ((with_reducible apply i_retN)) | ((with_reducible apply i_brk)) | ((with_reducible apply i_cont)) | ((with_reducible apply i_mv); (repeat (first | exact At.z | apply At.s)); (repeat (first | exact Put.z | apply Put.s))) | ((with_reducible apply i_neP); (repeat (first | exact At.z | apply At.s)); (rfl); (first | exact eqD_oe (by first | assumption | rfl))) | ((with_reducible apply i_popP); (repeat (first | exact At.z | apply At.s)); (rfl); (rfl); (rfl); ((first | rfl | assumption)); (repeat (first | exact LSet.z | apply LSet.s)); (repeat (first | exact Put.z | apply Put.s))) | ((with_reducible apply i_B) <;> intro hb)))
        exact ok _ _ [c] rfl ⟨c, hzn, rfl, Cup.le hc (by omega)⟩
      · have he : xs.isEmpty = false := by simpa using he
        have hpos : 0 < (xs.length : Int) := by
          cases xs with
          | nil => cases he
          | cons => simp
        (repeat' (first | ((with_reducible apply fe_sip); (assumption); (omega); ((first | (with_reducible assumption) | omega | (simp only [List.length_append, List.length_cons, List.length_nil]; omega))); ((first | (with_reducible assumption) | omega | (simp only [List.length_append, List.length_cons, List.length_nil]; omega))); (intro k c hk0 hk1 hc)) | ((with_reducible apply i_pickT); ((first | assumption | (simp only [nices, nice, nices_app, strOk_of, Bool.and_true, Bool.and_self, List.cons_append, List.nil_append]))); ((first | (with_reducible assumption) | omega)); ((first | (with_reducible assumption) | omega | (simp only [List.length_append, List.length_cons, List.length_nil]; omega))); (intro z hz hzn; have hzs := nice_sh hzn)) | ((with_reducible apply i_pick); ((simp only [nices, nice, nices_app, strOk_of, Bool.and_true, Bool.and_self, List.cons_append, List.nil_append, hcut, hy, hr])); ((first | (with_reducible assumption) | omega)); ((first | (with_reducible assumption) | omega | (simp only [List.length_append, List.length_cons, List.length_nil]; omega))); (intro z hz hzn; have hzs := nice_sh hzn)) | ((with_reducible apply fe_bent); (assumption); (omega); (exact smalls_mem hd2 (by assumption)); (intro r c hrn hc; have hrs := nice_sh hrn)) | ((with_reducible apply i_seq)) | ((with_reducible apply i_ret)) | ((with_reducible apply i_next)) | ((with_reducible apply i_ifs)) | ((with_reducible apply i_T); (first | rfl | (with_reducible assumption) | exact not_t (by with_reducible assumption) | exact not_f (by with_reducible assumption))) | ((with_reducible apply i_F); (first | rfl | (with_reducible assumption) | exact not_t (by with_reducible assumption) | exact not_f (by with_reducible assumption))) | ((with_reducible apply i_name); (repeat (first | exact At.z | apply At.s)); ((first | rfl | assumption))) | ((with_reducible apply i_C)) | ((with_reducible apply i_bin)) | ((with_reducible apply i_tst)) | ((with_reducible apply i_tru)) | ((with_reducible apply i_fn)) | ((with_reducible apply i_bl)) | ((with_reducible apply i_cons)) | ((with_reducible apply i_nil)) | ((with_reducible apply i_cal)) | ((with_reducible apply i_un)) | ((with_reducible apply i_some); (first | ((with_reducible apply len_t)) | ((with_reducible apply len_l)) | ((with_reducible apply len_o)) | ((with_reducible apply len_f)) | ((with_reducible apply in_f); (rfl); (rfl)) | ((with_reducible apply in_t); (rfl); (rfl)) | ((with_reducible apply eqM); (first | (with_reducible exact eqD_ss) | (with_reducible exact eqD_ii) | (with_reducible exact eqD_bb) | ((with_reducible apply eqD_oe); (first | rfl | assumption)) | ((with_reducible apply eqD_le); (first | rfl | assumption)) | ((with_reducible apply eqD_te); (first | rfl | assumption)))) | ((with_reducible apply list1_seq); (rfl); (first | rfl | assumption)) | ((with_reducible apply tuple1_seq); (rfl); (first | rfl | assumption)) | ((with_reducible apply ix0); (first | rfl | assumption)) | ((with_reducible apply ix1); (first | rfl | assumption)) | ((with_reducible apply ix2); (first | rfl | assumption)) | ((with_reducible apply addLO); (simp only [List.length_cons, List.length_nil, List.length_append, List.length_map, sizeLine_eq]; omega); (repeat (first | (with_reducible assumption) | rfl | apply sh_app | apply sh_cons))) | ((with_reducible apply addL); (simp only [List.length_cons, List.length_nil, List.length_append, List.length_map, sizeLine_eq]; omega)) | ((with_reducible apply addOO); (simp only [List.length_cons, List.length_nil, List.length_append, List.length_map, sizeLine_eq]; omega); (repeat (first | (with_reducible assumption) | rfl | apply sh_app | apply sh_cons)); (repeat (first | (with_reducible assumption) | rfl | apply sh_app | apply sh_cons))) | ((with_reducible apply addOL); (simp only [List.length_cons, List.length_nil, List.length_append, List.length_map, sizeLine_eq]; omega); (repeat (first | (with_reducible assumption) | rfl | apply sh_app | apply sh_cons))) | ((with_reducible apply str_s)) | ((with_reducible apply str_i); (omega); (omega)) | ((with_reducible apply addM2); (repeat (first | (with_reducible assumption) | exact len_nil | exact len_rep | apply len_cut | apply len_app | apply len_cons)); (repeat (first | (with_reducible assumption) | exact len_nil | exact len_rep | apply len_cut | apply len_app | apply len_cons)); (simp only [sizeLine_eq]; omega)) | ((with_reducible apply sub_ii)) | ((with_reducible apply add_ii)) | ((with_reducible apply pow_20)) | ((with_reducible apply pow_30)) | ((with_reducible apply pow_40)) | (first | (with_reducible exact eqD_ss) | (with_reducible exact eqD_ii) | (with_reducible exact eqD_bb) | ((with_reducible apply eqD_oe); (first | rfl | assumption)) | ((with_reducible apply eqD_le); (first | rfl | assumption)) | ((with_reducible apply eqD_te); (first | rfl | assumption))) | ((with_reducible apply mul_t); (omega); (omega)) | ((with_reducible apply mod_ii); (first | (with_reducible assumption) | omega | decide)) | ((with_reducible apply div_b); (first | (with_reducible assumption) | omega | decide); (first | (with_reducible assumption) | omega | decide)) | ((with_reducible apply mul_b); (omega); (omega); (omega); (omega)) | (exact ix_tup rfl (by first | rfl | assumption)) | rfl)) | ((with_reducible apply i_asg)) | ((with_reducible apply i_gname); (repeat (first | exact Put.z | apply Put.s))) | ((with_reducible apply i_not)) | ((with_reducible apply i_and)) | ((with_reducible apply i_or)) | ((with_reducible apply i_andV)) | ((with_reducible apply i_orV)) | ((with_reducible apply i_notV)) | ((with_reducible apply i_xif)) | ((with_reducible apply i_chain)) | ((with_reducible apply i_ints)) | ((with_reducible apply i_int)) | ((with_reducible apply i_call0)) | ((with_reducible apply i_call1)) | ((with_reducible apply i_lend); (repeat (first | exact At.z | apply At.s)); (repeat (first | exact Put.z | apply Put.s))) | ((with_reducible apply i_out0)) | ((with_reducible apply i_out1); (repeat (first | exact Put.z | apply Put.s))) | ((with_reducible apply i_tup)) | ((with_reducible apply i_lst)) | ((with_reducible apply i_frz)) | ((with_reducible apply i_le); (simp only [List.length_cons, List.length_nil, List.length_append, List.length_map, sizeLine_eq]; omega)) | ((with_reducible apply i_lt); (simp only [List.length_cons, List.length_nil, List.length_append, List.length_map, sizeLine_eq]; omega)) | ((with_reducible apply i_sh); (repeat (first | (with_reducible assumption) | rfl | apply sh_app | apply sh_cons))) | ((with_reducible apply i_frzO); (repeat (first | (with_reducible assumption) | rfl | apply sh_app | apply sh_cons))) | ((with_reducible apply i_do)) | ((with_reducible apply i_par)) | ((with_reducible apply i_puts); (repeat (first | exact Puts.n | exact Put.z | apply Put.s | apply Puts.c))) | ((with_reducible apply i_ixS); (repeat (first | exact At.z | apply At.s))) | ((with_reducible apply i_at); (repeat (first | exact At.z | apply At.s))) | ((with_reducible apply i_atO); (repeat (first | exact At.z | apply At.s))) | ((with_reducible apply i_put); (repeat (first | exact Put.z | apply Put.s))) | ((with_reducible apply i_lenS); (repeat (first | exact At.z | apply At.s)); (rfl)) | ((with_reducible apply i_leq); (rfl)) | ((with_reducible apply i_eqS); (repeat (first | exact At.z | apply At.s))) | ((with_reducible apply i_neS); (repeat (first | exact At.z | apply At.s))) | ((with_reducible apply i_app); (repeat (first | exact At.z | apply At.s))) | ((with_reducible apply i_sl)) | ((with_reducible apply i_oN)) | ((with_reducible apply i_oS)) | ((with_reducible apply i_setS); (repeat (first | exact At.z | apply At.s))) | ((with_reducible apply i_set); (rfl); (repeat (first | exact LSet.z | apply LSet.s)); (repeat (first | exact Put.z | apply Put.s))) | ((with_reducible apply i_iseq)) | ((with_reducible apply i_rng1)) | ((with_reducible apply i_range); (omega); (omega)) | ((with_reducible apply i_ienum)) | ((with_reducible apply i_for)) | ((with_reducible apply i_lc)) | ((with_reducible apply i_yes)) | ((with_reducible apply i_gcons)) | ((with_reducible apply i_gnil)) | ((with_reducible apply i_gtup); (rfl)) | ((with_reducible apply i_tupA)) | ((with_reducible apply i_retN)) | ((with_reducible apply i_brk)) | ((with_reducible apply i_cont)) | ((with_reducible apply i_mv); (repeat (first | exact At.z | apply At.s)); (repeat (first | exact Put.z | apply Put.s))) | ((with_reducible apply i_neP); (repeat (first | exact At.z | apply At.s)); (rfl); (first | exact eqD_oe (by first | assumption | rfl))) | ((with_reducible apply i_popP); (repeat (first | exact At.z | apply At.s)); (rfl); (rfl); (rfl); ((first | rfl | assumption)); (repeat (first | exact LSet.z | apply LSet.s)); (repeat (first | exact Put.z | apply Put.s))) | ((with_reducible apply i_B) <;> intro hb)))
        · refine ok _ _ [c] rfl ⟨c, ?_, rfl, Cup.le hc (by omega)⟩
          simp [nice, nices, nices_app, hcut, hrn]
        · exact ok _ _ [c] rfl ⟨c, hzn, rfl, Cup.le hc (by omega)⟩
    | _ => cases ht
  · have ht : d.isTup = false := by simpa using ht
    cases d with
    | int i =>
      simp only [small, decide_eq_true_eq] at hd
      (repeat' (first | ((with_reducible apply fe_sip); (assumption); (omega); ((first | (with_reducible assumption) | omega | (simp only [List.length_append, List.length_cons, List.length_nil]; omega))); ((first | (with_reducible assumption) | omega | (simp only [List.length_append, List.length_cons, List.length_nil]; omega))); (intro k c hk0 hk1 hc)) | ((with_reducible apply i_pick); ((simp only [nices, nice, nices_app, strOk_of, Bool.and_true, Bool.and_self, List.cons_append, List.nil_append, hd])); ((first | (with_reducible assumption) | omega)); ((first | (with_reducible assumption) | omega | (simp only [List.length_append, List.length_cons, List.length_nil]; omega))); (intro z hz hzn; have hzs := nice_sh hzn)) | ((with_reducible apply i_seq)) | ((with_reducible apply i_ret)) | ((with_reducible apply i_next)) | ((with_reducible apply i_ifs)) | ((with_reducible apply i_T); (first | rfl | (with_reducible assumption) | exact not_t (by with_reducible assumption) | exact not_f (by with_reducible assumption))) | ((with_reducible apply i_F); (first | rfl | (with_reducible assumption) | exact not_t (by with_reducible assumption) | exact not_f (by with_reducible assumption))) | ((with_reducible apply i_name); (repeat (first | exact At.z | apply At.s)); ((first | rfl | assumption))) | ((with_reducible apply i_C)) | ((with_reducible apply i_bin)) | ((with_reducible apply i_tst)) | ((with_reducible apply i_tru)) | ((with_reducible apply i_fn)) | ((with_reducible apply i_bl)) | ((with_reducible apply i_cons)) | ((with_reducible apply i_nil)) | ((with_reducible apply i_cal)) | ((with_reducible apply i_un)) | ((with_reducible apply i_some); (first | ((with_reducible apply len_t)) | ((with_reducible apply len_l)) | ((with_reducible apply len_o)) | ((with_reducible apply len_f)) | ((with_reducible apply in_f); (rfl); (rfl)) | ((with_reducible apply in_t); (rfl); (rfl)) | ((with_reducible apply eqM); (first | (with_reducible exact eqD_ss) | (with_reducible exact eqD_ii) | (with_reducible exact eqD_bb) | ((with_reducible apply eqD_oe); (first | rfl | assumption)) | ((with_reducible apply eqD_le); (first | rfl | assumption)) | ((with_reducible apply eqD_te); (first | rfl | assumption)))) | ((with_reducible apply list1_seq); (rfl); (first | rfl | assumption)) | ((with_reducible apply tuple1_seq); (rfl); (first | rfl | assumption)) | ((with_reducible apply ix0); (first | rfl | assumption)) | ((with_reducible apply ix1); (first | rfl | assumption)) | ((with_reducible apply ix2); (first | rfl | assumption)) | ((with_reducible apply addLO); (simp only [List.length_cons, List.length_nil, List.length_append, List.length_map, sizeLine_eq]; omega); (repeat (first | (with_reducible assumption) | rfl | apply sh_app | apply sh_cons))) | ((with_reducible apply addL); (simp only [List.length_cons, List.length_nil, List.length_append, List.length_map, sizeLine_eq]; omega)) | ((with_reducible apply addOO); (simp only [List.length_cons, List.length_nil, List.length_append, List.length_map, sizeLine_eq]; omega); (repeat (first | (with_reducible assumption) | rfl | apply sh_app | apply sh_cons)); (repeat (first | (with_reducible assumption) | rfl | apply sh_app | apply sh_cons))) | ((with_reducible apply addOL); (simp only [List.length_cons, List.length_nil, List.length_append, List.length_map, sizeLine_eq]; omega); (repeat (first | (with_reducible assumption) | rfl | apply sh_app | apply sh_cons))) | ((with_reducible apply str_s)) | ((with_reducible apply str_i); (omega); (omega)) | ((with_reducible apply addM2); (repeat (first | (with_reducible assumption) | exact len_nil | exact len_rep | apply len_cut | apply len_app | apply len_cons)); (repeat (first | (with_reducible assumption) | exact len_nil | exact len_rep | apply len_cut | apply len_app | apply len_cons)); (simp only [sizeLine_eq]; omega)) | ((with_reducible apply sub_ii)) | ((with_reducible apply add_ii)) | ((with_reducible apply pow_20)) | ((with_reducible apply pow_30)) | ((with_reducible apply pow_40)) | (first | (with_reducible exact eqD_ss) | (with_reducible exact eqD_ii) | (with_reducible exact eqD_bb) | ((with_reducible apply eqD_oe); (first | rfl | assumption)) | ((with_reducible apply eqD_le); (first | rfl | assumption)) | ((with_reducible apply eqD_te); (first | rfl | assumption))) | ((with_reducible apply mul_t); (omega); (omega)) | ((with_reducible apply mod_ii); (first | (with_reducible assumption) | omega | decide)) | ((with_reducible apply div_b); (first | (with_reducible assumption) | omega | decide); (first | (with_reducible assumption) | omega | decide)) | ((with_reducible apply mul_b); (omega); (omega); (omega); (omega)) | (exact ix_tup rfl (by first | rfl | assumption)) | rfl)) | ((with_reducible apply i_asg)) | ((with_reducible apply i_gname); (repeat (first | exact Put.z | apply Put.s))) | ((with_reducible apply i_not)) | ((with_reducible apply i_and)) | ((with_reducible apply i_or)) | ((with_reducible apply i_andV)) | ((with_reducible apply i_orV)) | ((with_reducible apply i_notV)) | ((with_reducible apply i_xif)) | ((with_reducible apply i_chain)) | ((with_reducible apply i_ints)) | ((with_reducible apply i_int)) | ((with_reducible apply i_call0)) | ((with_reducible apply i_call1)) | ((with_reducible apply i_lend); (repeat (first | exact At.z | apply At.s)); (repeat (first | exact Put.z | apply Put.s))) | ((with_reducible apply i_out0)) | ((with_reducible apply i_out1); (repeat (first | exact Put.z | apply Put.s))) | ((with_reducible apply i_tup)) | ((with_reducible apply i_lst)) | ((with_reducible apply i_frz)) | ((with_reducible apply i_le); (simp only [List.length_cons, List.length_nil, List.length_append, List.length_map, sizeLine_eq]; omega)) | ((with_reducible apply i_lt); (simp only [List.length_cons, List.length_nil, List.length_append, List.length_map, sizeLine_eq]; omega)) | ((with_reducible apply i_sh); (repeat (first | (with_reducible assumption) | rfl | apply sh_app | apply sh_cons))) | ((with_reducible apply i_frzO); (repeat (first | (with_reducible assumption) | rfl | apply sh_app | apply sh_cons))) | ((with_reducible apply i_do)) | ((with_reducible apply i_par)) | ((with_reducible apply i_puts); (repeat (first | exact Puts.n | exact Put.z | apply Put.s | apply Puts.c))) | ((with_reducible apply i_ixS); (repeat (first | exact At.z | apply At.s))) | ((with_reducible apply i_at); (repeat (first | exact At.z | apply At.s))) | ((with_reducible apply i_atO); (repeat (first | exact At.z | apply At.s))) | ((with_reducible apply i_put); (repeat (first | exact Put.z | apply Put.s))) | ((with_reducible apply i_lenS); (repeat (first | exact At.z | apply At.s)); (rfl)) | ((with_reducible apply i_leq); (rfl)) | ((with_reducible apply i_eqS); (repeat (first | exact At.z | apply At.s))) | ((with_reducible apply i_neS); (repeat (first | exact At.z | apply At.s))) | ((with_reducible apply i_app); (repeat (first | exact At.z | apply At.s))) | ((with_reducible apply i_sl)) | ((with_reducible apply i_oN)) | ((with_reducible apply i_oS)) | ((with_reducible apply i_setS); (repeat (first | exact At.z | apply At.s))) | ((with_reducible apply i_set); (rfl); (repeat (first | exact LSet.z | apply LSet.s)); (repeat (first | exact Put.z | apply Put.s))) | ((with_reducible apply i_iseq)) | ((with_reducible apply i_rng1)) | ((with_reducible apply i_range); (omega); (omega)) | ((with_reducible apply i_ienum)) | ((with_reducible apply i_for)) | ((with_reducible apply i_lc)) | ((with_reducible apply i_yes)) | ((with_reducible apply i_gcons)) | ((with_reducible apply i_gnil)) | ((with_reducible apply i_gtup); (rfl)) | ((with_reducible apply i_tupA)) | ((with_reducible apply i_retN)) | ((with_reducible apply i_brk)) | ((with_reducible apply i_cont)) | ((with_reducible apply i_mv); (repeat (first | exact At.z | apply At.s)); (repeat (first | exact Put.z | apply Put.s))) | ((with_reducible apply i_neP); (repeat (first | exact At.z | apply At.s)); (rfl); (first | exact eqD_oe (by first | assumption | rfl))) | ((with_reducible apply i_popP); (repeat (first | exact At.z | apply At.s)); (rfl); (rfl); (rfl); ((first | rfl | assumption)); (repeat (first | exact LSet.z | apply LSet.s)); (repeat (first | exact Put.z | apply Put.s))) | ((with_reducible apply i_B) <;> intro hb)))
      exact ok _ _ [c] rfl ⟨c, hzn, rfl, Cup.le hc (by omega)⟩
    | str i =>
      simp only [small] at hd
      (repeat' (first | ((with_reducible apply fe_sip); (assumption); (omega); ((first | (with_reducible assumption) | omega | (simp only [List.length_append, List.length_cons, List.length_nil]; omega))); ((first | (with_reducible assumption) | omega | (simp only [List.length_append, List.length_cons, List.length_nil]; omega))); (intro k c hk0 hk1 hc)) | ((with_reducible apply i_pick); ((simp only [nices, nice, nices_app, strOk_of, Bool.and_true, Bool.and_self, List.cons_append, List.nil_append, hd])); ((first | (with_reducible assumption) | omega)); ((first | (with_reducible assumption) | omega | (simp only [List.length_append, List.length_cons, List.length_nil]; omega))); (intro z hz hzn; have hzs := nice_sh hzn)) | ((with_reducible apply i_seq)) | ((with_reducible apply i_ret)) | ((with_reducible apply i_next)) | ((with_reducible apply i_ifs)) | ((with_reducible apply i_T); (first | rfl | (with_reducible assumption) | exact not_t (by with_reducible assumption) | exact not_f (by with_reducible assumption))) | ((with_reducible apply i_F); (first | rfl | (with_reducible assumption) | exact not_t (by with_reducible assumption) | exact not_f (by with_reducible assumption))) | ((with_reducible apply i_name); (repeat (first | exact At.z | apply At.s)); ((first | rfl | assumption))) | ((with_reducible apply i_C)) | ((with_reducible apply i_bin)) | ((with_reducible apply i_tst)) | ((with_reducible apply i_tru)) | ((with_reducible apply i_fn)) | ((with_reducible apply i_bl)) | ((with_reducible apply i_cons)) | ((with_reducible apply i_nil)) | ((with_reducible apply i_cal)) | ((with_reducible apply i_un)) | ((with_reducible apply i_some); (first | ((with_reducible apply len_t)) | ((with_reducible apply len_l)) | ((with_reducible apply len_o)) | ((with_reducible apply len_f)) | ((with_reducible apply in_f); (rfl); (rfl)) | ((with_reducible apply in_t); (rfl); (rfl)) | ((with_reducible apply eqM); (first | (with_reducible exact eqD_ss) | (with_reducible exact eqD_ii) | (with_reducible exact eqD_bb) | ((with_reducible apply eqD_oe); (first | rfl | assumption)) | ((with_reducible apply eqD_le); (first | rfl | assumption)) | ((with_reducible apply eqD_te); (first | rfl | assumption)))) | ((with_reducible apply list1_seq); (rfl); (first | rfl | assumption)) | ((with_reducible apply tuple1_seq); (rfl); (first | rfl | assumption)) | ((with_reducible apply ix0); (first | rfl | assumption)) | ((with_reducible apply ix1); (first | rfl | assumption)) | ((with_reducible apply ix2); (first | rfl | assumption)) | ((with_reducible apply addLO); (simp only [List.length_cons, List.length_nil, List.length_append, List.length_map, sizeLine_eq]; omega); (repeat (first | (with_reducible assumption) | rfl | apply sh_app | apply sh_cons))) | ((with_reducible apply addL); (simp only [List.length_cons, List.length_nil, List.length_append, List.length_map, sizeLine_eq]; omega)) | ((with_reducible apply addOO); (simp only [List.length_cons, List.length_nil, List.length_append, List.length_map, sizeLine_eq]; omega); (repeat (first | (with_reducible assumption) | rfl | apply sh_app | apply sh_cons)); (repeat (first | (with_reducible assumption) | rfl | apply sh_app | apply sh_cons))) | ((with_reducible apply addOL); (simp only [List.length_cons, List.length_nil, List.length_append, List.length_map, sizeLine_eq]; omega); (repeat (first | (with_reducible assumption) | rfl | apply sh_app | apply sh_cons))) | ((with_reducible apply str_s)) | ((with_reducible apply str_i); (omega); (omega)) | ((with_reducible apply addM2); (repeat (first | (with_reducible assumption) | exact len_nil | exact len_rep | apply len_cut | apply len_app | apply len_cons)); (repeat (first | (with_reducible assumption) | exact len_nil | exact len_rep | apply len_cut | apply len_app | apply len_cons)); (simp only [sizeLine_eq]; omega)) | ((with_reducible apply sub_ii)) | ((with_reducible apply add_ii)) | ((with_reducible apply pow_20)) | ((with_reducible apply pow_30)) | ((with_reducible apply pow_40)) | (first | (with_reducible exact eqD_ss) | (with_reducible exact eqD_ii) | (with_reducible exact eqD_bb) | ((with_reducible apply eqD_oe); (first | rfl | assumption)) | ((with_reducible apply eqD_le); (first | rfl | assumption)) | ((with_reducible apply eqD_te); (first | rfl | assumption))) | ((with_reducible apply mul_t); (omega); (omega)) | ((with_reducible apply mod_ii); (first | (with_reducible assumption) | omega | decide)) | ((with_reducible apply div_b); (first | (with_reducible assumption) | omega | decide); (first | (with_reducible assumption) | omega | decide)) | ((with_reducible apply mul_b); (omega); (omega); (omega); (omega)) | (exact ix_tup rfl (by first | rfl | assumption)) | rfl)) | ((with_reducible apply i_asg)) | ((with_reducible apply i_gname); (repeat (first | exact Put.z | apply Put.s))) | ((with_reducible apply i_not)) | ((with_reducible apply i_and)) | ((with_reducible apply i_or)) | ((with_reducible apply i_andV)) | ((with_reducible apply i_orV)) | ((with_reducible apply i_notV)) | ((with_reducible apply i_xif)) | ((with_reducible apply i_chain)) | ((with_reducible apply i_ints)) | ((with_reducible apply i_int)) | ((with_reducible apply i_call0)) | ((with_reducible apply i_call1)) | ((with_reducible apply i_lend); (repeat (first | exact At.z | apply At.s)); (repeat (first | exact Put.z | apply Put.s))) | ((with_reducible apply i_out0)) | ((with_reducible apply i_out1); (repeat (first | exact Put.z | apply Put.s))) | ((with_reducible apply i_tup)) | ((with_reducible apply i_lst)) | ((with_reducible apply i_frz)) | ((with_reducible apply i_le); (simp only [List.length_cons, List.length_nil, List.length_append, List.length_map, sizeLine_eq]; omega)) | ((with_reducible apply i_lt); (simp only [List.length_cons, List.length_nil, List.length_append, List.length_map, sizeLine_eq]; omega)) | ((with_reducible apply i_sh); (repeat (first | (with_reducible assumption) | rfl | apply sh_app | apply sh_cons))) | ((with_reducible apply i_frzO); (repeat (first | (with_reducible assumption) | rfl | apply sh_app | apply sh_cons))) | ((with_reducible apply i_do)) | ((with_reducible apply i_par)) | ((with_reducible apply i_puts); (repeat (first | exact Puts.n | exact Put.z | apply Put.s | apply Puts.c))) | ((with_reducible apply i_ixS); (repeat (first | exact At.z | apply At.s))) | ((with_reducible apply i_at); (repeat (first | exact At.z | apply At.s))) | ((with_reducible apply i_atO); (repeat (first | exact At.z | apply At.s))) | ((with_reducible apply i_put); (repeat (first | exact Put.z | apply Put.s))) | ((with_reducible apply i_lenS); (repeat (first | exact At.z | apply At.s)); (rfl)) | ((with_reducible apply i_leq); (rfl)) | ((with_reducible apply i_eqS); (repeat (first | exact At.z | apply At.s))) | ((with_reducible apply i_neS); (repeat (first | exact At.z | apply At.s))) | ((with_reducible apply i_app); (repeat (first | exact At.z | apply At.s))) | ((with_reducible apply i_sl)) | ((with_reducible apply i_oN)) | ((with_reducible apply i_oS)) | ((with_reducible apply i_setS); (repeat (first | exact At.z | apply At.s))) | ((with_reducible apply i_set); (rfl); (repeat (first | exact LSet.z | apply LSet.s)); (repeat (first | exact Put.z | apply Put.s))) | ((with_reducible apply i_iseq)) | ((with_reducible apply i_rng1)) | ((with_reducible apply i_range); (omega); (omega)) | ((with_reducible apply i_ienum)) | ((with_reducible apply i_for)) | ((with_reducible apply i_lc)) | ((with_reducible apply i_yes)) | ((with_reducible apply i_gcons)) | ((with_reducible apply i_gnil)) | ((with_reducible apply i_gtup); (rfl)) | ((with_reducible apply i_tupA)) | ((with_reducible apply i_retN)) | ((with_reducible apply i_brk)) | ((with_reducible apply i_cont)) | ((with_reducible apply i_mv); (repeat (first | exact At.z | apply At.s)); (repeat (first | exact Put.z | apply Put.s))) | ((with_reducible apply i_neP); (repeat (first | exact At.z | apply At.s)); (rfl); (first | exact eqD_oe (by first | assumption | rfl))) | ((with_reducible apply i_popP); (repeat (first | exact At.z | apply At.s)); (rfl); (rfl); (rfl); ((first | rfl | assumption)); (repeat (first | exact LSet.z | apply LSet.s)); (repeat (first | exact Put.z | apply Put.s))) | ((with_reducible apply i_B) <;> intro hb)))
      exact ok _ _ [c] rfl ⟨c, hzn, rfl, Cup.le hc (by omega)⟩
    | _ => first | (simp [small] at hd; done) | cases ht
end K34

namespace K34
open PySem PySem.Spec PyProof.Rows L2 BV
theorem smalls_app {n : Nat} {xs ys : List D} : smalls n (xs ++ ys) = (smalls n xs && smalls n ys) := by
  induction xs with
  | nil => simp only [List.nil_append, smalls, Bool.true_and]
  | cons x xs ih => simp only [List.cons_append, smalls, ih, Bool.and_assoc]
theorem text_fin {m m' k : Nat} {c rule : D} {rs : List D} {sz : List Int} {size n : Int} {s1 s2 s3 s4 s5 s6 s7 s8 : Option D} (hc : Cup m' c) (hm : m' ≤ m + 2 + 10 * (k + 1)) (h1 : rs.length = k) (h2 : sz.length = k) (h3 : smalls 2 rs = true) (h4 : ∀ s ∈ sz, 0 ≤ s ∧ s ≤ 10 ^ 40) (hr : small 2 rule = true) (hs : 0 ≤ size) (hs2 : size ≤ 10 ^ 40) :
    ∃ (c' : D) (rs' : List D) (sz' : List Int) (t1 t2 t3 t4 t5 t6 t7 t8 : Option D), Cup (m + 2 + 10 * (k + 1)) c' ∧ rs'.length = k + 1 ∧ sz'.length = k + 1 ∧ smalls 2 rs' = true ∧ (∀ s ∈ sz', 0 ≤ s ∧ s ≤ 10 ^ 40) ∧ [some c, some (.int 40), some (.int (10 ^ 40)), some (.int n), some (.own (rs ++ [rule])), some (.own (sz.map D.int ++ [.int size])), s1, s2, s3, s4, s5, s6, s7, s8] = [some c', some (.int 40), some (.int (10 ^ 40)), some (.int n), some (.own rs'), some (.own (sz'.map D.int)), t1, t2, t3, t4, t5, t6, t7, t8] := by
  refine ⟨c, rs ++ [rule], sz ++ [size], s1, s2, s3, s4, s5, s6, s7, s8, Cup.le hc hm, ?_, ?_, ?_, ?_, ?_⟩
  · rw [List.length_append, h1]; rfl
  · rw [List.length_append, h2]; rfl
  · rw [smalls_app, h3]; simp only [smalls, hr, Bool.and_self]
  · intro s e
    rcases List.mem_append.mp e with e | e
    · exact h4 s e
    · rw [List.mem_singleton.mp e]
      exact ⟨hs, hs2⟩
  · rw [List.map_append]; rfl
theorem small_rule2 {w : String} {i : Int} (h1 : -(2 ^ 200) < i) (h2 : i < 2 ^ 200) : small 2 (.tup [.str (Str.ofString w), .int i]) = true := by
  simp only [small, smalls, strOk_of, List.length_cons, List.length_nil, Bool.and_true, Bool.true_and, Bool.and_eq_true, decide_eq_true_eq]
  omega
theorem small_rule3 {w : String} {i j : Int} (h1 : -(2 ^ 200) < i) (h2 : i < 2 ^ 200) (h3 : -(2 ^ 200) < j) (h4 : j < 2 ^ 200) : small 2 (.tup [.str (Str.ofString w), .int i, .int j]) = true := by
  simp only [small, smalls, strOk_of, List.length_cons, List.length_nil, Bool.and_true, Bool.true_and, Bool.and_eq_true, decide_eq_true_eq]
  omega
theorem pf_text : Pf F_text x__law_text [0] (14 - 3) := pf_ex fun ⟨m, c⟩ h R N ok _ => by
  unfold x__law_text
  simp only [List.map_cons, List.map_nil, List.cons_append, List.nil_append, List.append_nil, List.replicate_succ, List.replicate_zero, Nat.reduceSub]
  obtain ⟨hc, hm⟩ := h
  dsimp only at *
  (repeat' (first | ((with_reducible apply fe_sip); (assumption); (omega); ((first | (with_reducible assumption) | omega | (simp only [List.length_append, List.length_cons, List.length_nil]; omega))); ((first | (with_reducible assumption) | omega | (simp only [List.length_append, List.length_cons, List.length_nil]; omega))); (intro k c hk0 hk1 hc)) | ((with_reducible apply i_pickZ); ((repeat (first | exact Ints.n | apply Ints.c))); ((first | (with_reducible assumption) | omega)); ((first | (with_reducible assumption) | omega | (simp only [List.length_append, List.length_cons, List.length_nil]; omega))); (intro n hn; simp only [List.mem_cons, List.not_mem_nil, or_false] at hn)) | ((with_reducible apply i_seq)) | ((with_reducible apply i_ret)) | ((with_reducible apply i_next)) | ((with_reducible apply i_ifs)) | ((with_reducible apply i_T); (first | rfl | (with_reducible assumption) | exact not_t (by with_reducible assumption) | exact not_f (by with_reducible assumption))) | ((with_reducible apply i_F); (first | rfl | (with_reducible assumption) | exact not_t (by with_reducible assumption) | exact not_f (by with_reducible assumption))) | ((with_reducible apply i_name); (repeat (first | exact At.z | apply At.s)); ((first | rfl | assumption))) | ((with_reducible apply i_C)) | ((with_reducible apply i_bin)) | ((with_reducible apply i_tst)) | ((with_reducible apply i_tru)) | ((with_reducible apply i_fn)) | ((with_reducible apply i_bl)) | ((with_reducible apply i_cons)) | ((with_reducible apply i_nil)) | ((with_reducible apply i_cal)) | ((with_reducible apply i_un)) | ((with_reducible apply i_some); (first | ((with_reducible apply len_t)) | ((with_reducible apply len_l)) | ((with_reducible apply len_o)) | ((with_reducible apply len_f)) | ((with_reducible apply in_f); (rfl); (rfl)) | ((with_reducible apply in_t); (rfl); (rfl)) | ((with_reducible apply eqM); (first | (with_reducible exact eqD_ss) | (with_reducible exact eqD_ii) | (with_reducible exact eqD_bb) | ((with_reducible apply eqD_oe); (first | rfl | assumption)) | ((with_reducible apply eqD_le); (first | rfl | assumption)) | ((with_reducible apply eqD_te); (first | rfl | assumption)))) | ((with_reducible apply list1_seq); (rfl); (first | rfl | assumption)) | ((with_reducible apply tuple1_seq); (rfl); (first | rfl | assumption)) | ((with_reducible apply ix0); (first | rfl | assumption)) | ((with_reducible apply ix1); (first | rfl | assumption)) | ((with_reducible apply ix2); (first | rfl | assumption)) | ((with_reducible apply addLO); (simp only [List.length_cons, List.length_nil, List.length_append, List.length_map, sizeLine_eq]; omega); (repeat (first | (with_reducible assumption) | rfl | apply sh_app | apply sh_cons))) | ((with_reducible apply addL); (simp only [List.length_cons, List.length_nil, List.length_append, List.length_map, sizeLine_eq]; omega)) | ((with_reducible apply addOO); (simp only [List.length_cons, List.length_nil, List.length_append, List.length_map, sizeLine_eq]; omega); (repeat (first | (with_reducible assumption) | rfl | apply sh_app | apply sh_cons)); (repeat (first | (with_reducible assumption) | rfl | apply sh_app | apply sh_cons))) | ((with_reducible apply addOL); (simp only [List.length_cons, List.length_nil, List.length_append, List.length_map, sizeLine_eq]; omega); (repeat (first | (with_reducible assumption) | rfl | apply sh_app | apply sh_cons))) | ((with_reducible apply str_s)) | ((with_reducible apply str_i); (omega); (omega)) | ((with_reducible apply addM2); (repeat (first | (with_reducible assumption) | exact len_nil | exact len_rep | apply len_cut | apply len_app | apply len_cons)); (repeat (first | (with_reducible assumption) | exact len_nil | exact len_rep | apply len_cut | apply len_app | apply len_cons)); (simp only [sizeLine_eq]; omega)) | ((with_reducible apply sub_ii)) | ((with_reducible apply add_ii)) | ((with_reducible apply pow_20)) | ((with_reducible apply pow_30)) | ((with_reducible apply pow_40)) | (first | (with_reducible exact eqD_ss) | (with_reducible exact eqD_ii) | (with_reducible exact eqD_bb) | ((with_reducible apply eqD_oe); (first | rfl | assumption)) | ((with_reducible apply eqD_le); (first | rfl | assumption)) | ((with_reducible apply eqD_te); (first | rfl | assumption))) | ((with_reducible apply mul_t); (omega); (omega)) | ((with_reducible apply mod_ii); (first | (with_reducible assumption) | omega | decide)) | ((with_reducible apply div_b); (first | (with_reducible assumption) | omega | decide); (first | (with_reducible assumption) | omega | decide)) | ((with_reducible apply mul_b); (omega); (omega); (omega); (omega)) | (exact ix_tup rfl (by first | rfl | assumption)) | rfl)) | ((with_reducible apply i_asg)) | ((with_reducible apply i_gname); (repeat (first | exact Put.z | apply Put.s))) | ((with_reducible apply i_not)) | ((with_reducible apply i_and)) | ((with_reducible apply i_or)) | ((with_reducible apply i_andV)) | ((with_reducible apply i_orV)) | ((with_reducible apply i_notV)) | ((with_reducible apply i_xif)) | ((with_reducible apply i_chain)) | ((with_reducible apply i_ints)) | ((with_reducible apply i_int)) | ((with_reducible apply i_call0)) | ((with_reducible apply i_call1)) | ((with_reducible apply i_lend); (repeat (first | exact At.z | apply At.s)); (repeat (first | exact Put.z | apply Put.s))) | ((with_reducible apply i_out0)) | ((with_reducible apply i_out1); (repeat (first | exact Put.z | apply Put.s))) | ((with_reducible apply i_tup)) | ((with_reducible apply i_lst)) | ((with_reducible apply i_frz)) | ((with_reducible apply i_le); (simp only [List.length_cons, List.length_nil, List.length_append, List.length_map, sizeLine_eq]; omega)) | ((with_reducible apply i_lt); (simp only [List.length_cons, List.length_nil, List.length_append, List.length_map, sizeLine_eq]; omega)) | ((with_reducible apply i_sh); (repeat (first | (with_reducible assumption) | rfl | apply sh_app | apply sh_cons))) | ((with_reducible apply i_frzO); (repeat (first | (with_reducible assumption) | rfl | apply sh_app | apply sh_cons))) | ((with_reducible apply i_do)) | ((with_reducible apply i_par)) | ((with_reducible apply i_puts); (repeat (first | exact Puts.n | exact Put.z | apply Put.s | apply Puts.c))) | ((with_reducible apply i_ixS); (repeat (first | exact At.z | apply At.s))) | ((with_reducible apply i_at); (repeat (first | exact At.z | apply At.s))) | ((with_reducible apply i_atO); (repeat (first | exact At.z | apply At.s))) | ((with_reducible apply i_put); (repeat (first | exact Put.z | apply Put.s))) | ((with_reducible apply i_lenS); (repeat (first | exact At.z | apply At.s)); (rfl)) | ((with_reducible apply i_leq); (rfl)) | ((with_reducible apply i_eqS); (repeat (first | exact At.z | apply At.s))) | ((with_reducible apply i_neS); (repeat (first | exact At.z | apply At.s))) | ((with_reducible apply i_app); (repeat (first | exact At.z | apply At.s))) | ((with_reducible apply i_sl)) | ((with_reducible apply i_oN)) | ((with_reducible apply i_oS)) | ((with_reducible apply i_setS); (repeat (first | exact At.z | apply At.s))) | ((with_reducible apply i_set); (rfl); (repeat (first | exact LSet.z | apply LSet.s)); (repeat (first | exact Put.z | apply Put.s))) | ((with_reducible apply i_iseq)) | ((with_reducible apply i_rng1)) | ((with_reducible apply i_range); (omega); (omega)) | ((with_reducible apply i_ienum)) | ((with_reducible apply i_for)) | ((with_reducible apply i_lc)) | ((with_reducible apply i_yes)) | ((with_reducible apply i_gcons)) | ((with_reducible apply i_gnil)) | ((with_reducible apply i_gtup); (rfl)) | ((with_reducible apply i_tupA)) | ((with_reducible apply i_retN)) | ((with_reducible apply i_brk)) | ((with_reducible apply i_cont)) | ((with_reducible apply i_mv); (repeat (first | exact At.z | apply At.s)); (repeat (first | exact Put.z | apply Put.s))) | ((with_reducible apply i_neP); (repeat (first | exact At.z | apply At.s)); (rfl); (first | exact eqD_oe (by first | assumption | rfl))) | ((with_reducible apply i_popP); (repeat (first | exact At.z | apply At.s)); (rfl); (rfl); (rfl); ((first | rfl | assumption)); (repeat (first | exact LSet.z | apply LSet.s)); (repeat (first | exact Put.z | apply Put.s))) | ((with_reducible apply i_B) <;> intro hb)))
  rename_i k0 _ hk0 hk1 _
  refine ⟨fun k ρ => ∃ (c : D) (rs : List D) (sz : List Int) (s1 s2 s3 s4 s5 s6 s7 s8 : Option D), Cup (m + 2 + 10 * k) c ∧ rs.length = k ∧ sz.length = k ∧ smalls 2 rs = true ∧ (∀ s ∈ sz, 0 ≤ s ∧ s ≤ 10 ^ 40) ∧ ρ = [some c, some (.int 40), some (.int (10 ^ 40)), some (.int n), some (.own rs), some (.own (sz.map D.int)), s1, s2, s3, s4, s5, s6, s7, s8], ⟨c, [], [], _, _, _, _, _, _, _, _, hc, rfl, rfl, by simp [smalls], by simp, rfl⟩, ?_, ?_⟩
  · rintro k z _ hz ⟨c, rs, sz, s1, s2, s3, s4, s5, s6, s7, s8, hc, h1, h2, h3, h4, rfl⟩
    obtain ⟨hk1, rfl⟩ := rngD_get hz
    have hk2 : k ≤ 41 := by omega
    have hl := nices_lays (smalls_nices h3)
    have hix : ∀ y : Int, 0 ≤ y → y < sz.length → ∃ s, ixD (.own (sz.map D.int)) (.int y) = some (.int s) ∧ 0 ≤ s ∧ s ≤ 10 ^ 40 := fun y h0 hy => by
      obtain ⟨s, e, m⟩ := ix_ints h0 hy
      exact ⟨s, e, h4 s m⟩
    have he : rs.isEmpty = true ∨ (rs.isEmpty = false ∧ 0 < (sz.length : Int)) := by
      cases rs with
      | nil => exact .inl rfl
      | cons => exact .inr ⟨rfl, by rw [h2, ← h1]; simp⟩
    rcases he with he | ⟨he, hpos⟩
    · (repeat' (first | ((with_reducible apply fe_sip); (assumption); (omega); ((first | (with_reducible assumption) | omega | (simp only [List.length_append, List.length_cons, List.length_nil]; omega))); ((first | (with_reducible assumption) | omega | (simp only [List.length_append, List.length_cons, List.length_nil]; omega))); (intro k c hk0 hk1 hc)) | ((with_reducible apply i_pickZ); ((repeat (first | exact Ints.n | apply Ints.c))); ((first | (with_reducible assumption) | omega)); ((first | (with_reducible assumption) | omega | (simp only [List.length_append, List.length_cons, List.length_nil]; omega))); (intro n hn; simp only [List.mem_cons, List.not_mem_nil, or_false] at hn)) | ((with_reducible apply i_mulL); (omega); (omega); (assumption); (intro v hv1 hv2)) | ((with_reducible apply i_seq)) | ((with_reducible apply i_ret)) | ((with_reducible apply i_next)) | ((with_reducible apply i_ifs)) | ((with_reducible apply i_T); (first | rfl | (with_reducible assumption) | exact not_t (by with_reducible assumption) | exact not_f (by with_reducible assumption))) | ((with_reducible apply i_F); (first | rfl | (with_reducible assumption) | exact not_t (by with_reducible assumption) | exact not_f (by with_reducible assumption))) | ((with_reducible apply i_name); (repeat (first | exact At.z | apply At.s)); ((first | rfl | assumption))) | ((with_reducible apply i_C)) | ((with_reducible apply i_bin)) | ((with_reducible apply i_tst)) | ((with_reducible apply i_tru)) | ((with_reducible apply i_fn)) | ((with_reducible apply i_bl)) | ((with_reducible apply i_cons)) | ((with_reducible apply i_nil)) | ((with_reducible apply i_cal)) | ((with_reducible apply i_un)) | ((with_reducible apply i_some); (first | ((with_reducible apply len_t)) | ((with_reducible apply len_l)) | ((with_reducible apply len_o)) | ((with_reducible apply len_f)) | ((with_reducible apply in_f); (rfl); (rfl)) | ((with_reducible apply in_t); (rfl); (rfl)) | ((with_reducible apply eqM); (first | (with_reducible exact eqD_ss) | (with_reducible exact eqD_ii) | (with_reducible exact eqD_bb) | ((with_reducible apply eqD_oe); (first | rfl | assumption)) | ((with_reducible apply eqD_le); (first | rfl | assumption)) | ((with_reducible apply eqD_te); (first | rfl | assumption)))) | ((with_reducible apply list1_seq); (rfl); (first | rfl | assumption)) | ((with_reducible apply tuple1_seq); (rfl); (first | rfl | assumption)) | ((with_reducible apply ix0); (first | rfl | assumption)) | ((with_reducible apply ix1); (first | rfl | assumption)) | ((with_reducible apply ix2); (first | rfl | assumption)) | ((with_reducible apply addLO); (simp only [List.length_cons, List.length_nil, List.length_append, List.length_map, sizeLine_eq]; omega); (repeat (first | (with_reducible assumption) | rfl | apply sh_app | apply sh_cons))) | ((with_reducible apply addL); (simp only [List.length_cons, List.length_nil, List.length_append, List.length_map, sizeLine_eq]; omega)) | ((with_reducible apply addOO); (simp only [List.length_cons, List.length_nil, List.length_append, List.length_map, sizeLine_eq]; omega); (repeat (first | (with_reducible assumption) | rfl | apply sh_app | apply sh_cons)); (repeat (first | (with_reducible assumption) | rfl | apply sh_app | apply sh_cons))) | ((with_reducible apply addOL); (simp only [List.length_cons, List.length_nil, List.length_append, List.length_map, sizeLine_eq]; omega); (repeat (first | (with_reducible assumption) | rfl | apply sh_app | apply sh_cons))) | ((with_reducible apply str_s)) | ((with_reducible apply str_i); (omega); (omega)) | ((with_reducible apply addM2); (repeat (first | (with_reducible assumption) | exact len_nil | exact len_rep | apply len_cut | apply len_app | apply len_cons)); (repeat (first | (with_reducible assumption) | exact len_nil | exact len_rep | apply len_cut | apply len_app | apply len_cons)); (simp only [sizeLine_eq]; omega)) | ((with_reducible apply sub_ii)) | ((with_reducible apply add_ii)) | ((with_reducible apply pow_20)) | ((with_reducible apply pow_30)) | ((with_reducible apply pow_40)) | (first | (with_reducible exact eqD_ss) | (with_reducible exact eqD_ii) | (with_reducible exact eqD_bb) | ((with_reducible apply eqD_oe); (first | rfl | assumption)) | ((with_reducible apply eqD_le); (first | rfl | assumption)) | ((with_reducible apply eqD_te); (first | rfl | assumption))) | ((with_reducible apply mul_t); (omega); (omega)) | ((with_reducible apply mod_ii); (first | (with_reducible assumption) | omega | decide)) | ((with_reducible apply div_b); (first | (with_reducible assumption) | omega | decide); (first | (with_reducible assumption) | omega | decide)) | ((with_reducible apply mul_b); (omega); (omega); (omega); (omega)) | (exact ix_tup rfl (by first | rfl | assumption)) | rfl)) | ((with_reducible apply i_asg)) | ((with_reducible apply i_gname); (repeat (first | exact Put.z | apply Put.s))) | ((with_reducible apply i_not)) | ((with_reducible apply i_and)) | ((with_reducible apply i_or)) | ((with_reducible apply i_andV)) | ((with_reducible apply i_orV)) | ((with_reducible apply i_notV)) | ((with_reducible apply i_xif)) | ((with_reducible apply i_chain)) | ((with_reducible apply i_ints)) | ((with_reducible apply i_int)) | ((with_reducible apply i_call0)) | ((with_reducible apply i_call1)) | ((with_reducible apply i_lend); (repeat (first | exact At.z | apply At.s)); (repeat (first | exact Put.z | apply Put.s))) | ((with_reducible apply i_out0)) | ((with_reducible apply i_out1); (repeat (first | exact Put.z | apply Put.s))) | ((with_reducible apply i_tup)) | ((with_reducible apply i_lst)) | ((with_reducible apply i_frz)) | ((with_reducible apply i_le); (simp only [List.length_cons, List.length_nil, List.length_append, List.length_map, sizeLine_eq]; omega)) | ((with_reducible apply i_lt); (simp only [List.length_cons, List.length_nil, List.length_append, List.length_map, sizeLine_eq]; omega)) | ((with_reducible apply i_sh); (repeat (first | (with_reducible assumption) | rfl | apply sh_app | apply sh_cons))) | ((with_reducible apply i_frzO); (repeat (first | (with_reducible assumption) | rfl | apply sh_app | apply sh_cons))) | ((with_reducible apply i_do)) | ((with_reducible apply i_par)) | ((with_reducible apply i_puts); (repeat (first | exact Puts.n | exact Put.z | apply Put.s | apply Puts.c))) | ((with_reducible apply i_ixS); (repeat (first | exact At.z | apply At.s))) | ((with_reducible apply i_at); (repeat (first | exact At.z | apply At.s))) | ((with_reducible apply i_atO); (repeat (first | exact At.z | apply At.s))) | ((with_reducible apply i_put); (repeat (first | exact Put.z | apply Put.s))) | ((with_reducible apply i_lenS); (repeat (first | exact At.z | apply At.s)); (rfl)) | ((with_reducible apply i_leq); (rfl)) | ((with_reducible apply i_eqS); (repeat (first | exact At.z | apply At.s))) | ((with_reducible apply i_neS); (repeat (first | exact At.z | apply At.s))) | ((with_reducible apply i_app); (repeat (first | exact At.z | apply At.s))) | ((with_reducible apply i_sl)) | ((with_reducible apply i_oN)) | ((with_reducible apply i_oS)) | ((with_reducible apply i_setS); (repeat (first | exact At.z | apply At.s))) | ((with_reducible apply i_set); (rfl); (repeat (first | exact LSet.z | apply LSet.s)); (repeat (first | exact Put.z | apply Put.s))) | ((with_reducible apply i_iseq)) | ((with_reducible apply i_rng1)) | ((with_reducible apply i_range); (omega); (omega)) | ((with_reducible apply i_ienum)) | ((with_reducible apply i_for)) | ((with_reducible apply i_lc)) | ((with_reducible apply i_yes)) | ((with_reducible apply i_gcons)) | ((with_reducible apply i_gnil)) | ((with_reducible apply i_gtup); (rfl)) | ((with_reducible apply i_tupA)) | ((with_reducible apply i_retN)) | ((with_reducible apply i_brk)) | ((with_reducible apply i_cont)) | ((with_reducible apply i_mv); (repeat (first | exact At.z | apply At.s)); (repeat (first | exact Put.z | apply Put.s))) | ((with_reducible apply i_neP); (repeat (first | exact At.z | apply At.s)); (rfl); (first | exact eqD_oe (by first | assumption | rfl))) | ((with_reducible apply i_popP); (repeat (first | exact At.z | apply At.s)); (rfl); (rfl); (rfl); ((first | rfl | assumption)); (repeat (first | exact LSet.z | apply LSet.s)); (repeat (first | exact Put.z | apply Put.s))) | ((with_reducible apply i_B) <;> intro hb)))
      all_goals refine text_fin hc (by omega) h1 h2 h3 h4 ?_ ?_ ?_
      all_goals first | omega | exact small_rule2 (by omega) (by omega) | (simp [small, smalls, strOk_of]; done) | skip
    · (repeat' (first | ((with_reducible apply fe_sip); (assumption); (omega); ((first | (with_reducible assumption) | omega | (simp only [List.length_append, List.length_cons, List.length_nil]; omega))); ((first | (with_reducible assumption) | omega | (simp only [List.length_append, List.length_cons, List.length_nil]; omega))); (intro k c hk0 hk1 hc)) | ((with_reducible apply i_pickZ); ((repeat (first | exact Ints.n | apply Ints.c))); ((first | (with_reducible assumption) | omega)); ((first | (with_reducible assumption) | omega | (simp only [List.length_append, List.length_cons, List.length_nil]; omega))); (intro n hn; simp only [List.mem_cons, List.not_mem_nil, or_false] at hn)) | ((with_reducible apply i_mulL); (omega); (omega); (assumption); (intro v hv1 hv2)) | ((with_reducible apply i_max0); (intro y hy0 hy; obtain ⟨s, hs, hs0, hs1⟩ := hix y hy0 (by omega))) | ((with_reducible apply i_some); ((with_reducible assumption))) | ((with_reducible apply i_seq)) | ((with_reducible apply i_ret)) | ((with_reducible apply i_next)) | ((with_reducible apply i_ifs)) | ((with_reducible apply i_T); (first | rfl | (with_reducible assumption) | exact not_t (by with_reducible assumption) | exact not_f (by with_reducible assumption))) | ((with_reducible apply i_F); (first | rfl | (with_reducible assumption) | exact not_t (by with_reducible assumption) | exact not_f (by with_reducible assumption))) | ((with_reducible apply i_name); (repeat (first | exact At.z | apply At.s)); ((first | rfl | assumption))) | ((with_reducible apply i_C)) | ((with_reducible apply i_bin)) | ((with_reducible apply i_tst)) | ((with_reducible apply i_tru)) | ((with_reducible apply i_fn)) | ((with_reducible apply i_bl)) | ((with_reducible apply i_cons)) | ((with_reducible apply i_nil)) | ((with_reducible apply i_cal)) | ((with_reducible apply i_un)) | ((with_reducible apply i_some); (first | ((with_reducible apply len_t)) | ((with_reducible apply len_l)) | ((with_reducible apply len_o)) | ((with_reducible apply len_f)) | ((with_reducible apply in_f); (rfl); (rfl)) | ((with_reducible apply in_t); (rfl); (rfl)) | ((with_reducible apply eqM); (first | (with_reducible exact eqD_ss) | (with_reducible exact eqD_ii) | (with_reducible exact eqD_bb) | ((with_reducible apply eqD_oe); (first | rfl | assumption)) | ((with_reducible apply eqD_le); (first | rfl | assumption)) | ((with_reducible apply eqD_te); (first | rfl | assumption)))) | ((with_reducible apply list1_seq); (rfl); (first | rfl | assumption)) | ((with_reducible apply tuple1_seq); (rfl); (first | rfl | assumption)) | ((with_reducible apply ix0); (first | rfl | assumption)) | ((with_reducible apply ix1); (first | rfl | assumption)) | ((with_reducible apply ix2); (first | rfl | assumption)) | ((with_reducible apply addLO); (simp only [List.length_cons, List.length_nil, List.length_append, List.length_map, sizeLine_eq]; omega); (repeat (first | (with_reducible assumption) | rfl | apply sh_app | apply sh_cons))) | ((with_reducible apply addL); (simp only [List.length_cons, List.length_nil, List.length_append, List.length_map, sizeLine_eq]; omega)) | ((with_reducible apply addOO); (simp only [List.length_cons, List.length_nil, List.length_append, List.length_map, sizeLine_eq]; omega); (repeat (first | (with_reducible assumption) | rfl | apply sh_app | apply sh_cons)); (repeat (first | (with_reducible assumption) | rfl | apply sh_app | apply sh_cons))) | ((with_reducible apply addOL); (simp only [List.length_cons, List.length_nil, List.length_append, List.length_map, sizeLine_eq]; omega); (repeat (first | (with_reducible assumption) | rfl | apply sh_app | apply sh_cons))) | ((with_reducible apply str_s)) | ((with_reducible apply str_i); (omega); (omega)) | ((with_reducible apply addM2); (repeat (first | (with_reducible assumption) | exact len_nil | exact len_rep | apply len_cut | apply len_app | apply len_cons)); (repeat (first | (with_reducible assumption) | exact len_nil | exact len_rep | apply len_cut | apply len_app | apply len_cons)); (simp only [sizeLine_eq]; omega)) | ((with_reducible apply sub_ii)) | ((with_reducible apply add_ii)) | ((with_reducible apply pow_20)) | ((with_reducible apply pow_30)) | ((with_reducible apply pow_40)) | (first | (with_reducible exact eqD_ss) | (with_reducible exact eqD_ii) | (with_reducible exact eqD_bb) | ((with_reducible apply eqD_oe); (first | rfl | assumption)) | ((with_reducible apply eqD_le); (first | rfl | assumption)) | ((with_reducible apply eqD_te); (first | rfl | assumption))) | ((with_reducible apply mul_t); (omega); (omega)) | ((with_reducible apply mod_ii); (first | (with_reducible assumption) | omega | decide)) | ((with_reducible apply div_b); (first | (with_reducible assumption) | omega | decide); (first | (with_reducible assumption) | omega | decide)) | ((with_reducible apply mul_b); (omega); (omega); (omega); (omega)) | (exact ix_tup rfl (by first | rfl | assumption)) | rfl)) | ((with_reducible apply i_asg)) | ((with_reducible apply i_gname); (repeat (first | exact Put.z | apply Put.s))) | ((with_reducible apply i_not)) | ((with_reducible apply i_and)) | ((with_reducible apply i_or)) | ((with_reducible apply i_andV)) | ((with_reducible apply i_orV)) | ((with_reducible apply i_notV)) | ((with_reducible apply i_xif)) | ((with_reducible apply i_chain)) | ((with_reducible apply i_ints)) | ((with_reducible apply i_int)) | ((with_reducible apply i_call0)) | ((with_reducible apply i_call1)) | ((with_reducible apply i_lend); (repeat (first | exact At.z | apply At.s)); (repeat (first | exact Put.z | apply Put.s))) | ((with_reducible apply i_out0)) | ((with_reducible apply i_out1); (repeat (first | exact Put.z | apply Put.s))) | ((with_reducible apply i_tup)) | ((with_reducible apply i_lst)) | ((with_reducible apply i_frz)) | ((with_reducible apply i_le); (simp only [List.length_cons, List.length_nil, List.length_append, List.length_map, sizeLine_eq]; omega)) | ((with_reducible apply i_lt); (simp only [List.length_cons, List.length_nil, List.length_append, List.length_map, sizeLine_eq]; omega)) | ((with_reducible apply i_sh); (repeat (first | (with_reducible assumption) | rfl | apply sh_app | apply sh_cons))) | ((with_reducible apply i_frzO); (repeat (first | (with_reducible assumption) | rfl | apply sh_app | apply sh_cons))) | ((with_reducible apply i_do)) | ((with_reducible apply i_par)) | ((with_reducible apply i_puts); (repeat (first | exact Puts.n | exact Put.z | apply Put.s | apply Puts.c))) | ((with_reducible apply i_ixS); (repeat (first | exact At.z | apply At.s))) | ((with_reducible apply i_at); (repeat (first | exact At.z | apply At.s))) | ((with_reducible apply i_atO); (repeat (first | exact At.z | apply At.s))) | ((with_reducible apply i_put); (repeat (first | exact Put.z | apply Put.s))) | ((with_reducible apply i_lenS); (repeat (first | exact At.z | apply At.s)); (rfl)) | ((with_reducible apply i_leq); (rfl)) | ((with_reducible apply i_eqS); (repeat (first | exact At.z | apply At.s))) | ((with_reducible apply i_neS); (repeat (first | exact At.z | apply At.s))) | ((with_reducible apply i_app); (repeat (first | exact At.z | apply At.s))) | ((with_reducible apply i_sl)) | ((with_reducible apply i_oN)) | ((with_reducible apply i_oS)) | ((with_reducible apply i_setS); (repeat (first | exact At.z | apply At.s))) | ((with_reducible apply i_set); (rfl); (repeat (first | exact LSet.z | apply LSet.s)); (repeat (first | exact Put.z | apply Put.s))) | ((with_reducible apply i_iseq)) | ((with_reducible apply i_rng1)) | ((with_reducible apply i_range); (omega); (omega)) | ((with_reducible apply i_ienum)) | ((with_reducible apply i_for)) | ((with_reducible apply i_lc)) | ((with_reducible apply i_yes)) | ((with_reducible apply i_gcons)) | ((with_reducible apply i_gnil)) | ((with_reducible apply i_gtup); (rfl)) | ((with_reducible apply i_tupA)) | ((with_reducible apply i_retN)) | ((with_reducible apply i_brk)) | ((with_reducible apply i_cont)) | ((with_reducible apply i_mv); (repeat (first | exact At.z | apply At.s)); (repeat (first | exact Put.z | apply Put.s))) | ((with_reducible apply i_neP); (repeat (first | exact At.z | apply At.s)); (rfl); (first | exact eqD_oe (by first | assumption | rfl))) | ((with_reducible apply i_popP); (repeat (first | exact At.z | apply At.s)); (rfl); (rfl); (rfl); ((first | rfl | assumption)); (repeat (first | exact LSet.z | apply LSet.s)); (repeat (first | exact Put.z | apply Put.s))) | ((with_reducible apply i_B) <;> intro hb)))
      all_goals try refine text_fin hc (by omega) h1 h2 h3 h4 ?_ ?_ ?_
      all_goals first | omega | exact small_rule2 (by omega) (by omega) | exact small_rule3 (by omega) (by omega) (by omega) (by omega) | (simp [small, smalls, strOk_of]; done) | exact of_decide_eq_true (by assumption) | exact Int.mul_nonneg (by omega) (by omega) | skip
  · rintro _ ⟨c, rs, sz, s1, s2, s3, s4, s5, s6, s7, s8, hc, h1, h2, h3, h4, rfl⟩
    have hsh := nices_sh (smalls_nices h3)
    rw [rngD_length] at h1 hc
    (repeat' (first | ((with_reducible apply i_seq)) | ((with_reducible apply i_ret)) | ((with_reducible apply i_next)) | ((with_reducible apply i_ifs)) | ((with_reducible apply i_T); (first | rfl | (with_reducible assumption) | exact not_t (by with_reducible assumption) | exact not_f (by with_reducible assumption))) | ((with_reducible apply i_F); (first | rfl | (with_reducible assumption) | exact not_t (by with_reducible assumption) | exact not_f (by with_reducible assumption))) | ((with_reducible apply i_name); (repeat (first | exact At.z | apply At.s)); ((first | rfl | assumption))) | ((with_reducible apply i_C)) | ((with_reducible apply i_bin)) | ((with_reducible apply i_tst)) | ((with_reducible apply i_tru)) | ((with_reducible apply i_fn)) | ((with_reducible apply i_bl)) | ((with_reducible apply i_cons)) | ((with_reducible apply i_nil)) | ((with_reducible apply i_cal)) | ((with_reducible apply i_un)) | ((with_reducible apply i_some); (first | ((with_reducible apply len_t)) | ((with_reducible apply len_l)) | ((with_reducible apply len_o)) | ((with_reducible apply len_f)) | ((with_reducible apply in_f); (rfl); (rfl)) | ((with_reducible apply in_t); (rfl); (rfl)) | ((with_reducible apply eqM); (first | (with_reducible exact eqD_ss) | (with_reducible exact eqD_ii) | (with_reducible exact eqD_bb) | ((with_reducible apply eqD_oe); (first | rfl | assumption)) | ((with_reducible apply eqD_le); (first | rfl | assumption)) | ((with_reducible apply eqD_te); (first | rfl | assumption)))) | ((with_reducible apply list1_seq); (rfl); (first | rfl | assumption)) | ((with_reducible apply tuple1_seq); (rfl); (first | rfl | assumption)) | ((with_reducible apply ix0); (first | rfl | assumption)) | ((with_reducible apply ix1); (first | rfl | assumption)) | ((with_reducible apply ix2); (first | rfl | assumption)) | ((with_reducible apply addLO); (simp only [List.length_cons, List.length_nil, List.length_append, List.length_map, sizeLine_eq]; omega); (repeat (first | (with_reducible assumption) | rfl | apply sh_app | apply sh_cons))) | ((with_reducible apply addL); (simp only [List.length_cons, List.length_nil, List.length_append, List.length_map, sizeLine_eq]; omega)) | ((with_reducible apply addOO); (simp only [List.length_cons, List.length_nil, List.length_append, List.length_map, sizeLine_eq]; omega); (repeat (first | (with_reducible assumption) | rfl | apply sh_app | apply sh_cons)); (repeat (first | (with_reducible assumption) | rfl | apply sh_app | apply sh_cons))) | ((with_reducible apply addOL); (simp only [List.length_cons, List.length_nil, List.length_append, List.length_map, sizeLine_eq]; omega); (repeat (first | (with_reducible assumption) | rfl | apply sh_app | apply sh_cons))) | ((with_reducible apply str_s)) | ((with_reducible apply str_i); (omega); (omega)) | ((with_reducible apply addM2); (repeat (first | (with_reducible assumption) | exact len_nil | exact len_rep | apply len_cut | apply len_app | apply len_cons)); (repeat (first | (with_reducible assumption) | exact len_nil | exact len_rep | apply len_cut | apply len_app | apply len_cons)); (simp only [sizeLine_eq]; omega)) | ((with_reducible apply sub_ii)) | ((with_reducible apply add_ii)) | ((with_reducible apply pow_20)) | ((with_reducible apply pow_30)) | ((with_reducible apply pow_40)) | (first | (with_reducible exact eqD_ss) | (with_reducible exact eqD_ii) | (with_reducible exact eqD_bb) | ((with_reducible apply eqD_oe); (first | rfl | assumption)) | ((with_reducible apply eqD_le); (first | rfl | assumption)) | ((with_reducible apply eqD_te); (first | rfl | assumption))) | ((with_reducible apply mul_t); (omega); (omega)) | ((with_reducible apply mod_ii); (first | (with_reducible assumption) | omega | decide)) | ((with_reducible apply div_b); (first | (with_reducible assumption) | omega | decide); (first | (with_reducible assumption) | omega | decide)) | ((with_reducible apply mul_b); (omega); (omega); (omega); (omega)) | (exact ix_tup rfl (by first | rfl | assumption)) | rfl)) | ((with_reducible apply i_asg)) | ((with_reducible apply i_gname); (repeat (first | exact Put.z | apply Put.s))) | ((with_reducible apply i_not)) | ((with_reducible apply i_and)) | ((with_reducible apply i_or)) | ((with_reducible apply i_andV)) | ((with_reducible apply i_orV)) | ((with_reducible apply i_notV)) | ((with_reducible apply i_xif)) | ((with_reducible apply i_chain)) | ((with_reducible apply i_ints)) | ((with_reducible apply i_int)) | ((with_reducible apply i_call0)) | ((with_reducible apply i_call1)) | ((with_reducible apply i_lend); (repeat (first | exact At.z | apply At.s)); (repeat (first | exact Put.z | apply Put.s))) | ((with_reducible apply i_out0)) | ((with_reducible apply i_out1); (repeat (first | exact Put.z | apply Put.s))) | ((with_reducible apply i_tup)) | ((with_reducible apply i_lst)) | ((with_reducible apply i_frz)) | ((with_reducible apply i_le); (simp only [List.length_cons, List.length_nil, List.length_append, List.length_map, sizeLine_eq]; omega)) | ((with_reducible apply i_lt); (simp only [List.length_cons, List.length_nil, List.length_append, List.length_map, sizeLine_eq]; omega)) | ((with_reducible apply i_sh); (repeat (first | (with_reducible assumption) | rfl | apply sh_app | apply sh_cons))) | ((with_reducible apply i_frzO); (repeat (first | (with_reducible assumption) | rfl | apply sh_app | apply sh_cons))) | ((with_reducible apply i_do)) | ((with_reducible apply i_par)) | ((with_reducible apply i_puts); (repeat (first | exact Puts.n | exact Put.z | apply Put.s | apply Puts.c))) | ((with_reducible apply i_ixS); (repeat (first | exact At.z | apply At.s))) | ((with_reducible apply i_at); (repeat (first | exact At.z | apply At.s))) | ((with_reducible apply i_atO); (repeat (first | exact At.z | apply At.s))) | ((with_reducible apply i_put); (repeat (first | exact Put.z | apply Put.s))) | ((with_reducible apply i_lenS); (repeat (first | exact At.z | apply At.s)); (rfl)) | ((with_reducible apply i_leq); (rfl)) | ((with_reducible apply i_eqS); (repeat (first | exact At.z | apply At.s))) | ((with_reducible apply i_neS); (repeat (first | exact At.z | apply At.s))) | ((with_reducible apply i_app); (repeat (first | exact At.z | apply At.s))) | ((with_reducible apply i_sl)) | ((with_reducible apply i_oN)) | ((with_reducible apply i_oS)) | ((with_reducible apply i_setS); (repeat (first | exact At.z | apply At.s))) | ((with_reducible apply i_set); (rfl); (repeat (first | exact LSet.z | apply LSet.s)); (repeat (first | exact Put.z | apply Put.s))) | ((with_reducible apply i_iseq)) | ((with_reducible apply i_rng1)) | ((with_reducible apply i_range); (omega); (omega)) | ((with_reducible apply i_ienum)) | ((with_reducible apply i_for)) | ((with_reducible apply i_lc)) | ((with_reducible apply i_yes)) | ((with_reducible apply i_gcons)) | ((with_reducible apply i_gnil)) | ((with_reducible apply i_gtup); (rfl)) | ((with_reducible apply i_tupA)) | ((with_reducible apply i_retN)) | ((with_reducible apply i_brk)) | ((with_reducible apply i_cont)) | ((with_reducible apply i_mv); (repeat (first | exact At.z | apply At.s)); (repeat (first | exact Put.z | apply Put.s))) | ((with_reducible apply i_neP); (repeat (first | exact At.z | apply At.s)); (rfl); (first | exact eqD_oe (by first | assumption | rfl))) | ((with_reducible apply i_popP); (repeat (first | exact At.z | apply At.s)); (rfl); (rfl); (rfl); ((first | rfl | assumption)); (repeat (first | exact LSet.z | apply LSet.s)); (repeat (first | exact Put.z | apply Put.s))) | ((with_reducible apply i_B) <;> intro hb)))
    refine ok _ _ [c] rfl ⟨rs, c, rfl, ?_, ?_, h3, rfl, Cup.le hc ?_⟩
    · intro e
      rw [e] at h1
      simp at h1
      omega
    · omega
    · omega
theorem fe_text {c : D} {m : Nat} {Q : D → List D → Prop} (h : Cup m c) (hm : m ≤ 100000000) (q : ∀ rs c', rs ≠ [] → rs.length ≤ 41 → smalls 2 rs = true → Cup (m + 1000) c' → Q (.tup rs) [c']) : F_text.f [c, .int 40, .int (10 ^ 40)] Q :=
  ⟨(m, c), rfl, ⟨h, hm⟩, fun _ _ ⟨rs, c', e1, h1, h2, h3, e2, h4⟩ => by rw [e1, e2]; exact q rs c' h1 h2 h3 h4⟩
end K34

namespace K34
open PySem PySem.Spec PyProof.Rows L2 BV
theorem fe_near {c : D} {xs : List D} {m : Nat} {Q : D → List D → Prop} (h : Cup m c) (hm : m ≤ 100000000) (h1 : xs ≠ []) (h2 : xs.length ≤ 41) (h3 : smalls 2 xs = true) (q : ∀ r c', nice r = true → Cup (m + 10) c' → Q r [c']) : F_near.f [c, .tup xs] Q :=
  ⟨(m, c, xs), rfl, ⟨h, hm, h1, h2, h3⟩, fun _ _ ⟨c', h1, e2, h3⟩ => by rw [e2]; exact q _ c' h1 h3⟩
theorem pf_near : Pf F_near x__law_near_one [0] (5 - 2) := pf_ex fun ⟨m, c, xs⟩ h R N ok _ => by
  unfold x__law_near_one
  simp only [List.map_cons, List.map_nil, List.cons_append, List.nil_append, List.append_nil, List.replicate_succ, List.replicate_zero, Nat.reduceSub]
  obtain ⟨hc, hm, h1, h2, h3⟩ := h
  dsimp only at *
  have hy := smalls_nices h3
  have hcut : ∀ lo hi, nices (cutL xs lo hi) = true := fun lo hi => nices_cut hy
  have hpos : 0 < (xs.length : Int) := by
    cases xs with
    | nil => exact absurd rfl h1
    | cons => simp
  (repeat' (first | ((with_reducible apply fe_sip); (assumption); (omega); ((first | (with_reducible assumption) | omega | (simp only [List.length_append, List.length_cons, List.length_nil]; omega))); ((first | (with_reducible assumption) | omega | (simp only [List.length_append, List.length_cons, List.length_nil]; omega))); (intro k c hk0 hk1 hc)) | ((with_reducible apply i_pick); ((simp only [nices, nice, nices_app, strOk_of, Bool.and_true, Bool.and_self, List.cons_append, List.nil_append])); ((first | (with_reducible assumption) | omega)); ((first | (with_reducible assumption) | omega | (simp only [List.length_append, List.length_cons, List.length_nil]; omega))); (intro z hz hzn; have hzs := nice_sh hzn)) | ((with_reducible apply i_seq)) | ((with_reducible apply i_ret)) | ((with_reducible apply i_next)) | ((with_reducible apply i_ifs)) | ((with_reducible apply i_T); (first | rfl | (with_reducible assumption) | exact not_t (by with_reducible assumption) | exact not_f (by with_reducible assumption))) | ((with_reducible apply i_F); (first | rfl | (with_reducible assumption) | exact not_t (by with_reducible assumption) | exact not_f (by with_reducible assumption))) | ((with_reducible apply i_name); (repeat (first | exact At.z | apply At.s)); ((first | rfl | assumption))) | ((with_reducible apply i_C)) | ((with_reducible apply i_bin)) | ((with_reducible apply i_tst)) | ((with_reducible apply i_tru)) | ((with_reducible apply i_fn)) | ((with_reducible apply i_bl)) | ((with_reducible apply i_cons)) | ((with_reducible apply i_nil)) | ((with_reducible apply i_cal)) | ((with_reducible apply i_un)) | ((with_reducible apply i_some); (first | ((with_reducible apply len_t)) | ((with_reducible apply len_l)) | ((with_reducible apply len_o)) | ((with_reducible apply len_f)) | ((with_reducible apply in_f); (rfl); (rfl)) | ((with_reducible apply in_t); (rfl); (rfl)) | ((with_reducible apply eqM); (first | (with_reducible exact eqD_ss) | (with_reducible exact eqD_ii) | (with_reducible exact eqD_bb) | ((with_reducible apply eqD_oe); (first | rfl | assumption)) | ((with_reducible apply eqD_le); (first | rfl | assumption)) | ((with_reducible apply eqD_te); (first | rfl | assumption)))) | ((with_reducible apply list1_seq); (rfl); (first | rfl | assumption)) | ((with_reducible apply tuple1_seq); (rfl); (first | rfl | assumption)) | ((with_reducible apply ix0); (first | rfl | assumption)) | ((with_reducible apply ix1); (first | rfl | assumption)) | ((with_reducible apply ix2); (first | rfl | assumption)) | ((with_reducible apply addLO); (simp only [List.length_cons, List.length_nil, List.length_append, List.length_map, sizeLine_eq]; omega); (repeat (first | (with_reducible assumption) | rfl | apply sh_app | apply sh_cons))) | ((with_reducible apply addL); (simp only [List.length_cons, List.length_nil, List.length_append, List.length_map, sizeLine_eq]; omega)) | ((with_reducible apply addOO); (simp only [List.length_cons, List.length_nil, List.length_append, List.length_map, sizeLine_eq]; omega); (repeat (first | (with_reducible assumption) | rfl | apply sh_app | apply sh_cons)); (repeat (first | (with_reducible assumption) | rfl | apply sh_app | apply sh_cons))) | ((with_reducible apply addOL); (simp only [List.length_cons, List.length_nil, List.length_append, List.length_map, sizeLine_eq]; omega); (repeat (first | (with_reducible assumption) | rfl | apply sh_app | apply sh_cons))) | ((with_reducible apply str_s)) | ((with_reducible apply str_i); (omega); (omega)) | ((with_reducible apply addM2); (repeat (first | (with_reducible assumption) | exact len_nil | exact len_rep | apply len_cut | apply len_app | apply len_cons)); (repeat (first | (with_reducible assumption) | exact len_nil | exact len_rep | apply len_cut | apply len_app | apply len_cons)); (simp only [sizeLine_eq]; omega)) | ((with_reducible apply sub_ii)) | ((with_reducible apply add_ii)) | ((with_reducible apply pow_20)) | ((with_reducible apply pow_30)) | ((with_reducible apply pow_40)) | (first | (with_reducible exact eqD_ss) | (with_reducible exact eqD_ii) | (with_reducible exact eqD_bb) | ((with_reducible apply eqD_oe); (first | rfl | assumption)) | ((with_reducible apply eqD_le); (first | rfl | assumption)) | ((with_reducible apply eqD_te); (first | rfl | assumption))) | ((with_reducible apply mul_t); (omega); (omega)) | ((with_reducible apply mod_ii); (first | (with_reducible assumption) | omega | decide)) | ((with_reducible apply div_b); (first | (with_reducible assumption) | omega | decide); (first | (with_reducible assumption) | omega | decide)) | ((with_reducible apply mul_b); (omega); (omega); (omega); (omega)) | (exact ix_tup rfl (by first | rfl | assumption)) | rfl)) | ((with_reducible apply i_asg)) | ((with_reducible apply i_gname); (repeat (first | exact Put.z | apply Put.s))) | ((with_reducible apply i_not)) | ((with_reducible apply i_and)) | ((with_reducible apply i_or)) | ((with_reducible apply i_andV)) | ((with_reducible apply i_orV)) | ((with_reducible apply i_notV)) | ((with_reducible apply i_xif)) | ((with_reducible apply i_chain)) | ((with_reducible apply i_ints)) | ((with_reducible apply i_int)) | ((with_reducible apply i_call0)) | ((with_reducible apply i_call1)) | ((with_reducible apply i_lend); (repeat (first | exact At.z | apply At.s)); (repeat (first | exact Put.z | apply Put.s))) | ((with_reducible apply i_out0)) | ((with_reducible apply i_out1); (repeat (first | exact Put.z | apply Put.s))) | ((with_reducible apply i_tup)) | ((with_reducible apply i_lst)) | ((with_reducible apply i_frz)) | ((with_reducible apply i_le); (simp only [List.length_cons, List.length_nil, List.length_append, List.length_map, sizeLine_eq]; omega)) | ((with_reducible apply i_lt); (simp only [List.length_cons, List.length_nil, List.length_append, List.length_map, sizeLine_eq]; omega)) | ((with_reducible apply i_sh); (repeat (first | (with_reducible assumption) | rfl | apply sh_app | apply sh_cons))) | ((with_reducible apply i_frzO); (repeat (first | (with_reducible assumption) | rfl | apply sh_app | apply sh_cons))) | ((with_reducible apply i_do)) | ((with_reducible apply i_par)) | ((with_reducible apply i_puts); (repeat (first | exact Puts.n | exact Put.z | apply Put.s | apply Puts.c))) | ((with_reducible apply i_ixS); (repeat (first | exact At.z | apply At.s))) | ((with_reducible apply i_at); (repeat (first | exact At.z | apply At.s))) | ((with_reducible apply i_atO); (repeat (first | exact At.z | apply At.s))) | ((with_reducible apply i_put); (repeat (first | exact Put.z | apply Put.s))) | ((with_reducible apply i_lenS); (repeat (first | exact At.z | apply At.s)); (rfl)) | ((with_reducible apply i_leq); (rfl)) | ((with_reducible apply i_eqS); (repeat (first | exact At.z | apply At.s))) | ((with_reducible apply i_neS); (repeat (first | exact At.z | apply At.s))) | ((with_reducible apply i_app); (repeat (first | exact At.z | apply At.s))) | ((with_reducible apply i_sl)) | ((with_reducible apply i_oN)) | ((with_reducible apply i_oS)) | ((with_reducible apply i_setS); (repeat (first | exact At.z | apply At.s))) | ((with_reducible apply i_set); (rfl); (repeat (first | exact LSet.z | apply LSet.s)); (repeat (first | exact Put.z | apply Put.s))) | ((with_reducible apply i_iseq)) | ((with_reducible apply i_rng1)) | ((with_reducible apply i_range); (omega); (omega)) | ((with_reducible apply i_ienum)) | ((with_reducible apply i_for)) | ((with_reducible apply i_lc)) | ((with_reducible apply i_yes)) | ((with_reducible apply i_gcons)) | ((with_reducible apply i_gnil)) | ((with_reducible apply i_gtup); (rfl)) | ((with_reducible apply i_tupA)) | ((with_reducible apply i_retN)) | ((with_reducible apply i_brk)) | ((with_reducible apply i_cont)) | ((with_reducible apply i_mv); (repeat (first | exact At.z | apply At.s)); (repeat (first | exact Put.z | apply Put.s))) | ((with_reducible apply i_neP); (repeat (first | exact At.z | apply At.s)); (rfl); (first | exact eqD_oe (by first | assumption | rfl))) | ((with_reducible apply i_popP); (repeat (first | exact At.z | apply At.s)); (rfl); (rfl); (rfl); ((first | rfl | assumption)); (repeat (first | exact LSet.z | apply LSet.s)); (repeat (first | exact Put.z | apply Put.s))) | ((with_reducible apply i_B) <;> intro hb)))
  refine ok _ _ [c] rfl ⟨c, ?_, rfl, Cup.le hc (by omega)⟩
  simp only [nice, nices, nices_app, hcut, hzn, Bool.and_self]
end K34

namespace K34
open PySem PySem.Spec PyProof.Rows L2 BV
theorem fe_cup {ns : List Int} {Q : D → List D → Prop} (q : ∀ c, Cup 0 c → Q c []) : F_cup.f [.frl (ns.map D.int)] Q :=
  ⟨ns, rfl, True.intro, fun _ _ ⟨h, e⟩ => by rw [e]; exact q _ h⟩
theorem small_mono : ∀ {rs : List D}, rs.length ≤ 41 → smalls 2 rs = true → small 3 (.tup rs) = true := fun h h2 => by
  simp only [small, h2, Bool.and_true, decide_eq_true_eq]
  omega
section
variable {a b2 s4 s5 s6 s7 s8 s9 : Option D} {c : D} {m : Nat} {rs : List D} {Q : D → Ev → Prop}
theorem lc_bent (hc : Cup m c) (hm : m ≤ 10000000) (h1 : small 3 (.tup rs) = true) (q : ∀ acc c', nices acc = true → acc.length = 6 → Cup (m + 240) c' → Q (.own acc) [a, some c', b2, some (.tup rs), s4, s5, s6, s7, s8, s9, none]) :
    (xLc (xiRng1 (xCons (xC (.int 6)) xNil)) (xgName 10) xYes (xCall (F_bentJ 3) [some 1] (xLend 1 (xCons (xName 3) xNil))) [10]).f [a, some c, b2, some (.tup rs), s4, s5, s6, s7, s8, s9, none] Q := by
  (repeat' (first | ((with_reducible apply i_seq)) | ((with_reducible apply i_ret)) | ((with_reducible apply i_next)) | ((with_reducible apply i_ifs)) | ((with_reducible apply i_T); (first | rfl | (with_reducible assumption) | exact not_t (by with_reducible assumption) | exact not_f (by with_reducible assumption))) | ((with_reducible apply i_F); (first | rfl | (with_reducible assumption) | exact not_t (by with_reducible assumption) | exact not_f (by with_reducible assumption))) | ((with_reducible apply i_name); (repeat (first | exact At.z | apply At.s)); ((first | rfl | assumption))) | ((with_reducible apply i_C)) | ((with_reducible apply i_bin)) | ((with_reducible apply i_tst)) | ((with_reducible apply i_tru)) | ((with_reducible apply i_fn)) | ((with_reducible apply i_bl)) | ((with_reducible apply i_cons)) | ((with_reducible apply i_nil)) | ((with_reducible apply i_cal)) | ((with_reducible apply i_un)) | ((with_reducible apply i_some); (first | ((with_reducible apply len_t)) | ((with_reducible apply len_l)) | ((with_reducible apply len_o)) | ((with_reducible apply len_f)) | ((with_reducible apply in_f); (rfl); (rfl)) | ((with_reducible apply in_t); (rfl); (rfl)) | ((with_reducible apply eqM); (first | (with_reducible exact eqD_ss) | (with_reducible exact eqD_ii) | (with_reducible exact eqD_bb) | ((with_reducible apply eqD_oe); (first | rfl | assumption)) | ((with_reducible apply eqD_le); (first | rfl | assumption)) | ((with_reducible apply eqD_te); (first | rfl | assumption)))) | ((with_reducible apply list1_seq); (rfl); (first | rfl | assumption)) | ((with_reducible apply tuple1_seq); (rfl); (first | rfl | assumption)) | ((with_reducible apply ix0); (first | rfl | assumption)) | ((with_reducible apply ix1); (first | rfl | assumption)) | ((with_reducible apply ix2); (first | rfl | assumption)) | ((with_reducible apply addLO); (simp only [List.length_cons, List.length_nil, List.length_append, List.length_map, sizeLine_eq]; omega); (repeat (first | (with_reducible assumption) | rfl | apply sh_app | apply sh_cons))) | ((with_reducible apply addL); (simp only [List.length_cons, List.length_nil, List.length_append, List.length_map, sizeLine_eq]; omega)) | ((with_reducible apply addOO); (simp only [List.length_cons, List.length_nil, List.length_append, List.length_map, sizeLine_eq]; omega); (repeat (first | (with_reducible assumption) | rfl | apply sh_app | apply sh_cons)); (repeat (first | (with_reducible assumption) | rfl | apply sh_app | apply sh_cons))) | ((with_reducible apply addOL); (simp only [List.length_cons, List.length_nil, List.length_append, List.length_map, sizeLine_eq]; omega); (repeat (first | (with_reducible assumption) | rfl | apply sh_app | apply sh_cons))) | ((with_reducible apply str_s)) | ((with_reducible apply str_i); (omega); (omega)) | ((with_reducible apply addM2); (repeat (first | (with_reducible assumption) | exact len_nil | exact len_rep | apply len_cut | apply len_app | apply len_cons)); (repeat (first | (with_reducible assumption) | exact len_nil | exact len_rep | apply len_cut | apply len_app | apply len_cons)); (simp only [sizeLine_eq]; omega)) | ((with_reducible apply sub_ii)) | ((with_reducible apply add_ii)) | ((with_reducible apply pow_20)) | ((with_reducible apply pow_30)) | ((with_reducible apply pow_40)) | (first | (with_reducible exact eqD_ss) | (with_reducible exact eqD_ii) | (with_reducible exact eqD_bb) | ((with_reducible apply eqD_oe); (first | rfl | assumption)) | ((with_reducible apply eqD_le); (first | rfl | assumption)) | ((with_reducible apply eqD_te); (first | rfl | assumption))) | ((with_reducible apply mul_t); (omega); (omega)) | ((with_reducible apply mod_ii); (first | (with_reducible assumption) | omega | decide)) | ((with_reducible apply div_b); (first | (with_reducible assumption) | omega | decide); (first | (with_reducible assumption) | omega | decide)) | ((with_reducible apply mul_b); (omega); (omega); (omega); (omega)) | (exact ix_tup rfl (by first | rfl | assumption)) | rfl)) | ((with_reducible apply i_asg)) | ((with_reducible apply i_gname); (repeat (first | exact Put.z | apply Put.s))) | ((with_reducible apply i_not)) | ((with_reducible apply i_and)) | ((with_reducible apply i_or)) | ((with_reducible apply i_andV)) | ((with_reducible apply i_orV)) | ((with_reducible apply i_notV)) | ((with_reducible apply i_xif)) | ((with_reducible apply i_chain)) | ((with_reducible apply i_ints)) | ((with_reducible apply i_int)) | ((with_reducible apply i_call0)) | ((with_reducible apply i_call1)) | ((with_reducible apply i_lend); (repeat (first | exact At.z | apply At.s)); (repeat (first | exact Put.z | apply Put.s))) | ((with_reducible apply i_out0)) | ((with_reducible apply i_out1); (repeat (first | exact Put.z | apply Put.s))) | ((with_reducible apply i_tup)) | ((with_reducible apply i_lst)) | ((with_reducible apply i_frz)) | ((with_reducible apply i_le); (simp only [List.length_cons, List.length_nil, List.length_append, List.length_map, sizeLine_eq]; omega)) | ((with_reducible apply i_lt); (simp only [List.length_cons, List.length_nil, List.length_append, List.length_map, sizeLine_eq]; omega)) | ((with_reducible apply i_sh); (repeat (first | (with_reducible assumption) | rfl | apply sh_app | apply sh_cons))) | ((with_reducible apply i_frzO); (repeat (first | (with_reducible assumption) | rfl | apply sh_app | apply sh_cons))) | ((with_reducible apply i_do)) | ((with_reducible apply i_par)) | ((with_reducible apply i_puts); (repeat (first | exact Puts.n | exact Put.z | apply Put.s | apply Puts.c))) | ((with_reducible apply i_ixS); (repeat (first | exact At.z | apply At.s))) | ((with_reducible apply i_at); (repeat (first | exact At.z | apply At.s))) | ((with_reducible apply i_atO); (repeat (first | exact At.z | apply At.s))) | ((with_reducible apply i_put); (repeat (first | exact Put.z | apply Put.s))) | ((with_reducible apply i_lenS); (repeat (first | exact At.z | apply At.s)); (rfl)) | ((with_reducible apply i_leq); (rfl)) | ((with_reducible apply i_eqS); (repeat (first | exact At.z | apply At.s))) | ((with_reducible apply i_neS); (repeat (first | exact At.z | apply At.s))) | ((with_reducible apply i_app); (repeat (first | exact At.z | apply At.s))) | ((with_reducible apply i_sl)) | ((with_reducible apply i_oN)) | ((with_reducible apply i_oS)) | ((with_reducible apply i_setS); (repeat (first | exact At.z | apply At.s))) | ((with_reducible apply i_set); (rfl); (repeat (first | exact LSet.z | apply LSet.s)); (repeat (first | exact Put.z | apply Put.s))) | ((with_reducible apply i_iseq)) | ((with_reducible apply i_rng1)) | ((with_reducible apply i_range); (omega); (omega)) | ((with_reducible apply i_ienum)) | ((with_reducible apply i_for)) | ((with_reducible apply i_lc)) | ((with_reducible apply i_yes)) | ((with_reducible apply i_gcons)) | ((with_reducible apply i_gnil)) | ((with_reducible apply i_gtup); (rfl)) | ((with_reducible apply i_tupA)) | ((with_reducible apply i_retN)) | ((with_reducible apply i_brk)) | ((with_reducible apply i_cont)) | ((with_reducible apply i_mv); (repeat (first | exact At.z | apply At.s)); (repeat (first | exact Put.z | apply Put.s))) | ((with_reducible apply i_neP); (repeat (first | exact At.z | apply At.s)); (rfl); (first | exact eqD_oe (by first | assumption | rfl))) | ((with_reducible apply i_popP); (repeat (first | exact At.z | apply At.s)); (rfl); (rfl); (rfl); ((first | rfl | assumption)); (repeat (first | exact LSet.z | apply LSet.s)); (repeat (first | exact Put.z | apply Put.s)))))
  refine ⟨fun k acc ρ => ∃ c, Cup (m + 40 * k) c ∧ nices acc = true ∧ acc.length = k ∧ ρ = [a, some c, b2, some (.tup rs), s4, s5, s6, s7, s8, s9, none], ⟨c, hc, by simp only [nices], rfl, rfl⟩, ?_, ?_⟩
  · rintro k z acc _ hz ⟨c, hc, ha, hl, rfl⟩
    obtain ⟨hk, rfl⟩ := rngD_get hz
    have hk : k < 6 := hk
    (repeat' (first | ((with_reducible apply fe_bent); (assumption); (omega); (assumption); (intro r c hr hc)) | ((with_reducible apply i_seq)) | ((with_reducible apply i_ret)) | ((with_reducible apply i_next)) | ((with_reducible apply i_ifs)) | ((with_reducible apply i_T); (first | rfl | (with_reducible assumption) | exact not_t (by with_reducible assumption) | exact not_f (by with_reducible assumption))) | ((with_reducible apply i_F); (first | rfl | (with_reducible assumption) | exact not_t (by with_reducible assumption) | exact not_f (by with_reducible assumption))) | ((with_reducible apply i_name); (repeat (first | exact At.z | apply At.s)); ((first | rfl | assumption))) | ((with_reducible apply i_C)) | ((with_reducible apply i_bin)) | ((with_reducible apply i_tst)) | ((with_reducible apply i_tru)) | ((with_reducible apply i_fn)) | ((with_reducible apply i_bl)) | ((with_reducible apply i_cons)) | ((with_reducible apply i_nil)) | ((with_reducible apply i_cal)) | ((with_reducible apply i_un)) | ((with_reducible apply i_some); (first | ((with_reducible apply len_t)) | ((with_reducible apply len_l)) | ((with_reducible apply len_o)) | ((with_reducible apply len_f)) | ((with_reducible apply in_f); (rfl); (rfl)) | ((with_reducible apply in_t); (rfl); (rfl)) | ((with_reducible apply eqM); (first | (with_reducible exact eqD_ss) | (with_reducible exact eqD_ii) | (with_reducible exact eqD_bb) | ((with_reducible apply eqD_oe); (first | rfl | assumption)) | ((with_reducible apply eqD_le); (first | rfl | assumption)) | ((with_reducible apply eqD_te); (first | rfl | assumption)))) | ((with_reducible apply list1_seq); (rfl); (first | rfl | assumption)) | ((with_reducible apply tuple1_seq); (rfl); (first | rfl | assumption)) | ((with_reducible apply ix0); (first | rfl | assumption)) | ((with_reducible apply ix1); (first | rfl | assumption)) | ((with_reducible apply ix2); (first | rfl | assumption)) | ((with_reducible apply addLO); (simp only [List.length_cons, List.length_nil, List.length_append, List.length_map, sizeLine_eq]; omega); (repeat (first | (with_reducible assumption) | rfl | apply sh_app | apply sh_cons))) | ((with_reducible apply addL); (simp only [List.length_cons, List.length_nil, List.length_append, List.length_map, sizeLine_eq]; omega)) | ((with_reducible apply addOO); (simp only [List.length_cons, List.length_nil, List.length_append, List.length_map, sizeLine_eq]; omega); (repeat (first | (with_reducible assumption) | rfl | apply sh_app | apply sh_cons)); (repeat (first | (with_reducible assumption) | rfl | apply sh_app | apply sh_cons))) | ((with_reducible apply addOL); (simp only [List.length_cons, List.length_nil, List.length_append, List.length_map, sizeLine_eq]; omega); (repeat (first | (with_reducible assumption) | rfl | apply sh_app | apply sh_cons))) | ((with_reducible apply str_s)) | ((with_reducible apply str_i); (omega); (omega)) | ((with_reducible apply addM2); (repeat (first | (with_reducible assumption) | exact len_nil | exact len_rep | apply len_cut | apply len_app | apply len_cons)); (repeat (first | (with_reducible assumption) | exact len_nil | exact len_rep | apply len_cut | apply len_app | apply len_cons)); (simp only [sizeLine_eq]; omega)) | ((with_reducible apply sub_ii)) | ((with_reducible apply add_ii)) | ((with_reducible apply pow_20)) | ((with_reducible apply pow_30)) | ((with_reducible apply pow_40)) | (first | (with_reducible exact eqD_ss) | (with_reducible exact eqD_ii) | (with_reducible exact eqD_bb) | ((with_reducible apply eqD_oe); (first | rfl | assumption)) | ((with_reducible apply eqD_le); (first | rfl | assumption)) | ((with_reducible apply eqD_te); (first | rfl | assumption))) | ((with_reducible apply mul_t); (omega); (omega)) | ((with_reducible apply mod_ii); (first | (with_reducible assumption) | omega | decide)) | ((with_reducible apply div_b); (first | (with_reducible assumption) | omega | decide); (first | (with_reducible assumption) | omega | decide)) | ((with_reducible apply mul_b); (omega); (omega); (omega); (omega)) | (exact ix_tup rfl (by first | rfl | assumption)) | rfl)) | ((with_reducible apply i_asg)) | ((with_reducible apply i_gname); (repeat (first | exact Put.z | apply Put.s))) | ((with_reducible apply i_not)) | ((with_reducible apply i_and)) | ((with_reducible apply i_or)) | ((with_reducible apply i_andV)) | ((with_reducible apply i_orV)) | ((with_reducible apply i_notV)) | ((with_reducible apply i_xif)) | ((with_reducible apply i_chain)) | ((with_reducible apply i_ints)) | ((with_reducible apply i_int)) | ((with_reducible apply i_call0)) | ((with_reducible apply i_call1)) | ((with_reducible apply i_lend); (repeat (first | exact At.z | apply At.s)); (repeat (first | exact Put.z | apply Put.s))) | ((with_reducible apply i_out0)) | ((with_reducible apply i_out1); (repeat (first | exact Put.z | apply Put.s))) | ((with_reducible apply i_tup)) | ((with_reducible apply i_lst)) | ((with_reducible apply i_frz)) | ((with_reducible apply i_le); (simp only [List.length_cons, List.length_nil, List.length_append, List.length_map, sizeLine_eq]; omega)) | ((with_reducible apply i_lt); (simp only [List.length_cons, List.length_nil, List.length_append, List.length_map, sizeLine_eq]; omega)) | ((with_reducible apply i_sh); (repeat (first | (with_reducible assumption) | rfl | apply sh_app | apply sh_cons))) | ((with_reducible apply i_frzO); (repeat (first | (with_reducible assumption) | rfl | apply sh_app | apply sh_cons))) | ((with_reducible apply i_do)) | ((with_reducible apply i_par)) | ((with_reducible apply i_puts); (repeat (first | exact Puts.n | exact Put.z | apply Put.s | apply Puts.c))) | ((with_reducible apply i_ixS); (repeat (first | exact At.z | apply At.s))) | ((with_reducible apply i_at); (repeat (first | exact At.z | apply At.s))) | ((with_reducible apply i_atO); (repeat (first | exact At.z | apply At.s))) | ((with_reducible apply i_put); (repeat (first | exact Put.z | apply Put.s))) | ((with_reducible apply i_lenS); (repeat (first | exact At.z | apply At.s)); (rfl)) | ((with_reducible apply i_leq); (rfl)) | ((with_reducible apply i_eqS); (repeat (first | exact At.z | apply At.s))) | ((with_reducible apply i_neS); (repeat (first | exact At.z | apply At.s))) | ((with_reducible apply i_app); (repeat (first | exact At.z | apply At.s))) | ((with_reducible apply i_sl)) | ((with_reducible apply i_oN)) | ((with_reducible apply i_oS)) | ((with_reducible apply i_setS); (repeat (first | exact At.z | apply At.s))) | ((with_reducible apply i_set); (rfl); (repeat (first | exact LSet.z | apply LSet.s)); (repeat (first | exact Put.z | apply Put.s))) | ((with_reducible apply i_iseq)) | ((with_reducible apply i_rng1)) | ((with_reducible apply i_range); (omega); (omega)) | ((with_reducible apply i_ienum)) | ((with_reducible apply i_for)) | ((with_reducible apply i_lc)) | ((with_reducible apply i_yes)) | ((with_reducible apply i_gcons)) | ((with_reducible apply i_gnil)) | ((with_reducible apply i_gtup); (rfl)) | ((with_reducible apply i_tupA)) | ((with_reducible apply i_retN)) | ((with_reducible apply i_brk)) | ((with_reducible apply i_cont)) | ((with_reducible apply i_mv); (repeat (first | exact At.z | apply At.s)); (repeat (first | exact Put.z | apply Put.s))) | ((with_reducible apply i_neP); (repeat (first | exact At.z | apply At.s)); (rfl); (first | exact eqD_oe (by first | assumption | rfl))) | ((with_reducible apply i_popP); (repeat (first | exact At.z | apply At.s)); (rfl); (rfl); (rfl); ((first | rfl | assumption)); (repeat (first | exact LSet.z | apply LSet.s)); (repeat (first | exact Put.z | apply Put.s)))))
    exact ⟨c, Cup.le hc (by omega), by simp only [nices_app, ha, nices, hr, Bool.and_self], by rw [List.length_append, hl]; rfl, rfl⟩
  · rintro acc _ ⟨c, hc, ha, hl, rfl⟩
    have hl : acc.length = 6 := by rw [hl, rngD_length]; rfl
    rw [rngD_length] at hc
    exact q acc c ha hl (Cup.le hc (by simp))
theorem lc_near (hc : Cup m c) (hm : m ≤ 10000000) (h0 : rs ≠ []) (h1 : rs.length ≤ 41) (h2 : smalls 2 rs = true) (q : ∀ acc c', nices acc = true → acc.length = 6 → Cup (m + 60) c' → Q (.own acc) [a, some c', b2, some (.tup rs), s4, s5, s6, s7, s8, s9, none]) :
    (xLc (xiRng1 (xCons (xC (.int 6)) xNil)) (xgName 10) xYes (xCall F_near [some 1] (xLend 1 (xCons (xName 3) xNil))) [10]).f [a, some c, b2, some (.tup rs), s4, s5, s6, s7, s8, s9, none] Q := by
  (repeat' (first | ((with_reducible apply i_seq)) | ((with_reducible apply i_ret)) | ((with_reducible apply i_next)) | ((with_reducible apply i_ifs)) | ((with_reducible apply i_T); (first | rfl | (with_reducible assumption) | exact not_t (by with_reducible assumption) | exact not_f (by with_reducible assumption))) | ((with_reducible apply i_F); (first | rfl | (with_reducible assumption) | exact not_t (by with_reducible assumption) | exact not_f (by with_reducible assumption))) | ((with_reducible apply i_name); (repeat (first | exact At.z | apply At.s)); ((first | rfl | assumption))) | ((with_reducible apply i_C)) | ((with_reducible apply i_bin)) | ((with_reducible apply i_tst)) | ((with_reducible apply i_tru)) | ((with_reducible apply i_fn)) | ((with_reducible apply i_bl)) | ((with_reducible apply i_cons)) | ((with_reducible apply i_nil)) | ((with_reducible apply i_cal)) | ((with_reducible apply i_un)) | ((with_reducible apply i_some); (first | ((with_reducible apply len_t)) | ((with_reducible apply len_l)) | ((with_reducible apply len_o)) | ((with_reducible apply len_f)) | ((with_reducible apply in_f); (rfl); (rfl)) | ((with_reducible apply in_t); (rfl); (rfl)) | ((with_reducible apply eqM); (first | (with_reducible exact eqD_ss) | (with_reducible exact eqD_ii) | (with_reducible exact eqD_bb) | ((with_reducible apply eqD_oe); (first | rfl | assumption)) | ((with_reducible apply eqD_le); (first | rfl | assumption)) | ((with_reducible apply eqD_te); (first | rfl | assumption)))) | ((with_reducible apply list1_seq); (rfl); (first | rfl | assumption)) | ((with_reducible apply tuple1_seq); (rfl); (first | rfl | assumption)) | ((with_reducible apply ix0); (first | rfl | assumption)) | ((with_reducible apply ix1); (first | rfl | assumption)) | ((with_reducible apply ix2); (first | rfl | assumption)) | ((with_reducible apply addLO); (simp only [List.length_cons, List.length_nil, List.length_append, List.length_map, sizeLine_eq]; omega); (repeat (first | (with_reducible assumption) | rfl | apply sh_app | apply sh_cons))) | ((with_reducible apply addL); (simp only [List.length_cons, List.length_nil, List.length_append, List.length_map, sizeLine_eq]; omega)) | ((with_reducible apply addOO); (simp only [List.length_cons, List.length_nil, List.length_append, List.length_map, sizeLine_eq]; omega); (repeat (first | (with_reducible assumption) | rfl | apply sh_app | apply sh_cons)); (repeat (first | (with_reducible assumption) | rfl | apply sh_app | apply sh_cons))) | ((with_reducible apply addOL); (simp only [List.length_cons, List.length_nil, List.length_append, List.length_map, sizeLine_eq]; omega); (repeat (first | (with_reducible assumption) | rfl | apply sh_app | apply sh_cons))) | ((with_reducible apply str_s)) | ((with_reducible apply str_i); (omega); (omega)) | ((with_reducible apply addM2); (repeat (first | (with_reducible assumption) | exact len_nil | exact len_rep | apply len_cut | apply len_app | apply len_cons)); (repeat (first | (with_reducible assumption) | exact len_nil | exact len_rep | apply len_cut | apply len_app | apply len_cons)); (simp only [sizeLine_eq]; omega)) | ((with_reducible apply sub_ii)) | ((with_reducible apply add_ii)) | ((with_reducible apply pow_20)) | ((with_reducible apply pow_30)) | ((with_reducible apply pow_40)) | (first | (with_reducible exact eqD_ss) | (with_reducible exact eqD_ii) | (with_reducible exact eqD_bb) | ((with_reducible apply eqD_oe); (first | rfl | assumption)) | ((with_reducible apply eqD_le); (first | rfl | assumption)) | ((with_reducible apply eqD_te); (first | rfl | assumption))) | ((with_reducible apply mul_t); (omega); (omega)) | ((with_reducible apply mod_ii); (first | (with_reducible assumption) | omega | decide)) | ((with_reducible apply div_b); (first | (with_reducible assumption) | omega | decide); (first | (with_reducible assumption) | omega | decide)) | ((with_reducible apply mul_b); (omega); (omega); (omega); (omega)) | (exact ix_tup rfl (by first | rfl | assumption)) | rfl)) | ((with_reducible apply i_asg)) | ((with_reducible apply i_gname); (repeat (first | exact Put.z | apply Put.s))) | ((with_reducible apply i_not)) | ((with_reducible apply i_and)) | ((with_reducible apply i_or)) | ((with_reducible apply i_andV)) | ((with_reducible apply i_orV)) | ((with_reducible apply i_notV)) | ((with_reducible apply i_xif)) | ((with_reducible apply i_chain)) | ((with_reducible apply i_ints)) | ((with_reducible apply i_int)) | ((with_reducible apply i_call0)) | ((with_reducible apply i_call1)) | ((with_reducible apply i_lend); (repeat (first | exact At.z | apply At.s)); (repeat (first | exact Put.z | apply Put.s))) | ((with_reducible apply i_out0)) | ((with_reducible apply i_out1); (repeat (first | exact Put.z | apply Put.s))) | ((with_reducible apply i_tup)) | ((with_reducible apply i_lst)) | ((with_reducible apply i_frz)) | ((with_reducible apply i_le); (simp only [List.length_cons, List.length_nil, List.length_append, List.length_map, sizeLine_eq]; omega)) | ((with_reducible apply i_lt); (simp only [List.length_cons, List.length_nil, List.length_append, List.length_map, sizeLine_eq]; omega)) | ((with_reducible apply i_sh); (repeat (first | (with_reducible assumption) | rfl | apply sh_app | apply sh_cons))) | ((with_reducible apply i_frzO); (repeat (first | (with_reducible assumption) | rfl | apply sh_app | apply sh_cons))) | ((with_reducible apply i_do)) | ((with_reducible apply i_par)) | ((with_reducible apply i_puts); (repeat (first | exact Puts.n | exact Put.z | apply Put.s | apply Puts.c))) | ((with_reducible apply i_ixS); (repeat (first | exact At.z | apply At.s))) | ((with_reducible apply i_at); (repeat (first | exact At.z | apply At.s))) | ((with_reducible apply i_atO); (repeat (first | exact At.z | apply At.s))) | ((with_reducible apply i_put); (repeat (first | exact Put.z | apply Put.s))) | ((with_reducible apply i_lenS); (repeat (first | exact At.z | apply At.s)); (rfl)) | ((with_reducible apply i_leq); (rfl)) | ((with_reducible apply i_eqS); (repeat (first | exact At.z | apply At.s))) | ((with_reducible apply i_neS); (repeat (first | exact At.z | apply At.s))) | ((with_reducible apply i_app); (repeat (first | exact At.z | apply At.s))) | ((with_reducible apply i_sl)) | ((with_reducible apply i_oN)) | ((with_reducible apply i_oS)) | ((with_reducible apply i_setS); (repeat (first | exact At.z | apply At.s))) | ((with_reducible apply i_set); (rfl); (repeat (first | exact LSet.z | apply LSet.s)); (repeat (first | exact Put.z | apply Put.s))) | ((with_reducible apply i_iseq)) | ((with_reducible apply i_rng1)) | ((with_reducible apply i_range); (omega); (omega)) | ((with_reducible apply i_ienum)) | ((with_reducible apply i_for)) | ((with_reducible apply i_lc)) | ((with_reducible apply i_yes)) | ((with_reducible apply i_gcons)) | ((with_reducible apply i_gnil)) | ((with_reducible apply i_gtup); (rfl)) | ((with_reducible apply i_tupA)) | ((with_reducible apply i_retN)) | ((with_reducible apply i_brk)) | ((with_reducible apply i_cont)) | ((with_reducible apply i_mv); (repeat (first | exact At.z | apply At.s)); (repeat (first | exact Put.z | apply Put.s))) | ((with_reducible apply i_neP); (repeat (first | exact At.z | apply At.s)); (rfl); (first | exact eqD_oe (by first | assumption | rfl))) | ((with_reducible apply i_popP); (repeat (first | exact At.z | apply At.s)); (rfl); (rfl); (rfl); ((first | rfl | assumption)); (repeat (first | exact LSet.z | apply LSet.s)); (repeat (first | exact Put.z | apply Put.s)))))
  refine ⟨fun k acc ρ => ∃ c, Cup (m + 10 * k) c ∧ nices acc = true ∧ acc.length = k ∧ ρ = [a, some c, b2, some (.tup rs), s4, s5, s6, s7, s8, s9, none], ⟨c, hc, by simp only [nices], rfl, rfl⟩, ?_, ?_⟩
  · rintro k z acc _ hz ⟨c, hc, ha, hl, rfl⟩
    obtain ⟨hk, rfl⟩ := rngD_get hz
    have hk : k < 6 := hk
    (repeat' (first | ((with_reducible apply fe_near); (assumption); (omega); (assumption); (assumption); (assumption); (intro r c hr hc)) | ((with_reducible apply i_seq)) | ((with_reducible apply i_ret)) | ((with_reducible apply i_next)) | ((with_reducible apply i_ifs)) | ((with_reducible apply i_T); (first | rfl | (with_reducible assumption) | exact not_t (by with_reducible assumption) | exact not_f (by with_reducible assumption))) | ((with_reducible apply i_F); (first | rfl | (with_reducible assumption) | exact not_t (by with_reducible assumption) | exact not_f (by with_reducible assumption))) | ((with_reducible apply i_name); (repeat (first | exact At.z | apply At.s)); ((first | rfl | assumption))) | ((with_reducible apply i_C)) | ((with_reducible apply i_bin)) | ((with_reducible apply i_tst)) | ((with_reducible apply i_tru)) | ((with_reducible apply i_fn)) | ((with_reducible apply i_bl)) | ((with_reducible apply i_cons)) | ((with_reducible apply i_nil)) | ((with_reducible apply i_cal)) | ((with_reducible apply i_un)) | ((with_reducible apply i_some); (first | ((with_reducible apply len_t)) | ((with_reducible apply len_l)) | ((with_reducible apply len_o)) | ((with_reducible apply len_f)) | ((with_reducible apply in_f); (rfl); (rfl)) | ((with_reducible apply in_t); (rfl); (rfl)) | ((with_reducible apply eqM); (first | (with_reducible exact eqD_ss) | (with_reducible exact eqD_ii) | (with_reducible exact eqD_bb) | ((with_reducible apply eqD_oe); (first | rfl | assumption)) | ((with_reducible apply eqD_le); (first | rfl | assumption)) | ((with_reducible apply eqD_te); (first | rfl | assumption)))) | ((with_reducible apply list1_seq); (rfl); (first | rfl | assumption)) | ((with_reducible apply tuple1_seq); (rfl); (first | rfl | assumption)) | ((with_reducible apply ix0); (first | rfl | assumption)) | ((with_reducible apply ix1); (first | rfl | assumption)) | ((with_reducible apply ix2); (first | rfl | assumption)) | ((with_reducible apply addLO); (simp only [List.length_cons, List.length_nil, List.length_append, List.length_map, sizeLine_eq]; omega); (repeat (first | (with_reducible assumption) | rfl | apply sh_app | apply sh_cons))) | ((with_reducible apply addL); (simp only [List.length_cons, List.length_nil, List.length_append, List.length_map, sizeLine_eq]; omega)) | ((with_reducible apply addOO); (simp only [List.length_cons, List.length_nil, List.length_append, List.length_map, sizeLine_eq]; omega); (repeat (first | (with_reducible assumption) | rfl | apply sh_app | apply sh_cons)); (repeat (first | (with_reducible assumption) | rfl | apply sh_app | apply sh_cons))) | ((with_reducible apply addOL); (simp only [List.length_cons, List.length_nil, List.length_append, List.length_map, sizeLine_eq]; omega); (repeat (first | (with_reducible assumption) | rfl | apply sh_app | apply sh_cons))) | ((with_reducible apply str_s)) | ((with_reducible apply str_i); (omega); (omega)) | ((with_reducible apply addM2); (repeat (first | (with_reducible assumption) | exact len_nil | exact len_rep | apply len_cut | apply len_app | apply len_cons)); (repeat (first | (with_reducible assumption) | exact len_nil | exact len_rep | apply len_cut | apply len_app | apply len_cons)); (simp only [sizeLine_eq]; omega)) | ((with_reducible apply sub_ii)) | ((with_reducible apply add_ii)) | ((with_reducible apply pow_20)) | ((with_reducible apply pow_30)) | ((with_reducible apply pow_40)) | (first | (with_reducible exact eqD_ss) | (with_reducible exact eqD_ii) | (with_reducible exact eqD_bb) | ((with_reducible apply eqD_oe); (first | rfl | assumption)) | ((with_reducible apply eqD_le); (first | rfl | assumption)) | ((with_reducible apply eqD_te); (first | rfl | assumption))) | ((with_reducible apply mul_t); (omega); (omega)) | ((with_reducible apply mod_ii); (first | (with_reducible assumption) | omega | decide)) | ((with_reducible apply div_b); (first | (with_reducible assumption) | omega | decide); (first | (with_reducible assumption) | omega | decide)) | ((with_reducible apply mul_b); (omega); (omega); (omega); (omega)) | (exact ix_tup rfl (by first | rfl | assumption)) | rfl)) | ((with_reducible apply i_asg)) | ((with_reducible apply i_gname); (repeat (first | exact Put.z | apply Put.s))) | ((with_reducible apply i_not)) | ((with_reducible apply i_and)) | ((with_reducible apply i_or)) | ((with_reducible apply i_andV)) | ((with_reducible apply i_orV)) | ((with_reducible apply i_notV)) | ((with_reducible apply i_xif)) | ((with_reducible apply i_chain)) | ((with_reducible apply i_ints)) | ((with_reducible apply i_int)) | ((with_reducible apply i_call0)) | ((with_reducible apply i_call1)) | ((with_reducible apply i_lend); (repeat (first | exact At.z | apply At.s)); (repeat (first | exact Put.z | apply Put.s))) | ((with_reducible apply i_out0)) | ((with_reducible apply i_out1); (repeat (first | exact Put.z | apply Put.s))) | ((with_reducible apply i_tup)) | ((with_reducible apply i_lst)) | ((with_reducible apply i_frz)) | ((with_reducible apply i_le); (simp only [List.length_cons, List.length_nil, List.length_append, List.length_map, sizeLine_eq]; omega)) | ((with_reducible apply i_lt); (simp only [List.length_cons, List.length_nil, List.length_append, List.length_map, sizeLine_eq]; omega)) | ((with_reducible apply i_sh); (repeat (first | (with_reducible assumption) | rfl | apply sh_app | apply sh_cons))) | ((with_reducible apply i_frzO); (repeat (first | (with_reducible assumption) | rfl | apply sh_app | apply sh_cons))) | ((with_reducible apply i_do)) | ((with_reducible apply i_par)) | ((with_reducible apply i_puts); (repeat (first | exact Puts.n | exact Put.z | apply Put.s | apply Puts.c))) | ((with_reducible apply i_ixS); (repeat (first | exact At.z | apply At.s))) | ((with_reducible apply i_at); (repeat (first | exact At.z | apply At.s))) | ((with_reducible apply i_atO); (repeat (first | exact At.z | apply At.s))) | ((with_reducible apply i_put); (repeat (first | exact Put.z | apply Put.s))) | ((with_reducible apply i_lenS); (repeat (first | exact At.z | apply At.s)); (rfl)) | ((with_reducible apply i_leq); (rfl)) | ((with_reducible apply i_eqS); (repeat (first | exact At.z | apply At.s))) | ((with_reducible apply i_neS); (repeat (first | exact At.z | apply At.s))) | ((with_reducible apply i_app); (repeat (first | exact At.z | apply At.s))) | ((with_reducible apply i_sl)) | ((with_reducible apply i_oN)) | ((with_reducible apply i_oS)) | ((with_reducible apply i_setS); (repeat (first | exact At.z | apply At.s))) | ((with_reducible apply i_set); (rfl); (repeat (first | exact LSet.z | apply LSet.s)); (repeat (first | exact Put.z | apply Put.s))) | ((with_reducible apply i_iseq)) | ((with_reducible apply i_rng1)) | ((with_reducible apply i_range); (omega); (omega)) | ((with_reducible apply i_ienum)) | ((with_reducible apply i_for)) | ((with_reducible apply i_lc)) | ((with_reducible apply i_yes)) | ((with_reducible apply i_gcons)) | ((with_reducible apply i_gnil)) | ((with_reducible apply i_gtup); (rfl)) | ((with_reducible apply i_tupA)) | ((with_reducible apply i_retN)) | ((with_reducible apply i_brk)) | ((with_reducible apply i_cont)) | ((with_reducible apply i_mv); (repeat (first | exact At.z | apply At.s)); (repeat (first | exact Put.z | apply Put.s))) | ((with_reducible apply i_neP); (repeat (first | exact At.z | apply At.s)); (rfl); (first | exact eqD_oe (by first | assumption | rfl))) | ((with_reducible apply i_popP); (repeat (first | exact At.z | apply At.s)); (rfl); (rfl); (rfl); ((first | rfl | assumption)); (repeat (first | exact LSet.z | apply LSet.s)); (repeat (first | exact Put.z | apply Put.s)))))
    exact ⟨c, Cup.le hc (by omega), by simp only [nices_app, ha, nices, hr, Bool.and_self], by rw [List.length_append, hl]; rfl, rfl⟩
  · rintro acc _ ⟨c, hc, ha, hl, rfl⟩
    have hl : acc.length = 6 := by rw [hl, rngD_length]; rfl
    rw [rngD_length] at hc
    exact q acc c ha hl (Cup.le hc (by simp))
end
theorem judge_loop {n b c : Ev → Prop} {r : D → Ev → Prop} {s0 s1 s2 s3 s4 s6 s7 s8 s9 s10 : Option D} {L : List D} (hL : nices L = true) (q : ∀ t6 t7, n [s0, s1, s2, s3, s4, some (.lst L), t6, t7, s8, s9, s10]) :
    (xFor (xiSeq (xName 5)) (xgName 6) (xSeq (xAsg (xCall F_judge [] (xCons (xName 6) xNil)) (xgName 7)) (xIfS (xOr (xNot (xTru (xCall F_same [] (xCons (xCall F_is_straight [] (xCons (xName 6) xNil)) (xCons (xName 7) xNil))))) (xNot (xTru (xCall F_same [] (xCons (xCall F_is_straight [] (xCons (xName 6) xNil)) (xCons (xName 7) xNil)))))) (xRet (xC (.bl false))) xNext))).f ⟨n, r, b, c⟩ [s0, s1, s2, s3, s4, some (.lst L), s6, s7, s8, s9, s10] := by
  have hs := nices_sh hL
  (repeat' (first | ((with_reducible apply i_seq)) | ((with_reducible apply i_ret)) | ((with_reducible apply i_next)) | ((with_reducible apply i_ifs)) | ((with_reducible apply i_T); (first | rfl | (with_reducible assumption) | exact not_t (by with_reducible assumption) | exact not_f (by with_reducible assumption))) | ((with_reducible apply i_F); (first | rfl | (with_reducible assumption) | exact not_t (by with_reducible assumption) | exact not_f (by with_reducible assumption))) | ((with_reducible apply i_name); (repeat (first | exact At.z | apply At.s)); ((first | rfl | assumption))) | ((with_reducible apply i_C)) | ((with_reducible apply i_bin)) | ((with_reducible apply i_tst)) | ((with_reducible apply i_tru)) | ((with_reducible apply i_fn)) | ((with_reducible apply i_bl)) | ((with_reducible apply i_cons)) | ((with_reducible apply i_nil)) | ((with_reducible apply i_cal)) | ((with_reducible apply i_un)) | ((with_reducible apply i_some); (first | ((with_reducible apply len_t)) | ((with_reducible apply len_l)) | ((with_reducible apply len_o)) | ((with_reducible apply len_f)) | ((with_reducible apply in_f); (rfl); (rfl)) | ((with_reducible apply in_t); (rfl); (rfl)) | ((with_reducible apply eqM); (first | (with_reducible exact eqD_ss) | (with_reducible exact eqD_ii) | (with_reducible exact eqD_bb) | ((with_reducible apply eqD_oe); (first | rfl | assumption)) | ((with_reducible apply eqD_le); (first | rfl | assumption)) | ((with_reducible apply eqD_te); (first | rfl | assumption)))) | ((with_reducible apply list1_seq); (rfl); (first | rfl | assumption)) | ((with_reducible apply tuple1_seq); (rfl); (first | rfl | assumption)) | ((with_reducible apply ix0); (first | rfl | assumption)) | ((with_reducible apply ix1); (first | rfl | assumption)) | ((with_reducible apply ix2); (first | rfl | assumption)) | ((with_reducible apply addLO); (simp only [List.length_cons, List.length_nil, List.length_append, List.length_map, sizeLine_eq]; omega); (repeat (first | (with_reducible assumption) | rfl | apply sh_app | apply sh_cons))) | ((with_reducible apply addL); (simp only [List.length_cons, List.length_nil, List.length_append, List.length_map, sizeLine_eq]; omega)) | ((with_reducible apply addOO); (simp only [List.length_cons, List.length_nil, List.length_append, List.length_map, sizeLine_eq]; omega); (repeat (first | (with_reducible assumption) | rfl | apply sh_app | apply sh_cons)); (repeat (first | (with_reducible assumption) | rfl | apply sh_app | apply sh_cons))) | ((with_reducible apply addOL); (simp only [List.length_cons, List.length_nil, List.length_append, List.length_map, sizeLine_eq]; omega); (repeat (first | (with_reducible assumption) | rfl | apply sh_app | apply sh_cons))) | ((with_reducible apply str_s)) | ((with_reducible apply str_i); (omega); (omega)) | ((with_reducible apply addM2); (repeat (first | (with_reducible assumption) | exact len_nil | exact len_rep | apply len_cut | apply len_app | apply len_cons)); (repeat (first | (with_reducible assumption) | exact len_nil | exact len_rep | apply len_cut | apply len_app | apply len_cons)); (simp only [sizeLine_eq]; omega)) | ((with_reducible apply sub_ii)) | ((with_reducible apply add_ii)) | ((with_reducible apply pow_20)) | ((with_reducible apply pow_30)) | ((with_reducible apply pow_40)) | (first | (with_reducible exact eqD_ss) | (with_reducible exact eqD_ii) | (with_reducible exact eqD_bb) | ((with_reducible apply eqD_oe); (first | rfl | assumption)) | ((with_reducible apply eqD_le); (first | rfl | assumption)) | ((with_reducible apply eqD_te); (first | rfl | assumption))) | ((with_reducible apply mul_t); (omega); (omega)) | ((with_reducible apply mod_ii); (first | (with_reducible assumption) | omega | decide)) | ((with_reducible apply div_b); (first | (with_reducible assumption) | omega | decide); (first | (with_reducible assumption) | omega | decide)) | ((with_reducible apply mul_b); (omega); (omega); (omega); (omega)) | (exact ix_tup rfl (by first | rfl | assumption)) | rfl)) | ((with_reducible apply i_asg)) | ((with_reducible apply i_gname); (repeat (first | exact Put.z | apply Put.s))) | ((with_reducible apply i_not)) | ((with_reducible apply i_and)) | ((with_reducible apply i_or)) | ((with_reducible apply i_andV)) | ((with_reducible apply i_orV)) | ((with_reducible apply i_notV)) | ((with_reducible apply i_xif)) | ((with_reducible apply i_chain)) | ((with_reducible apply i_ints)) | ((with_reducible apply i_int)) | ((with_reducible apply i_call0)) | ((with_reducible apply i_call1)) | ((with_reducible apply i_lend); (repeat (first | exact At.z | apply At.s)); (repeat (first | exact Put.z | apply Put.s))) | ((with_reducible apply i_out0)) | ((with_reducible apply i_out1); (repeat (first | exact Put.z | apply Put.s))) | ((with_reducible apply i_tup)) | ((with_reducible apply i_lst)) | ((with_reducible apply i_frz)) | ((with_reducible apply i_le); (simp only [List.length_cons, List.length_nil, List.length_append, List.length_map, sizeLine_eq]; omega)) | ((with_reducible apply i_lt); (simp only [List.length_cons, List.length_nil, List.length_append, List.length_map, sizeLine_eq]; omega)) | ((with_reducible apply i_sh); (repeat (first | (with_reducible assumption) | rfl | apply sh_app | apply sh_cons))) | ((with_reducible apply i_frzO); (repeat (first | (with_reducible assumption) | rfl | apply sh_app | apply sh_cons))) | ((with_reducible apply i_do)) | ((with_reducible apply i_par)) | ((with_reducible apply i_puts); (repeat (first | exact Puts.n | exact Put.z | apply Put.s | apply Puts.c))) | ((with_reducible apply i_ixS); (repeat (first | exact At.z | apply At.s))) | ((with_reducible apply i_at); (repeat (first | exact At.z | apply At.s))) | ((with_reducible apply i_atO); (repeat (first | exact At.z | apply At.s))) | ((with_reducible apply i_put); (repeat (first | exact Put.z | apply Put.s))) | ((with_reducible apply i_lenS); (repeat (first | exact At.z | apply At.s)); (rfl)) | ((with_reducible apply i_leq); (rfl)) | ((with_reducible apply i_eqS); (repeat (first | exact At.z | apply At.s))) | ((with_reducible apply i_neS); (repeat (first | exact At.z | apply At.s))) | ((with_reducible apply i_app); (repeat (first | exact At.z | apply At.s))) | ((with_reducible apply i_sl)) | ((with_reducible apply i_oN)) | ((with_reducible apply i_oS)) | ((with_reducible apply i_setS); (repeat (first | exact At.z | apply At.s))) | ((with_reducible apply i_set); (rfl); (repeat (first | exact LSet.z | apply LSet.s)); (repeat (first | exact Put.z | apply Put.s))) | ((with_reducible apply i_iseq)) | ((with_reducible apply i_rng1)) | ((with_reducible apply i_range); (omega); (omega)) | ((with_reducible apply i_ienum)) | ((with_reducible apply i_for)) | ((with_reducible apply i_lc)) | ((with_reducible apply i_yes)) | ((with_reducible apply i_gcons)) | ((with_reducible apply i_gnil)) | ((with_reducible apply i_gtup); (rfl)) | ((with_reducible apply i_tupA)) | ((with_reducible apply i_retN)) | ((with_reducible apply i_brk)) | ((with_reducible apply i_cont)) | ((with_reducible apply i_mv); (repeat (first | exact At.z | apply At.s)); (repeat (first | exact Put.z | apply Put.s))) | ((with_reducible apply i_neP); (repeat (first | exact At.z | apply At.s)); (rfl); (first | exact eqD_oe (by first | assumption | rfl))) | ((with_reducible apply i_popP); (repeat (first | exact At.z | apply At.s)); (rfl); (rfl); (rfl); ((first | rfl | assumption)); (repeat (first | exact LSet.z | apply LSet.s)); (repeat (first | exact Put.z | apply Put.s)))))
  refine ⟨fun _ ρ => ∃ t6 t7, ρ = [s0, s1, s2, s3, s4, some (.lst L), t6, t7, s8, s9, s10], ⟨_, _, rfl⟩, ?_, ?_⟩
  · rintro k z _ hz ⟨t6, t7, rfl⟩
    have hn := nices_get hL hz
    have hzs := nice_sh hn
    (repeat' (first | ((with_reducible apply fe_judge); (assumption)) | ((with_reducible apply fe_is_straight); (assumption)) | ((with_reducible apply fe_same)) | ((with_reducible apply i_F); (exact not_f (beq_self_eq_true _))) | ((with_reducible apply i_seq)) | ((with_reducible apply i_ret)) | ((with_reducible apply i_next)) | ((with_reducible apply i_ifs)) | ((with_reducible apply i_T); (first | rfl | (with_reducible assumption) | exact not_t (by with_reducible assumption) | exact not_f (by with_reducible assumption))) | ((with_reducible apply i_F); (first | rfl | (with_reducible assumption) | exact not_t (by with_reducible assumption) | exact not_f (by with_reducible assumption))) | ((with_reducible apply i_name); (repeat (first | exact At.z | apply At.s)); ((first | rfl | assumption))) | ((with_reducible apply i_C)) | ((with_reducible apply i_bin)) | ((with_reducible apply i_tst)) | ((with_reducible apply i_tru)) | ((with_reducible apply i_fn)) | ((with_reducible apply i_bl)) | ((with_reducible apply i_cons)) | ((with_reducible apply i_nil)) | ((with_reducible apply i_cal)) | ((with_reducible apply i_un)) | ((with_reducible apply i_some); (first | ((with_reducible apply len_t)) | ((with_reducible apply len_l)) | ((with_reducible apply len_o)) | ((with_reducible apply len_f)) | ((with_reducible apply in_f); (rfl); (rfl)) | ((with_reducible apply in_t); (rfl); (rfl)) | ((with_reducible apply eqM); (first | (with_reducible exact eqD_ss) | (with_reducible exact eqD_ii) | (with_reducible exact eqD_bb) | ((with_reducible apply eqD_oe); (first | rfl | assumption)) | ((with_reducible apply eqD_le); (first | rfl | assumption)) | ((with_reducible apply eqD_te); (first | rfl | assumption)))) | ((with_reducible apply list1_seq); (rfl); (first | rfl | assumption)) | ((with_reducible apply tuple1_seq); (rfl); (first | rfl | assumption)) | ((with_reducible apply ix0); (first | rfl | assumption)) | ((with_reducible apply ix1); (first | rfl | assumption)) | ((with_reducible apply ix2); (first | rfl | assumption)) | ((with_reducible apply addLO); (simp only [List.length_cons, List.length_nil, List.length_append, List.length_map, sizeLine_eq]; omega); (repeat (first | (with_reducible assumption) | rfl | apply sh_app | apply sh_cons))) | ((with_reducible apply addL); (simp only [List.length_cons, List.length_nil, List.length_append, List.length_map, sizeLine_eq]; omega)) | ((with_reducible apply addOO); (simp only [List.length_cons, List.length_nil, List.length_append, List.length_map, sizeLine_eq]; omega); (repeat (first | (with_reducible assumption) | rfl | apply sh_app | apply sh_cons)); (repeat (first | (with_reducible assumption) | rfl | apply sh_app | apply sh_cons))) | ((with_reducible apply addOL); (simp only [List.length_cons, List.length_nil, List.length_append, List.length_map, sizeLine_eq]; omega); (repeat (first | (with_reducible assumption) | rfl | apply sh_app | apply sh_cons))) | ((with_reducible apply str_s)) | ((with_reducible apply str_i); (omega); (omega)) | ((with_reducible apply addM2); (repeat (first | (with_reducible assumption) | exact len_nil | exact len_rep | apply len_cut | apply len_app | apply len_cons)); (repeat (first | (with_reducible assumption) | exact len_nil | exact len_rep | apply len_cut | apply len_app | apply len_cons)); (simp only [sizeLine_eq]; omega)) | ((with_reducible apply sub_ii)) | ((with_reducible apply add_ii)) | ((with_reducible apply pow_20)) | ((with_reducible apply pow_30)) | ((with_reducible apply pow_40)) | (first | (with_reducible exact eqD_ss) | (with_reducible exact eqD_ii) | (with_reducible exact eqD_bb) | ((with_reducible apply eqD_oe); (first | rfl | assumption)) | ((with_reducible apply eqD_le); (first | rfl | assumption)) | ((with_reducible apply eqD_te); (first | rfl | assumption))) | ((with_reducible apply mul_t); (omega); (omega)) | ((with_reducible apply mod_ii); (first | (with_reducible assumption) | omega | decide)) | ((with_reducible apply div_b); (first | (with_reducible assumption) | omega | decide); (first | (with_reducible assumption) | omega | decide)) | ((with_reducible apply mul_b); (omega); (omega); (omega); (omega)) | (exact ix_tup rfl (by first | rfl | assumption)) | rfl)) | ((with_reducible apply i_asg)) | ((with_reducible apply i_gname); (repeat (first | exact Put.z | apply Put.s))) | ((with_reducible apply i_not)) | ((with_reducible apply i_and)) | ((with_reducible apply i_or)) | ((with_reducible apply i_andV)) | ((with_reducible apply i_orV)) | ((with_reducible apply i_notV)) | ((with_reducible apply i_xif)) | ((with_reducible apply i_chain)) | ((with_reducible apply i_ints)) | ((with_reducible apply i_int)) | ((with_reducible apply i_call0)) | ((with_reducible apply i_call1)) | ((with_reducible apply i_lend); (repeat (first | exact At.z | apply At.s)); (repeat (first | exact Put.z | apply Put.s))) | ((with_reducible apply i_out0)) | ((with_reducible apply i_out1); (repeat (first | exact Put.z | apply Put.s))) | ((with_reducible apply i_tup)) | ((with_reducible apply i_lst)) | ((with_reducible apply i_frz)) | ((with_reducible apply i_le); (simp only [List.length_cons, List.length_nil, List.length_append, List.length_map, sizeLine_eq]; omega)) | ((with_reducible apply i_lt); (simp only [List.length_cons, List.length_nil, List.length_append, List.length_map, sizeLine_eq]; omega)) | ((with_reducible apply i_sh); (repeat (first | (with_reducible assumption) | rfl | apply sh_app | apply sh_cons))) | ((with_reducible apply i_frzO); (repeat (first | (with_reducible assumption) | rfl | apply sh_app | apply sh_cons))) | ((with_reducible apply i_do)) | ((with_reducible apply i_par)) | ((with_reducible apply i_puts); (repeat (first | exact Puts.n | exact Put.z | apply Put.s | apply Puts.c))) | ((with_reducible apply i_ixS); (repeat (first | exact At.z | apply At.s))) | ((with_reducible apply i_at); (repeat (first | exact At.z | apply At.s))) | ((with_reducible apply i_atO); (repeat (first | exact At.z | apply At.s))) | ((with_reducible apply i_put); (repeat (first | exact Put.z | apply Put.s))) | ((with_reducible apply i_lenS); (repeat (first | exact At.z | apply At.s)); (rfl)) | ((with_reducible apply i_leq); (rfl)) | ((with_reducible apply i_eqS); (repeat (first | exact At.z | apply At.s))) | ((with_reducible apply i_neS); (repeat (first | exact At.z | apply At.s))) | ((with_reducible apply i_app); (repeat (first | exact At.z | apply At.s))) | ((with_reducible apply i_sl)) | ((with_reducible apply i_oN)) | ((with_reducible apply i_oS)) | ((with_reducible apply i_setS); (repeat (first | exact At.z | apply At.s))) | ((with_reducible apply i_set); (rfl); (repeat (first | exact LSet.z | apply LSet.s)); (repeat (first | exact Put.z | apply Put.s))) | ((with_reducible apply i_iseq)) | ((with_reducible apply i_rng1)) | ((with_reducible apply i_range); (omega); (omega)) | ((with_reducible apply i_ienum)) | ((with_reducible apply i_for)) | ((with_reducible apply i_lc)) | ((with_reducible apply i_yes)) | ((with_reducible apply i_gcons)) | ((with_reducible apply i_gnil)) | ((with_reducible apply i_gtup); (rfl)) | ((with_reducible apply i_tupA)) | ((with_reducible apply i_retN)) | ((with_reducible apply i_brk)) | ((with_reducible apply i_cont)) | ((with_reducible apply i_mv); (repeat (first | exact At.z | apply At.s)); (repeat (first | exact Put.z | apply Put.s))) | ((with_reducible apply i_neP); (repeat (first | exact At.z | apply At.s)); (rfl); (first | exact eqD_oe (by first | assumption | rfl))) | ((with_reducible apply i_popP); (repeat (first | exact At.z | apply At.s)); (rfl); (rfl); (rfl); ((first | rfl | assumption)); (repeat (first | exact LSet.z | apply LSet.s)); (repeat (first | exact Put.z | apply Put.s)))))
    exact ⟨_, _, rfl⟩
  · rintro _ ⟨t6, t7, rfl⟩
    exact q _ _
def L3 : D := .tup [.str (Str.ofString "letter"), .int 3]
theorem rulesF_rep {z : D} (h : ∀ k, 1 ≤ k → ruleF k z = true) : ∀ (n k : Nat), 1 ≤ k → rulesF k (List.replicate n [z]).flatten = true
  | 0, _, _ => rfl
  | n + 1, k, hk => by
    rw [List.replicate_succ, List.flatten_cons]
    show (ruleF k z && rulesF (k + 1) (List.replicate n [z]).flatten) = true
    rw [h k hk, rulesF_rep h n (k + 1) (by omega)]
    rfl
theorem nices_rep {z : D} (h : nice z = true) (n : Nat) : nices (List.replicate n [z]).flatten = true := nices_of fun y hy => by
  obtain ⟨l, h1, h2⟩ := List.mem_flatten.mp hy
  rw [List.eq_of_mem_replicate h1] at h2
  rw [List.mem_singleton.mp h2]
  exact h
theorem strF_many {z : D} (h : ∀ k, 1 ≤ k → ruleF k z = true) (n : Nat) : strF (.tup ([.tup [.str (Str.ofString "letter"), .int 3]] ++ (List.replicate n [z]).flatten)) = decide (n ≤ 3999) := by
  have e : rulesF 0 ([.tup [.str (Str.ofString "letter"), .int 3]] ++ (List.replicate n [z]).flatten) = true := by
    show (ruleF 0 (.tup [.str (Str.ofString "letter"), .int 3]) && rulesF 1 (List.replicate n [z]).flatten) = true
    rw [rulesF_rep h n 1 (Nat.le_refl 1), show ruleF 0 (.tup [.str (Str.ofString "letter"), .int 3]) = true by simp [ruleF, ruleL, isS, letF]]
    rfl
  show (decide (1 ≤ _) && decide (_ ≤ 4000) && rulesF 0 _) = _
  rw [e, List.length_append, len_repE, List.length_singleton, Bool.and_true, decide_eq_true (by omega), Bool.true_and]
  exact decide_eq_decide.mpr (by omega)
theorem four_ok {z : D} (hz : z ∈ [D.tup [D.str (Str.ofString "none")], D.tup [D.str (Str.ofString "letter"), D.int (-7)], D.tup [D.str (Str.ofString "pair"), D.int 0, D.int 0], D.tup [D.str (Str.ofString "power"), D.int 0, D.int 2]]) (k : Nat) (hk : 1 ≤ k) : ruleF k z = true := by
  simp only [List.mem_cons, List.not_mem_nil, or_false] at hz
  rcases hz with rfl | rfl | rfl | rfl <;> simp [ruleF, ruleL, isS, letF, withinF, bigF] <;> omega
theorem last_loop {n b c : Ev → Prop} {r : D → Ev → Prop} {s0 s1 s2 s3 s4 s5 s6 s7 s9 s10 : Option D} {z : D} (h : ∀ k, 1 ≤ k → ruleF k z = true) (hn : nice z = true) (q : ∀ t9, n [s0, s1, s2, s3, s4, s5, s6, s7, some z, t9, s10]) :
    (xFor (xiSeq (xTup (xCons (xC (.int 3999)) (xCons (xC (.int 4000)) xNil)))) (xgName 9) (xIfS (xNot (xTru (xCall F_same [] (xCons (xCall F_is_straight [] (xCons (xBin addD (xTup (xCons (xTup (xCons (xC (.str "letter")) (xCons (xC (.int 3)) xNil))) xNil)) (xBin mulD (xTup (xCons (xName 8) xNil)) (xName 9))) xNil)) (xCons (xBin (fun d e => (eqD d e).map D.bl) (xName 9) (xC (.int 3999))) xNil))))) (xRet (xC (.bl false))) xNext)).f ⟨n, r, b, c⟩ [s0, s1, s2, s3, s4, s5, s6, s7, some z, s9, s10] := by
  have hs := nice_sh hn
  (repeat' (first | ((with_reducible apply i_seq)) | ((with_reducible apply i_ret)) | ((with_reducible apply i_next)) | ((with_reducible apply i_ifs)) | ((with_reducible apply i_T); (first | rfl | (with_reducible assumption) | exact not_t (by with_reducible assumption) | exact not_f (by with_reducible assumption))) | ((with_reducible apply i_F); (first | rfl | (with_reducible assumption) | exact not_t (by with_reducible assumption) | exact not_f (by with_reducible assumption))) | ((with_reducible apply i_name); (repeat (first | exact At.z | apply At.s)); ((first | rfl | assumption))) | ((with_reducible apply i_C)) | ((with_reducible apply i_bin)) | ((with_reducible apply i_tst)) | ((with_reducible apply i_tru)) | ((with_reducible apply i_fn)) | ((with_reducible apply i_bl)) | ((with_reducible apply i_cons)) | ((with_reducible apply i_nil)) | ((with_reducible apply i_cal)) | ((with_reducible apply i_un)) | ((with_reducible apply i_some); (first | ((with_reducible apply len_t)) | ((with_reducible apply len_l)) | ((with_reducible apply len_o)) | ((with_reducible apply len_f)) | ((with_reducible apply in_f); (rfl); (rfl)) | ((with_reducible apply in_t); (rfl); (rfl)) | ((with_reducible apply eqM); (first | (with_reducible exact eqD_ss) | (with_reducible exact eqD_ii) | (with_reducible exact eqD_bb) | ((with_reducible apply eqD_oe); (first | rfl | assumption)) | ((with_reducible apply eqD_le); (first | rfl | assumption)) | ((with_reducible apply eqD_te); (first | rfl | assumption)))) | ((with_reducible apply list1_seq); (rfl); (first | rfl | assumption)) | ((with_reducible apply tuple1_seq); (rfl); (first | rfl | assumption)) | ((with_reducible apply ix0); (first | rfl | assumption)) | ((with_reducible apply ix1); (first | rfl | assumption)) | ((with_reducible apply ix2); (first | rfl | assumption)) | ((with_reducible apply addLO); (simp only [List.length_cons, List.length_nil, List.length_append, List.length_map, sizeLine_eq]; omega); (repeat (first | (with_reducible assumption) | rfl | apply sh_app | apply sh_cons))) | ((with_reducible apply addL); (simp only [List.length_cons, List.length_nil, List.length_append, List.length_map, sizeLine_eq]; omega)) | ((with_reducible apply addOO); (simp only [List.length_cons, List.length_nil, List.length_append, List.length_map, sizeLine_eq]; omega); (repeat (first | (with_reducible assumption) | rfl | apply sh_app | apply sh_cons)); (repeat (first | (with_reducible assumption) | rfl | apply sh_app | apply sh_cons))) | ((with_reducible apply addOL); (simp only [List.length_cons, List.length_nil, List.length_append, List.length_map, sizeLine_eq]; omega); (repeat (first | (with_reducible assumption) | rfl | apply sh_app | apply sh_cons))) | ((with_reducible apply str_s)) | ((with_reducible apply str_i); (omega); (omega)) | ((with_reducible apply addM2); (repeat (first | (with_reducible assumption) | exact len_nil | exact len_rep | apply len_cut | apply len_app | apply len_cons)); (repeat (first | (with_reducible assumption) | exact len_nil | exact len_rep | apply len_cut | apply len_app | apply len_cons)); (simp only [sizeLine_eq]; omega)) | ((with_reducible apply sub_ii)) | ((with_reducible apply add_ii)) | ((with_reducible apply pow_20)) | ((with_reducible apply pow_30)) | ((with_reducible apply pow_40)) | (first | (with_reducible exact eqD_ss) | (with_reducible exact eqD_ii) | (with_reducible exact eqD_bb) | ((with_reducible apply eqD_oe); (first | rfl | assumption)) | ((with_reducible apply eqD_le); (first | rfl | assumption)) | ((with_reducible apply eqD_te); (first | rfl | assumption))) | ((with_reducible apply mul_t); (omega); (omega)) | ((with_reducible apply mod_ii); (first | (with_reducible assumption) | omega | decide)) | ((with_reducible apply div_b); (first | (with_reducible assumption) | omega | decide); (first | (with_reducible assumption) | omega | decide)) | ((with_reducible apply mul_b); (omega); (omega); (omega); (omega)) | (exact ix_tup rfl (by first | rfl | assumption)) | rfl)) | ((with_reducible apply i_asg)) | ((with_reducible apply i_gname); (repeat (first | exact Put.z | apply Put.s))) | ((with_reducible apply i_not)) | ((with_reducible apply i_and)) | ((with_reducible apply i_or)) | ((with_reducible apply i_andV)) | ((with_reducible apply i_orV)) | ((with_reducible apply i_notV)) | ((with_reducible apply i_xif)) | ((with_reducible apply i_chain)) | ((with_reducible apply i_ints)) | ((with_reducible apply i_int)) | ((with_reducible apply i_call0)) | ((with_reducible apply i_call1)) | ((with_reducible apply i_lend); (repeat (first | exact At.z | apply At.s)); (repeat (first | exact Put.z | apply Put.s))) | ((with_reducible apply i_out0)) | ((with_reducible apply i_out1); (repeat (first | exact Put.z | apply Put.s))) | ((with_reducible apply i_tup)) | ((with_reducible apply i_lst)) | ((with_reducible apply i_frz)) | ((with_reducible apply i_le); (simp only [List.length_cons, List.length_nil, List.length_append, List.length_map, sizeLine_eq]; omega)) | ((with_reducible apply i_lt); (simp only [List.length_cons, List.length_nil, List.length_append, List.length_map, sizeLine_eq]; omega)) | ((with_reducible apply i_sh); (repeat (first | (with_reducible assumption) | rfl | apply sh_app | apply sh_cons))) | ((with_reducible apply i_frzO); (repeat (first | (with_reducible assumption) | rfl | apply sh_app | apply sh_cons))) | ((with_reducible apply i_do)) | ((with_reducible apply i_par)) | ((with_reducible apply i_puts); (repeat (first | exact Puts.n | exact Put.z | apply Put.s | apply Puts.c))) | ((with_reducible apply i_ixS); (repeat (first | exact At.z | apply At.s))) | ((with_reducible apply i_at); (repeat (first | exact At.z | apply At.s))) | ((with_reducible apply i_atO); (repeat (first | exact At.z | apply At.s))) | ((with_reducible apply i_put); (repeat (first | exact Put.z | apply Put.s))) | ((with_reducible apply i_lenS); (repeat (first | exact At.z | apply At.s)); (rfl)) | ((with_reducible apply i_leq); (rfl)) | ((with_reducible apply i_eqS); (repeat (first | exact At.z | apply At.s))) | ((with_reducible apply i_neS); (repeat (first | exact At.z | apply At.s))) | ((with_reducible apply i_app); (repeat (first | exact At.z | apply At.s))) | ((with_reducible apply i_sl)) | ((with_reducible apply i_oN)) | ((with_reducible apply i_oS)) | ((with_reducible apply i_setS); (repeat (first | exact At.z | apply At.s))) | ((with_reducible apply i_set); (rfl); (repeat (first | exact LSet.z | apply LSet.s)); (repeat (first | exact Put.z | apply Put.s))) | ((with_reducible apply i_iseq)) | ((with_reducible apply i_rng1)) | ((with_reducible apply i_range); (omega); (omega)) | ((with_reducible apply i_ienum)) | ((with_reducible apply i_for)) | ((with_reducible apply i_lc)) | ((with_reducible apply i_yes)) | ((with_reducible apply i_gcons)) | ((with_reducible apply i_gnil)) | ((with_reducible apply i_gtup); (rfl)) | ((with_reducible apply i_tupA)) | ((with_reducible apply i_retN)) | ((with_reducible apply i_brk)) | ((with_reducible apply i_cont)) | ((with_reducible apply i_mv); (repeat (first | exact At.z | apply At.s)); (repeat (first | exact Put.z | apply Put.s))) | ((with_reducible apply i_neP); (repeat (first | exact At.z | apply At.s)); (rfl); (first | exact eqD_oe (by first | assumption | rfl))) | ((with_reducible apply i_popP); (repeat (first | exact At.z | apply At.s)); (rfl); (rfl); (rfl); ((first | rfl | assumption)); (repeat (first | exact LSet.z | apply LSet.s)); (repeat (first | exact Put.z | apply Put.s)))))
  refine ⟨fun _ ρ => ∃ t9, ρ = [s0, s1, s2, s3, s4, s5, s6, s7, some z, t9, s10], ⟨_, rfl⟩, ?_, ?_⟩
  · rintro k y _ hz ⟨t9, rfl⟩
    have hy : y = .int 3999 ∨ y = .int 4000 := by
      rcases k with _ | _ | k
      · cases hz; exact .inl rfl
      · cases hz; exact .inr rfl
      · cases hz
    rcases hy with rfl | rfl
    · (repeat' (first | ((with_reducible apply fe_is_straight); ((simp only [nice, nices, nices_app, strOk_of, Bool.and_self, Bool.and_true, nices_rep hn]))) | ((with_reducible apply i_seq)) | ((with_reducible apply i_ret)) | ((with_reducible apply i_next)) | ((with_reducible apply i_ifs)) | ((with_reducible apply i_T); (first | rfl | (with_reducible assumption) | exact not_t (by with_reducible assumption) | exact not_f (by with_reducible assumption))) | ((with_reducible apply i_F); (first | rfl | (with_reducible assumption) | exact not_t (by with_reducible assumption) | exact not_f (by with_reducible assumption))) | ((with_reducible apply i_name); (repeat (first | exact At.z | apply At.s)); ((first | rfl | assumption))) | ((with_reducible apply i_C)) | ((with_reducible apply i_bin)) | ((with_reducible apply i_tst)) | ((with_reducible apply i_tru)) | ((with_reducible apply i_fn)) | ((with_reducible apply i_bl)) | ((with_reducible apply i_cons)) | ((with_reducible apply i_nil)) | ((with_reducible apply i_cal)) | ((with_reducible apply i_un)) | ((with_reducible apply i_some); (first | ((with_reducible apply len_t)) | ((with_reducible apply len_l)) | ((with_reducible apply len_o)) | ((with_reducible apply len_f)) | ((with_reducible apply in_f); (rfl); (rfl)) | ((with_reducible apply in_t); (rfl); (rfl)) | ((with_reducible apply eqM); (first | (with_reducible exact eqD_ss) | (with_reducible exact eqD_ii) | (with_reducible exact eqD_bb) | ((with_reducible apply eqD_oe); (first | rfl | assumption)) | ((with_reducible apply eqD_le); (first | rfl | assumption)) | ((with_reducible apply eqD_te); (first | rfl | assumption)))) | ((with_reducible apply list1_seq); (rfl); (first | rfl | assumption)) | ((with_reducible apply tuple1_seq); (rfl); (first | rfl | assumption)) | ((with_reducible apply ix0); (first | rfl | assumption)) | ((with_reducible apply ix1); (first | rfl | assumption)) | ((with_reducible apply ix2); (first | rfl | assumption)) | ((with_reducible apply addLO); (simp only [List.length_cons, List.length_nil, List.length_append, List.length_map, sizeLine_eq]; omega); (repeat (first | (with_reducible assumption) | rfl | apply sh_app | apply sh_cons))) | ((with_reducible apply addL); (simp only [List.length_cons, List.length_nil, List.length_append, List.length_map, sizeLine_eq]; omega)) | ((with_reducible apply addOO); (simp only [List.length_cons, List.length_nil, List.length_append, List.length_map, sizeLine_eq]; omega); (repeat (first | (with_reducible assumption) | rfl | apply sh_app | apply sh_cons)); (repeat (first | (with_reducible assumption) | rfl | apply sh_app | apply sh_cons))) | ((with_reducible apply addOL); (simp only [List.length_cons, List.length_nil, List.length_append, List.length_map, sizeLine_eq]; omega); (repeat (first | (with_reducible assumption) | rfl | apply sh_app | apply sh_cons))) | ((with_reducible apply str_s)) | ((with_reducible apply str_i); (omega); (omega)) | ((with_reducible apply addM2); (repeat (first | (with_reducible assumption) | exact len_nil | exact len_rep | apply len_cut | apply len_app | apply len_cons)); (repeat (first | (with_reducible assumption) | exact len_nil | exact len_rep | apply len_cut | apply len_app | apply len_cons)); (simp only [sizeLine_eq]; omega)) | ((with_reducible apply sub_ii)) | ((with_reducible apply add_ii)) | ((with_reducible apply pow_20)) | ((with_reducible apply pow_30)) | ((with_reducible apply pow_40)) | (first | (with_reducible exact eqD_ss) | (with_reducible exact eqD_ii) | (with_reducible exact eqD_bb) | ((with_reducible apply eqD_oe); (first | rfl | assumption)) | ((with_reducible apply eqD_le); (first | rfl | assumption)) | ((with_reducible apply eqD_te); (first | rfl | assumption))) | ((with_reducible apply mul_t); (omega); (omega)) | ((with_reducible apply mod_ii); (first | (with_reducible assumption) | omega | decide)) | ((with_reducible apply div_b); (first | (with_reducible assumption) | omega | decide); (first | (with_reducible assumption) | omega | decide)) | ((with_reducible apply mul_b); (omega); (omega); (omega); (omega)) | (exact ix_tup rfl (by first | rfl | assumption)) | rfl)) | ((with_reducible apply i_asg)) | ((with_reducible apply i_gname); (repeat (first | exact Put.z | apply Put.s))) | ((with_reducible apply i_not)) | ((with_reducible apply i_and)) | ((with_reducible apply i_or)) | ((with_reducible apply i_andV)) | ((with_reducible apply i_orV)) | ((with_reducible apply i_notV)) | ((with_reducible apply i_xif)) | ((with_reducible apply i_chain)) | ((with_reducible apply i_ints)) | ((with_reducible apply i_int)) | ((with_reducible apply i_call0)) | ((with_reducible apply i_call1)) | ((with_reducible apply i_lend); (repeat (first | exact At.z | apply At.s)); (repeat (first | exact Put.z | apply Put.s))) | ((with_reducible apply i_out0)) | ((with_reducible apply i_out1); (repeat (first | exact Put.z | apply Put.s))) | ((with_reducible apply i_tup)) | ((with_reducible apply i_lst)) | ((with_reducible apply i_frz)) | ((with_reducible apply i_le); (simp only [List.length_cons, List.length_nil, List.length_append, List.length_map, sizeLine_eq]; omega)) | ((with_reducible apply i_lt); (simp only [List.length_cons, List.length_nil, List.length_append, List.length_map, sizeLine_eq]; omega)) | ((with_reducible apply i_sh); (repeat (first | (with_reducible assumption) | rfl | apply sh_app | apply sh_cons))) | ((with_reducible apply i_frzO); (repeat (first | (with_reducible assumption) | rfl | apply sh_app | apply sh_cons))) | ((with_reducible apply i_do)) | ((with_reducible apply i_par)) | ((with_reducible apply i_puts); (repeat (first | exact Puts.n | exact Put.z | apply Put.s | apply Puts.c))) | ((with_reducible apply i_ixS); (repeat (first | exact At.z | apply At.s))) | ((with_reducible apply i_at); (repeat (first | exact At.z | apply At.s))) | ((with_reducible apply i_atO); (repeat (first | exact At.z | apply At.s))) | ((with_reducible apply i_put); (repeat (first | exact Put.z | apply Put.s))) | ((with_reducible apply i_lenS); (repeat (first | exact At.z | apply At.s)); (rfl)) | ((with_reducible apply i_leq); (rfl)) | ((with_reducible apply i_eqS); (repeat (first | exact At.z | apply At.s))) | ((with_reducible apply i_neS); (repeat (first | exact At.z | apply At.s))) | ((with_reducible apply i_app); (repeat (first | exact At.z | apply At.s))) | ((with_reducible apply i_sl)) | ((with_reducible apply i_oN)) | ((with_reducible apply i_oS)) | ((with_reducible apply i_setS); (repeat (first | exact At.z | apply At.s))) | ((with_reducible apply i_set); (rfl); (repeat (first | exact LSet.z | apply LSet.s)); (repeat (first | exact Put.z | apply Put.s))) | ((with_reducible apply i_iseq)) | ((with_reducible apply i_rng1)) | ((with_reducible apply i_range); (omega); (omega)) | ((with_reducible apply i_ienum)) | ((with_reducible apply i_for)) | ((with_reducible apply i_lc)) | ((with_reducible apply i_yes)) | ((with_reducible apply i_gcons)) | ((with_reducible apply i_gnil)) | ((with_reducible apply i_gtup); (rfl)) | ((with_reducible apply i_tupA)) | ((with_reducible apply i_retN)) | ((with_reducible apply i_brk)) | ((with_reducible apply i_cont)) | ((with_reducible apply i_mv); (repeat (first | exact At.z | apply At.s)); (repeat (first | exact Put.z | apply Put.s))) | ((with_reducible apply i_neP); (repeat (first | exact At.z | apply At.s)); (rfl); (first | exact eqD_oe (by first | assumption | rfl))) | ((with_reducible apply i_popP); (repeat (first | exact At.z | apply At.s)); (rfl); (rfl); (rfl); ((first | rfl | assumption)); (repeat (first | exact LSet.z | apply LSet.s)); (repeat (first | exact Put.z | apply Put.s)))))
      rw [strF_many h]
      (repeat' (first | ((with_reducible apply fe_same)) | ((with_reducible apply i_seq)) | ((with_reducible apply i_ret)) | ((with_reducible apply i_next)) | ((with_reducible apply i_ifs)) | ((with_reducible apply i_T); (first | rfl | (with_reducible assumption) | exact not_t (by with_reducible assumption) | exact not_f (by with_reducible assumption))) | ((with_reducible apply i_F); (first | rfl | (with_reducible assumption) | exact not_t (by with_reducible assumption) | exact not_f (by with_reducible assumption))) | ((with_reducible apply i_name); (repeat (first | exact At.z | apply At.s)); ((first | rfl | assumption))) | ((with_reducible apply i_C)) | ((with_reducible apply i_bin)) | ((with_reducible apply i_tst)) | ((with_reducible apply i_tru)) | ((with_reducible apply i_fn)) | ((with_reducible apply i_bl)) | ((with_reducible apply i_cons)) | ((with_reducible apply i_nil)) | ((with_reducible apply i_cal)) | ((with_reducible apply i_un)) | ((with_reducible apply i_some); (first | ((with_reducible apply len_t)) | ((with_reducible apply len_l)) | ((with_reducible apply len_o)) | ((with_reducible apply len_f)) | ((with_reducible apply in_f); (rfl); (rfl)) | ((with_reducible apply in_t); (rfl); (rfl)) | ((with_reducible apply eqM); (first | (with_reducible exact eqD_ss) | (with_reducible exact eqD_ii) | (with_reducible exact eqD_bb) | ((with_reducible apply eqD_oe); (first | rfl | assumption)) | ((with_reducible apply eqD_le); (first | rfl | assumption)) | ((with_reducible apply eqD_te); (first | rfl | assumption)))) | ((with_reducible apply list1_seq); (rfl); (first | rfl | assumption)) | ((with_reducible apply tuple1_seq); (rfl); (first | rfl | assumption)) | ((with_reducible apply ix0); (first | rfl | assumption)) | ((with_reducible apply ix1); (first | rfl | assumption)) | ((with_reducible apply ix2); (first | rfl | assumption)) | ((with_reducible apply addLO); (simp only [List.length_cons, List.length_nil, List.length_append, List.length_map, sizeLine_eq]; omega); (repeat (first | (with_reducible assumption) | rfl | apply sh_app | apply sh_cons))) | ((with_reducible apply addL); (simp only [List.length_cons, List.length_nil, List.length_append, List.length_map, sizeLine_eq]; omega)) | ((with_reducible apply addOO); (simp only [List.length_cons, List.length_nil, List.length_append, List.length_map, sizeLine_eq]; omega); (repeat (first | (with_reducible assumption) | rfl | apply sh_app | apply sh_cons)); (repeat (first | (with_reducible assumption) | rfl | apply sh_app | apply sh_cons))) | ((with_reducible apply addOL); (simp only [List.length_cons, List.length_nil, List.length_append, List.length_map, sizeLine_eq]; omega); (repeat (first | (with_reducible assumption) | rfl | apply sh_app | apply sh_cons))) | ((with_reducible apply str_s)) | ((with_reducible apply str_i); (omega); (omega)) | ((with_reducible apply addM2); (repeat (first | (with_reducible assumption) | exact len_nil | exact len_rep | apply len_cut | apply len_app | apply len_cons)); (repeat (first | (with_reducible assumption) | exact len_nil | exact len_rep | apply len_cut | apply len_app | apply len_cons)); (simp only [sizeLine_eq]; omega)) | ((with_reducible apply sub_ii)) | ((with_reducible apply add_ii)) | ((with_reducible apply pow_20)) | ((with_reducible apply pow_30)) | ((with_reducible apply pow_40)) | (first | (with_reducible exact eqD_ss) | (with_reducible exact eqD_ii) | (with_reducible exact eqD_bb) | ((with_reducible apply eqD_oe); (first | rfl | assumption)) | ((with_reducible apply eqD_le); (first | rfl | assumption)) | ((with_reducible apply eqD_te); (first | rfl | assumption))) | ((with_reducible apply mul_t); (omega); (omega)) | ((with_reducible apply mod_ii); (first | (with_reducible assumption) | omega | decide)) | ((with_reducible apply div_b); (first | (with_reducible assumption) | omega | decide); (first | (with_reducible assumption) | omega | decide)) | ((with_reducible apply mul_b); (omega); (omega); (omega); (omega)) | (exact ix_tup rfl (by first | rfl | assumption)) | rfl)) | ((with_reducible apply i_asg)) | ((with_reducible apply i_gname); (repeat (first | exact Put.z | apply Put.s))) | ((with_reducible apply i_not)) | ((with_reducible apply i_and)) | ((with_reducible apply i_or)) | ((with_reducible apply i_andV)) | ((with_reducible apply i_orV)) | ((with_reducible apply i_notV)) | ((with_reducible apply i_xif)) | ((with_reducible apply i_chain)) | ((with_reducible apply i_ints)) | ((with_reducible apply i_int)) | ((with_reducible apply i_call0)) | ((with_reducible apply i_call1)) | ((with_reducible apply i_lend); (repeat (first | exact At.z | apply At.s)); (repeat (first | exact Put.z | apply Put.s))) | ((with_reducible apply i_out0)) | ((with_reducible apply i_out1); (repeat (first | exact Put.z | apply Put.s))) | ((with_reducible apply i_tup)) | ((with_reducible apply i_lst)) | ((with_reducible apply i_frz)) | ((with_reducible apply i_le); (simp only [List.length_cons, List.length_nil, List.length_append, List.length_map, sizeLine_eq]; omega)) | ((with_reducible apply i_lt); (simp only [List.length_cons, List.length_nil, List.length_append, List.length_map, sizeLine_eq]; omega)) | ((with_reducible apply i_sh); (repeat (first | (with_reducible assumption) | rfl | apply sh_app | apply sh_cons))) | ((with_reducible apply i_frzO); (repeat (first | (with_reducible assumption) | rfl | apply sh_app | apply sh_cons))) | ((with_reducible apply i_do)) | ((with_reducible apply i_par)) | ((with_reducible apply i_puts); (repeat (first | exact Puts.n | exact Put.z | apply Put.s | apply Puts.c))) | ((with_reducible apply i_ixS); (repeat (first | exact At.z | apply At.s))) | ((with_reducible apply i_at); (repeat (first | exact At.z | apply At.s))) | ((with_reducible apply i_atO); (repeat (first | exact At.z | apply At.s))) | ((with_reducible apply i_put); (repeat (first | exact Put.z | apply Put.s))) | ((with_reducible apply i_lenS); (repeat (first | exact At.z | apply At.s)); (rfl)) | ((with_reducible apply i_leq); (rfl)) | ((with_reducible apply i_eqS); (repeat (first | exact At.z | apply At.s))) | ((with_reducible apply i_neS); (repeat (first | exact At.z | apply At.s))) | ((with_reducible apply i_app); (repeat (first | exact At.z | apply At.s))) | ((with_reducible apply i_sl)) | ((with_reducible apply i_oN)) | ((with_reducible apply i_oS)) | ((with_reducible apply i_setS); (repeat (first | exact At.z | apply At.s))) | ((with_reducible apply i_set); (rfl); (repeat (first | exact LSet.z | apply LSet.s)); (repeat (first | exact Put.z | apply Put.s))) | ((with_reducible apply i_iseq)) | ((with_reducible apply i_rng1)) | ((with_reducible apply i_range); (omega); (omega)) | ((with_reducible apply i_ienum)) | ((with_reducible apply i_for)) | ((with_reducible apply i_lc)) | ((with_reducible apply i_yes)) | ((with_reducible apply i_gcons)) | ((with_reducible apply i_gnil)) | ((with_reducible apply i_gtup); (rfl)) | ((with_reducible apply i_tupA)) | ((with_reducible apply i_retN)) | ((with_reducible apply i_brk)) | ((with_reducible apply i_cont)) | ((with_reducible apply i_mv); (repeat (first | exact At.z | apply At.s)); (repeat (first | exact Put.z | apply Put.s))) | ((with_reducible apply i_neP); (repeat (first | exact At.z | apply At.s)); (rfl); (first | exact eqD_oe (by first | assumption | rfl))) | ((with_reducible apply i_popP); (repeat (first | exact At.z | apply At.s)); (rfl); (rfl); (rfl); ((first | rfl | assumption)); (repeat (first | exact LSet.z | apply LSet.s)); (repeat (first | exact Put.z | apply Put.s)))))
      exact ⟨_, rfl⟩
    · (repeat' (first | ((with_reducible apply fe_is_straight); ((simp only [nice, nices, nices_app, strOk_of, Bool.and_self, Bool.and_true, nices_rep hn]))) | ((with_reducible apply i_seq)) | ((with_reducible apply i_ret)) | ((with_reducible apply i_next)) | ((with_reducible apply i_ifs)) | ((with_reducible apply i_T); (first | rfl | (with_reducible assumption) | exact not_t (by with_reducible assumption) | exact not_f (by with_reducible assumption))) | ((with_reducible apply i_F); (first | rfl | (with_reducible assumption) | exact not_t (by with_reducible assumption) | exact not_f (by with_reducible assumption))) | ((with_reducible apply i_name); (repeat (first | exact At.z | apply At.s)); ((first | rfl | assumption))) | ((with_reducible apply i_C)) | ((with_reducible apply i_bin)) | ((with_reducible apply i_tst)) | ((with_reducible apply i_tru)) | ((with_reducible apply i_fn)) | ((with_reducible apply i_bl)) | ((with_reducible apply i_cons)) | ((with_reducible apply i_nil)) | ((with_reducible apply i_cal)) | ((with_reducible apply i_un)) | ((with_reducible apply i_some); (first | ((with_reducible apply len_t)) | ((with_reducible apply len_l)) | ((with_reducible apply len_o)) | ((with_reducible apply len_f)) | ((with_reducible apply in_f); (rfl); (rfl)) | ((with_reducible apply in_t); (rfl); (rfl)) | ((with_reducible apply eqM); (first | (with_reducible exact eqD_ss) | (with_reducible exact eqD_ii) | (with_reducible exact eqD_bb) | ((with_reducible apply eqD_oe); (first | rfl | assumption)) | ((with_reducible apply eqD_le); (first | rfl | assumption)) | ((with_reducible apply eqD_te); (first | rfl | assumption)))) | ((with_reducible apply list1_seq); (rfl); (first | rfl | assumption)) | ((with_reducible apply tuple1_seq); (rfl); (first | rfl | assumption)) | ((with_reducible apply ix0); (first | rfl | assumption)) | ((with_reducible apply ix1); (first | rfl | assumption)) | ((with_reducible apply ix2); (first | rfl | assumption)) | ((with_reducible apply addLO); (simp only [List.length_cons, List.length_nil, List.length_append, List.length_map, sizeLine_eq]; omega); (repeat (first | (with_reducible assumption) | rfl | apply sh_app | apply sh_cons))) | ((with_reducible apply addL); (simp only [List.length_cons, List.length_nil, List.length_append, List.length_map, sizeLine_eq]; omega)) | ((with_reducible apply addOO); (simp only [List.length_cons, List.length_nil, List.length_append, List.length_map, sizeLine_eq]; omega); (repeat (first | (with_reducible assumption) | rfl | apply sh_app | apply sh_cons)); (repeat (first | (with_reducible assumption) | rfl | apply sh_app | apply sh_cons))) | ((with_reducible apply addOL); (simp only [List.length_cons, List.length_nil, List.length_append, List.length_map, sizeLine_eq]; omega); (repeat (first | (with_reducible assumption) | rfl | apply sh_app | apply sh_cons))) | ((with_reducible apply str_s)) | ((with_reducible apply str_i); (omega); (omega)) | ((with_reducible apply addM2); (repeat (first | (with_reducible assumption) | exact len_nil | exact len_rep | apply len_cut | apply len_app | apply len_cons)); (repeat (first | (with_reducible assumption) | exact len_nil | exact len_rep | apply len_cut | apply len_app | apply len_cons)); (simp only [sizeLine_eq]; omega)) | ((with_reducible apply sub_ii)) | ((with_reducible apply add_ii)) | ((with_reducible apply pow_20)) | ((with_reducible apply pow_30)) | ((with_reducible apply pow_40)) | (first | (with_reducible exact eqD_ss) | (with_reducible exact eqD_ii) | (with_reducible exact eqD_bb) | ((with_reducible apply eqD_oe); (first | rfl | assumption)) | ((with_reducible apply eqD_le); (first | rfl | assumption)) | ((with_reducible apply eqD_te); (first | rfl | assumption))) | ((with_reducible apply mul_t); (omega); (omega)) | ((with_reducible apply mod_ii); (first | (with_reducible assumption) | omega | decide)) | ((with_reducible apply div_b); (first | (with_reducible assumption) | omega | decide); (first | (with_reducible assumption) | omega | decide)) | ((with_reducible apply mul_b); (omega); (omega); (omega); (omega)) | (exact ix_tup rfl (by first | rfl | assumption)) | rfl)) | ((with_reducible apply i_asg)) | ((with_reducible apply i_gname); (repeat (first | exact Put.z | apply Put.s))) | ((with_reducible apply i_not)) | ((with_reducible apply i_and)) | ((with_reducible apply i_or)) | ((with_reducible apply i_andV)) | ((with_reducible apply i_orV)) | ((with_reducible apply i_notV)) | ((with_reducible apply i_xif)) | ((with_reducible apply i_chain)) | ((with_reducible apply i_ints)) | ((with_reducible apply i_int)) | ((with_reducible apply i_call0)) | ((with_reducible apply i_call1)) | ((with_reducible apply i_lend); (repeat (first | exact At.z | apply At.s)); (repeat (first | exact Put.z | apply Put.s))) | ((with_reducible apply i_out0)) | ((with_reducible apply i_out1); (repeat (first | exact Put.z | apply Put.s))) | ((with_reducible apply i_tup)) | ((with_reducible apply i_lst)) | ((with_reducible apply i_frz)) | ((with_reducible apply i_le); (simp only [List.length_cons, List.length_nil, List.length_append, List.length_map, sizeLine_eq]; omega)) | ((with_reducible apply i_lt); (simp only [List.length_cons, List.length_nil, List.length_append, List.length_map, sizeLine_eq]; omega)) | ((with_reducible apply i_sh); (repeat (first | (with_reducible assumption) | rfl | apply sh_app | apply sh_cons))) | ((with_reducible apply i_frzO); (repeat (first | (with_reducible assumption) | rfl | apply sh_app | apply sh_cons))) | ((with_reducible apply i_do)) | ((with_reducible apply i_par)) | ((with_reducible apply i_puts); (repeat (first | exact Puts.n | exact Put.z | apply Put.s | apply Puts.c))) | ((with_reducible apply i_ixS); (repeat (first | exact At.z | apply At.s))) | ((with_reducible apply i_at); (repeat (first | exact At.z | apply At.s))) | ((with_reducible apply i_atO); (repeat (first | exact At.z | apply At.s))) | ((with_reducible apply i_put); (repeat (first | exact Put.z | apply Put.s))) | ((with_reducible apply i_lenS); (repeat (first | exact At.z | apply At.s)); (rfl)) | ((with_reducible apply i_leq); (rfl)) | ((with_reducible apply i_eqS); (repeat (first | exact At.z | apply At.s))) | ((with_reducible apply i_neS); (repeat (first | exact At.z | apply At.s))) | ((with_reducible apply i_app); (repeat (first | exact At.z | apply At.s))) | ((with_reducible apply i_sl)) | ((with_reducible apply i_oN)) | ((with_reducible apply i_oS)) | ((with_reducible apply i_setS); (repeat (first | exact At.z | apply At.s))) | ((with_reducible apply i_set); (rfl); (repeat (first | exact LSet.z | apply LSet.s)); (repeat (first | exact Put.z | apply Put.s))) | ((with_reducible apply i_iseq)) | ((with_reducible apply i_rng1)) | ((with_reducible apply i_range); (omega); (omega)) | ((with_reducible apply i_ienum)) | ((with_reducible apply i_for)) | ((with_reducible apply i_lc)) | ((with_reducible apply i_yes)) | ((with_reducible apply i_gcons)) | ((with_reducible apply i_gnil)) | ((with_reducible apply i_gtup); (rfl)) | ((with_reducible apply i_tupA)) | ((with_reducible apply i_retN)) | ((with_reducible apply i_brk)) | ((with_reducible apply i_cont)) | ((with_reducible apply i_mv); (repeat (first | exact At.z | apply At.s)); (repeat (first | exact Put.z | apply Put.s))) | ((with_reducible apply i_neP); (repeat (first | exact At.z | apply At.s)); (rfl); (first | exact eqD_oe (by first | assumption | rfl))) | ((with_reducible apply i_popP); (repeat (first | exact At.z | apply At.s)); (rfl); (rfl); (rfl); ((first | rfl | assumption)); (repeat (first | exact LSet.z | apply LSet.s)); (repeat (first | exact Put.z | apply Put.s)))))
      rw [strF_many h]
      (repeat' (first | ((with_reducible apply fe_same)) | ((with_reducible apply i_seq)) | ((with_reducible apply i_ret)) | ((with_reducible apply i_next)) | ((with_reducible apply i_ifs)) | ((with_reducible apply i_T); (first | rfl | (with_reducible assumption) | exact not_t (by with_reducible assumption) | exact not_f (by with_reducible assumption))) | ((with_reducible apply i_F); (first | rfl | (with_reducible assumption) | exact not_t (by with_reducible assumption) | exact not_f (by with_reducible assumption))) | ((with_reducible apply i_name); (repeat (first | exact At.z | apply At.s)); ((first | rfl | assumption))) | ((with_reducible apply i_C)) | ((with_reducible apply i_bin)) | ((with_reducible apply i_tst)) | ((with_reducible apply i_tru)) | ((with_reducible apply i_fn)) | ((with_reducible apply i_bl)) | ((with_reducible apply i_cons)) | ((with_reducible apply i_nil)) | ((with_reducible apply i_cal)) | ((with_reducible apply i_un)) | ((with_reducible apply i_some); (first | ((with_reducible apply len_t)) | ((with_reducible apply len_l)) | ((with_reducible apply len_o)) | ((with_reducible apply len_f)) | ((with_reducible apply in_f); (rfl); (rfl)) | ((with_reducible apply in_t); (rfl); (rfl)) | ((with_reducible apply eqM); (first | (with_reducible exact eqD_ss) | (with_reducible exact eqD_ii) | (with_reducible exact eqD_bb) | ((with_reducible apply eqD_oe); (first | rfl | assumption)) | ((with_reducible apply eqD_le); (first | rfl | assumption)) | ((with_reducible apply eqD_te); (first | rfl | assumption)))) | ((with_reducible apply list1_seq); (rfl); (first | rfl | assumption)) | ((with_reducible apply tuple1_seq); (rfl); (first | rfl | assumption)) | ((with_reducible apply ix0); (first | rfl | assumption)) | ((with_reducible apply ix1); (first | rfl | assumption)) | ((with_reducible apply ix2); (first | rfl | assumption)) | ((with_reducible apply addLO); (simp only [List.length_cons, List.length_nil, List.length_append, List.length_map, sizeLine_eq]; omega); (repeat (first | (with_reducible assumption) | rfl | apply sh_app | apply sh_cons))) | ((with_reducible apply addL); (simp only [List.length_cons, List.length_nil, List.length_append, List.length_map, sizeLine_eq]; omega)) | ((with_reducible apply addOO); (simp only [List.length_cons, List.length_nil, List.length_append, List.length_map, sizeLine_eq]; omega); (repeat (first | (with_reducible assumption) | rfl | apply sh_app | apply sh_cons)); (repeat (first | (with_reducible assumption) | rfl | apply sh_app | apply sh_cons))) | ((with_reducible apply addOL); (simp only [List.length_cons, List.length_nil, List.length_append, List.length_map, sizeLine_eq]; omega); (repeat (first | (with_reducible assumption) | rfl | apply sh_app | apply sh_cons))) | ((with_reducible apply str_s)) | ((with_reducible apply str_i); (omega); (omega)) | ((with_reducible apply addM2); (repeat (first | (with_reducible assumption) | exact len_nil | exact len_rep | apply len_cut | apply len_app | apply len_cons)); (repeat (first | (with_reducible assumption) | exact len_nil | exact len_rep | apply len_cut | apply len_app | apply len_cons)); (simp only [sizeLine_eq]; omega)) | ((with_reducible apply sub_ii)) | ((with_reducible apply add_ii)) | ((with_reducible apply pow_20)) | ((with_reducible apply pow_30)) | ((with_reducible apply pow_40)) | (first | (with_reducible exact eqD_ss) | (with_reducible exact eqD_ii) | (with_reducible exact eqD_bb) | ((with_reducible apply eqD_oe); (first | rfl | assumption)) | ((with_reducible apply eqD_le); (first | rfl | assumption)) | ((with_reducible apply eqD_te); (first | rfl | assumption))) | ((with_reducible apply mul_t); (omega); (omega)) | ((with_reducible apply mod_ii); (first | (with_reducible assumption) | omega | decide)) | ((with_reducible apply div_b); (first | (with_reducible assumption) | omega | decide); (first | (with_reducible assumption) | omega | decide)) | ((with_reducible apply mul_b); (omega); (omega); (omega); (omega)) | (exact ix_tup rfl (by first | rfl | assumption)) | rfl)) | ((with_reducible apply i_asg)) | ((with_reducible apply i_gname); (repeat (first | exact Put.z | apply Put.s))) | ((with_reducible apply i_not)) | ((with_reducible apply i_and)) | ((with_reducible apply i_or)) | ((with_reducible apply i_andV)) | ((with_reducible apply i_orV)) | ((with_reducible apply i_notV)) | ((with_reducible apply i_xif)) | ((with_reducible apply i_chain)) | ((with_reducible apply i_ints)) | ((with_reducible apply i_int)) | ((with_reducible apply i_call0)) | ((with_reducible apply i_call1)) | ((with_reducible apply i_lend); (repeat (first | exact At.z | apply At.s)); (repeat (first | exact Put.z | apply Put.s))) | ((with_reducible apply i_out0)) | ((with_reducible apply i_out1); (repeat (first | exact Put.z | apply Put.s))) | ((with_reducible apply i_tup)) | ((with_reducible apply i_lst)) | ((with_reducible apply i_frz)) | ((with_reducible apply i_le); (simp only [List.length_cons, List.length_nil, List.length_append, List.length_map, sizeLine_eq]; omega)) | ((with_reducible apply i_lt); (simp only [List.length_cons, List.length_nil, List.length_append, List.length_map, sizeLine_eq]; omega)) | ((with_reducible apply i_sh); (repeat (first | (with_reducible assumption) | rfl | apply sh_app | apply sh_cons))) | ((with_reducible apply i_frzO); (repeat (first | (with_reducible assumption) | rfl | apply sh_app | apply sh_cons))) | ((with_reducible apply i_do)) | ((with_reducible apply i_par)) | ((with_reducible apply i_puts); (repeat (first | exact Puts.n | exact Put.z | apply Put.s | apply Puts.c))) | ((with_reducible apply i_ixS); (repeat (first | exact At.z | apply At.s))) | ((with_reducible apply i_at); (repeat (first | exact At.z | apply At.s))) | ((with_reducible apply i_atO); (repeat (first | exact At.z | apply At.s))) | ((with_reducible apply i_put); (repeat (first | exact Put.z | apply Put.s))) | ((with_reducible apply i_lenS); (repeat (first | exact At.z | apply At.s)); (rfl)) | ((with_reducible apply i_leq); (rfl)) | ((with_reducible apply i_eqS); (repeat (first | exact At.z | apply At.s))) | ((with_reducible apply i_neS); (repeat (first | exact At.z | apply At.s))) | ((with_reducible apply i_app); (repeat (first | exact At.z | apply At.s))) | ((with_reducible apply i_sl)) | ((with_reducible apply i_oN)) | ((with_reducible apply i_oS)) | ((with_reducible apply i_setS); (repeat (first | exact At.z | apply At.s))) | ((with_reducible apply i_set); (rfl); (repeat (first | exact LSet.z | apply LSet.s)); (repeat (first | exact Put.z | apply Put.s))) | ((with_reducible apply i_iseq)) | ((with_reducible apply i_rng1)) | ((with_reducible apply i_range); (omega); (omega)) | ((with_reducible apply i_ienum)) | ((with_reducible apply i_for)) | ((with_reducible apply i_lc)) | ((with_reducible apply i_yes)) | ((with_reducible apply i_gcons)) | ((with_reducible apply i_gnil)) | ((with_reducible apply i_gtup); (rfl)) | ((with_reducible apply i_tupA)) | ((with_reducible apply i_retN)) | ((with_reducible apply i_brk)) | ((with_reducible apply i_cont)) | ((with_reducible apply i_mv); (repeat (first | exact At.z | apply At.s)); (repeat (first | exact Put.z | apply Put.s))) | ((with_reducible apply i_neP); (repeat (first | exact At.z | apply At.s)); (rfl); (first | exact eqD_oe (by first | assumption | rfl))) | ((with_reducible apply i_popP); (repeat (first | exact At.z | apply At.s)); (rfl); (rfl); (rfl); ((first | rfl | assumption)); (repeat (first | exact LSet.z | apply LSet.s)); (repeat (first | exact Put.z | apply Put.s)))))
      exact ⟨_, rfl⟩
  · rintro _ ⟨t9, rfl⟩
    exact q _
theorem pf_law : Pf F_law x_law [] (11 - 1) := pf_ex fun ns h R N ok _ => by
  unfold x_law
  simp only [List.map_cons, List.map_nil, List.cons_append, List.nil_append, List.append_nil, List.replicate_succ, List.replicate_zero, Nat.reduceSub]
  (repeat' (first | ((with_reducible apply fe_cup); (intro c hc)) | ((with_reducible apply i_seq)) | ((with_reducible apply i_ret)) | ((with_reducible apply i_next)) | ((with_reducible apply i_ifs)) | ((with_reducible apply i_T); (first | rfl | (with_reducible assumption) | exact not_t (by with_reducible assumption) | exact not_f (by with_reducible assumption))) | ((with_reducible apply i_F); (first | rfl | (with_reducible assumption) | exact not_t (by with_reducible assumption) | exact not_f (by with_reducible assumption))) | ((with_reducible apply i_name); (repeat (first | exact At.z | apply At.s)); ((first | rfl | assumption))) | ((with_reducible apply i_C)) | ((with_reducible apply i_bin)) | ((with_reducible apply i_tst)) | ((with_reducible apply i_tru)) | ((with_reducible apply i_fn)) | ((with_reducible apply i_bl)) | ((with_reducible apply i_cons)) | ((with_reducible apply i_nil)) | ((with_reducible apply i_cal)) | ((with_reducible apply i_un)) | ((with_reducible apply i_some); (first | ((with_reducible apply len_t)) | ((with_reducible apply len_l)) | ((with_reducible apply len_o)) | ((with_reducible apply len_f)) | ((with_reducible apply in_f); (rfl); (rfl)) | ((with_reducible apply in_t); (rfl); (rfl)) | ((with_reducible apply eqM); (first | (with_reducible exact eqD_ss) | (with_reducible exact eqD_ii) | (with_reducible exact eqD_bb) | ((with_reducible apply eqD_oe); (first | rfl | assumption)) | ((with_reducible apply eqD_le); (first | rfl | assumption)) | ((with_reducible apply eqD_te); (first | rfl | assumption)))) | ((with_reducible apply list1_seq); (rfl); (first | rfl | assumption)) | ((with_reducible apply tuple1_seq); (rfl); (first | rfl | assumption)) | ((with_reducible apply ix0); (first | rfl | assumption)) | ((with_reducible apply ix1); (first | rfl | assumption)) | ((with_reducible apply ix2); (first | rfl | assumption)) | ((with_reducible apply addLO); (simp only [List.length_cons, List.length_nil, List.length_append, List.length_map, sizeLine_eq]; omega); (repeat (first | (with_reducible assumption) | rfl | apply sh_app | apply sh_cons))) | ((with_reducible apply addL); (simp only [List.length_cons, List.length_nil, List.length_append, List.length_map, sizeLine_eq]; omega)) | ((with_reducible apply addOO); (simp only [List.length_cons, List.length_nil, List.length_append, List.length_map, sizeLine_eq]; omega); (repeat (first | (with_reducible assumption) | rfl | apply sh_app | apply sh_cons)); (repeat (first | (with_reducible assumption) | rfl | apply sh_app | apply sh_cons))) | ((with_reducible apply addOL); (simp only [List.length_cons, List.length_nil, List.length_append, List.length_map, sizeLine_eq]; omega); (repeat (first | (with_reducible assumption) | rfl | apply sh_app | apply sh_cons))) | ((with_reducible apply str_s)) | ((with_reducible apply str_i); (omega); (omega)) | ((with_reducible apply addM2); (repeat (first | (with_reducible assumption) | exact len_nil | exact len_rep | apply len_cut | apply len_app | apply len_cons)); (repeat (first | (with_reducible assumption) | exact len_nil | exact len_rep | apply len_cut | apply len_app | apply len_cons)); (simp only [sizeLine_eq]; omega)) | ((with_reducible apply sub_ii)) | ((with_reducible apply add_ii)) | ((with_reducible apply pow_20)) | ((with_reducible apply pow_30)) | ((with_reducible apply pow_40)) | (first | (with_reducible exact eqD_ss) | (with_reducible exact eqD_ii) | (with_reducible exact eqD_bb) | ((with_reducible apply eqD_oe); (first | rfl | assumption)) | ((with_reducible apply eqD_le); (first | rfl | assumption)) | ((with_reducible apply eqD_te); (first | rfl | assumption))) | ((with_reducible apply mul_t); (omega); (omega)) | ((with_reducible apply mod_ii); (first | (with_reducible assumption) | omega | decide)) | ((with_reducible apply div_b); (first | (with_reducible assumption) | omega | decide); (first | (with_reducible assumption) | omega | decide)) | ((with_reducible apply mul_b); (omega); (omega); (omega); (omega)) | (exact ix_tup rfl (by first | rfl | assumption)) | rfl)) | ((with_reducible apply i_asg)) | ((with_reducible apply i_gname); (repeat (first | exact Put.z | apply Put.s))) | ((with_reducible apply i_not)) | ((with_reducible apply i_and)) | ((with_reducible apply i_or)) | ((with_reducible apply i_andV)) | ((with_reducible apply i_orV)) | ((with_reducible apply i_notV)) | ((with_reducible apply i_xif)) | ((with_reducible apply i_chain)) | ((with_reducible apply i_ints)) | ((with_reducible apply i_int)) | ((with_reducible apply i_call0)) | ((with_reducible apply i_call1)) | ((with_reducible apply i_lend); (repeat (first | exact At.z | apply At.s)); (repeat (first | exact Put.z | apply Put.s))) | ((with_reducible apply i_out0)) | ((with_reducible apply i_out1); (repeat (first | exact Put.z | apply Put.s))) | ((with_reducible apply i_tup)) | ((with_reducible apply i_lst)) | ((with_reducible apply i_frz)) | ((with_reducible apply i_le); (simp only [List.length_cons, List.length_nil, List.length_append, List.length_map, sizeLine_eq]; omega)) | ((with_reducible apply i_lt); (simp only [List.length_cons, List.length_nil, List.length_append, List.length_map, sizeLine_eq]; omega)) | ((with_reducible apply i_sh); (repeat (first | (with_reducible assumption) | rfl | apply sh_app | apply sh_cons))) | ((with_reducible apply i_frzO); (repeat (first | (with_reducible assumption) | rfl | apply sh_app | apply sh_cons))) | ((with_reducible apply i_do)) | ((with_reducible apply i_par)) | ((with_reducible apply i_puts); (repeat (first | exact Puts.n | exact Put.z | apply Put.s | apply Puts.c))) | ((with_reducible apply i_ixS); (repeat (first | exact At.z | apply At.s))) | ((with_reducible apply i_at); (repeat (first | exact At.z | apply At.s))) | ((with_reducible apply i_atO); (repeat (first | exact At.z | apply At.s))) | ((with_reducible apply i_put); (repeat (first | exact Put.z | apply Put.s))) | ((with_reducible apply i_lenS); (repeat (first | exact At.z | apply At.s)); (rfl)) | ((with_reducible apply i_leq); (rfl)) | ((with_reducible apply i_eqS); (repeat (first | exact At.z | apply At.s))) | ((with_reducible apply i_neS); (repeat (first | exact At.z | apply At.s))) | ((with_reducible apply i_app); (repeat (first | exact At.z | apply At.s))) | ((with_reducible apply i_sl)) | ((with_reducible apply i_oN)) | ((with_reducible apply i_oS)) | ((with_reducible apply i_setS); (repeat (first | exact At.z | apply At.s))) | ((with_reducible apply i_set); (rfl); (repeat (first | exact LSet.z | apply LSet.s)); (repeat (first | exact Put.z | apply Put.s))) | ((with_reducible apply i_iseq)) | ((with_reducible apply i_rng1)) | ((with_reducible apply i_range); (omega); (omega)) | ((with_reducible apply i_ienum)) | ((with_reducible apply i_for)) | ((with_reducible apply i_lc)) | ((with_reducible apply i_yes)) | ((with_reducible apply i_gcons)) | ((with_reducible apply i_gnil)) | ((with_reducible apply i_gtup); (rfl)) | ((with_reducible apply i_tupA)) | ((with_reducible apply i_retN)) | ((with_reducible apply i_brk)) | ((with_reducible apply i_cont)) | ((with_reducible apply i_mv); (repeat (first | exact At.z | apply At.s)); (repeat (first | exact Put.z | apply Put.s))) | ((with_reducible apply i_neP); (repeat (first | exact At.z | apply At.s)); (rfl); (first | exact eqD_oe (by first | assumption | rfl))) | ((with_reducible apply i_popP); (repeat (first | exact At.z | apply At.s)); (rfl); (rfl); (rfl); ((first | rfl | assumption)); (repeat (first | exact LSet.z | apply LSet.s)); (repeat (first | exact Put.z | apply Put.s))) | ((with_reducible apply i_B) <;> intro hb)))
  refine ⟨fun k ρ => ∃ (c : D) (s2 s3 s4 s5 s6 s7 : Option D), Cup (2000 * k) c ∧ ρ = [some (.frl (ns.map D.int)), some c, s2, s3, s4, s5, s6, s7, none, none, none], ⟨c, _, _, _, _, _, _, hc, rfl⟩, ?_, ?_⟩
  · rintro k z _ hz ⟨c, s2, s3, s4, s5, s6, s7, hc, rfl⟩
    obtain ⟨hk, rfl⟩ := rngD_get hz
    have hk : k < 5 := hk
    (repeat' (first | ((with_reducible apply judge_loop); ((simp only [nices, nice, nices_app, strOk_of, Bool.and_true, Bool.and_self, List.cons_append, List.nil_append, hcut, hy, hr, *])); (intro t6 t7)) | ((with_reducible apply lc_bent); (assumption); (omega); (exact small_mono (by assumption) (by assumption)); (intro acc c hac hal hc; have has := nices_sh hac)) | ((with_reducible apply lc_near); (assumption); (omega); (assumption); (assumption); (assumption); (intro acc c hac hal hc; have has := nices_sh hac)) | ((with_reducible apply fe_sip); (assumption); (omega); ((first | (with_reducible assumption) | omega | (simp only [List.length_append, List.length_cons, List.length_nil]; omega))); ((first | (with_reducible assumption) | omega | (simp only [List.length_append, List.length_cons, List.length_nil]; omega))); (intro k c hk0 hk1 hc)) | ((with_reducible apply i_pickO); ((simp only [nices, nice, nices_app, strOk_of, Bool.and_true, Bool.and_self, List.cons_append, List.nil_append])); ((first | (with_reducible assumption) | omega)); ((first | (with_reducible assumption) | omega | (simp only [List.length_append, List.length_cons, List.length_nil]; omega))); (intro z hz hzn; have hzs := nice_sh hzn)) | ((with_reducible apply fe_text); (assumption); (omega); (intro rs c hrs0 hrs1 hrs2 hc; have hrsh := nices_sh (smalls_nices hrs2); have hy := smalls_nices hrs2; have hr := nices_rev hy; have hcut := (fun lo hi => nices_cut (lo := lo) (hi := hi) hy); have hpos : 0 < (rs.length : Int) := (by cases rs with | nil => exact absurd rfl hrs0 | cons => simp))) | ((with_reducible apply i_seq)) | ((with_reducible apply i_ret)) | ((with_reducible apply i_next)) | ((with_reducible apply i_ifs)) | ((with_reducible apply i_T); (first | rfl | (with_reducible assumption) | exact not_t (by with_reducible assumption) | exact not_f (by with_reducible assumption))) | ((with_reducible apply i_F); (first | rfl | (with_reducible assumption) | exact not_t (by with_reducible assumption) | exact not_f (by with_reducible assumption))) | ((with_reducible apply i_name); (repeat (first | exact At.z | apply At.s)); ((first | rfl | assumption))) | ((with_reducible apply i_C)) | ((with_reducible apply i_bin)) | ((with_reducible apply i_tst)) | ((with_reducible apply i_tru)) | ((with_reducible apply i_fn)) | ((with_reducible apply i_bl)) | ((with_reducible apply i_cons)) | ((with_reducible apply i_nil)) | ((with_reducible apply i_cal)) | ((with_reducible apply i_un)) | ((with_reducible apply i_some); (first | ((with_reducible apply len_t)) | ((with_reducible apply len_l)) | ((with_reducible apply len_o)) | ((with_reducible apply len_f)) | ((with_reducible apply in_f); (rfl); (rfl)) | ((with_reducible apply in_t); (rfl); (rfl)) | ((with_reducible apply eqM); (first | (with_reducible exact eqD_ss) | (with_reducible exact eqD_ii) | (with_reducible exact eqD_bb) | ((with_reducible apply eqD_oe); (first | rfl | assumption)) | ((with_reducible apply eqD_le); (first | rfl | assumption)) | ((with_reducible apply eqD_te); (first | rfl | assumption)))) | ((with_reducible apply list1_seq); (rfl); (first | rfl | assumption)) | ((with_reducible apply tuple1_seq); (rfl); (first | rfl | assumption)) | ((with_reducible apply ix0); (first | rfl | assumption)) | ((with_reducible apply ix1); (first | rfl | assumption)) | ((with_reducible apply ix2); (first | rfl | assumption)) | ((with_reducible apply addLO); (simp only [List.length_cons, List.length_nil, List.length_append, List.length_map, sizeLine_eq]; omega); (repeat (first | (with_reducible assumption) | rfl | apply sh_app | apply sh_cons))) | ((with_reducible apply addL); (simp only [List.length_cons, List.length_nil, List.length_append, List.length_map, sizeLine_eq]; omega)) | ((with_reducible apply addOO); (simp only [List.length_cons, List.length_nil, List.length_append, List.length_map, sizeLine_eq]; omega); (repeat (first | (with_reducible assumption) | rfl | apply sh_app | apply sh_cons)); (repeat (first | (with_reducible assumption) | rfl | apply sh_app | apply sh_cons))) | ((with_reducible apply addOL); (simp only [List.length_cons, List.length_nil, List.length_append, List.length_map, sizeLine_eq]; omega); (repeat (first | (with_reducible assumption) | rfl | apply sh_app | apply sh_cons))) | ((with_reducible apply str_s)) | ((with_reducible apply str_i); (omega); (omega)) | ((with_reducible apply addM2); (repeat (first | (with_reducible assumption) | exact len_nil | exact len_rep | apply len_cut | apply len_app | apply len_cons)); (repeat (first | (with_reducible assumption) | exact len_nil | exact len_rep | apply len_cut | apply len_app | apply len_cons)); (simp only [sizeLine_eq]; omega)) | ((with_reducible apply sub_ii)) | ((with_reducible apply add_ii)) | ((with_reducible apply pow_20)) | ((with_reducible apply pow_30)) | ((with_reducible apply pow_40)) | (first | (with_reducible exact eqD_ss) | (with_reducible exact eqD_ii) | (with_reducible exact eqD_bb) | ((with_reducible apply eqD_oe); (first | rfl | assumption)) | ((with_reducible apply eqD_le); (first | rfl | assumption)) | ((with_reducible apply eqD_te); (first | rfl | assumption))) | ((with_reducible apply mul_t); (omega); (omega)) | ((with_reducible apply mod_ii); (first | (with_reducible assumption) | omega | decide)) | ((with_reducible apply div_b); (first | (with_reducible assumption) | omega | decide); (first | (with_reducible assumption) | omega | decide)) | ((with_reducible apply mul_b); (omega); (omega); (omega); (omega)) | (exact ix_tup rfl (by first | rfl | assumption)) | rfl)) | ((with_reducible apply i_asg)) | ((with_reducible apply i_gname); (repeat (first | exact Put.z | apply Put.s))) | ((with_reducible apply i_not)) | ((with_reducible apply i_and)) | ((with_reducible apply i_or)) | ((with_reducible apply i_andV)) | ((with_reducible apply i_orV)) | ((with_reducible apply i_notV)) | ((with_reducible apply i_xif)) | ((with_reducible apply i_chain)) | ((with_reducible apply i_ints)) | ((with_reducible apply i_int)) | ((with_reducible apply i_call0)) | ((with_reducible apply i_call1)) | ((with_reducible apply i_lend); (repeat (first | exact At.z | apply At.s)); (repeat (first | exact Put.z | apply Put.s))) | ((with_reducible apply i_out0)) | ((with_reducible apply i_out1); (repeat (first | exact Put.z | apply Put.s))) | ((with_reducible apply i_tup)) | ((with_reducible apply i_lst)) | ((with_reducible apply i_frz)) | ((with_reducible apply i_le); (simp only [List.length_cons, List.length_nil, List.length_append, List.length_map, sizeLine_eq]; omega)) | ((with_reducible apply i_lt); (simp only [List.length_cons, List.length_nil, List.length_append, List.length_map, sizeLine_eq]; omega)) | ((with_reducible apply i_sh); (repeat (first | (with_reducible assumption) | rfl | apply sh_app | apply sh_cons))) | ((with_reducible apply i_frzO); (repeat (first | (with_reducible assumption) | rfl | apply sh_app | apply sh_cons))) | ((with_reducible apply i_do)) | ((with_reducible apply i_par)) | ((with_reducible apply i_puts); (repeat (first | exact Puts.n | exact Put.z | apply Put.s | apply Puts.c))) | ((with_reducible apply i_ixS); (repeat (first | exact At.z | apply At.s))) | ((with_reducible apply i_at); (repeat (first | exact At.z | apply At.s))) | ((with_reducible apply i_atO); (repeat (first | exact At.z | apply At.s))) | ((with_reducible apply i_put); (repeat (first | exact Put.z | apply Put.s))) | ((with_reducible apply i_lenS); (repeat (first | exact At.z | apply At.s)); (rfl)) | ((with_reducible apply i_leq); (rfl)) | ((with_reducible apply i_eqS); (repeat (first | exact At.z | apply At.s))) | ((with_reducible apply i_neS); (repeat (first | exact At.z | apply At.s))) | ((with_reducible apply i_app); (repeat (first | exact At.z | apply At.s))) | ((with_reducible apply i_sl)) | ((with_reducible apply i_oN)) | ((with_reducible apply i_oS)) | ((with_reducible apply i_setS); (repeat (first | exact At.z | apply At.s))) | ((with_reducible apply i_set); (rfl); (repeat (first | exact LSet.z | apply LSet.s)); (repeat (first | exact Put.z | apply Put.s))) | ((with_reducible apply i_iseq)) | ((with_reducible apply i_rng1)) | ((with_reducible apply i_range); (omega); (omega)) | ((with_reducible apply i_ienum)) | ((with_reducible apply i_for)) | ((with_reducible apply i_lc)) | ((with_reducible apply i_yes)) | ((with_reducible apply i_gcons)) | ((with_reducible apply i_gnil)) | ((with_reducible apply i_gtup); (rfl)) | ((with_reducible apply i_tupA)) | ((with_reducible apply i_retN)) | ((with_reducible apply i_brk)) | ((with_reducible apply i_cont)) | ((with_reducible apply i_mv); (repeat (first | exact At.z | apply At.s)); (repeat (first | exact Put.z | apply Put.s))) | ((with_reducible apply i_neP); (repeat (first | exact At.z | apply At.s)); (rfl); (first | exact eqD_oe (by first | assumption | rfl))) | ((with_reducible apply i_popP); (repeat (first | exact At.z | apply At.s)); (rfl); (rfl); (rfl); ((first | rfl | assumption)); (repeat (first | exact LSet.z | apply LSet.s)); (repeat (first | exact Put.z | apply Put.s))) | ((with_reducible apply i_B) <;> intro hb)))
    exact ⟨c, _, _, _, _, _, _, Cup.le hc (by omega), rfl⟩
  · rintro _ ⟨c, s2, s3, s4, s5, s6, s7, hc, rfl⟩
    rw [rngD_length] at hc
    replace hc : Cup 10000 c := hc
    (repeat' (first | ((with_reducible apply fe_sip); (assumption); (omega); ((first | (with_reducible assumption) | omega | (simp only [List.length_append, List.length_cons, List.length_nil]; omega))); ((first | (with_reducible assumption) | omega | (simp only [List.length_append, List.length_cons, List.length_nil]; omega))); (intro k c hk0 hk1 hc)) | ((with_reducible apply i_pickO); ((simp only [nices, nice, nices_app, strOk_of, Bool.and_true, Bool.and_self, List.cons_append, List.nil_append])); ((first | (with_reducible assumption) | omega)); ((first | (with_reducible assumption) | omega | (simp only [List.length_append, List.length_cons, List.length_nil]; omega))); (intro z hz hzn; have hzs := nice_sh hzn)) | ((with_reducible apply last_loop); (exact four_ok hz); (assumption); (intro t9)) | ((with_reducible apply i_seq)) | ((with_reducible apply i_ret)) | ((with_reducible apply i_next)) | ((with_reducible apply i_ifs)) | ((with_reducible apply i_T); (first | rfl | (with_reducible assumption) | exact not_t (by with_reducible assumption) | exact not_f (by with_reducible assumption))) | ((with_reducible apply i_F); (first | rfl | (with_reducible assumption) | exact not_t (by with_reducible assumption) | exact not_f (by with_reducible assumption))) | ((with_reducible apply i_name); (repeat (first | exact At.z | apply At.s)); ((first | rfl | assumption))) | ((with_reducible apply i_C)) | ((with_reducible apply i_bin)) | ((with_reducible apply i_tst)) | ((with_reducible apply i_tru)) | ((with_reducible apply i_fn)) | ((with_reducible apply i_bl)) | ((with_reducible apply i_cons)) | ((with_reducible apply i_nil)) | ((with_reducible apply i_cal)) | ((with_reducible apply i_un)) | ((with_reducible apply i_some); (first | ((with_reducible apply len_t)) | ((with_reducible apply len_l)) | ((with_reducible apply len_o)) | ((with_reducible apply len_f)) | ((with_reducible apply in_f); (rfl); (rfl)) | ((with_reducible apply in_t); (rfl); (rfl)) | ((with_reducible apply eqM); (first | (with_reducible exact eqD_ss) | (with_reducible exact eqD_ii) | (with_reducible exact eqD_bb) | ((with_reducible apply eqD_oe); (first | rfl | assumption)) | ((with_reducible apply eqD_le); (first | rfl | assumption)) | ((with_reducible apply eqD_te); (first | rfl | assumption)))) | ((with_reducible apply list1_seq); (rfl); (first | rfl | assumption)) | ((with_reducible apply tuple1_seq); (rfl); (first | rfl | assumption)) | ((with_reducible apply ix0); (first | rfl | assumption)) | ((with_reducible apply ix1); (first | rfl | assumption)) | ((with_reducible apply ix2); (first | rfl | assumption)) | ((with_reducible apply addLO); (simp only [List.length_cons, List.length_nil, List.length_append, List.length_map, sizeLine_eq]; omega); (repeat (first | (with_reducible assumption) | rfl | apply sh_app | apply sh_cons))) | ((with_reducible apply addL); (simp only [List.length_cons, List.length_nil, List.length_append, List.length_map, sizeLine_eq]; omega)) | ((with_reducible apply addOO); (simp only [List.length_cons, List.length_nil, List.length_append, List.length_map, sizeLine_eq]; omega); (repeat (first | (with_reducible assumption) | rfl | apply sh_app | apply sh_cons)); (repeat (first | (with_reducible assumption) | rfl | apply sh_app | apply sh_cons))) | ((with_reducible apply addOL); (simp only [List.length_cons, List.length_nil, List.length_append, List.length_map, sizeLine_eq]; omega); (repeat (first | (with_reducible assumption) | rfl | apply sh_app | apply sh_cons))) | ((with_reducible apply str_s)) | ((with_reducible apply str_i); (omega); (omega)) | ((with_reducible apply addM2); (repeat (first | (with_reducible assumption) | exact len_nil | exact len_rep | apply len_cut | apply len_app | apply len_cons)); (repeat (first | (with_reducible assumption) | exact len_nil | exact len_rep | apply len_cut | apply len_app | apply len_cons)); (simp only [sizeLine_eq]; omega)) | ((with_reducible apply sub_ii)) | ((with_reducible apply add_ii)) | ((with_reducible apply pow_20)) | ((with_reducible apply pow_30)) | ((with_reducible apply pow_40)) | (first | (with_reducible exact eqD_ss) | (with_reducible exact eqD_ii) | (with_reducible exact eqD_bb) | ((with_reducible apply eqD_oe); (first | rfl | assumption)) | ((with_reducible apply eqD_le); (first | rfl | assumption)) | ((with_reducible apply eqD_te); (first | rfl | assumption))) | ((with_reducible apply mul_t); (omega); (omega)) | ((with_reducible apply mod_ii); (first | (with_reducible assumption) | omega | decide)) | ((with_reducible apply div_b); (first | (with_reducible assumption) | omega | decide); (first | (with_reducible assumption) | omega | decide)) | ((with_reducible apply mul_b); (omega); (omega); (omega); (omega)) | (exact ix_tup rfl (by first | rfl | assumption)) | rfl)) | ((with_reducible apply i_asg)) | ((with_reducible apply i_gname); (repeat (first | exact Put.z | apply Put.s))) | ((with_reducible apply i_not)) | ((with_reducible apply i_and)) | ((with_reducible apply i_or)) | ((with_reducible apply i_andV)) | ((with_reducible apply i_orV)) | ((with_reducible apply i_notV)) | ((with_reducible apply i_xif)) | ((with_reducible apply i_chain)) | ((with_reducible apply i_ints)) | ((with_reducible apply i_int)) | ((with_reducible apply i_call0)) | ((with_reducible apply i_call1)) | ((with_reducible apply i_lend); (repeat (first | exact At.z | apply At.s)); (repeat (first | exact Put.z | apply Put.s))) | ((with_reducible apply i_out0)) | ((with_reducible apply i_out1); (repeat (first | exact Put.z | apply Put.s))) | ((with_reducible apply i_tup)) | ((with_reducible apply i_lst)) | ((with_reducible apply i_frz)) | ((with_reducible apply i_le); (simp only [List.length_cons, List.length_nil, List.length_append, List.length_map, sizeLine_eq]; omega)) | ((with_reducible apply i_lt); (simp only [List.length_cons, List.length_nil, List.length_append, List.length_map, sizeLine_eq]; omega)) | ((with_reducible apply i_sh); (repeat (first | (with_reducible assumption) | rfl | apply sh_app | apply sh_cons))) | ((with_reducible apply i_frzO); (repeat (first | (with_reducible assumption) | rfl | apply sh_app | apply sh_cons))) | ((with_reducible apply i_do)) | ((with_reducible apply i_par)) | ((with_reducible apply i_puts); (repeat (first | exact Puts.n | exact Put.z | apply Put.s | apply Puts.c))) | ((with_reducible apply i_ixS); (repeat (first | exact At.z | apply At.s))) | ((with_reducible apply i_at); (repeat (first | exact At.z | apply At.s))) | ((with_reducible apply i_atO); (repeat (first | exact At.z | apply At.s))) | ((with_reducible apply i_put); (repeat (first | exact Put.z | apply Put.s))) | ((with_reducible apply i_lenS); (repeat (first | exact At.z | apply At.s)); (rfl)) | ((with_reducible apply i_leq); (rfl)) | ((with_reducible apply i_eqS); (repeat (first | exact At.z | apply At.s))) | ((with_reducible apply i_neS); (repeat (first | exact At.z | apply At.s))) | ((with_reducible apply i_app); (repeat (first | exact At.z | apply At.s))) | ((with_reducible apply i_sl)) | ((with_reducible apply i_oN)) | ((with_reducible apply i_oS)) | ((with_reducible apply i_setS); (repeat (first | exact At.z | apply At.s))) | ((with_reducible apply i_set); (rfl); (repeat (first | exact LSet.z | apply LSet.s)); (repeat (first | exact Put.z | apply Put.s))) | ((with_reducible apply i_iseq)) | ((with_reducible apply i_rng1)) | ((with_reducible apply i_range); (omega); (omega)) | ((with_reducible apply i_ienum)) | ((with_reducible apply i_for)) | ((with_reducible apply i_lc)) | ((with_reducible apply i_yes)) | ((with_reducible apply i_gcons)) | ((with_reducible apply i_gnil)) | ((with_reducible apply i_gtup); (rfl)) | ((with_reducible apply i_tupA)) | ((with_reducible apply i_retN)) | ((with_reducible apply i_brk)) | ((with_reducible apply i_cont)) | ((with_reducible apply i_mv); (repeat (first | exact At.z | apply At.s)); (repeat (first | exact Put.z | apply Put.s))) | ((with_reducible apply i_neP); (repeat (first | exact At.z | apply At.s)); (rfl); (first | exact eqD_oe (by first | assumption | rfl))) | ((with_reducible apply i_popP); (repeat (first | exact At.z | apply At.s)); (rfl); (rfl); (rfl); ((first | rfl | assumption)); (repeat (first | exact LSet.z | apply LSet.s)); (repeat (first | exact Put.z | apply Put.s))) | ((with_reducible apply i_B) <;> intro hb)))
    all_goals exact ok _ _ [] rfl ⟨rfl, rfl⟩
end K34

namespace K34
open PySem PySem.Spec PyProof.Rows L2 BV
def dD (x : Str) (i : Nat) : He.DefD := ⟨(x, none), x, x, defArgs (top i), defBody (top i), defScope (top i), [], []⟩
def fn : List He.DefD := [dD "is_int" 1, dD "within" 2, dD "is_row" 3, dD "is_letter" 7, dD "is_rule" 8, dD "is_straight" 9, dD "_law_cup" 11, dD "_law_sip" 12, dD "_law_same" 13, dD "_law_is_whole" 14, dD "_law_bent" 15, dD "_law_text" 16, dD "_law_is_straight" 17, dD "_law_near_one" 18, dD "law" 19]
def fa : List He.Fa := [.glo "is_int", .glo "within", .glo "is_row", .glo "is_letter", .glo "is_rule", .glo "is_straight", .glo "_law_cup", .glo "_law_sip", .glo "_law_same", .glo "_law_is_whole", .glo "_law_bent", .glo "_law_text", .glo "_law_is_straight", .glo "_law_near_one", .glo "law", .int "MOST_RULES" 4000, .int "MOST_LETTER" 20, .free "len", .free "isinstance", .free "int", .free "bool", .free "tuple", .free "str", .free "list", .free "all", .free "enumerate", .free "abs", .free "max", .free "range"]
abbrev R : PySem.W.OpenRow := PySem.W.OpenLaw.row PySem.Challenge.rw_undoneall_k34_straight_texts_judged
abbrev hk : PySem.W.Hook := He.hookD 5 fa fn
def ob (s : PySem.W.SharedT) : He.AlD := He.obsDG 5 fa fn (HandSHeadRun.getT s)
theorem ob_eq (s : PySem.W.SharedT) : ob s = hk.obs s.abs := He.obsDG_eq (HandSHeadRun.getT_eq s)
def loose : List Str := ["is_int", "within", "is_row", "MOST_RULES", "MOST_LETTER", "is_letter", "is_rule", "is_straight", "_law_cup", "_law_sip", "_law_same", "_law_is_whole", "_law_bent", "_law_text", "_law_is_straight", "_law_near_one"]
theorem run (w : World) : HandSHeadRun.RunEq R (PySem.W.view R.prog [19]) hk ob 1000 loose w := by
  intro os
  kernel_rfl
theorem ints_rp {K : PySem.W.Frag} {N : AS} {H : Hp} : ∀ (ns : List Int), Rps K N H (ns.map D.int) (ns.map V.int) AS0
  | [] => rfl
  | n :: ns => ⟨.int n, ns.map V.int, AS0, AS0, rfl, rfl, ints_rp ns, fun x z => z, fun x z => z, fun x z _ => z⟩
theorem F_law_at {K : PySem.W.Frag} {H : Hp} {a : Addr} {ns : List Int} (hS : SqL K H a (ns.map V.int)) : spOf K 1 [] F_law [.ref a] H (fun v _ => v = .bl true) fun _ _ _ => False := by
  refine ⟨rfl, AS0, AS0, [.frl (ns.map D.int)], ?_, fun x z => z, fun x z => z.elim, ns, rfl, True.intro, ?_⟩
  · exact ⟨.ref a, [], AS0, AS0, rfl, ⟨a, ns.map V.int, rfl, (show SqN K AS0 H a (ns.map V.int) from hS.elim (fun h => .inl ⟨h, fun z => z⟩) fun h => .inr h), ints_rp ns⟩, rfl, fun x z => z, fun x z => z, fun x z _ => z⟩
  · rintro d o ⟨rfl, rfl⟩ v N' H' ⟨A1, A2, r, _⟩ _ _ _ _ _
    exact r
theorem facts {P : Program} {w : World} {K : PySem.W.Frag} {h : Heap} {mg : Str → Option Value} {f : Addr} (X : K.In h) (G : h.Ns mainGlobals mg) (hfa : mg ("law" : Str) = some (.ref f)) (c : He.SaysD fa fn K) :
    ∃ fd : FuncData, (∀ (s : Shared) (v : Value), BindsTo s fd ⟨[v], []⟩ [("script", v)]) ∧ ∀ base : Heap, K.In base → base.Ns mainGlobals mg → FnOk P w K mg base CX0 20 f fd ["script"] (spOf K 1 [] F_law) := by
  obtain ⟨d0, F0⟩ := c.def_ 0 (d := dD "is_int" 1) rfl
  obtain ⟨d1, F1⟩ := c.def_ 1 (d := dD "within" 2) rfl
  obtain ⟨d2, F2⟩ := c.def_ 2 (d := dD "is_row" 3) rfl
  obtain ⟨d3, F3⟩ := c.def_ 3 (d := dD "is_letter" 7) rfl
  obtain ⟨d4, F4⟩ := c.def_ 4 (d := dD "is_rule" 8) rfl
  obtain ⟨d5, F5⟩ := c.def_ 5 (d := dD "is_straight" 9) rfl
  obtain ⟨d6, F6⟩ := c.def_ 6 (d := dD "_law_cup" 11) rfl
  obtain ⟨d7, F7⟩ := c.def_ 7 (d := dD "_law_sip" 12) rfl
  obtain ⟨d8, F8⟩ := c.def_ 8 (d := dD "_law_same" 13) rfl
  obtain ⟨d9, F9⟩ := c.def_ 9 (d := dD "_law_is_whole" 14) rfl
  obtain ⟨d10, F10⟩ := c.def_ 10 (d := dD "_law_bent" 15) rfl
  obtain ⟨d11, F11⟩ := c.def_ 11 (d := dD "_law_text" 16) rfl
  obtain ⟨d12, F12⟩ := c.def_ 12 (d := dD "_law_is_straight" 17) rfl
  obtain ⟨d13, F13⟩ := c.def_ 13 (d := dD "_law_near_one" 18) rfl
  obtain ⟨fd, F⟩ := c.def_ 14 (d := dD "law" 19) rfl
  have e := hfa.symm.trans (He.glo_ok X G (c.fact 14 (f := .glo "law") rfl))
  cases e
  have b := FunD.bindsA (ps := ["script"]) F fun _ _ _ _ _ _ us hl => match us, hl with | [_], _ => rfl
  have T : Tx K mg := ⟨He.free_ok X G (c.fact 26 (f := .free "abs") rfl), He.free_ok X G (c.fact 24 (f := .free "all") rfl), He.free_ok X G (c.fact 20 (f := .free "bool") rfl), He.free_ok X G (c.fact 25 (f := .free "enumerate") rfl), He.free_ok X G (c.fact 19 (f := .free "int") rfl), He.free_ok X G (c.fact 18 (f := .free "isinstance") rfl), He.free_ok X G (c.fact 17 (f := .free "len") rfl), He.free_ok X G (c.fact 23 (f := .free "list") rfl), He.free_ok X G (c.fact 27 (f := .free "max") rfl), He.free_ok X G (c.fact 28 (f := .free "range") rfl), He.free_ok X G (c.fact 22 (f := .free "str") rfl), He.free_ok X G (c.fact 21 (f := .free "tuple") rfl), He.int_ok X G (c.fact 16 (f := .int "MOST_LETTER" 20) rfl), He.int_ok X G (c.fact 15 (f := .int "MOST_RULES" 4000) rfl)⟩
  refine ⟨fd, fun s v => b s [v] rfl, fun base _ _ => ?_⟩
  have g0 := ok_is_int (P := P) (w := w) (base := base) T F0 (He.glo_ok X G (c.fact 0 (f := .glo "is_int") rfl)) pf_is_int
  have g1 := ok_within T F1 (He.glo_ok X G (c.fact 1 (f := .glo "within") rfl)) g0 pf_within
  have g2 := ok_is_row (P := P) (w := w) (base := base) T F2 (He.glo_ok X G (c.fact 2 (f := .glo "is_row") rfl)) pf_is_row
  have g3 := ok_is_letter T F3 (He.glo_ok X G (c.fact 3 (f := .glo "is_letter") rfl)) g1 pf_is_letter
  have g4 := ok_is_rule T F4 (He.glo_ok X G (c.fact 4 (f := .glo "is_rule") rfl)) g0 g3 g2 g1 pf_is_rule
  have g5 := ok_is_straight T F5 (He.glo_ok X G (c.fact 5 (f := .glo "is_straight") rfl)) g2 g4 pf_is_straight
  have g6 := ok__law_cup (P := P) (w := w) (base := base) T F6 (He.glo_ok X G (c.fact 6 (f := .glo "_law_cup") rfl)) pf_cup
  have g7 := ok__law_sip (P := P) (w := w) (base := base) T F7 (He.glo_ok X G (c.fact 7 (f := .glo "_law_sip") rfl)) pf_sip
  have g8 := ok__law_same (P := P) (w := w) (base := base) T F8 (He.glo_ok X G (c.fact 8 (f := .glo "_law_same") rfl)) pf_same
  have g9 := ok__law_is_whole (P := P) (w := w) (base := base) T F9 (He.glo_ok X G (c.fact 9 (f := .glo "_law_is_whole") rfl)) pf_is_whole
  have m10 := He.glo_ok X G (c.fact 10 (f := .glo "_law_bent") rfl)
  have g10a : OkF P w K mg base 1 "_law_bent" ["cup", "thing"] 2 [0] (F_bentJ 0) := okf_false (st := s__law_bent) F10 m10 (fun _ _ _ _ _ _ us hl => match us, hl with | [_, _], _ => rfl) (fun _ _ _ _ _ _ us hl => match us, hl with | [_, _], _ => rfl) fun ds Q h => by
    obtain ⟨x, _, ⟨_, _, h⟩, _⟩ := h
    simp [small] at h
  have g10b := ok__law_bent (by decide) T F10 m10 g10a g7 (pf_bent 0)
  have g10c := ok__law_bent (by decide) T F10 m10 g10b g7 (pf_bent 1)
  have g10d := ok__law_bent (by decide) T F10 m10 g10c g7 (pf_bent 2)
  have g10 := g10d.mono (show _ ≤ 10 by decide)
  have g11 := ok__law_text T F11 (He.glo_ok X G (c.fact 11 (f := .glo "_law_text") rfl)) g7 pf_text
  have g12 := ok__law_is_straight T F12 (He.glo_ok X G (c.fact 12 (f := .glo "_law_is_straight") rfl)) g9 pf_judge
  have g13 := ok__law_near_one T F13 (He.glo_ok X G (c.fact 13 (f := .glo "_law_near_one") rfl)) g7 pf_near
  exact ok_law T F (He.glo_ok X G (c.fact 14 (f := .glo "law") rfl)) g10 g6 g12 g13 g8 g7 g11 g5 pf_law
end K34
open PySem PySem.W PySem.Calls PyProof.Rows
theorem PySem.Challenge.cw_undoneall_k34_straight_texts_judged_holds : PySem.Challenge.rw_undoneall_k34_straight_texts_judged.Holds := by
  w_on; o_law
  refine HandSHeadRun.head_any (r := OpenLaw.row PySem.Challenge.rw_undoneall_k34_straight_texts_judged) (q := view (OpenLaw.row PySem.Challenge.rw_undoneall_k34_straight_texts_judged).prog [19]) (H := K34.hk) (ob := K34.ob) (M := 1000) (loose := K34.loose) (d := HandSHeadRun.topDef (OpenLaw.row PySem.Challenge.rw_undoneall_k34_straight_texts_judged).prog 19) (kwd := []) K34.ob_eq
    (by kernel_rfl) (fun s => by kernel_rfl) K34.run (by kernel_rfl) (by kernel_rfl) (by kernel_rfl) (by rfl) (by first | assumption | decide +kernel) (by decide +kernel) ⟨rfl, rfl, rfl, rfl, rfl, by decide +kernel⟩ ?hw ?hc
  case hw => w_witness2
  case hc =>
    refine L2.walk_ofE (l := PySem.Challenge.rw_undoneall_k34_straight_texts_judged) (n := 63) (k := 20) (x := "script") (CX := L2.CX0) rfl (by decide) (by kernel_rfl) ⟨rfl, by decide, by decide⟩ ?F (fun _ _ _ _ z => z)
    intro w mg fa h Y G hmg0
    obtain ⟨K, KX, c⟩ := Y
    have hmg : mg ("law" : PySem.Str) = some (.ref fa) := by
      have e : (HandSHeadRun.topDef (OpenLaw.row PySem.Challenge.rw_undoneall_k34_straight_texts_judged).prog 19).name = ("law" : PySem.Str) := by kernel_rfl
      rw [← e]
      exact hmg0
    obtain ⟨fd, hb, hF⟩ := K34.facts (P := (PySem.Challenge.rw_undoneall_k34_straight_texts_judged).prog) (w := w) KX G hmg c
    exact ⟨K, fd, _, KX, hb, fun H a ns hl _ hS => K34.F_law_at hS, hF⟩
